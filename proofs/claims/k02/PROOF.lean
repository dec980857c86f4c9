import PyProof.Rows.All
import Wide.All
import OpenK.AllK
import Wide.FinOn
import HandS.ForMost
import HandS.Exc
import HandS.ExcOwn
import HandS.WordsExc
import HandS.Defaults
import HandS.Flow
import HandS.Style
import HandS.TupAny
import HandS.Gcd
import HandS.Wide
import HandS.IsInst
import HandS.RaiseMore
import HandS.FStr
import HandS.Deep
import HandS.ExcIs
import HandS.Zip
import KE.KExcSuper
import KE.KSuper
import HandS.ExcInit
import HandS.ExcField
import KE.KStateDown
import HandS.More
import HandS.Words
import HandS.Head0
import HandS.Head1
import HandS.Head2
import HandS.Head3
import HandS.HeadEnd
import HandS.HeadHook1
import HandS.HeadHook2
import PySem.Challenge.RW_firmstops_k02_whole_couples_reckoned
set_option Elab.async false
set_option linter.all false
set_option maxRecDepth 100000
set_option maxHeartbeats 0
namespace Dl
open PySem PySem.Spec PyProof.Rows L2

/-! ## data -/
inductive D where
  | non
  | bl (b : Bool)
  | int (i : Int)
  | str (x : Str)
  | tup (ds : List D)
  | lst (ds : List D)
  | loc (n : Nat)
  | obj (c : Nat) (ds : List D)
  | scr (ns : List Int)
  | cls (c : Nat)
  | typ (n : String)

structure Exn where
  c : Nat
  fs : List D

inductive Cell where
  | lst (ds : List D)
  | ins (c : Nat) (fs : List (Option D))

abbrev Store := List Cell

inductive Slot where
  | no
  | val (d : D)
  | exn (e : Exn)

abbrev DEnv := List Slot

inductive RE (α : Type) where
  | ok (a : α) (st : Store)
  | exc (e : Exn) (st : Store)
  | stuck

inductive RS where
  | nx (r : DEnv) (st : Store)
  | rt (d : D) (st : Store)
  | bk (r : DEnv) (st : Store)
  | ct (r : DEnv) (st : Store)
  | ex (e : Exn) (r : DEnv) (st : Store)
  | stuck

abbrev DFun := List D → Store → RE D
abbrev DEx := DEnv → Store → RE D
abbrev DTs := DEnv → Store → RE Bool
abbrev DAs := DEnv → Store → RE (List D)
abbrev DSt := DEnv → Store → RS

@[simp] def RE.bind {α β : Type} (r : RE α) (k : α → Store → RE β) : RE β := match r with
  | .ok a st => k a st
  | .exc e st => .exc e st
  | .stuck => .stuck

/-! ## the abstract heap that bears it -/
/-- what the program's classes are: their addresses, their fields in order -/
structure Gx where
  K : PySem.W.Frag
  ca : Nat → Addr
  fl : Nat → List Str

abbrev Mu := List (Option Addr)

def FsOk (G : Gx) (c : Nat) (fs : List (Str × V)) : Prop := (fs.map (·.1)).Nodup ∧ ∀ n v, List.lookup n fs = some v → n ∈ G.fl c

inductive Flds : List Str → List (Str × V) → List V → Prop
  | nil {fs} : Flds [] fs []
  | cons {n ns fs v vs} : List.lookup n fs = some v → Flds ns fs vs → Flds (n :: ns) fs (v :: vs)

/-- the script: known to its object, never written -/
def ScrAt (K : PySem.W.Frag) (H : Hp) (a : Addr) (ns : List Int) : Prop := (∃ o, H a = some (.frz o (.lst (ns.map V.int)))) ∨ ∀ H1 : Hp, SqL K H1 a (ns.map V.int)

mutual
inductive Rep (G : Gx) (Z : List Addr) (m : Mu) (H : Hp) : V → D → Prop
  | non : Rep G Z m H .non .non
  | bl {b} : Rep G Z m H (.bl b) (.bl b)
  | int {i} : Rep G Z m H (.int i) (.int i)
  | str {x} : Rep G Z m H (.str x) (.str x)
  | tup {a xs ds} : SqT G.K H a xs → Reps G Z m H xs ds → Rep G Z m H (.ref a) (.tup ds)
  | lst {a xs ds} : H a = some (.lst xs) → some a ∉ m → a ∉ Z → Reps G Z m H xs ds → Rep G Z m H (.ref a) (.lst ds)
  | loc {n a} : m[n]? = some (some a) → Rep G Z m H (.ref a) (.loc n)
  | obj {a c dx fs vs ds} : H a = some (.ins (G.ca c) dx fs) → H dx = some (.own a) → some a ∉ m → Flds (G.fl c) fs vs → FsOk G c fs → Reps G Z m H vs ds → Rep G Z m H (.ref a) (.obj c ds)
  | scr {a ns} : ScrAt G.K H a ns → Rep G Z m H (.ref a) (.scr ns)
  | cls {c} : Rep G Z m H (.ref (G.ca c)) (.cls c)
  | typ {n} : Rep G Z m H (.ty n) (.typ n)
inductive Reps (G : Gx) (Z : List Addr) (m : Mu) (H : Hp) : List V → List D → Prop
  | nil : Reps G Z m H [] []
  | cons {v d vs ds} : Rep G Z m H v d → Reps G Z m H vs ds → Reps G Z m H (v :: vs) (d :: ds)
end

/-- a field that is being made -/
def FldO (G : Gx) (Z : List Addr) (m : Mu) (H : Hp) (fs : List (Str × V)) (n : Str) : Option D → Prop
  | none => List.lookup n fs = none
  | some d => ∃ v, List.lookup n fs = some v ∧ Rep G Z m H v d

def CellRep (G : Gx) (Z : List Addr) (m : Mu) (H : Hp) (a : Addr) : Cell → Prop
  | .lst ds => ∃ xs, H a = some (.lst xs) ∧ Reps G Z m H xs ds
  | .ins c os => ∃ dx fs, H a = some (.ins (G.ca c) dx fs) ∧ H dx = some (.own a) ∧ FsOk G c fs ∧ os.length = (G.fl c).length ∧
      ∀ (i : Nat) (n : Str) (o : Option D), (G.fl c)[i]? = some n → os[i]? = some o → FldO G Z m H fs n o

structure RepSt (G : Gx) (Z : List Addr) (m : Mu) (H : Hp) (st : Store) : Prop where
  len : m.length = st.length
  inj : ∀ (i j : Nat) (a : Addr), m[i]? = some (some a) → m[j]? = some (some a) → i = j
  cell : ∀ (i : Nat) (a : Addr), m[i]? = some (some a) → ∃ c, st[i]? = some c ∧ CellRep G Z m H a c
  zs : ∀ z ∈ Z, ∃ xs, H z = some (.lst xs) ∧ some z ∉ m

structure RepX (G : Gx) (Z : List Addr) (m : Mu) (H : Hp) (cls : Value) (d : Option Addr) (e : Exn) : Prop where
  cls : cls = .ref (G.ca e.c)
  fld : (e.fs = [] ∧ G.fl e.c = [] ∧ d = none) ∨ e.fs ≠ [] ∧ ∃ dd fs vs, d = some dd ∧ H dd = some (.xd fs) ∧ Flds (G.fl e.c) fs vs ∧ Reps G Z m H vs e.fs

/-- what an except suite holds: the exception's address, its class, its dict -/
abbrev Cur := Option (Addr × Value × Option Addr)

def RepSl (G : Gx) (cur : Cur) (Z : List Addr) (m : Mu) (H : Hp) : Option V → Slot → Prop
  | _, .no => True
  | o, .val d => ∃ v, o = some v ∧ Rep G Z m H v d
  | o, .exn e => ∃ a c d, cur = some (a, c, d) ∧ o = some (.ref a) ∧ RepX G Z m H c d e

structure RepEnv (G : Gx) (cur : Cur) (Z : List Addr) (m : Mu) (H : Hp) (s : L2.St) (r : DEnv) : Prop where
  len : s.length = r.length
  at_ : ∀ (i : Nat) (sl : Slot), r[i]? = some sl → ∃ o, s[i]? = some o ∧ RepSl G cur Z m H o sl

/-- the heap has gone on: what stood and is no cell stands -/
structure Grow (m : Mu) (H : Hp) (m' : Mu) (H' : Hp) : Prop where
  pre : ∃ n, m' = m ++ n
  keep : ∀ b o, H b = some o → some b ∉ m → H' b = some o ∧ some b ∉ m'

theorem Grow.refl {m H} : Grow m H m H := ⟨⟨[], by simp⟩, fun _ _ h n => ⟨h, n⟩⟩
theorem Grow.trans {m H m1 H1 m2 H2} (a : Grow m H m1 H1) (b : Grow m1 H1 m2 H2) : Grow m H m2 H2 := by
  obtain ⟨n, e⟩ := a.pre
  obtain ⟨n', e'⟩ := b.pre
  exact ⟨⟨n ++ n', by rw [e', e, List.append_assoc]⟩, fun c o h k => let ⟨h1, k1⟩ := a.keep c o h k; b.keep c o h1 k1⟩
theorem Grow.get {m H m' H'} (g : Grow m H m' H') {i : Nat} {o : Option Addr} (h : m[i]? = some o) : m'[i]? = some o := by
  obtain ⟨n, e⟩ := g.pre
  obtain ⟨hi, _⟩ := List.getElem?_eq_some_iff.mp h
  rw [e, List.getElem?_append_left hi, h]
/-- a new object beside what stands -/
theorem Grow.new {m : Mu} {H : Hp} {p : Addr} {o : HO} (hn : H p = none) : Grow m H m (upd H p o) :=
  ⟨⟨[], by simp⟩, fun b u h k => ⟨by rw [upd_ne (ne_of_none h hn)]; exact h, k⟩⟩

section
variable {G : Gx} {Z : List Addr} {m m' : Mu} {H H' : Hp}

theorem seqT_grow (g : Grow m H m' H') (hm : ∀ (i : Nat) (a : Addr), m[i]? = some (some a) → ∀ xs, H a ≠ some (.tup xs) ∧ ∀ o, H a ≠ some (.frz o (.tup xs))) {a xs} (h : SqT G.K H a xs) : SqT G.K H' a xs := by
  have nm : ∀ o, H a = some o → (∃ ys, o = .tup ys ∨ ∃ q, o = .frz q (.tup ys)) → some a ∉ m := fun o e z k => by
    obtain ⟨i, hi⟩ := List.mem_iff_getElem?.mp k
    obtain ⟨ys, z⟩ := z
    rcases z with z | ⟨q, z⟩
    · exact (hm i a hi ys).1 (by rw [e, z])
    · exact (hm i a hi ys).2 q (by rw [e, z])
  rcases h with (h | ⟨o, h⟩) | h
  · exact .inl (.inl (g.keep _ _ h (nm _ h ⟨xs, .inl rfl⟩)).1)
  · exact .inl (.inr ⟨o, (g.keep _ _ h (nm _ h ⟨xs, .inr ⟨o, rfl⟩⟩)).1⟩)
  · exact .inr h

/-- the cells are lists and instances -/
def MuOk (m : Mu) (H : Hp) : Prop := ∀ (i : Nat) (a : Addr), m[i]? = some (some a) → (∃ xs, H a = some (.lst xs)) ∨ ∃ C dx fs, H a = some (.ins C dx fs)
theorem RepSt.ok {st : Store} (r : RepSt G Z m H st) : MuOk m H := fun i a h => by
  obtain ⟨c, _, hc⟩ := r.cell i a h
  cases c with
  | lst ds => obtain ⟨xs, e, _⟩ := hc; exact .inl ⟨xs, e⟩
  | ins c os => obtain ⟨dx, fs, e, _⟩ := hc; exact .inr ⟨_, dx, fs, e⟩
theorem MuOk.tup (h : MuOk m H) : ∀ (i : Nat) (a : Addr), m[i]? = some (some a) → ∀ xs, H a ≠ some (.tup xs) ∧ ∀ o, H a ≠ some (.frz o (.tup xs)) := fun i a hi xs => by
  rcases h i a hi with ⟨ys, e⟩ | ⟨C, dx, fs, e⟩
  · exact ⟨by rw [e]; exact fun z => (by cases z), fun o => by rw [e]; exact fun z => (by cases z)⟩
  · exact ⟨by rw [e]; exact fun z => (by cases z), fun o => by rw [e]; exact fun z => (by cases z)⟩
theorem MuOk.no (h : MuOk m H) {b : Addr} {o : HO} (e : H b = some o) (h1 : ∀ xs, o ≠ .lst xs) (h2 : ∀ C dx fs, o ≠ .ins C dx fs) : some b ∉ m := fun k => by
  obtain ⟨i, hi⟩ := List.mem_iff_getElem?.mp k
  rcases h i b hi with ⟨ys, q⟩ | ⟨C, dx, fs, q⟩
  · rw [e] at q; exact h1 ys (Option.some.inj q)
  · rw [e] at q; exact h2 C dx fs (Option.some.inj q)

theorem scr_grow (ok : MuOk m H) (g : Grow m H m' H') {a ns} (h : ScrAt G.K H a ns) : ScrAt G.K H' a ns := by
  rcases h with ⟨o, h⟩ | h
  · exact .inl ⟨o, (g.keep _ _ h (ok.no h (fun _ z => by cases z) fun _ _ _ z => by cases z)).1⟩
  · exact .inr h
mutual
theorem Rep.grow (ok : MuOk m H) (g : Grow m H m' H') : ∀ {v d}, Rep G Z m H v d → Rep G Z m' H' v d
  | _, _, .non => .non
  | _, _, .bl => .bl
  | _, _, .int => .int
  | _, _, .str => .str
  | _, _, .tup h r => .tup (seqT_grow g ok.tup h) (Reps.grow ok g r)
  | _, _, .lst h n z r => .lst (g.keep _ _ h n).1 (g.keep _ _ h n).2 z (Reps.grow ok g r)
  | _, _, .loc h => .loc (g.get h)
  | _, _, .obj h o n f l r => .obj (g.keep _ _ h n).1 (g.keep _ _ o (ok.no o (fun _ z => by cases z) fun _ _ _ z => by cases z)).1 (g.keep _ _ h n).2 f l (Reps.grow ok g r)
  | _, _, .scr h => .scr (scr_grow ok g h)
  | _, _, .cls => .cls
  | _, _, .typ => .typ
theorem Reps.grow (ok : MuOk m H) (g : Grow m H m' H') : ∀ {vs ds}, Reps G Z m H vs ds → Reps G Z m' H' vs ds
  | _, _, .nil => .nil
  | _, _, .cons r t => .cons (Rep.grow ok g r) (Reps.grow ok g t)
end
theorem RepX.grow (ok : MuOk m H) (g : Grow m H m' H') {cls d e} (h : RepX G Z m H cls d e) : RepX G Z m' H' cls d e := by
  refine ⟨h.cls, ?_⟩
  rcases h.fld with h | ⟨h0, dd, fs, vs, h1, h2, h3, h4⟩
  · exact .inl h
  · exact .inr ⟨h0, dd, fs, vs, h1, (g.keep _ _ h2 (ok.no h2 (fun _ z => by cases z) fun _ _ _ z => by cases z)).1, h3, h4.grow ok g⟩
theorem RepSl.grow (ok : MuOk m H) (g : Grow m H m' H') {cur o sl} (h : RepSl G cur Z m H o sl) : RepSl G cur Z m' H' o sl := by
  cases sl with
  | no => cases o <;> trivial
  | val d => cases o <;> (obtain ⟨v, e, r⟩ := h; exact ⟨v, e, r.grow ok g⟩)
  | exn x => cases o <;> (obtain ⟨a, c, d, e1, e2, r⟩ := h; exact ⟨a, c, d, e1, e2, r.grow ok g⟩)
theorem RepEnv.grow (ok : MuOk m H) (g : Grow m H m' H') {cur s r} (h : RepEnv G cur Z m H s r) : RepEnv G cur Z m' H' s r :=
  ⟨h.len, fun i sl e => let ⟨o, e1, e2⟩ := h.at_ i sl e; ⟨o, e1, e2.grow ok g⟩⟩

/-! ## what is asked of an outcome -/
/-- an expression's outcome: A relates the value told to the value had -/
def WpE {α β : Type} (G : Gx) (W : Value → Option Addr → Hp → Prop) (Z : List Addr) (m : Mu) (H : Hp) (A : Mu → Hp → β → α → Prop) (Q : β → Hp → Prop) : RE α → Prop
  | .ok a st => ∀ m' H' b, Grow m H m' H' → RepSt G Z m' H' st → A m' H' b a → Q b H'
  | .exc e st => ∀ m' H' cls d, Grow m H m' H' → RepSt G Z m' H' st → RepX G Z m' H' cls d e → W cls d H'
  | .stuck => False
theorem WpE.grow {α β : Type} {W : Value → Option Addr → Hp → Prop} {A : Mu → Hp → β → α → Prop} {Q : β → Hp → Prop} {r : RE α} (g : Grow m H m' H') (h : WpE G W Z m H A Q r) : WpE G W Z m' H' A Q r := by
  cases r with
  | ok a st => exact fun m2 H2 b g2 => h m2 H2 b (g.trans g2)
  | exc e st => exact fun m2 H2 cls d g2 => h m2 H2 cls d (g.trans g2)
  | stuck => exact h

def WpS (G : Gx) (cur : Cur) (W : WX) (Z : List Addr) (m : Mu) (H : Hp) (E : Ends) : RS → Prop
  | .nx r st => ∀ m' H' s', Grow m H m' H' → RepSt G Z m' H' st → RepEnv G cur Z m' H' s' r → E.nx s' H'
  | .rt d st => ∀ m' H' v, Grow m H m' H' → RepSt G Z m' H' st → Rep G Z m' H' v d → E.rt v H'
  | .bk r st => ∀ m' H' s', Grow m H m' H' → RepSt G Z m' H' st → RepEnv G cur Z m' H' s' r → E.bk s' H'
  | .ct r st => ∀ m' H' s', Grow m H m' H' → RepSt G Z m' H' st → RepEnv G cur Z m' H' s' r → E.ct s' H'
  | .ex e r st => ∀ m' H' s' cls d, Grow m H m' H' → RepSt G Z m' H' st → RepEnv G cur Z m' H' s' r → RepX G Z m' H' cls d e → W cls d s' H'
  | .stuck => False
theorem WpS.grow {cur : Cur} {W : WX} {E : Ends} {r : RS} (g : Grow m H m' H') (h : WpS G cur W Z m H E r) : WpS G cur W Z m' H' E r := by
  cases r with
  | nx r st => exact fun m2 H2 s g2 => h m2 H2 s (g.trans g2)
  | rt d st => exact fun m2 H2 v g2 => h m2 H2 v (g.trans g2)
  | bk r st => exact fun m2 H2 s g2 => h m2 H2 s (g.trans g2)
  | ct r st => exact fun m2 H2 s g2 => h m2 H2 s (g.trans g2)
  | ex e r st => exact fun m2 H2 s c d g2 => h m2 H2 s c d (g.trans g2)
  | stuck => exact h
end

/-! ## the judgements -/
abbrev RepB : Mu → Hp → Bool → Bool → Prop := fun _ _ b a => b = a
def tDE (G : Gx) (cur : Cur) (W : WX) (f : DEx) : TE := fun s H Q => ∃ Z m r st, RepSt G Z m H st ∧ RepEnv G cur Z m H s r ∧ WpE G (fun c d H' => W c d s H') Z m H (Rep G Z) Q (f r st)
def tDT (G : Gx) (cur : Cur) (W : WX) (f : DTs) : TT := fun s H Q => ∃ Z m r st, RepSt G Z m H st ∧ RepEnv G cur Z m H s r ∧ WpE G (fun c d H' => W c d s H') Z m H RepB Q (f r st)
def tDA (G : Gx) (cur : Cur) (W : WX) (f : DAs) : TA := fun s H Q => ∃ Z m r st, RepSt G Z m H st ∧ RepEnv G cur Z m H s r ∧ WpE G (fun c d H' => W c d s H') Z m H (Reps G Z) Q (f r st)
def tDS (G : Gx) (cur : Cur) (W : WX) (f : DSt) : TS := fun E s H => ∃ Z m r st, RepSt G Z m H st ∧ RepEnv G cur Z m H s r ∧ WpS G cur W Z m H E (f r st)

structure DE (G : Gx) (cur : Cur) (W : WX) (X : Cx) (e : Expr) (f : DEx) : Prop where
  pe : PE X e (tDE G cur W f)
structure DT (G : Gx) (cur : Cur) (W : WX) (X : Cx) (e : Expr) (f : DTs) : Prop where
  pt : PT X e (tDT G cur W f)
structure DW (G : Gx) (cur : Cur) (W : WX) (X : Cx) (e : Expr) (f : DTs) : Prop where
  pw : PW X e (tDT G cur W f)
structure DA (G : Gx) (cur : Cur) (W : WX) (X : Cx) (es : List Expr) (f : DAs) : Prop where
  pa : PA X es (tDA G cur W f)
  len : ∀ r st xs st1, f r st = .ok xs st1 → xs.length = es.length
structure DS (G : Gx) (cur : Cur) (W : WX) (X : Cx) (s : Stmt) (f : DSt) : Prop where
  ps : PS X s (tDS G cur W f)
structure DB (G : Gx) (cur : Cur) (W : WX) (X : Cx) (ss : List Stmt) (f : DSt) : Prop where
  pss : PSs X ss (tDS G cur W f)

theorem peW {X : Cx} {e : Expr} {t t' : TE} (h : PE X e t) (k : ∀ s H Q, t' s H Q → t s H Q) : PE X e t' := ⟨fun p s r H Q I q => h.run p s r H Q I (k r H Q q)⟩
theorem ptW {X : Cx} {e : Expr} {t t' : TT} (h : PT X e t) (k : ∀ s H Q, t' s H Q → t s H Q) : PT X e t' := ⟨fun p s r H Q I q => h.run p s r H Q I (k r H Q q)⟩
theorem pwW {X : Cx} {e : Expr} {t t' : TT} (h : PW X e t) (k : ∀ s H Q, t' s H Q → t s H Q) : PW X e t' := ⟨fun w p s r H Q I q => h.run w p s r H Q I (k r H Q q)⟩
theorem paW {X : Cx} {e : List Expr} {t t' : TA} (h : PA X e t) (k : ∀ s H Q, t' s H Q → t s H Q) : PA X e t' := ⟨fun o p s r H Q I q => h.run o p s r H Q I (k r H Q q)⟩
theorem psW {X : Cx} {e : Stmt} {t t' : TS} (h : PS X e t) (k : ∀ E s H, t' E s H → t E s H) : PS X e t' := ⟨fun p s r H E I q => h.run p s r H E I (k E r H q)⟩
theorem pssW {X : Cx} {e : List Stmt} {t t' : TS} (h : PSs X e t) (k : ∀ E s H, t' E s H → t E s H) : PSs X e t' := ⟨fun p s r H E I q => h.run p s r H E I (k E r H q)⟩

/-! ## expressions -/
section
variable {G : Gx} {cur : Cur} {W : WX} {X : Cx} {a b c e : Expr} {es : List Expr} {pos : Pos}

def dVar (i : Nat) : DEx := fun r st => match r[i]? with
  | some (.val d) => .ok d st
  | _ => .stuck
theorem de_var (i : Nat) (h : PE X e (tVar i)) : DE G cur W X e (dVar i) := ⟨peW h fun s H Q ⟨Z, m, r, st, hs, he, hw⟩ => by
  unfold dVar at hw
  split at hw
  · rename_i d e
    obtain ⟨o, e1, v, e2, rv⟩ := he.at_ i _ e
    exact ⟨v, by rw [e1, e2], hw m H v .refl hs rv⟩
  · exact hw.elim⟩
/-- a constant -/
def dC (d : D) : DEx := fun _ st => .ok d st
theorem de_c {v : V} {d : D} (hr : ∀ Z m H, Rep G Z m H v d) (h : PE X e (tC v)) : DE G cur W X e (dC d) := ⟨peW h fun _ H _ ⟨Z, m, _, _, hs, _, hw⟩ => hw m H v .refl hs (hr Z m H)⟩
theorem de_int {i j} : DE G cur W X (.Constant (.int i) j pos) (dC (.int i)) := de_c (fun _ _ _ => .int) pe_int
theorem de_bl {i j} : DE G cur W X (.Constant (.bool i) j pos) (dC (.bl i)) := de_c (fun _ _ _ => .bl) pe_bl
theorem de_non {j} : DE G cur W X (.Constant .none j pos) (dC .non) := de_c (fun _ _ _ => .non) pe_non
theorem de_str {i j} : DE G cur W X (.Constant (.str i) j pos) (dC (.str i)) := de_c (fun _ _ _ => .str) pe_str

/-- an operation on two values -/
abbrev DOp2 := D → D → Store → RE D
def rD (G : Gx) (g : DOp2) : R2 := fun x y H Q => ∃ Z m st dx dy, RepSt G Z m H st ∧ Rep G Z m H x dx ∧ Rep G Z m H y dy ∧ WpE G (fun _ _ _ => False) Z m H (Rep G Z) Q (g dx dy st)
def dBin (g : DOp2) (fa fb : DEx) : DEx := fun r st => (fa r st).bind fun x st1 => (fb r st1).bind fun y st2 => match g x y st2 with
  | .ok z st3 => .ok z st3
  | _ => .stuck
theorem bin_down {g : DOp2} {fa fb : DEx} {s : L2.St} {H : Hp} {Q : VK} (h : tDE G cur W (dBin g fa fb) s H Q) : tOp (rD G g) (tDE G cur W fa) (tDE G cur W fb) s H Q := by
  obtain ⟨Z, m, r, st, hs, he, hw⟩ := h
  refine ⟨Z, m, r, st, hs, he, ?_⟩
  unfold dBin at hw
  cases ea : fa r st with
  | stuck => rw [ea] at hw; exact hw.elim
  | exc e st1 => rw [ea] at hw; exact hw
  | ok x st1 =>
    rw [ea] at hw
    intro m1 H1 v g1 s1 rx
    refine ⟨Z, m1, r, st1, s1, he.grow hs.ok g1, ?_⟩
    replace hw := WpE.grow g1 hw
    simp only [RE.bind] at hw
    cases eb : fb r st1 with
    | stuck => rw [eb] at hw; exact hw.elim
    | exc e st2 => rw [eb] at hw; exact hw
    | ok y st2 =>
      rw [eb] at hw
      intro m2 H2 u g2 s2 ry
      replace hw := WpE.grow g2 hw
      simp only at hw
      refine ⟨Z, m2, st2, x, y, s2, rx.grow s1.ok g2, ry, ?_⟩
      cases eg : g x y st2 with
      | stuck => rw [eg] at hw; exact hw.elim
      | exc e st3 => rw [eg] at hw; exact hw.elim
      | ok z st3 => rw [eg] at hw; exact hw
theorem de_bin {op : Operator} {g : DOp2} {fa fb : DEx} (ho : OpR X (binaryOp op) (rD G g)) (ha : DE G cur W X a fa) (hb : DE G cur W X b fb) : DE G cur W X (.BinOp a op b pos) (dBin g fa fb) :=
  ⟨peW (pe_op ho ha.pe hb.pe) fun _ _ _ h => bin_down h⟩
theorem de_cmp {op : CmpOp} {g : DOp2} {fa fb : DEx} (ho : OpR X (compareOp op) (rD G g)) (ha : DE G cur W X a fa) (hb : DE G cur W X b fb) (hm : behindInMarks op b = false) : DE G cur W X (.Compare a [op] [b] pos) (dBin g fa fb) :=
  ⟨peW (pe_cmpR ho ha.pe hb.pe hm) fun _ _ _ h => bin_down h⟩
end
end Dl
namespace Dl
open PySem PySem.Spec PyProof.Rows L2

/-! ## small words about data -/
theorem Reps.length {G Z m H} : ∀ {vs ds}, Reps G Z m H vs ds → vs.length = ds.length
  | _, _, .nil => rfl
  | _, _, .cons _ t => by rw [List.length_cons, List.length_cons, t.length]
theorem Reps.get {G Z m H} : ∀ {vs ds} {i : Nat} {d}, Reps G Z m H vs ds → ds[i]? = some d → ∃ v, vs[i]? = some v ∧ Rep G Z m H v d
  | _, _, _, _, .nil, e => by simp at e
  | _, _, 0, _, .cons r _, e => by simp at e; subst e; exact ⟨_, rfl, r⟩
  | _, _, i + 1, _, .cons _ t, e => by
    obtain ⟨v, h1, h2⟩ := Reps.get (i := i) t (by simpa using e)
    exact ⟨v, by simpa using h1, h2⟩
theorem Reps.set {G Z m H} {v : V} {d : D} (r : Rep G Z m H v d) : ∀ {vs ds} (i : Nat), Reps G Z m H vs ds → Reps G Z m H (vs.set i v) (ds.set i d)
  | _, _, _, .nil => .nil
  | _, _, 0, .cons _ t => .cons r t
  | _, _, i + 1, .cons q t => .cons q (Reps.set r i t)
theorem Reps.app {G Z m H} : ∀ {vs ds ws es}, Reps G Z m H vs ds → Reps G Z m H ws es → Reps G Z m H (vs ++ ws) (ds ++ es)
  | _, _, _, _, .nil, s => s
  | _, _, _, _, .cons r t, s => .cons r (Reps.app t s)
theorem Reps.take {G Z m H} : ∀ {vs ds} (n : Nat), Reps G Z m H vs ds → Reps G Z m H (vs.take n) (ds.take n)
  | _, _, 0, _ => .nil
  | _, _, _ + 1, .nil => .nil
  | _, _, n + 1, .cons r t => .cons r (Reps.take n t)
theorem Reps.drop {G Z m H} : ∀ {vs ds} (n : Nat), Reps G Z m H vs ds → Reps G Z m H (vs.drop n) (ds.drop n)
  | _, _, 0, r => r
  | _, _, _ + 1, .nil => .nil
  | _, _, n + 1, .cons _ t => Reps.drop n t
theorem Reps.rev {G Z m H} : ∀ {vs ds}, Reps G Z m H vs ds → Reps G Z m H vs.reverse ds.reverse
  | _, _, .nil => .nil
  | _, _, .cons r t => by rw [List.reverse_cons, List.reverse_cons]; exact (Reps.rev t).app (.cons r .nil)
theorem Reps.dropLast {G Z m H} {vs ds} (h : Reps G Z m H vs ds) : Reps G Z m H vs.dropLast ds.dropLast := by
  rw [List.dropLast_eq_take, List.dropLast_eq_take, h.length]
  exact h.take _
theorem Reps.ints {G Z m H} : ∀ (ns : List Int), Reps G Z m H (ns.map V.int) (ns.map D.int)
  | [] => .nil
  | n :: ns => .cons .int (Reps.ints ns)
theorem ScrAt.seq {K H a ns} (h : ScrAt K H a ns) : SqL K H a (ns.map V.int) := by
  rcases h with ⟨o, h⟩ | h
  · exact .inl (.inr ⟨o, h⟩)
  · exact h H

/-- the items of a sequence that is read: what stands at it -/
def seqOf (st : Store) : D → Option (List D)
  | .lst ds => some ds
  | .tup ds => some ds
  | .scr ns => some (ns.map D.int)
  | .loc n => match st[n]? with
    | some (.lst ds) => some ds
    | _ => none
  | _ => none
section
variable {G : Gx} {Z : List Addr} {m : Mu} {H : Hp} {st : Store}
theorem seq_at {d : D} {v : V} {ds : List D} (hs : RepSt G Z m H st) (r : Rep G Z m H v d) (h : seqOf st d = some ds) :
    ∃ a xs, v = .ref a ∧ (SqL G.K H a xs ∨ SqT G.K H a xs) ∧ Reps G Z m H xs ds := by
  cases r with
  | tup h1 h2 => cases h; exact ⟨_, _, rfl, .inr h1, h2⟩
  | lst h1 _ _ h2 => cases h; exact ⟨_, _, rfl, .inl (SqL.of h1), h2⟩
  | scr h1 => cases h; exact ⟨_, _, rfl, .inl h1.seq, Reps.ints _⟩
  | loc h1 =>
    rename_i n a
    obtain ⟨c, e, hc⟩ := hs.cell _ _ h1
    simp only [seqOf, e] at h
    cases c with
    | lst zs => cases h; obtain ⟨xs, h2, h3⟩ := hc; exact ⟨a, xs, rfl, .inl (SqL.of h2), h3⟩
    | ins c os => cases h
  | _ => cases h
/-- a list (no tuple) -/
def lstOf (st : Store) : D → Option (List D)
  | .lst ds => some ds
  | .scr ns => some (ns.map D.int)
  | .loc n => match st[n]? with
    | some (.lst ds) => some ds
    | _ => none
  | _ => none
theorem lst_at {d : D} {v : V} {ds : List D} (hs : RepSt G Z m H st) (r : Rep G Z m H v d) (h : lstOf st d = some ds) :
    ∃ a xs, v = .ref a ∧ SqL G.K H a xs ∧ Reps G Z m H xs ds := by
  cases r with
  | lst h1 _ _ h2 => cases h; exact ⟨_, _, rfl, SqL.of h1, h2⟩
  | scr h1 => cases h; exact ⟨_, _, rfl, h1.seq, Reps.ints _⟩
  | loc h1 =>
    rename_i n a
    obtain ⟨c, e, hc⟩ := hs.cell _ _ h1
    simp only [lstOf, e] at h
    cases c with
    | lst zs => cases h; obtain ⟨xs, h2, h3⟩ := hc; exact ⟨a, xs, rfl, SqL.of h2, h3⟩
    | ins c os => cases h
  | _ => cases h
/-- a list that may be joined to another (it is no script) -/
def lstIn (st : Store) : D → Option (List D)
  | .lst ds => some ds
  | .loc n => match st[n]? with
    | some (.lst ds) => some ds
    | _ => none
  | _ => none
theorem lst_in {d : D} {v : V} {ds : List D} (hs : RepSt G Z m H st) (r : Rep G Z m H v d) (h : lstIn st d = some ds) :
    ∃ a xs, v = .ref a ∧ H a = some (.lst xs) ∧ Reps G Z m H xs ds := by
  cases r with
  | lst h1 _ _ h2 => cases h; exact ⟨_, _, rfl, h1, h2⟩
  | loc h1 =>
    rename_i n a
    obtain ⟨c, e, hc⟩ := hs.cell _ _ h1
    simp only [lstIn, e] at h
    cases c with
    | lst zs => cases h; obtain ⟨xs, h2, h3⟩ := hc; exact ⟨a, xs, rfl, h2, h3⟩
    | ins c os => cases h
  | _ => cases h

/-- a new object beside the state -/
theorem RepSt.new {p : Addr} {o : HO} (hs : RepSt G Z m H st) (hn : H p = none) : RepSt G Z m (upd H p o) st := by
  have g : Grow m H m (upd H p o) := .new hn
  refine ⟨hs.len, hs.inj, fun i a h => ?_, fun z hz => let ⟨xs, h1, h2⟩ := hs.zs z hz; ⟨xs, (g.keep _ _ h1 h2).1, h2⟩⟩
  obtain ⟨c, e, hc⟩ := hs.cell i a h
  refine ⟨c, e, ?_⟩
  have na : ∀ u, H a = some u → upd H p o a = some u := fun u q => by rw [upd_ne (ne_of_none q hn)]; exact q
  cases c with
  | lst ds => obtain ⟨xs, h1, h2⟩ := hc; exact ⟨xs, na _ h1, h2.grow hs.ok g⟩
  | ins c os =>
    obtain ⟨dx, fs, h1, h2, h3, h4, h5⟩ := hc
    refine ⟨dx, fs, na _ h1, by rw [upd_ne (ne_of_none h2 hn)]; exact h2, h3, h4, fun i n w e1 e2 => ?_⟩
    have q := h5 i n w e1 e2
    cases w with
    | none => exact q
    | some d => obtain ⟨v, q1, q2⟩ := q; exact ⟨v, q1, q2.grow hs.ok g⟩
theorem not_mu {p : Addr} (hs : RepSt G Z m H st) (hn : H p = none) : some p ∉ m := fun k => by
  obtain ⟨i, hi⟩ := List.mem_iff_getElem?.mp k
  rcases hs.ok i p hi with ⟨ys, q⟩ | ⟨C, dx, fs, q⟩ <;> (rw [hn] at q; cases q)
/-- a new tuple, a new list told as data -/
theorem new_tup {p : Addr} {xs : List V} {ds : List D} (hs : RepSt G Z m H st) (r : Reps G Z m H xs ds) (hn : H p = none) : Rep G Z m (upd H p (.tup xs)) (.ref p) (.tup ds) :=
  .tup (.inl (.inl upd_same)) (r.grow hs.ok (.new hn))
end

theorem not_z {G : Gx} {Z : List Addr} {m : Mu} {H : Hp} {st : Store} {p : Addr} (hs : RepSt G Z m H st) (hn : H p = none) : p ∉ Z := fun k => by
  obtain ⟨xs, e, _⟩ := hs.zs p k
  rw [hn] at e; cases e
theorem new_lst {G : Gx} {Z : List Addr} {m : Mu} {H : Hp} {st : Store} {p : Addr} {xs : List V} {ds : List D} (hs : RepSt G Z m H st) (r : Reps G Z m H xs ds) (hn : H p = none) : Rep G Z m (upd H p (.lst xs)) (.ref p) (.lst ds) :=
  .lst upd_same (not_mu hs hn) (not_z hs hn) (r.grow hs.ok (.new hn))

/-! ## truth -/
def truD (d : D) (st : Store) : RE Bool := match d with
  | .bl b => .ok b st
  | .int i => .ok (i != 0) st
  | .non => .ok false st
  | .str x => if x.length ≤ sizeLine then .ok ((x.length : Int) != 0) st else .stuck
  | d => match seqOf st d with
    | some ds => .ok (!ds.isEmpty) st
    | none => .stuck
theorem isEmpty_reps {G Z m H} {vs : List V} {ds : List D} (h : Reps G Z m H vs ds) : (!vs.isEmpty) = !ds.isEmpty := by cases h <;> rfl
theorem tru_at {G Z m H} {st st' : Store} {d : D} {v : V} {k : Bool} (hs : RepSt G Z m H st) (r : Rep G Z m H v d) (h : truD d st = .ok k st') : TruV G.K v H k ∧ st' = st := by
  have sq : ∀ {d : D} {v : V}, Rep G Z m H v d → (match seqOf st d with | some ds => RE.ok (!ds.isEmpty) st | none => .stuck) = .ok k st' → TruV G.K v H k ∧ st' = st := by
    intro d v r h
    cases e : seqOf st d with
    | none => rw [e] at h; cases h
    | some ds =>
      rw [e] at h
      cases h
      obtain ⟨a, xs, rfl, h1, h2⟩ := seq_at hs r e
      refine ⟨?_, rfl⟩
      rcases h1 with h1 | h1
      · exact .inl ⟨xs, h1, (isEmpty_reps h2).symm⟩
      · exact .inr (.inl ⟨xs, h1, (isEmpty_reps h2).symm⟩)
  cases r with
  | non => cases h; exact ⟨rfl, rfl⟩
  | bl => cases h; exact ⟨rfl, rfl⟩
  | int => cases h; exact ⟨rfl, rfl⟩
  | str =>
    unfold truD at h
    simp only at h
    split at h
    · cases h; rename_i q; exact ⟨⟨q, rfl⟩, rfl⟩
    · cases h
  | tup h1 h2 => exact sq (.tup h1 h2) h
  | lst h1 h2 h3 h4 => exact sq (.lst h1 h2 h3 h4) h
  | loc h1 => exact sq (.loc h1) h
  | obj h1 h2 h3 h4 h5 h6 => exact sq (.obj h1 h2 h3 h4 h5 h6) h
  | scr h1 => exact sq (.scr h1) h
  | cls => exact sq .cls h
  | typ => exact sq .typ h

/-! ## tests -/
section
variable {G : Gx} {cur : Cur} {W : WX} {X : Cx} {a b c e : Expr} {es rest : List Expr} {pos : Pos}
/-- of a value that is a bool -/
def dTB (f : DEx) : DTs := fun r st => match f r st with
  | .ok (.bl k) st1 => .ok k st1
  | .ok _ _ => .stuck
  | .exc e st1 => .exc e st1
  | .stuck => .stuck
/-- of any value, by its truth -/
def dTr (f : DEx) : DTs := fun r st => (f r st).bind fun d st1 => truD d st1
theorem tb_down {f : DEx} {s : L2.St} {H : Hp} {Q : Bool → Hp → Prop} (h : tDT G cur W (dTB f) s H Q) : tDE G cur W f s H fun x H' => ∃ k, x = .bl k ∧ Q k H' := by
  obtain ⟨Z, m, r, st, hs, he, hw⟩ := h
  refine ⟨Z, m, r, st, hs, he, ?_⟩
  unfold dTB at hw
  cases ea : f r st with
  | stuck => rw [ea] at hw; exact hw.elim
  | exc e st1 => rw [ea] at hw; exact hw
  | ok x st1 =>
    rw [ea] at hw
    intro m1 H1 v g1 s1 rx
    cases rx with
    | bl => exact ⟨_, rfl, hw m1 H1 _ g1 s1 rfl⟩
    | _ => exact hw.elim
theorem dt_cmp {op : CmpOp} {g : DOp2} {fa fb : DEx} (ho : OpR X (compareOp op) (rD G g)) (ha : DE G cur W X a fa) (hb : DE G cur W X b fb) (hm : behindInMarks op b = false) : DT G cur W X (.Compare a [op] [b] pos) (dTB (dBin g fa fb)) :=
  ⟨ptW (pt_cmpR ho ha.pe hb.pe hm) fun s H Q h => by
    obtain ⟨Z, m, r, st, hs, he, hw⟩ := tb_down h
    exact bin_down ⟨Z, m, r, st, hs, he, hw⟩⟩
theorem dt_tr {f : DEx} (hK : X.K = G.K) (ha : DE G cur W X a f) (he : ∀ whole, isTrue a X.env whole = (do let v ← whole; standAt a.pos; holding [v] (truthy v)) := by intro _; rfl) : DT G cur W X a (dTr f) :=
  ⟨ptW (pt_truth ha.pe he) fun s H Q ⟨Z, m, r, st, hs, he, hw⟩ => by
    refine ⟨Z, m, r, st, hs, he, ?_⟩
    unfold dTr at hw
    cases ea : f r st with
    | stuck => rw [ea] at hw; exact hw.elim
    | exc e st1 => rw [ea] at hw; exact hw
    | ok x st1 =>
      rw [ea] at hw
      intro m1 H1 v g1 s1 rx
      replace hw := WpE.grow g1 hw
      simp only [RE.bind] at hw
      cases eb : truD x st1 with
      | stuck => rw [eb] at hw; exact hw.elim
      | exc e st2 => unfold truD at eb; repeat (first | (split at eb) | cases eb)
      | ok k st2 =>
        rw [eb] at hw
        obtain ⟨h1, rfl⟩ := tru_at s1 rx eb
        exact ⟨k, by rw [hK]; exact h1, hw m1 H1 k .refl s1 rfl⟩⟩
def dAnd (fa fb : DTs) : DTs := fun r st => (fa r st).bind fun k st1 => if k = true then fb r st1 else .ok false st1
def dOr (fa fb : DTs) : DTs := fun r st => (fa r st).bind fun k st1 => if k = true then .ok true st1 else fb r st1
def dNot (fa : DTs) : DTs := fun r st => (fa r st).bind fun k st1 => .ok (!k) st1
theorem dw_and1 {f : DTs} (h : DT G cur W X a f) : DW G cur W X (.BoolOp .And [a] pos) f := ⟨pw_and1 h.pt⟩
theorem dw_or1 {f : DTs} (h : DT G cur W X a f) : DW G cur W X (.BoolOp .Or [a] pos) f := ⟨pw_or1 h.pt⟩
theorem DW.dt {f : DTs} (h : DW G cur W X a f) : DT G cur W X a f := ⟨h.pw.pt⟩
/-- a test, then what hangs on it -/
theorem tst_down {f : DTs} {Q2 : Bool → Hp → Prop} {s : L2.St} {H : Hp} {Z : List Addr} {m : Mu} {r : DEnv} {st : Store} {α β : Type} {A : Mu → Hp → β → α → Prop} {Q : β → Hp → Prop} {k : Bool → Store → RE α}
    (hs : RepSt G Z m H st) (he : RepEnv G cur Z m H s r) (hw : WpE G (fun c d H' => W c d s H') Z m H A Q ((f r st).bind k))
    (h2 : ∀ b st1 m1 H1, RepSt G Z m1 H1 st1 → RepEnv G cur Z m1 H1 s r → WpE G (fun c d H' => W c d s H') Z m1 H1 A Q (k b st1) → Q2 b H1) : tDT G cur W f s H Q2 := by
  refine ⟨Z, m, r, st, hs, he, ?_⟩
  cases ea : f r st with
  | stuck => rw [ea] at hw; exact hw.elim
  | exc e st1 => rw [ea] at hw; exact hw
  | ok x st1 =>
    rw [ea] at hw
    intro m1 H1 v g1 s1 rx
    subst rx
    exact h2 v st1 m1 H1 s1 (he.grow hs.ok g1) (WpE.grow g1 hw)
theorem exp_down {f : DEx} {Q2 : VK} {s : L2.St} {H : Hp} {Z : List Addr} {m : Mu} {r : DEnv} {st : Store} {α β : Type} {A : Mu → Hp → β → α → Prop} {Q : β → Hp → Prop} {k : D → Store → RE α}
    (hs : RepSt G Z m H st) (he : RepEnv G cur Z m H s r) (hw : WpE G (fun c d H' => W c d s H') Z m H A Q ((f r st).bind k))
    (h2 : ∀ d v st1 m1 H1, Grow m H m1 H1 → RepSt G Z m1 H1 st1 → RepEnv G cur Z m1 H1 s r → Rep G Z m1 H1 v d → WpE G (fun c d H' => W c d s H') Z m1 H1 A Q (k d st1) → Q2 v H1) : tDE G cur W f s H Q2 := by
  refine ⟨Z, m, r, st, hs, he, ?_⟩
  cases ea : f r st with
  | stuck => rw [ea] at hw; exact hw.elim
  | exc e st1 => rw [ea] at hw; exact hw
  | ok x st1 =>
    rw [ea] at hw
    intro m1 H1 v g1 s1 rx
    exact h2 x v st1 m1 H1 g1 s1 (he.grow hs.ok g1) rx (WpE.grow g1 hw)
theorem dw_and {fa fb : DTs} (ha : DT G cur W X a fa) (hb : DW G cur W X (.BoolOp .And (b :: rest) pos) fb) : DW G cur W X (.BoolOp .And (a :: b :: rest) pos) (dAnd fa fb) :=
  ⟨pwW (pw_and ha.pt hb.pw) fun s H Q ⟨Z, m, r, st, hs, he, hw⟩ => tst_down hs he hw fun k st1 m1 H1 s1 e1 w1 => by
    cases k with
    | true => exact iteT ⟨Z, m1, r, st1, s1, e1, w1⟩
    | false => exact iteF (w1 m1 H1 false .refl s1 rfl)⟩
theorem dw_or {fa fb : DTs} (ha : DT G cur W X a fa) (hb : DW G cur W X (.BoolOp .Or (b :: rest) pos) fb) : DW G cur W X (.BoolOp .Or (a :: b :: rest) pos) (dOr fa fb) :=
  ⟨pwW (pw_or ha.pt hb.pw) fun s H Q ⟨Z, m, r, st, hs, he, hw⟩ => tst_down hs he hw fun k st1 m1 H1 s1 e1 w1 => by
    cases k with
    | true => exact iteT (w1 m1 H1 true .refl s1 rfl)
    | false => exact iteF ⟨Z, m1, r, st1, s1, e1, w1⟩⟩
theorem dt_not {fa : DTs} (ha : DT G cur W X a fa) : DT G cur W X (.UnaryOp .Not a pos) (dNot fa) :=
  ⟨ptW (pt_not ha.pt) fun s H Q ⟨Z, m, r, st, hs, he, hw⟩ => tst_down hs he hw fun k st1 m1 H1 s1 e1 w1 => w1 m1 H1 _ .refl s1 rfl⟩
/-! ### .. as values -/
def dAndV (fa fb : DEx) : DEx := fun r st => (fa r st).bind fun x st1 => (truD x st1).bind fun k st2 => if k = true then fb r st2 else .ok x st2
def dOrV (fa fb : DEx) : DEx := fun r st => (fa r st).bind fun x st1 => (truD x st1).bind fun k st2 => if k = true then .ok x st2 else fb r st2
def dNotV (fa : DEx) : DEx := fun r st => (fa r st).bind fun x st1 => (truD x st1).bind fun k st2 => .ok (.bl (!k)) st2
theorem tru_bind {α β : Type} {G : Gx} {W : Value → Option Addr → Hp → Prop} {Z : List Addr} {m : Mu} {H : Hp} {st : Store} {d : D} {v : V} {A : Mu → Hp → β → α → Prop} {Q : β → Hp → Prop} {f : Bool → Store → RE α} (hs : RepSt G Z m H st) (r : Rep G Z m H v d)
    (h : WpE G W Z m H A Q ((truD d st).bind f)) : ∃ k, TruV G.K v H k ∧ WpE G W Z m H A Q (f k st) := by
  cases eb : truD d st with
  | stuck => rw [eb] at h; exact h.elim
  | exc e st2 => unfold truD at eb; repeat (first | (split at eb) | cases eb)
  | ok k st2 =>
    rw [eb] at h
    obtain ⟨h1, rfl⟩ := tru_at hs r eb
    exact ⟨k, h1, h⟩
theorem de_one {op} {f : DEx} (h : DE G cur W X a f) : DE G cur W X (.BoolOp op [a] pos) f := ⟨pe_one h.pe⟩
theorem de_and {fa fb : DEx} (hK : X.K = G.K) (ha : DE G cur W X a fa) (hb : DE G cur W X (.BoolOp .And (b :: rest) pos) fb) : DE G cur W X (.BoolOp .And (a :: b :: rest) pos) (dAndV fa fb) :=
  ⟨peW (pe_andT ha.pe hb.pe) fun s H Q ⟨Z, m, r, st, hs, he, hw⟩ => exp_down hs he hw fun d v st1 m1 H1 _ s1 e1 rv w1 => by
    obtain ⟨k, h1, w2⟩ := tru_bind s1 rv w1
    refine ⟨k, by rw [hK]; exact h1, ?_⟩
    cases k with
    | true => exact iteT ⟨Z, m1, r, st1, s1, e1, w2⟩
    | false => exact iteF (w2 m1 H1 v .refl s1 rv)⟩
theorem de_or {fa fb : DEx} (hK : X.K = G.K) (ha : DE G cur W X a fa) (hb : DE G cur W X (.BoolOp .Or (b :: rest) pos) fb) : DE G cur W X (.BoolOp .Or (a :: b :: rest) pos) (dOrV fa fb) :=
  ⟨peW (pe_orT ha.pe hb.pe) fun s H Q ⟨Z, m, r, st, hs, he, hw⟩ => exp_down hs he hw fun d v st1 m1 H1 _ s1 e1 rv w1 => by
    obtain ⟨k, h1, w2⟩ := tru_bind s1 rv w1
    refine ⟨k, by rw [hK]; exact h1, ?_⟩
    cases k with
    | true => exact iteT (w2 m1 H1 v .refl s1 rv)
    | false => exact iteF ⟨Z, m1, r, st1, s1, e1, w2⟩⟩
theorem de_not {fa : DEx} (hK : X.K = G.K) (ha : DE G cur W X a fa) : DE G cur W X (.UnaryOp .Not a pos) (dNotV fa) :=
  ⟨peW (pe_notT ha.pe) fun s H Q ⟨Z, m, r, st, hs, he, hw⟩ => exp_down hs he hw fun d v st1 m1 H1 _ s1 e1 rv w1 => by
    obtain ⟨k, h1, w2⟩ := tru_bind s1 rv w1
    exact ⟨k, by rw [hK]; exact h1, w2 m1 H1 _ .refl s1 .bl⟩⟩
def dIfE (ft : DTs) (fa fb : DEx) : DEx := fun r st => (ft r st).bind fun k st1 => if k = true then fa r st1 else fb r st1
theorem de_ifE {ft : DTs} {fa fb : DEx} (hc : DT G cur W X c ft) (ha : DE G cur W X a fa) (hb : DE G cur W X b fb) : DE G cur W X (.IfExp c a b pos) (dIfE ft fa fb) :=
  ⟨peW (pe_ifExp hc.pt ha.pe hb.pe) fun s H Q ⟨Z, m, r, st, hs, he, hw⟩ => tst_down hs he hw fun k st1 m1 H1 s1 e1 w1 => by
    cases k with
    | true => exact iteT ⟨Z, m1, r, st1, s1, e1, w1⟩
    | false => exact iteF ⟨Z, m1, r, st1, s1, e1, w1⟩⟩
/-! ### chains -/
def dChain (g g' : DOp2) (fa fb fc : DEx) : DEx := fun r st => (fa r st).bind fun x st1 => (fb r st1).bind fun y st2 => match g x y st2 with
  | .ok (.bl true) st3 => (fc r st3).bind fun z st4 => match g' y z st4 with
    | .ok w st5 => .ok w st5
    | _ => .stuck
  | .ok (.bl false) st3 => .ok (.bl false) st3
  | _ => .stuck
theorem chain_down {g g' : DOp2} {fa fb fc : DEx} {s : L2.St} {H : Hp} {Q : VK} (h : tDE G cur W (dChain g g' fa fb fc) s H Q) : tChain (rD G g) (rD G g') (tDE G cur W fa) (tDE G cur W fb) (tDE G cur W fc) s H Q := by
  obtain ⟨Z, m, r, st, hs, he, hw⟩ := h
  refine exp_down hs he hw fun x v st1 m1 H1 _ s1 e1 rx w1 => exp_down s1 e1 w1 fun y u st2 m2 H2 g2 s2 e2 ry w2 => ?_
  refine ⟨Z, m2, st2, x, y, s2, rx.grow s1.ok g2, ry, ?_⟩
  cases eg : g x y st2 with
  | stuck => rw [eg] at w2; exact w2.elim
  | exc e st3 => rw [eg] at w2; exact w2.elim
  | ok z st3 =>
    rw [eg] at w2
    intro m3 H3 zv g3 s3 rz
    replace w2 := WpE.grow g3 w2
    cases rz with
    | bl =>
      rename_i k
      refine ⟨k, rfl, ?_⟩
      cases k with
      | false => exact iteF (w2 m3 H3 _ .refl s3 .bl)
      | true =>
        refine iteT (exp_down s3 (e2.grow s2.ok g3) w2 fun w wv st4 m4 H4 g4 s4 e4 rw' w4 => ?_)
        refine ⟨Z, m4, st4, y, w, s4, (ry.grow s2.ok g3).grow s3.ok g4, rw', ?_⟩
        cases eh : g' y w st4 with
        | stuck => rw [eh] at w4; exact w4.elim
        | exc e st5 => rw [eh] at w4; exact w4.elim
        | ok z st5 => rw [eh] at w4; exact w4
    | _ => exact w2.elim
theorem de_chain {op op' : CmpOp} {g g' : DOp2} {fa fb fc : DEx} (ho : OpR X (compareOp op) (rD G g)) (ho' : OpR X (compareOp op') (rD G g')) (ha : DE G cur W X a fa) (hb : DE G cur W X b fb) (hc : DE G cur W X c fc)
    (hm : lastMarks [op, op'] [b, c] = false := by with_unfolding_all rfl) : DE G cur W X (.Compare a [op, op'] [b, c] pos) (dChain g g' fa fb fc) :=
  ⟨peW (pe_chain ho ho' ha.pe hb.pe hc.pe hm) fun _ _ _ h => chain_down h⟩
theorem dt_chain {op op' : CmpOp} {g g' : DOp2} {fa fb fc : DEx} (ho : OpR X (compareOp op) (rD G g)) (ho' : OpR X (compareOp op') (rD G g')) (ha : DE G cur W X a fa) (hb : DE G cur W X b fb) (hc : DE G cur W X c fc)
    (hm : lastMarks [op, op'] [b, c] = false := by with_unfolding_all rfl) : DT G cur W X (.Compare a [op, op'] [b, c] pos) (dTB (dChain g g' fa fb fc)) :=
  ⟨ptW (pt_chain ho ho' ha.pe hb.pe hc.pe hm) fun _ _ _ h => chain_down (tb_down h)⟩
end
end Dl
namespace Dl
open PySem PySem.Spec PyProof.Rows L2

/-! ## operators on values -/
def MulOk (i j : Int) : Prop := CMul i j ∨ i.natAbs.log2 + j.natAbs.log2 < 1000000
instance {i j : Int} : Decidable (MulOk i j) := by unfold MulOk CMul; infer_instance
theorem MulOk.ok {i j : Int} (h : MulOk i j) : IntMulOk i j := h.elim CMul.ok CMulW.ok
theorem MulOk.of_bits {i j : Int} {a b : Nat} (ha : i.natAbs < 2 ^ a) (hb : j.natAbs < 2 ^ b) (h : a + b ≤ 999990) : MulOk i j := by
  have ha' : i.natAbs < 2 ^ (a + 1) := Nat.lt_of_lt_of_le ha (Nat.pow_le_pow_right (by decide) (by omega))
  have hb' : j.natAbs < 2 ^ (b + 1) := Nat.lt_of_lt_of_le hb (Nat.pow_le_pow_right (by decide) (by omega))
  exact .inr (wide_mul ha' hb' (by omega) (by omega) (by omega))
def DivOk (i j : Int) : Prop := j ≠ 0 ∧ Builtin.divisionGoesByPylong i j = false
instance {i j : Int} : Decidable (DivOk i j) := by unfold DivOk; infer_instance
theorem DivOk.of_bits {i j : Int} {b : Nat} (h0 : j ≠ 0) (hb : j.natAbs < 2 ^ b) (h : b ≤ 8990) : DivOk i j := by
  have hb' : j.natAbs < 2 ^ (b + 1) := Nat.lt_of_lt_of_le hb (Nat.pow_le_pow_right (by decide) (by omega))
  exact ⟨h0, PyProof.noPylong_of_log2 (Nat.lt_of_lt_of_le (PySem.Flt.log2_lt_of (by omega) hb') (by omega))⟩

def dAdd : DOp2 := fun x y st => match x, y with
  | .int i, .int j => .ok (.int (i + j)) st
  | .str a, .str b => if a.length + b.length ≤ sizeLine then .ok (.str (a ++ b)) st else .stuck
  | .tup xs, .tup ys => if xs.length + ys.length ≤ sizeLine then .ok (.tup (xs ++ ys)) st else .stuck
  | .lst xs, .lst ys => if xs.length + ys.length ≤ sizeLine then .ok (.lst (xs ++ ys)) st else .stuck
  | .loc n, .lst ys => match lstIn st (.loc n) with
    | some xs => if xs.length + ys.length ≤ sizeLine then .ok (.lst (xs ++ ys)) st else .stuck
    | none => .stuck
  | .lst xs, .loc n => match lstIn st (.loc n) with
    | some ys => if xs.length + ys.length ≤ sizeLine then .ok (.lst (xs ++ ys)) st else .stuck
    | none => .stuck
  | .loc k, .loc n => match lstIn st (.loc k), lstIn st (.loc n) with
    | some xs, some ys => if xs.length + ys.length ≤ sizeLine then .ok (.lst (xs ++ ys)) st else .stuck
    | _, _ => .stuck
  | _, _ => .stuck
def dSub : DOp2 := fun x y st => match x, y with
  | .int i, .int j => .ok (.int (i - j)) st
  | _, _ => .stuck
def repD (ds : List D) (k : Int) (st : Store) : RE D := if -(2 ^ 63) ≤ k ∧ k < 2 ^ 63 ∧ ds.length * k.toNat ≤ sizeLine then .ok (.lst (List.replicate k.toNat ds).flatten) st else .stuck
def dMul : DOp2 := fun x y st => match x, y with
  | .int i, .int j => if MulOk i j then .ok (.int (i * j)) st else .stuck
  | .lst ds, .int k => repD ds k st
  | _, _ => .stuck
def dDiv : DOp2 := fun x y st => match x, y with
  | .int i, .int j => if DivOk i j then .ok (.int (i.fdiv j)) st else .stuck
  | _, _ => .stuck
def dMod : DOp2 := fun x y st => match x, y with
  | .int i, .int j => if j ≠ 0 then .ok (.int (i.fmod j)) st else .stuck
  | _, _ => .stuck
def dPow : DOp2 := fun x y st => match x, y with
  | .int i, .int j => if 0 ≤ j ∧ j ≤ 1000000 ∧ i.natAbs < 2 ^ 64 then .ok (.int (i ^ j.toNat)) st else .stuck
  | _, _ => .stuck
def dCmpI (p : Int → Int → Bool) : DOp2 := fun x y st => match x, y with
  | .int i, .int j => .ok (.bl (p i j)) st
  | _, _ => .stuck
abbrev dLt : DOp2 := dCmpI fun i j => decide (i < j)
abbrev dLe : DOp2 := dCmpI fun i j => decide (i ≤ j)
abbrev dGt : DOp2 := dCmpI fun i j => decide (j < i)
abbrev dGe : DOp2 := dCmpI fun i j => decide (j ≤ i)

section
variable {G : Gx} {X : Cx}
theorem re_ok {α β : Type} {G : Gx} {W : Value → Option Addr → Hp → Prop} {Z : List Addr} {m : Mu} {H : Hp} {A : Mu → Hp → β → α → Prop} {Q : β → Hp → Prop} {c : Prop} [Decidable c] {a : α} {st : Store}
    (h : WpE G W Z m H A Q (if c then .ok a st else .stuck)) : c ∧ WpE G W Z m H A Q (.ok a st) := by
  by_cases q : c
  · rw [if_pos q] at h; exact ⟨q, h⟩
  · rw [if_neg q] at h; exact h.elim
theorem vals_rep {G Z m H} {vs : List V} {ds : List D} (h : Reps G Z m H vs ds) : ∀ k : Nat, Reps G Z m H (List.replicate k vs).flatten (List.replicate k ds).flatten
  | 0 => .nil
  | k + 1 => by
    rw [List.replicate_succ, List.replicate_succ, List.flatten_cons, List.flatten_cons]
    exact h.app (vals_rep h k)
theorem op_addD (hK : X.K = G.K) : OpR X (binaryOp .Add) (rD G dAdd) := by
  intro pins s σ H x y v u Q I rx ry ⟨Z, m, st, dx, dy, hs, r1, r2, hw⟩
  have cat : ∀ (xs ys : List D), lstIn st dx = some xs → lstIn st dy = some ys → WpE G (fun _ _ _ => False) Z m H (Rep G Z) Q (if xs.length + ys.length ≤ sizeLine then .ok (.lst (xs ++ ys)) st else .stuck) →
      wpAny (model X.prog X.w) X.A (binaryOp .Add v u) (EP X pins σ Q) X.xe s := fun xs ys e1 e2 hw => by
    obtain ⟨a, vs, rfl, h1, h2⟩ := lst_in hs r1 e1
    obtain ⟨b, ws, rfl, h3, h4⟩ := lst_in hs r2 e2
    obtain ⟨q, hw⟩ := re_ok hw
    refine op_cat pins s σ H _ _ v u Q I rx ry ⟨a, b, vs, ws, rfl, rfl, h1, h3, by rw [h2.length, h4.length]; exact q, fun p hp => ?_⟩
    exact hw m _ _ (.new hp) (hs.new hp) (new_lst hs (h2.app h4) hp)
  cases dx with
  | int i => cases dy with
    | int j =>
      cases r1; cases r2
      exact op_add pins s σ H _ _ v u Q I rx ry ⟨i, j, rfl, rfl, hw m H _ .refl hs .int⟩
    | _ => exact hw.elim
  | str a => cases dy with
    | str b =>
      cases r1; cases r2
      obtain ⟨q, hw⟩ := re_ok hw
      exact op_add_str pins s σ H _ _ v u Q I rx ry ⟨a, b, rfl, rfl, q, hw m H _ .refl hs .str⟩
    | _ => exact hw.elim
  | tup xs => cases dy with
    | tup ys =>
      cases r1 with
      | tup h1 h2 =>
        cases r2 with
        | tup h3 h4 =>
          obtain ⟨q, hw⟩ := re_ok hw
          refine op_catA pins s σ H _ _ v u Q I rx ry ⟨_, _, _, _, rfl, rfl, by rw [hK]; exact h1, by rw [hK]; exact h3, by rw [h2.length, h4.length]; exact q, fun e => ?_, fun _ e => ?_, fun _ _ p hp => ?_⟩
          · subst e
            cases h2
            exact hw m H _ .refl hs (.tup h3 h4)
          · subst e
            cases h4
            refine hw m H _ .refl hs ?_
            rw [List.append_nil]
            exact .tup h1 h2
          · exact hw m _ _ (.new hp) (hs.new hp) (new_tup hs (h2.app h4) hp)
    | _ => exact hw.elim
  | lst xs => cases dy with
    | lst ys => exact cat xs ys rfl rfl hw
    | loc n =>
      cases e : lstIn st (.loc n) with
      | none => simp only [dAdd, e] at hw; exact hw.elim
      | some ys => simp only [dAdd, e] at hw; exact cat xs ys rfl e hw
    | _ => exact hw.elim
  | loc k => cases dy with
    | lst ys =>
      cases e : lstIn st (.loc k) with
      | none => simp only [dAdd, e] at hw; exact hw.elim
      | some xs => simp only [dAdd, e] at hw; exact cat xs ys e rfl hw
    | loc n =>
      cases e : lstIn st (.loc k) with
      | none => simp only [dAdd, e] at hw; exact hw.elim
      | some xs =>
        cases e' : lstIn st (.loc n) with
        | none => simp only [dAdd, e, e'] at hw; exact hw.elim
        | some ys => simp only [dAdd, e, e'] at hw; exact cat xs ys e e' hw
    | _ => exact hw.elim
  | _ => exact hw.elim
theorem op_subD : OpR X (binaryOp .Sub) (rD G dSub) := by
  intro pins s σ H x y v u Q I rx ry ⟨Z, m, st, dx, dy, hs, r1, r2, hw⟩
  cases r1 with
  | int => cases r2 with
    | int => exact op_sub pins s σ H _ _ v u Q I rx ry ⟨_, _, rfl, rfl, hw m H _ .refl hs .int⟩
    | _ => exact hw.elim
  | _ => exact hw.elim
theorem op_mulD : OpR X (binaryOp .Mult) (rD G dMul) := by
  intro pins s σ H x y v u Q I rx ry ⟨Z, m, st, dx, dy, hs, r1, r2, hw⟩
  cases r1 with
  | int => cases r2 with
    | int =>
      obtain ⟨t, rfl⟩ := rx
      obtain ⟨t', rfl⟩ := ry
      obtain ⟨q, hw⟩ := re_ok hw
      exact mul_int ⟨.int _, H, I.tok _, ⟨_, rfl⟩, hw m H _ .refl hs .int⟩ q.ok
    | _ => exact hw.elim
  | lst h1 h2 h3 h4 => cases r2 with
    | int =>
      obtain ⟨⟨q1, q2, q3⟩, hw⟩ := re_ok hw
      refine op_rep pins s σ H _ _ v u Q I rx ry ⟨_, _, _, rfl, rfl, h1, q1, q2, by rw [h4.length]; exact q3, fun p hp => ?_⟩
      exact hw m _ _ (.new hp) (hs.new hp) (new_lst hs (vals_rep h4 _) hp)
    | _ => exact hw.elim
  | _ => exact hw.elim
theorem op_divD : OpR X (binaryOp .FloorDiv) (rD G dDiv) := by
  intro pins s σ H x y v u Q I rx ry ⟨Z, m, st, dx, dy, hs, r1, r2, hw⟩
  cases r1 with
  | int => cases r2 with
    | int =>
      obtain ⟨t, rfl⟩ := rx
      obtain ⟨t', rfl⟩ := ry
      obtain ⟨q, hw⟩ := re_ok hw
      exact floordiv_int q.1 ⟨.int _, H, I.tok _, ⟨_, rfl⟩, hw m H _ .refl hs .int⟩ (.inl q.2)
    | _ => exact hw.elim
  | _ => exact hw.elim
theorem op_modD : OpR X (binaryOp .Mod) (rD G dMod) := by
  intro pins s σ H x y v u Q I rx ry ⟨Z, m, st, dx, dy, hs, r1, r2, hw⟩
  cases r1 with
  | int => cases r2 with
    | int =>
      obtain ⟨q, hw⟩ := re_ok hw
      exact op_modN pins s σ H _ _ v u Q I rx ry ⟨_, _, rfl, rfl, q, hw m H _ .refl hs .int⟩
    | _ => exact hw.elim
  | _ => exact hw.elim
theorem op_powD : OpR X (binaryOp .Pow) (rD G dPow) := by
  intro pins s σ H x y v u Q I rx ry ⟨Z, m, st, dx, dy, hs, r1, r2, hw⟩
  cases r1 with
  | int => cases r2 with
    | int =>
      obtain ⟨q, hw⟩ := re_ok hw
      exact op_pow pins s σ H _ _ v u Q I rx ry ⟨_, _, rfl, rfl, q, hw m H _ .refl hs .int⟩
    | _ => exact hw.elim
  | _ => exact hw.elim
theorem op_cmpI {op : CmpOp} {p : Int → Int → Bool} (ho : OpR X (compareOp op) (rI0 fun i j => .bl (p i j))) : OpR X (compareOp op) (rD G (dCmpI p)) := by
  intro pins s σ H x y v u Q I rx ry ⟨Z, m, st, dx, dy, hs, r1, r2, hw⟩
  cases r1 with
  | int => cases r2 with
    | int => exact ho pins s σ H _ _ v u Q I rx ry ⟨_, _, rfl, rfl, hw m H _ .refl hs .bl⟩
    | _ => exact hw.elim
  | _ => exact hw.elim
theorem op_ltD : OpR X (compareOp .Lt) (rD G dLt) := op_cmpI op_lt
theorem op_leD : OpR X (compareOp .LtE) (rD G dLe) := op_cmpI op_le
theorem op_gtD : OpR X (compareOp .Gt) (rD G dGt) := op_cmpI op_gt
theorem op_geD : OpR X (compareOp .GtE) (rD G dGe) := op_cmpI op_ge

/-! ### is, is not -/
def isV : D → D → Option Bool
  | .non, .non => some true
  | .bl a, .bl b => some (decide (a = b))
  | .int _, .non => some false
  | .str _, .non => some false
  | .tup _, .non => some false
  | .lst _, .non => some false
  | .loc _, .non => some false
  | .obj _ _, .non => some false
  | .bl _, .non => some false
  | _, _ => none
def dIs (neg : Bool) : DOp2 := fun x y st => match isV x y with
  | some b => .ok (.bl (if neg then !b else b)) st
  | none => .stuck
theorem op_isD : OpR X (compareOp .Is) (rD G (dIs false)) := by
  intro pins s σ H x y v u Q I rx ry ⟨Z, m, st, dx, dy, hs, r1, r2, hw⟩
  cases r2 with
  | non =>
    refine op_isN pins s σ H _ _ v u Q I rx ry ⟨rfl, ?_⟩
    cases r1 with
    | scr h => exact hw.elim
    | cls => exact hw.elim
    | typ => exact hw.elim
    | _ => exact hw m H _ .refl hs .bl
  | bl =>
    cases r1 with
    | bl => exact op_isBl pins s σ H _ _ v u Q I rx ry ⟨_, _, rfl, rfl, hw m H _ .refl hs .bl⟩
    | _ => exact hw.elim
  | _ => cases r1 <;> exact hw.elim
theorem op_isnotD : OpR X (compareOp .IsNot) (rD G (dIs true)) := by
  intro pins s σ H x y v u Q I rx ry ⟨Z, m, st, dx, dy, hs, r1, r2, hw⟩
  cases r2 with
  | non =>
    refine op_notN pins s σ H _ _ v u Q I rx ry ⟨rfl, ?_⟩
    cases r1 with
    | scr h => exact hw.elim
    | cls => exact hw.elim
    | typ => exact hw.elim
    | _ => exact hw m H _ .refl hs .bl
  | bl =>
    cases r1 with
    | bl => exact op_notBl pins s σ H _ _ v u Q I rx ry ⟨_, _, rfl, rfl, hw m H _ .refl hs .bl⟩
    | _ => exact hw.elim
  | _ => cases r1 <;> exact hw.elim

/-! ### one-place operators -/
def dUn (g : D → Store → RE D) (fa : DEx) : DEx := fun r st => (fa r st).bind fun x st1 => match g x st1 with
  | .ok z st2 => .ok z st2
  | _ => .stuck
def rU1 (G : Gx) (g : D → Store → RE D) : V → Hp → VK → Prop := fun x H Q => ∃ Z m st dx, RepSt G Z m H st ∧ Rep G Z m H x dx ∧ WpE G (fun _ _ _ => False) Z m H (Rep G Z) Q (g dx st)
theorem un_last {G : Gx} {W : Value → Option Addr → Hp → Prop} {Z : List Addr} {m : Mu} {H : Hp} {Q : VK} {r : RE D} (h : WpE G W Z m H (Rep G Z) Q (match r with | .ok z st2 => .ok z st2 | _ => .stuck)) : WpE G (fun _ _ _ => False) Z m H (Rep G Z) Q r := by
  cases r with
  | ok z st => exact h
  | exc e st => exact h.elim
  | stuck => exact h
theorem un_down {cur : Cur} {W : WX} {g : D → Store → RE D} {fa : DEx} {s : L2.St} {H : Hp} {Q : VK} (h : tDE G cur W (dUn g fa) s H Q) : tUn (rU1 G g) (tDE G cur W fa) s H Q := by
  obtain ⟨Z, m, r, st, hs, he, hw⟩ := h
  exact exp_down hs he hw fun x v st1 m1 H1 _ s1 e1 rx w1 => ⟨Z, m1, st1, x, s1, rx, un_last w1⟩
theorem de_un {cur : Cur} {W : WX} {a : Expr} {pos : Pos} {op : UnaryOp} {g : D → Store → RE D} {fa : DEx} (ho : UnR X (unaryOp op) (rU1 G g)) (ha : DE G cur W X a fa) : DE G cur W X (.UnaryOp op a pos) (dUn g fa) :=
  ⟨peW (pe_un ho ha.pe) fun _ _ _ h => un_down h⟩
def dNeg : D → Store → RE D := fun x st => match x with
  | .int i => .ok (.int (-i)) st
  | _ => .stuck
theorem un_negD : UnR X (unaryOp .USub) (rU1 G dNeg) := by
  intro pins s σ H x v Q I rx h
  obtain ⟨Z, m, st, dx, hs, r1, hw⟩ := h
  cases r1 with
  | int => exact un_neg pins s σ H _ v Q I rx ⟨_, rfl, hw m H _ .refl hs .int⟩
  | _ => exact hw.elim

/-! ### subscripts -/
def itemOf (st : Store) (x : D) (i : Int) : Option D := match x with
  | .str z => if z.length ≤ sizeLine then (atI z.cps.toList i).map fun c => .str ⟨#[c]⟩ else none
  | x => (seqOf st x).bind fun ds => atI ds i
def dIx : DOp2 := fun x y st => match y with
  | .int i => (match itemOf st x i with
    | some d => .ok d st
    | none => .stuck)
  | _ => .stuck
theorem Reps.at_ {Z m H} {vs : List V} {ds : List D} {i : Int} {d : D} (h : Reps G Z m H vs ds) (e : atI ds i = some d) : ∃ v, atI vs i = some v ∧ Rep G Z m H v d := by
  unfold atI at e ⊢
  rw [h.length]
  cases q : ixN ds.length i with
  | none => rw [q] at e; cases e
  | some j => rw [q] at e; exact h.get e
theorem ix_D (hK : X.K = G.K) : IxR X (rD G dIx) := by
  intro value slice pins s σ H x y v u Q I rx ry ⟨Z, m, st, dx, dy, hs, r1, r2, hw⟩ hp
  cases r2 with
  | int =>
    rename_i i
    simp only [dIx] at hw
    cases e : itemOf st dx i with
    | none => rw [e] at hw; exact hw.elim
    | some d =>
      rw [e] at hw
      have sq : ∀ ds, seqOf st dx = some ds → atI ds i = some d → wpAny (model X.prog X.w) X.A (subscriptTail value slice v u) (EP X pins σ Q) X.xe s := fun ds e2 e1 => by
        obtain ⟨a, xs, rfl, h1, h2⟩ := seq_at hs r1 e2
        obtain ⟨z, e3, rz⟩ := h2.at_ e1
        have fin : Q z H := hw m H z .refl hs rz
        rcases h1 with h1 | h1
        · exact ix_list value slice pins s σ H _ _ v u Q I rx ry ⟨a, xs, i, z, rfl, rfl, by rw [hK]; exact h1, e3, fin⟩ hp
        · exact ix_tup value slice pins s σ H _ _ v u Q I rx ry ⟨a, xs, i, z, rfl, rfl, by rw [hK]; exact h1, e3, fin⟩ hp
      have sq2 : (seqOf st dx).bind (fun ds => atI ds i) = some d → wpAny (model X.prog X.w) X.A (subscriptTail value slice v u) (EP X pins σ Q) X.xe s := fun e => by
        cases e2 : seqOf st dx with
        | none => rw [e2] at e; cases e
        | some ds => rw [e2] at e; exact sq ds e2 e
      cases dx with
      | str z =>
        cases r1
        simp only [itemOf] at e
        split at e
        · rename_i hz
          cases e3 : atI z.cps.toList i with
          | none => rw [e3] at e; cases e
          | some c =>
            rw [e3] at e
            cases e
            exact ix_str value slice pins s σ H _ _ v u Q I rx ry ⟨z, i, c, rfl, rfl, hz, e3, hw m H _ .refl hs .str⟩ hp
        · cases e
      | _ => exact sq2 e
  | _ => exact hw.elim
theorem de_ix {cur : Cur} {W : WX} {a b : Expr} {pos : Pos} {fa fb : DEx} (hK : X.K = G.K) (ha : DE G cur W X a fa) (hb : DE G cur W X b fb) (hp : PlainIx b) : DE G cur W X (.Subscript a b pos) (dBin dIx fa fb) :=
  ⟨peW (pe_ix (ix_D hK) ha.pe hb.pe hp) fun _ _ _ h => bin_down h⟩
end
end Dl
namespace Dl
open PySem PySem.Spec PyProof.Rows L2

/-! ## arguments, displays -/
section
variable {G : Gx} {cur : Cur} {W : WX} {X : Cx} {a b c e : Expr} {es rest : List Expr} {pos : Pos}
def dNil : DAs := fun _ st => .ok [] st
def dCons (f : DEx) (g : DAs) : DAs := fun r st => (f r st).bind fun x st1 => (g r st1).bind fun xs st2 => .ok (x :: xs) st2
theorem da_nil : DA G cur W X [] dNil := ⟨paW pa_nil fun _ _ _ ⟨Z, m, r, st, hs, he, hw⟩ => hw m _ [] .refl hs .nil, fun r st xs st1 h => by cases h; rfl⟩
theorem args_down {f : DAs} {Q2 : List V → Hp → Prop} {s : L2.St} {H : Hp} {Z : List Addr} {m : Mu} {r : DEnv} {st : Store} {α β : Type} {A : Mu → Hp → β → α → Prop} {Q : β → Hp → Prop} {k : List D → Store → RE α}
    (hs : RepSt G Z m H st) (he : RepEnv G cur Z m H s r) (hw : WpE G (fun c d H' => W c d s H') Z m H A Q ((f r st).bind k))
    (h2 : ∀ ds vs st1 m1 H1, Grow m H m1 H1 → RepSt G Z m1 H1 st1 → RepEnv G cur Z m1 H1 s r → Reps G Z m1 H1 vs ds → WpE G (fun c d H' => W c d s H') Z m1 H1 A Q (k ds st1) → Q2 vs H1) : tDA G cur W f s H Q2 := by
  refine ⟨Z, m, r, st, hs, he, ?_⟩
  cases ea : f r st with
  | stuck => rw [ea] at hw; exact hw.elim
  | exc e st1 => rw [ea] at hw; exact hw
  | ok x st1 =>
    rw [ea] at hw
    intro m1 H1 v g1 s1 rx
    exact h2 x v st1 m1 H1 g1 s1 (he.grow hs.ok g1) rx (WpE.grow g1 hw)
theorem da_cons {f : DEx} {g : DAs} (ha : DE G cur W X e f) (hr : DA G cur W X es g) (hs : starEach (e :: es) X.env = (false, eval e X.env) :: starEach es X.env := by rfl) : DA G cur W X (e :: es) (dCons f g) :=
  ⟨paW (pa_cons ha.pe hr.pa hs) fun s H Q ⟨Z, m, r, st, hs, he, hw⟩ => exp_down hs he hw fun x v st1 m1 H1 _ s1 e1 rx w1 => args_down s1 e1 w1 fun xs vs st2 m2 H2 g2 s2 e2 rxs w2 =>
    w2 m2 H2 _ .refl s2 (.cons (rx.grow s1.ok g2) rxs), fun r st xs st1 h => by
    unfold dCons at h
    cases ea : f r st with
    | ok a st2 =>
      rw [ea] at h
      simp only [RE.bind] at h
      cases eb : g r st2 with
      | ok b st3 =>
        rw [eb] at h
        cases h
        rw [List.length_cons, List.length_cons, hr.len _ _ _ _ eb]
      | exc x st3 => rw [eb] at h; cases h
      | stuck => rw [eb] at h; cases h
    | exc x st2 => rw [ea] at h; cases h
    | stuck => rw [ea] at h; cases h⟩
def dTup (g : DAs) : DEx := fun r st => (g r st).bind fun xs st1 => if xs.length ≤ sizeLine then .ok (.tup xs) st1 else .stuck
def dLst (g : DAs) : DEx := fun r st => (g r st).bind fun xs st1 => if xs.length ≤ sizeLine then .ok (.lst xs) st1 else .stuck
/-- a display of a list that will be changed -/
def dNew (g : DAs) : DEx := fun r st => (g r st).bind fun xs st1 => if xs.length ≤ sizeLine then .ok (.loc st1.length) (st1 ++ [.lst xs]) else .stuck
theorem de_tup {k} {g : DAs} (h : DA G cur W X es g) : DE G cur W X (.Tuple es k pos) (dTup g) :=
  ⟨peW (pe_tup h.pa) fun s H Q ⟨Z, m, r, st, hs, he, hw⟩ => args_down hs he hw fun xs vs st1 m1 H1 _ s1 e1 rx w1 => by
    obtain ⟨q, w1⟩ := re_ok w1
    exact ⟨by rw [rx.length]; exact q, fun p hp => w1 m1 _ _ (.new hp) (s1.new hp) (new_tup s1 rx hp)⟩⟩
theorem de_lst {g : DAs} (h : DA G cur W X es g) : DE G cur W X (.List es pos) (dLst g) :=
  ⟨peW (pe_lst h.pa) fun s H Q ⟨Z, m, r, st, hs, he, hw⟩ => args_down hs he hw fun xs vs st1 m1 H1 _ s1 e1 rx w1 => by
    obtain ⟨q, w1⟩ := re_ok w1
    exact ⟨by rw [rx.length]; exact q, fun p hp => w1 m1 _ _ (.new hp) (s1.new hp) (new_lst s1 rx hp)⟩⟩
/-- a new cell -/
theorem cell_get {m : Mu} {p : Addr} {i : Nat} {a : Addr} (h : (m ++ [some p])[i]? = some (some a)) : (m[i]? = some (some a)) ∨ (i = m.length ∧ a = p) := by
  by_cases hi : i < m.length
  · rw [List.getElem?_append_left hi] at h; exact .inl h
  · rw [List.getElem?_append_right (Nat.le_of_not_lt hi)] at h
    have hz : i - m.length = 0 := by
      cases q : i - m.length with
      | zero => rfl
      | succ n => rw [q] at h; simp at h
    rw [hz] at h
    simp at h
    exact .inr ⟨by omega, h.symm⟩
theorem Grow.cell {m : Mu} {H : Hp} {p : Addr} {o : HO} (hn : H p = none) : Grow m H (m ++ [some p]) (upd H p o) :=
  ⟨⟨_, rfl⟩, fun b u h k => ⟨by rw [upd_ne (ne_of_none h hn)]; exact h, fun q => by
    rcases List.mem_append.mp q with q | q
    · exact k q
    · have e : b = p := by simpa using q
      rw [e, hn] at h; cases h⟩⟩
theorem RepSt.cellNew {Z : List Addr} {m : Mu} {H : Hp} {st : Store} {p : Addr} {xs : List V} {ds : List D} (hs : RepSt G Z m H st) (r : Reps G Z m H xs ds) (hn : H p = none) :
    RepSt G Z (m ++ [some p]) (upd H p (.lst xs)) (st ++ [.lst ds]) := by
  have g : Grow m H (m ++ [some p]) (upd H p (.lst xs)) := .cell hn
  have hp := not_mu hs hn
  refine ⟨by rw [List.length_append, List.length_append, hs.len]; rfl, fun i j a h1 h2 => ?_, fun i a h => ?_, fun z hz => let ⟨xs, h1, h2⟩ := hs.zs z hz; ⟨xs, (g.keep _ _ h1 h2).1, (g.keep _ _ h1 h2).2⟩⟩
  · rcases cell_get h1 with k1 | ⟨k1, e1⟩
    · rcases cell_get h2 with k2 | ⟨k2, e2⟩
      · exact hs.inj i j a k1 k2
      · subst e2; exact absurd (List.mem_iff_getElem?.mpr ⟨_, k1⟩) hp
    · rcases cell_get h2 with k2 | ⟨k2, e2⟩
      · subst e1; exact absurd (List.mem_iff_getElem?.mpr ⟨_, k2⟩) hp
      · omega
  · rcases cell_get h with h | ⟨h, e⟩
    · obtain ⟨c, e, hc⟩ := hs.cell i a h
      have hi : i < st.length := (List.getElem?_eq_some_iff.mp e).1
      refine ⟨c, by rw [List.getElem?_append_left hi]; exact e, ?_⟩
      have na : ∀ u, H a = some u → upd H p (.lst xs) a = some u := fun u q => by rw [upd_ne (ne_of_none q hn)]; exact q
      cases c with
      | lst ds => obtain ⟨xs, h1, h2⟩ := hc; exact ⟨xs, na _ h1, h2.grow hs.ok g⟩
      | ins c os =>
        obtain ⟨dx, fs, h1, h2, h3, h4, h5⟩ := hc
        refine ⟨dx, fs, na _ h1, by rw [upd_ne (ne_of_none h2 hn)]; exact h2, h3, h4, fun i n w e1 e2 => ?_⟩
        have q := h5 i n w e1 e2
        cases w with
        | none => exact q
        | some d => obtain ⟨v, q1, q2⟩ := q; exact ⟨v, q1, q2.grow hs.ok g⟩
    · subst h; subst e
      exact ⟨.lst ds, by rw [hs.len, List.getElem?_append_right (Nat.le_refl _), Nat.sub_self]; rfl, xs, upd_same, r.grow hs.ok g⟩
theorem new_loc {Z : List Addr} {m : Mu} {H : Hp} {st : Store} {p : Addr} {H' : Hp} (hs : RepSt G Z m H st) : Rep G Z (m ++ [some p]) H' (.ref p) (.loc st.length) :=
  .loc (by rw [← hs.len, List.getElem?_append_right (Nat.le_refl _), Nat.sub_self]; rfl)
theorem de_new {g : DAs} (h : DA G cur W X es g) : DE G cur W X (.List es pos) (dNew g) :=
  ⟨peW (pe_lst h.pa) fun s H Q ⟨Z, m, r, st, hs, he, hw⟩ => args_down hs he hw fun xs vs st1 m1 H1 _ s1 e1 rx w1 => by
    obtain ⟨q, w1⟩ := re_ok w1
    exact ⟨by rw [rx.length]; exact q, fun p hp => w1 _ _ _ (.cell hp) (s1.cellNew rx hp) (new_loc s1)⟩⟩

/-! ## calls of the built-in -/
abbrev DOpN := List D → Store → RE D
def rDN (G : Gx) (g : DOpN) : List V → Hp → VK → Prop := fun xs H Q => ∃ Z m st ds, RepSt G Z m H st ∧ Reps G Z m H xs ds ∧ WpE G (fun _ _ _ => False) Z m H (Rep G Z) Q (g ds st)
def dCallB (g : DOpN) (fa : DAs) : DEx := fun r st => (fa r st).bind fun xs st1 => match g xs st1 with
  | .ok z st2 => .ok z st2
  | _ => .stuck
theorem callb_down {g : DOpN} {fa : DAs} {s : L2.St} {H : Hp} {Q : VK} (h : tDE G cur W (dCallB g fa) s H Q) : tCB (rDN G g) (tDA G cur W fa) s H Q := by
  obtain ⟨Z, m, r, st, hs, he, hw⟩ := h
  exact args_down hs he hw fun xs vs st1 m1 H1 _ s1 e1 rx w1 => ⟨Z, m1, st1, xs, s1, rx, un_last w1⟩
theorem de_callB {x : Str} {p : Pos} {id : String} {g : DOpN} {fa : DAs} (hc : CallR X (.builtin id) (rDN G g)) (hg : Gl X x) (hm : X.mg x = none) (hv : bootBuiltins x = some (.builtin id)) (ha : DA G cur W X (e :: es) fa) (hn : x ≠ "__name__" := by decide) (hdb : (x == ("__debug__" : Str)) = false := by decide)
    (he : starEach (e :: es) X.env = (false, eval e X.env) :: starEach es X.env := by rfl) (hpl : (backTo pos (starEach es X.env)).any (·.1) = false := by rfl) : DE G cur W X (.Call (.Name x p) (e :: es) [] pos) (dCallB g fa) :=
  ⟨peW (pe_callB hc hg hm hv ha.pa hn hdb he hpl) fun _ _ _ h => callb_down h⟩
theorem de_callTy {x : Str} {p : Pos} {T : String} {g : DOpN} {fa : DAs} (hc : CallR X (.type T) (rDN G g)) (hg : Gl X x) (hm : X.mg x = none) (hv : bootBuiltins x = some (.type T)) (ha : DA G cur W X (e :: es) fa) (hn : x ≠ "__name__" := by decide) (hdb : (x == ("__debug__" : Str)) = false := by decide)
    (he : starEach (e :: es) X.env = (false, eval e X.env) :: starEach es X.env := by rfl) (hpl : (backTo pos (starEach es X.env)).any (·.1) = false := by rfl) : DE G cur W X (.Call (.Name x p) (e :: es) [] pos) (dCallB g fa) :=
  ⟨peW (pe_callTy hc hg hm hv ha.pa hn hdb he hpl) fun _ _ _ h => callb_down h⟩
theorem de_callG {x : Str} {p : Pos} {id : String} {g : DOpN} {fa : DAs} (hc : CallR X (.builtin id) (rDN G g)) (hg : Gl X x) (hm : X.mg x = some (.builtin id)) (ha : DA G cur W X (e :: es) fa) (hdb : (x == ("__debug__" : Str)) = false := by decide)
    (he : starEach (e :: es) X.env = (false, eval e X.env) :: starEach es X.env := by rfl) (hpl : (backTo pos (starEach es X.env)).any (·.1) = false := by rfl) : DE G cur W X (.Call (.Name x p) (e :: es) [] pos) (dCallB g fa) :=
  ⟨peW (pe_callBfun hc hg hm ha.pa hdb he hpl) fun _ _ _ h => callb_down h⟩

def dLen : DOpN := fun ds st => match ds with
  | [.str z] => if z.length ≤ sizeLine then .ok (.int z.length) st else .stuck
  | [d] => (match seqOf st d with
    | some xs => .ok (.int xs.length) st
    | none => .stuck)
  | _ => .stuck
theorem reps1 {Z m H} {vs : List V} {d : D} (h : Reps G Z m H vs [d]) : ∃ v, vs = [v] ∧ Rep G Z m H v d := by
  cases h with
  | cons r t => cases t; exact ⟨_, rfl, r⟩
theorem reps2 {Z m H} {vs : List V} {d d' : D} (h : Reps G Z m H vs [d, d']) : ∃ v w, vs = [v, w] ∧ Rep G Z m H v d ∧ Rep G Z m H w d' := by
  cases h with
  | cons r t =>
    obtain ⟨w, rfl, r'⟩ := reps1 t
    exact ⟨_, w, rfl, r, r'⟩
theorem cr_lenD (hK : X.K = G.K) : CallR X (.builtin "len") (rDN G dLen) := by
  intro pins s σ H xs us Q I rx h
  obtain ⟨Z, m, st, ds, hs, r, hw⟩ := h
  match ds, r, hw with
  | [], r, hw => exact hw.elim
  | d :: d' :: t, r, hw => cases d <;> exact hw.elim
  | [d], r, hw =>
    obtain ⟨v, rfl, r1⟩ := reps1 r
    have sq : WpE G (fun _ _ _ => False) Z m H (Rep G Z) Q (match seqOf st d with | some xs => .ok (.int xs.length) st | none => .stuck) → wpAny (model X.prog X.w) X.A (call (.builtin "len") us) (EP X pins σ Q) X.xe s := fun hw => by
      cases e : seqOf st d with
      | none => rw [e] at hw; exact hw.elim
      | some ys =>
        rw [e] at hw
        obtain ⟨a, xs, rfl, h1, h2⟩ := seq_at hs r1 e
        refine call_len_seq pins s σ H _ us Q I rx ⟨a, xs, rfl, by rw [hK]; exact h1, ?_⟩
        rw [h2.length]
        exact hw m H _ .refl hs .int
    cases d with
    | str z =>
      cases r1
      obtain ⟨q, hw⟩ := re_ok hw
      exact call_len_str pins s σ H _ us Q I rx ⟨z, rfl, q, hw m H _ .refl hs .int⟩
    | _ => exact sq hw
def dAbs : DOpN := fun ds st => match ds with
  | [.int i] => .ok (.int (i.natAbs : Int)) st
  | _ => .stuck
theorem abs_eq (i : Int) : (if i < 0 then -i else i) = (i.natAbs : Int) := by
  split <;> omega
theorem cr_absD : CallR X (.builtin "abs") (rDN G dAbs) := by
  intro pins s σ H xs us Q I rx ⟨Z, m, st, ds, hs, r, hw⟩
  match ds, r, hw with
  | [.int i], r, hw =>
    obtain ⟨v, rfl, r1⟩ := reps1 r
    cases r1
    exact call_abs pins s σ H _ us Q I rx ⟨i, rfl, by rw [abs_eq]; exact hw m H _ .refl hs .int⟩
def dInt : DOpN := fun ds st => match ds with
  | [.int i] => .ok (.int i) st
  | [.bl k] => .ok (.int (if k then 1 else 0)) st
  | _ => .stuck
theorem cr_intD : CallR X (.type "int") (rDN G dInt) := by
  intro pins s σ H xs us Q I rx ⟨Z, m, st, ds, hs, r, hw⟩
  match ds, r, hw with
  | [.int i], r, hw =>
    obtain ⟨v, rfl, r1⟩ := reps1 r
    cases r1
    exact call_int1 pins s σ H _ us Q I rx (.inl ⟨i, rfl, hw m H _ .refl hs .int⟩)
  | [.bl k], r, hw =>
    obtain ⟨v, rfl, r1⟩ := reps1 r
    cases r1
    exact call_int1 pins s σ H _ us Q I rx (.inr ⟨k, rfl, hw m H _ .refl hs .int⟩)
def dStrI : DOpN := fun ds st => match ds with
  | [.int i] => if i.natAbs.log2 < 1920 then .ok (.str (toString i)) st else .stuck
  | [.str x] => .ok (.str x) st
  | _ => .stuck
theorem cr_strD : CallR X (.type "str") (rDN G dStrI) := by
  intro pins s σ H xs us Q I rx ⟨Z, m, st, ds, hs, r, hw⟩
  match ds, r, hw with
  | [.int i], r, hw =>
    obtain ⟨v, rfl, r1⟩ := reps1 r
    cases r1
    obtain ⟨q, hw⟩ := re_ok hw
    exact call_str_int pins s σ H _ us Q I rx ⟨i, rfl, q, hw m H _ .refl hs .str⟩
  | [.str x], r, hw =>
    obtain ⟨v, rfl, r1⟩ := reps1 r
    cases r1
    exact SkE.call_str_str pins s σ H _ us Q I rx ⟨x, rfl, hw m H _ .refl hs .str⟩
def dGcd : DOpN := fun ds st => match ds with
  | [.int i, .int j] => .ok (.int ((Nat.gcd i.natAbs j.natAbs : Nat) : Int)) st
  | _ => .stuck
theorem cr_gcdD : CallR X (.builtin "math.gcd") (rDN G dGcd) := by
  intro pins s σ H xs us Q I rx ⟨Z, m, st, ds, hs, r, hw⟩
  match ds, r, hw with
  | [.int i, .int j], r, hw =>
    obtain ⟨v, w, rfl, r1, r2⟩ := reps2 r
    cases r1; cases r2
    exact cr_gcd pins s σ H _ us Q I rx ⟨i, j, rfl, hw m H _ .refl hs .int⟩
/-- tuple(x), list(x) of what is read -/
def dTupOf : DOpN := fun ds st => match ds with
  | [d] => (match seqOf st d with
    | some xs => .ok (.tup xs) st
    | none => .stuck)
  | _ => .stuck
theorem seq_tup {Z m H} {st : Store} {d : D} {v : V} {ds : List D} (hs : RepSt G Z m H st) (r : Rep G Z m H v d) (h : seqOf st d = some ds) :
    ∃ a xs, v = .ref a ∧ ((SqL G.K H a xs) ∨ (SqT G.K H a xs ∧ d = .tup ds)) ∧ Reps G Z m H xs ds := by
  cases r with
  | tup h1 h2 => cases h; exact ⟨_, _, rfl, .inr ⟨h1, rfl⟩, h2⟩
  | lst h1 h3 h4 h2 => cases h; exact ⟨_, _, rfl, .inl (SqL.of h1), h2⟩
  | scr h1 => cases h; exact ⟨_, _, rfl, .inl h1.seq, Reps.ints _⟩
  | loc h1 =>
    rename_i n a
    obtain ⟨c, e, hc⟩ := hs.cell _ _ h1
    simp only [seqOf, e] at h
    cases c with
    | lst zs => cases h; obtain ⟨xs, h2, h3⟩ := hc; exact ⟨a, xs, rfl, .inl (SqL.of h2), h3⟩
    | ins c os => cases h
  | _ => cases h
theorem cr_tupleD (hK : X.K = G.K) : CallR X (.type "tuple") (rDN G dTupOf) := by
  intro pins s σ H xs us Q I rx ⟨Z, m, st, ds, hs, r, hw⟩
  match ds, r, hw with
  | [d], r, hw =>
    obtain ⟨v, rfl, r1⟩ := reps1 r
    simp only [dTupOf] at hw
    cases e : seqOf st d with
    | none => rw [e] at hw; exact hw.elim
    | some ys =>
      rw [e] at hw
      obtain ⟨a, xs, rfl, h1, h2⟩ := seq_tup hs r1 e
      rcases h1 with h1 | ⟨h1, e1⟩
      · exact call_tuple_of pins s σ H _ us Q I rx ⟨a, xs, rfl, .inl ⟨by rw [hK]; exact h1, fun p hp => hw m _ _ (.new hp) (hs.new hp) (new_tup hs h2 hp)⟩⟩
      · subst e1
        exact call_tuple_of pins s σ H _ us Q I rx ⟨a, xs, rfl, .inr ⟨by rw [hK]; exact h1, hw m H _ .refl hs r1⟩⟩
def dLstOf : DOpN := fun ds st => match ds with
  | [d] => (match seqOf st d with
    | some xs => .ok (.lst xs) st
    | none => .stuck)
  | _ => .stuck
/-- list(x), to be changed -/
def dNewOf : DOpN := fun ds st => match ds with
  | [d] => (match seqOf st d with
    | some xs => .ok (.loc st.length) (st ++ [.lst xs])
    | none => .stuck)
  | _ => .stuck
theorem cr_listD (hK : X.K = G.K) : CallR X (.type "list") (rDN G dLstOf) := by
  intro pins s σ H xs us Q I rx ⟨Z, m, st, ds, hs, r, hw⟩
  match ds, r, hw with
  | [d], r, hw =>
    obtain ⟨v, rfl, r1⟩ := reps1 r
    simp only [dLstOf] at hw
    cases e : seqOf st d with
    | none => rw [e] at hw; exact hw.elim
    | some ys =>
      rw [e] at hw
      obtain ⟨a, xs, rfl, h1, h2⟩ := seq_at hs r1 e
      exact call_list_of pins s σ H _ us Q I rx ⟨a, xs, rfl, by rw [hK]; exact h1, fun p hp => hw m _ _ (.new hp) (hs.new hp) (new_lst hs h2 hp)⟩
theorem cr_listN (hK : X.K = G.K) : CallR X (.type "list") (rDN G dNewOf) := by
  intro pins s σ H xs us Q I rx ⟨Z, m, st, ds, hs, r, hw⟩
  match ds, r, hw with
  | [d], r, hw =>
    obtain ⟨v, rfl, r1⟩ := reps1 r
    simp only [dNewOf] at hw
    cases e : seqOf st d with
    | none => rw [e] at hw; exact hw.elim
    | some ys =>
      rw [e] at hw
      obtain ⟨a, xs, rfl, h1, h2⟩ := seq_at hs r1 e
      exact call_list_of pins s σ H _ us Q I rx ⟨a, xs, rfl, by rw [hK]; exact h1, fun p hp => hw _ _ _ (.cell hp) (hs.cellNew h2 hp) (new_loc hs)⟩
end

/-! ## statements -/
section
variable {G : Gx} {cur : Cur} {W : WX} {X : Cx} {e c : Expr} {st0 : Stmt} {ss us : List Stmt} {pos : Pos}
def dNext : DSt := fun r st => .nx r st
def dSeq (f g : DSt) : DSt := fun r st => match f r st with
  | .nx r1 st1 => g r1 st1
  | o => o
theorem db_nil : DB G cur W X [] dNext := ⟨pssW pss_nil fun _ _ _ ⟨_, m, _, _, hs, he, hw⟩ => hw m _ _ .refl hs he⟩
theorem seq_down {f g : DSt} {E : Ends} {s : L2.St} {H : Hp} (h : tDS G cur W (dSeq f g) E s H) : tSeq (tDS G cur W f) (tDS G cur W g) E s H := by
  obtain ⟨Z, m, r, st, hs, he, hw⟩ := h
  refine ⟨Z, m, r, st, hs, he, ?_⟩
  unfold dSeq at hw
  cases ef : f r st with
  | nx r1 st1 =>
    rw [ef] at hw
    exact fun m1 H1 s1 g1 hs1 he1 => ⟨Z, m1, r1, st1, hs1, he1, WpS.grow g1 hw⟩
  | rt d st1 => rw [ef] at hw; exact hw
  | bk r1 st1 => rw [ef] at hw; exact hw
  | ct r1 st1 => rw [ef] at hw; exact hw
  | ex x r1 st1 => rw [ef] at hw; exact hw
  | stuck => rw [ef] at hw; exact hw
theorem db_cons {f g : DSt} (h1 : DS G cur W X st0 f) (h2 : DB G cur W X ss g) : DB G cur W X (st0 :: ss) (dSeq f g) := ⟨pssW (pss_cons h1.ps h2.pss) fun _ _ _ h => seq_down h⟩
theorem db_one {f : DSt} (h1 : DS G cur W X st0 f) : DB G cur W X [st0] f := ⟨pss_one h1.ps⟩
theorem ds_pass : DS G cur W X (.Pass pos) dNext := ⟨psW ps_pass fun _ _ _ ⟨_, m, _, _, hs, he, hw⟩ => hw m _ _ .refl hs he⟩
def dBrk : DSt := fun r st => .bk r st
def dCnt : DSt := fun r st => .ct r st
theorem ds_break : DS G cur W X (.Break pos) dBrk := ⟨psW ps_break fun _ _ _ ⟨_, m, _, _, hs, he, hw⟩ => hw m _ _ .refl hs he⟩
theorem ds_cont : DS G cur W X (.Continue pos) dCnt := ⟨psW ps_continue fun _ _ _ ⟨_, m, _, _, hs, he, hw⟩ => hw m _ _ .refl hs he⟩
/-- an expression within a statement -/
def sBind {α : Type} (x : RE α) (r : DEnv) (k : α → Store → RS) : RS := match x with
  | .ok a st => k a st
  | .exc e st => .ex e r st
  | .stuck => .stuck
theorem sexp_down {f : DEx} {Q2 : VK} {s : L2.St} {H : Hp} {Z : List Addr} {m : Mu} {r : DEnv} {st : Store} {E : Ends} {k : D → Store → RS}
    (hs : RepSt G Z m H st) (he : RepEnv G cur Z m H s r) (hw : WpS G cur W Z m H E (sBind (f r st) r k))
    (h2 : ∀ d v st1 m1 H1, Grow m H m1 H1 → RepSt G Z m1 H1 st1 → RepEnv G cur Z m1 H1 s r → Rep G Z m1 H1 v d → WpS G cur W Z m1 H1 E (k d st1) → Q2 v H1) : tDE G cur W f s H Q2 := by
  refine ⟨Z, m, r, st, hs, he, ?_⟩
  unfold sBind at hw
  cases ea : f r st with
  | stuck => rw [ea] at hw; exact hw.elim
  | exc e st1 => rw [ea] at hw; exact fun m1 H1 c d g1 s1 rx => hw m1 H1 s c d g1 s1 (he.grow hs.ok g1) rx
  | ok x st1 =>
    rw [ea] at hw
    intro m1 H1 v g1 s1 rx
    exact h2 x v st1 m1 H1 g1 s1 (he.grow hs.ok g1) rx (WpS.grow g1 hw)
theorem stst_down {f : DTs} {Q2 : Bool → Hp → Prop} {s : L2.St} {H : Hp} {Z : List Addr} {m : Mu} {r : DEnv} {st : Store} {E : Ends} {k : Bool → Store → RS}
    (hs : RepSt G Z m H st) (he : RepEnv G cur Z m H s r) (hw : WpS G cur W Z m H E (sBind (f r st) r k))
    (h2 : ∀ b st1 m1 H1, RepSt G Z m1 H1 st1 → RepEnv G cur Z m1 H1 s r → WpS G cur W Z m1 H1 E (k b st1) → Q2 b H1) : tDT G cur W f s H Q2 := by
  refine ⟨Z, m, r, st, hs, he, ?_⟩
  unfold sBind at hw
  cases ea : f r st with
  | stuck => rw [ea] at hw; exact hw.elim
  | exc e st1 => rw [ea] at hw; exact fun m1 H1 c d g1 s1 rx => hw m1 H1 s c d g1 s1 (he.grow hs.ok g1) rx
  | ok x st1 =>
    rw [ea] at hw
    intro m1 H1 v g1 s1 rx
    subst rx
    exact h2 v st1 m1 H1 s1 (he.grow hs.ok g1) (WpS.grow g1 hw)
def dRet (f : DEx) : DSt := fun r st => sBind (f r st) r fun d st1 => .rt d st1
theorem ds_ret {f : DEx} (h : DE G cur W X e f) : DS G cur W X (.Return (some e) pos) (dRet f) :=
  ⟨psW (ps_ret h.pe) fun E s H ⟨Z, m, r, st, hs, he, hw⟩ => sexp_down hs he hw fun d v st1 m1 H1 _ s1 e1 rv w1 => w1 m1 H1 v .refl s1 rv⟩
def dRetN : DSt := fun _ st => .rt .non st
theorem ds_retN : DS G cur W X (.Return none pos) dRetN := ⟨psW ps_retN fun _ _ H ⟨_, m, _, _, hs, _, hw⟩ => hw m H _ .refl hs .non⟩
def dDrop (f : DEx) : DSt := fun r st => sBind (f r st) r fun _ st1 => .nx r st1
theorem ds_expr {f : DEx} (h : DE G cur W X e f) (hs : swapsWith e none pos.line X.env = pure false := by rfl) : DS G cur W X (.Expr e pos) (dDrop f) :=
  ⟨psW (ps_expr h.pe hs) fun E s H ⟨Z, m, r, st, hs, he, hw⟩ => sexp_down hs he hw fun d v st1 m1 H1 _ s1 e1 rv w1 => w1 m1 H1 s .refl s1 e1⟩
def dIf (ft : DTs) (f g : DSt) : DSt := fun r st => sBind (ft r st) r fun k st1 => if k = true then f r st1 else g r st1
theorem ds_if {ft : DTs} {f g : DSt} {a b : List Stmt} (hc : DT G cur W X c ft) (ha : DB G cur W X a f) (hb : DB G cur W X b g) : DS G cur W X (.If c a b pos) (dIf ft f g) :=
  ⟨psW (ps_if hc.pt ha.pss hb.pss) fun E s H ⟨Z, m, r, st, hs, he, hw⟩ => stst_down hs he hw fun k st1 m1 H1 s1 e1 w1 => by
    cases k with
    | true => exact iteT ⟨Z, m1, r, st1, s1, e1, w1⟩
    | false => exact iteF ⟨Z, m1, r, st1, s1, e1, w1⟩⟩
/-! ### stores -/
theorem RepEnv.set {Z m H} {s : L2.St} {r : DEnv} {v : V} {d : D} (h : RepEnv G cur Z m H s r) (rv : Rep G Z m H v d) (i : Nat) : RepEnv G cur Z m H (s.set i (some v)) (r.set i (.val d)) := by
  refine ⟨by rw [List.length_set, List.length_set]; exact h.len, fun j sl e => ?_⟩
  by_cases q : i = j
  · subst q
    have hi : i < r.length := by
      have := (List.getElem?_eq_some_iff.mp e).1
      rwa [List.length_set] at this
    rw [List.getElem?_set_self hi] at e
    cases e
    exact ⟨some v, List.getElem?_set_self (by rw [h.len]; exact hi), v, rfl, rv⟩
  · rw [List.getElem?_set_ne q] at e
    obtain ⟨o, e1, e2⟩ := h.at_ j sl e
    exact ⟨o, by rw [List.getElem?_set_ne q]; exact e1, e2⟩
theorem RepEnv.unset {Z m H} {s : L2.St} {r : DEnv} {o : Option V} (h : RepEnv G cur Z m H s r) (i : Nat) : RepEnv G cur Z m H (s.set i o) (r.set i .no) := by
  refine ⟨by rw [List.length_set, List.length_set]; exact h.len, fun j sl e => ?_⟩
  by_cases q : i = j
  · subst q
    have hi : i < r.length := by
      have := (List.getElem?_eq_some_iff.mp e).1
      rwa [List.length_set] at this
    rw [List.getElem?_set_self hi] at e
    cases e
    exact ⟨o, List.getElem?_set_self (by rw [h.len]; exact hi), by cases o <;> trivial⟩
  · rw [List.getElem?_set_ne q] at e
    obtain ⟨o', e1, e2⟩ := h.at_ j sl e
    exact ⟨o', by rw [List.getElem?_set_ne q]; exact e1, e2⟩
/-- targets -/
abbrev DTg := D → DEnv → Store → RS
structure DG (G : Gx) (cur : Cur) (W : WX) (X : Cx) (tg : Expr) (g : DTg) : Prop where
  run : ∃ t : TG, PG X tg t ∧ ∀ (Z : List Addr) (m : Mu) (H : Hp) (s : L2.St) (r : DEnv) (st : Store) (v : V) (d : D) (E : Ends), RepSt G Z m H st → RepEnv G cur Z m H s r → Rep G Z m H v d →
    (∃ r1 st1, g d r st = .nx r1 st1) → WpS G cur W Z m H E (g d r st) → t v s H E.nx
def gSet (i : Nat) : DTg := fun d r st => .nx (r.set i (.val d)) st
theorem dg_name {i : Nat} {x : Str} (h : PG X (.Name x pos) (gName i)) : DG G cur W X (.Name x pos) (gSet i) :=
  ⟨gName i, h, fun Z m H s r st v d E hs he rv _ hw => hw m H _ .refl hs (he.set rv i)⟩
def dAsg (f : DEx) (g : DTg) : DSt := fun r st => sBind (f r st) r fun d st1 => match g d r st1 with
  | .nx r1 st2 => .nx r1 st2
  | _ => .stuck
theorem ds_asg {tg : Expr} {f : DEx} {g : DTg} (he : DE G cur W X e f) (hg : DG G cur W X tg g) (hs : swapsWithSole [tg] e pos.line X.env = pure false := by rfl) (hw : swappedStores [tg] e X.env = pure none := by rfl)
    (h1 : (assignEach [tg] X.env).map (·.2) = [assign tg X.env] := by rfl) : DS G cur W X (.Assign [tg] e pos) (dAsg f g) := by
  obtain ⟨t, pg, k⟩ := hg.run
  exact ⟨psW (ps_asg he.pe pg hs hw h1) fun E s H ⟨Z, m, r, st, hs, he, hw⟩ => sexp_down hs he hw fun d v st1 m1 H1 _ s1 e1 rv w1 => by
    cases eg : g d r st1 with
    | nx r1 st2 => rw [eg] at w1; exact k Z m1 H1 s r st1 v d E s1 e1 rv ⟨r1, st2, eg⟩ (by rw [eg]; exact w1)
    | _ => rw [eg] at w1; exact w1.elim⟩
def dSet (i : Nat) (f : DEx) : DSt := fun r st => sBind (f r st) r fun d st1 => .nx (r.set i (.val d)) st1
theorem ds_set {i : Nat} {x : Str} {f : DEx} {p' : Pos} (hN : X.N.Nodup) (hi : X.N[i]? = some x) (hx : Loc X.env.scope x) (he : DE G cur W X e f) (hs : swapsWith e (some (.Name x p')) pos.line X.env = pure false := by rfl) (hf : X.fn x = true ∨ X.env.scope.names.lookup x = some .local := by first | exact .inl rfl | exact .inr rfl | assumption) :
    DS G cur W X (.Assign [.Name x p'] e pos) (dSet i f) :=
  ⟨psW (ps_set hN hi hx he.pe hs hf) fun E s H ⟨Z, m, r, st, hs, he, hw⟩ => sexp_down hs he hw fun d v st1 m1 H1 _ s1 e1 rv w1 => w1 m1 H1 _ .refl s1 (e1.set rv i)⟩
/-- (a, b, ..) = a tuple or list of that length -/
abbrev DTgs := List D → DEnv → Store → RS
structure DGs (G : Gx) (cur : Cur) (W : WX) (X : Cx) (tgs : List Expr) (g : DTgs) : Prop where
  run : ∃ t : TGs, PGs X tgs t ∧ ∀ (Z : List Addr) (m : Mu) (H : Hp) (s : L2.St) (r : DEnv) (st : Store) (vs : List V) (ds : List D) (E : Ends), RepSt G Z m H st → RepEnv G cur Z m H s r → Reps G Z m H vs ds →
    (∃ r1 st1, g ds r st = .nx r1 st1) → WpS G cur W Z m H E (g ds r st) → t vs s H E.nx
def gNilD : DTgs := fun ds r st => match ds with
  | [] => .nx r st
  | _ => .stuck
def gConsD (g : DTg) (h : DTgs) : DTgs := fun ds r st => match ds with
  | d :: t => (match g d r st with
    | .nx r1 st1 => h t r1 st1
    | _ => .stuck)
  | [] => .stuck
theorem dgs_nil : DGs G cur W X [] gNilD :=
  ⟨gNil, pgs_nil, fun Z m H s r st vs ds E hs he rv ⟨r1, st1, e⟩ hw => by
    cases rv with
    | nil => exact ⟨rfl, hw m H s .refl hs he⟩
    | cons _ _ => cases e⟩
theorem dgs_cons {tg : Expr} {tgs : List Expr} {g : DTg} {h : DTgs} (h1 : DG G cur W X tg g) (h2 : DGs G cur W X tgs h)
    (hs : (assignEach (tg :: tgs) X.env).map (·.2) = assign tg X.env :: (assignEach tgs X.env).map (·.2) := by rfl) : DGs G cur W X (tg :: tgs) (gConsD g h) := by
  obtain ⟨t, pg, k⟩ := h1.run
  obtain ⟨u, pgs, l⟩ := h2.run
  refine ⟨gCons t u, pgs_cons pg pgs hs, fun Z m H s r st vs ds E hs he rv ⟨r1, st1, e⟩ hw => ?_⟩
  cases rv with
  | nil => cases e
  | @cons v d vt dt r1v rt =>
    refine ⟨v, vt, rfl, ?_⟩
    simp only [gConsD] at e hw
    cases eg : g d r st with
    | nx r2 st2 =>
      rw [eg] at e hw
      refine k Z m H s r st v d { E with nx := fun s' H' => u vt s' H' E.nx } hs he r1v ⟨r2, st2, eg⟩ ?_
      rw [eg]
      exact fun m1 H1 s1 g1 hs1 he1 => l Z m1 H1 s1 r2 st2 vt dt E hs1 he1 (rt.grow hs.ok g1) ⟨r1, st1, e⟩ (WpS.grow g1 hw)
    | _ => rw [eg] at hw; exact hw.elim
def gTupD (n : Nat) (h : DTgs) : DTg := fun d r st => match d with
  | .tup ds => if ds.length = n then h ds r st else .stuck
  | _ => .stuck
theorem dg_tup {es : List Expr} {k n : Nat} {h : DTgs} (hK : X.K = G.K) (hc : X.calm = true) (hh : DGs G cur W X es h) (hn : (assignEach es X.env).length = n := by rfl) (hst : (assignEach es X.env).findIdx? (·.1) = none := by rfl) : DG G cur W X (.Tuple es k pos) (gTupD n h) := by
  obtain ⟨t, pg, l⟩ := hh.run
  refine ⟨gTup X.K n t, pg_tup hc pg hn hst, fun Z m H s r st v d E hs he rv ⟨r1, st1, e⟩ hw => ?_⟩
  cases rv with
  | tup h1 h2 =>
    simp only [gTupD] at e hw
    split at hw
    · rename_i q
      rw [if_pos q] at e
      exact ⟨_, _, rfl, by rw [hK]; exact h1, by rw [h2.length]; exact q, l Z m H s r st _ _ E hs he h2 ⟨r1, st1, e⟩ hw⟩
    · exact hw.elim
  | _ => cases e
/-- x += e -/
def dAug (i : Nat) (g : DOp2) (f : DEx) : DSt := fun r st => match r[i]? with
  | some (.val x) => sBind (f r st) r fun y st1 => (match g x y st1 with
    | .ok z st2 => .nx (r.set i (.val z)) st2
    | _ => .stuck)
  | _ => .stuck
theorem ds_augAdd {i : Nat} {x : Str} {f : DEx} {p' : Pos} (hN : X.N.Nodup) (hi : X.N[i]? = some x) (hx : Loc X.env.scope x) (he : DE G cur W X e f) (hf : X.fn x = true ∨ X.env.scope.names.lookup x = some .local := by first | exact .inl rfl | exact .inr rfl | assumption) :
    DS G cur W X (.AugAssign (.Name x p') .Add e pos) (dAug i (fun x y st => match x, y with | .int a, .int b => .ok (.int (a + b)) st | _, _ => .stuck) f) :=
  ⟨psW (ps_aug hN hi hx he.pe ip_add hf) fun E s H ⟨Z, m, r, st, hs, he, hw⟩ => by
    unfold dAug at hw
    split at hw
    · rename_i dx ex
      obtain ⟨o, e1, v0, e2, rv⟩ := he.at_ i _ ex
      refine ⟨v0, by rw [e1, e2], sexp_down hs he hw fun d u st1 m1 H1 g1 s1 e1 ru w1 => ?_⟩
      cases rv with
      | int => cases ru with
        | int => exact ⟨_, _, rfl, rfl, w1 m1 H1 _ .refl s1 (e1.set .int i)⟩
        | _ => exact w1.elim
      | _ => exact w1.elim
    · exact hw.elim⟩
end
end Dl
namespace Dl
open PySem PySem.Spec PyProof.Rows L2

/-! ## what a loop walks -/
theorem RepSt.same {G : Gx} {Z : List Addr} {m : Mu} {H H' : Hp} {st : Store} (hs : RepSt G Z m H st) (k : ∀ b o, H b = some o → H' b = some o) : RepSt G Z m H' st := by
  have g : Grow m H m H' := ⟨⟨[], by simp⟩, fun b o h q => ⟨k b o h, q⟩⟩
  refine ⟨hs.len, hs.inj, fun i a h => ?_, fun z hz => let ⟨xs, h1, h2⟩ := hs.zs z hz; ⟨xs, k _ _ h1, h2⟩⟩
  obtain ⟨c, e, hc⟩ := hs.cell i a h
  refine ⟨c, e, ?_⟩
  cases c with
  | lst ds => obtain ⟨xs, h1, h2⟩ := hc; exact ⟨xs, k _ _ h1, h2.grow hs.ok g⟩
  | ins c os =>
    obtain ⟨dx, fs, h1, h2, h3, h4, h5⟩ := hc
    refine ⟨dx, fs, k _ _ h1, k _ _ h2, h3, h4, fun i n w e1 e2 => ?_⟩
    have q := h5 i n w e1 e2
    cases w with
    | none => exact q
    | some d => obtain ⟨v, q1, q2⟩ := q; exact ⟨v, q1, q2.grow hs.ok g⟩
/-- a cell's list that the walk leans on stands as it was -/
def gdOk (o : Option Nat) (all : List D) (st : Store) : Prop := match o with
  | none => True
  | some n => st[n]? = some (.lst all)
/-- a further ban -/
def BanOk (Z Z' : List Addr) (H : Hp) : Prop := ∀ z ∈ Z', z ∈ Z ∨ H z = none
structure ItOk (G : Gx) (Z : List Addr) (J : It) (m0 : Mu) (H0 : Hp) (o : Option Nat) (ds : List D) : Prop where
  go : ∀ (Y : List Addr) (i : Nat) (d : D) (m : Mu) (H : Hp) (st : Store), BanOk Z Y H0 → Grow m0 H0 m H → RepSt G Y m H st → gdOk o ds st → ds[i]? = some d →
    J.go i H ∧ ∀ x H', J.yld i H x H' → (∀ b u, H b = some u → H' b = some u) ∧ Rep G Y m H' x d
  stop : ∀ (Y : List Addr) (i : Nat) (m : Mu) (H : Hp) (st : Store), BanOk Z Y H0 → Grow m0 H0 m H → RepSt G Y m H st → gdOk o ds st → ds.length ≤ i → J.stop i H
section
variable {G : Gx} {Z Y : List Addr} {m : Mu} {H : Hp}
mutual
theorem Rep.banL (n : BanOk Z Y H) : ∀ {v d}, Rep G Z m H v d → Rep G Y m H v d
  | _, _, .non => .non
  | _, _, .bl => .bl
  | _, _, .int => .int
  | _, _, .str => .str
  | _, _, .tup h r => .tup h (Reps.banL n r)
  | _, _, .lst h k z r => .lst h k (fun w => (n _ w).elim z fun u => by rw [u] at h; cases h) (Reps.banL n r)
  | _, _, .loc h => .loc h
  | _, _, .obj h o k f l r => .obj h o k f l (Reps.banL n r)
  | _, _, .scr h => .scr h
  | _, _, .cls => .cls
  | _, _, .typ => .typ
theorem Reps.banL (n : BanOk Z Y H) : ∀ {vs ds}, Reps G Z m H vs ds → Reps G Y m H vs ds
  | _, _, .nil => .nil
  | _, _, .cons r t => .cons (Rep.banL n r) (Reps.banL n t)
end
theorem BanOk.refl : BanOk Z Z H := fun _ h => .inl h
theorem BanOk.cons {q : Addr} (h : H q = none) : BanOk Z (q :: Z) H := fun z hz => by
  rcases List.mem_cons.mp hz with e | e
  · exact .inr (e ▸ h)
  · exact .inl e
end
structure Itm where
  ds : List D
  o : Option Nat := none
abbrev DIt := DEnv → Store → RE Itm
/-- what is asked of what a loop walks -/
def WpI (G : Gx) (W : Value → Option Addr → Hp → Prop) (Z : List Addr) (m : Mu) (H : Hp) (Q : It → Hp → Prop) : RE Itm → Prop
  | .ok a st => ∀ m' H' J, Grow m H m' H' → RepSt G Z m' H' st → ItOk G Z J m' H' a.o a.ds → Q J H'
  | .exc e st => ∀ m' H' cls d, Grow m H m' H' → RepSt G Z m' H' st → RepX G Z m' H' cls d e → W cls d H'
  | .stuck => False
structure DI (G : Gx) (cur : Cur) (W : WX) (X : Cx) (tg iter : Expr) (f : DIt) : Prop where
  run : ∃ wi : TI, PI X tg iter wi ∧ ∀ (s : L2.St) (H : Hp) (Q : It → Hp → Prop) (Z : List Addr) (m : Mu) (r : DEnv) (st : Store), RepSt G Z m H st → RepEnv G cur Z m H s r → WpI G (fun c d H' => W c d s H') Z m H Q (f r st) → wi s H Q

section
variable {G : Gx} {cur : Cur} {W : WX} {X : Cx} {e tg iter : Expr} {pos : Pos}
theorem piOr {w1 w2 : TI} (h1 : PI X tg e w1) (h2 : PI X tg e w2) : PI X tg e (fun s H R => w1 s H R ∨ w2 s H R) := ⟨fun p s r H R I q => q.elim (h1.run p s r H R I) (h2.run p s r H R I)⟩
theorem it_list {Z : List Addr} {m : Mu} {H : Hp} {a : Addr} {xs : List V} {ds : List D} (ok : MuOk m H) (hr : Reps G Z m H xs ds) (hs : ∀ m' H', Grow m H m' H' → SqL G.K H' a xs) : ItOk G Z (Itl G.K a) m H none ds :=
  ⟨fun Y i d m' H' st bn g _ _ e => by
    have h1 := hs m' H' g
    obtain ⟨v, e2, rv⟩ := ((hr.banL bn).grow ok g).get e
    exact ⟨⟨xs, v, h1, e2⟩, fun x H2 ⟨e3, q⟩ => by
      subst e3
      have e4 := (q xs h1).symm.trans e2
      cases e4
      exact ⟨fun _ _ z => z, rv⟩⟩, fun Y i m' H' st _ g _ _ l => ⟨xs, hs m' H' g, by rw [hr.length]; exact l⟩⟩
theorem it_tup {Z : List Addr} {m : Mu} {H : Hp} {a : Addr} {xs : List V} {ds : List D} (ok : MuOk m H) (hr : Reps G Z m H xs ds) (hs : ∀ m' H', Grow m H m' H' → SqT G.K H' a xs) : ItOk G Z (Itt G.K a) m H none ds :=
  ⟨fun Y i d m' H' st bn g _ _ e => by
    have h1 := hs m' H' g
    obtain ⟨v, e2, rv⟩ := ((hr.banL bn).grow ok g).get e
    exact ⟨⟨xs, v, h1, e2⟩, fun x H2 ⟨e3, q⟩ => by
      subst e3
      have e4 := (q xs h1).symm.trans e2
      cases e4
      exact ⟨fun _ _ z => z, rv⟩⟩, fun Y i m' H' st _ g _ _ l => ⟨xs, hs m' H' g, by rw [hr.length]; exact l⟩⟩
/-- over a cell's list -/
theorem it_loc {Z : List Addr} {m : Mu} {H : Hp} {a : Addr} {n : Nat} {ds : List D} (hm : m[n]? = some (some a)) : ItOk G Z (Itl G.K a) m H (some n) ds := by
  have key : ∀ Y m' H' st, Grow m H m' H' → RepSt G Y m' H' st → st[n]? = some (Cell.lst ds) → ∃ xs, H' a = some (.lst xs) ∧ Reps G Y m' H' xs ds := fun Y m' H' st g hs q => by
    obtain ⟨c, e, hc⟩ := hs.cell n a (g.get hm)
    rw [q] at e
    cases e
    exact hc
  exact ⟨fun Y i d m' H' st _ g hs q e => by
    obtain ⟨xs, h1, h2⟩ := key Y m' H' st g hs q
    obtain ⟨v, e2, rv⟩ := h2.get e
    exact ⟨⟨xs, v, SqL.of h1, e2⟩, fun x H2 ⟨e3, k⟩ => by
      subst e3
      have e4 := (k xs (SqL.of h1)).symm.trans e2
      cases e4
      exact ⟨fun _ _ z => z, rv⟩⟩, fun Y i m' H' st _ g hs q l => by
    obtain ⟨xs, h1, h2⟩ := key Y m' H' st g hs q
    exact ⟨xs, SqL.of h1, by rw [h2.length]; exact l⟩⟩
def itmOf (d : D) (st : Store) : RE Itm := match d with
  | .lst ds => .ok ⟨ds, none⟩ st
  | .tup ds => .ok ⟨ds, none⟩ st
  | .scr ns => .ok ⟨ns.map D.int, none⟩ st
  | .loc n => (match st[n]? with
    | some (.lst ds) => .ok ⟨ds, some n⟩ st
    | _ => .stuck)
  | _ => .stuck
/-- for .. in e, e a list or a tuple -/
def dIter (f : DEx) : DIt := fun r st => (f r st).bind itmOf
theorem di_seq {f : DEx} (hK : X.K = G.K) (h : DE G cur W X e f) : DI G cur W X tg e (dIter f) := by
  refine ⟨_, piOr (pi_list h.pe) (pi_tup h.pe), fun s H Q Z m r st hs he hw => ?_⟩
  unfold dIter at hw
  cases ea : f r st with
  | stuck => rw [ea] at hw; exact hw.elim
  | exc x st1 => rw [ea] at hw; exact .inl ⟨Z, m, r, st, hs, he, by rw [ea]; exact hw⟩
  | ok d st1 =>
    rw [ea] at hw
    have lst : (∀ m1 H1 v, Grow m H m1 H1 → RepSt G Z m1 H1 st1 → Rep G Z m1 H1 v d → ∃ a, v = .ref a ∧ (∃ xs, SqL G.K H1 a xs) ∧ Q (Itl G.K a) H1) → iList X.K (tDE G cur W f) s H Q ∨ iTup X.K (tDE G cur W f) s H Q := fun k =>
      .inl ⟨Z, m, r, st, hs, he, by rw [ea]; intro m1 H1 v g1 s1 rv; rw [hK]; exact k m1 H1 v g1 s1 rv⟩
    cases d with
    | lst ds =>
      refine lst fun m1 H1 v g1 s1 rv => ?_
      cases rv with
      | @lst a xs _ h1 h2 h3 h4 =>
        refine ⟨a, rfl, ⟨xs, SqL.of h1⟩, hw m1 H1 _ g1 s1 (it_list (xs := xs) s1.ok h4 fun m2 H2 g2 => SqL.of (g2.keep _ _ h1 h2).1)⟩
    | scr ns =>
      refine lst fun m1 H1 v g1 s1 rv => ?_
      cases rv with
      | @scr a _ h1 =>
        refine ⟨a, rfl, ⟨_, h1.seq⟩, hw m1 H1 _ g1 s1 (it_list (xs := ns.map V.int) s1.ok (Reps.ints _) fun m2 H2 g2 => (scr_grow s1.ok g2 h1).seq)⟩
    | loc n =>
      refine lst fun m1 H1 v g1 s1 rv => ?_
      cases rv with
      | @loc _ a h1 =>
        simp only [RE.bind, itmOf] at hw
        obtain ⟨c, e, hc⟩ := s1.cell n a h1
        rw [e] at hw
        cases c with
        | lst ds =>
          obtain ⟨xs, h2, h3⟩ := hc
          exact ⟨a, rfl, ⟨xs, SqL.of h2⟩, hw m1 H1 _ g1 s1 (it_loc h1)⟩
        | ins c os => exact hw.elim
    | tup ds =>
      refine .inr ⟨Z, m, r, st, hs, he, ?_⟩
      rw [ea]
      intro m1 H1 v g1 s1 rv
      cases rv with
      | @tup a xs _ h1 h2 =>
        rw [hK]
        exact ⟨a, rfl, ⟨xs, h1⟩, hw m1 H1 _ g1 s1 (it_tup (xs := xs) s1.ok h2 fun m2 H2 g2 => seqT_grow g2 s1.ok.tup h1)⟩
    | _ => exact hw.elim
/-- range -/
def rngD (lo : Int) (n : Nat) : List D := (List.range n).map fun i => D.int (lo + (i : Nat))
theorem rngD_get {lo : Int} {n i : Nat} {d : D} (h : (rngD lo n)[i]? = some d) : i < n ∧ d = .int (lo + (i : Nat)) := by
  unfold rngD at h
  rw [List.getElem?_map] at h
  by_cases hi : i < n
  · rw [List.getElem?_range hi] at h
    exact ⟨hi, (Option.some.inj h).symm⟩
  · rw [List.getElem?_eq_none (by rw [List.length_range]; omega)] at h
    cases h
theorem rngD_len {lo : Int} {n : Nat} : (rngD lo n).length = n := by unfold rngD; rw [List.length_map, List.length_range]
theorem it_rng {Z : List Addr} {m : Mu} {H : Hp} {lo : Int} {n : Nat} : ItOk G Z (Itr lo n) m H none (rngD lo n) :=
  ⟨fun Y i d m' H' st _ _ _ _ e => by
    obtain ⟨h1, rfl⟩ := rngD_get e
    exact ⟨h1, fun x H2 ⟨e3, e4⟩ => by subst e3; subst e4; exact ⟨fun _ _ z => z, .int⟩⟩, fun Y i m' H' st _ _ _ _ l => by rw [rngD_len] at l; exact l⟩
def dRng1 (f : DAs) : DIt := fun r st => (f r st).bind fun xs st1 => match xs with
  | [.int j] => if -(2 ^ 62) ≤ j ∧ j < 2 ^ 62 then .ok ⟨rngD 0 j.toNat, none⟩ st1 else .stuck
  | _ => .stuck
def dRng2 (f : DAs) : DIt := fun r st => (f r st).bind fun xs st1 => match xs with
  | [.int i, .int j] => if -(2 ^ 62) ≤ i ∧ i < 2 ^ 62 ∧ -(2 ^ 62) ≤ j ∧ j < 2 ^ 62 then .ok ⟨rngD i (j - i).toNat, none⟩ st1 else .stuck
  | _ => .stuck
theorem iargs_down {f : DAs} {Q2 : List V → Hp → Prop} {s : L2.St} {H : Hp} {Z : List Addr} {m : Mu} {r : DEnv} {st : Store} {Q : It → Hp → Prop} {k : List D → Store → RE Itm}
    (hs : RepSt G Z m H st) (he : RepEnv G cur Z m H s r) (hw : WpI G (fun c d H' => W c d s H') Z m H Q ((f r st).bind k))
    (h2 : ∀ ds vs st1 m1 H1, Grow m H m1 H1 → RepSt G Z m1 H1 st1 → RepEnv G cur Z m1 H1 s r → Reps G Z m1 H1 vs ds → WpI G (fun c d H' => W c d s H') Z m H Q (k ds st1) → Q2 vs H1) : tDA G cur W f s H Q2 := by
  refine ⟨Z, m, r, st, hs, he, ?_⟩
  cases ea : f r st with
  | stuck => rw [ea] at hw; exact hw.elim
  | exc e st1 => rw [ea] at hw; exact hw
  | ok x st1 =>
    rw [ea] at hw
    intro m1 H1 v g1 s1 rx
    exact h2 x v st1 m1 H1 g1 s1 (he.grow hs.ok g1) rx hw
theorem di_rng1 {a : Expr} {f : DAs} {p : Pos} (hg : Gl X "range") (hm : X.mg "range" = none) (ha : DA G cur W X [a] f) (hs : starEach [a] X.env = [(false, eval a X.env)] := by rfl) : DI G cur W X tg (.Call (.Name "range" p) [a] [] pos) (dRng1 f) := by
  refine ⟨_, pi_range1 hg hm ha.pa hs, fun s H Q Z m r st hs he hw => iargs_down hs he hw fun ds vs st1 m1 H1 g1 s1 e1 rv w1 => ?_⟩
  match ds, rv, w1 with
  | [.int j], rv, w1 =>
    obtain ⟨v, rfl, r1⟩ := reps1 rv
    cases r1
    simp only at w1
    split at w1
    · rename_i q
      exact ⟨j, rfl, q.1, q.2, w1 m1 H1 _ g1 s1 it_rng⟩
    · exact w1.elim
theorem di_rng2 {a b : Expr} {f : DAs} {p : Pos} (hg : Gl X "range") (hm : X.mg "range" = none) (ha : DA G cur W X [a, b] f) (hs : starEach [a, b] X.env = [(false, eval a X.env), (false, eval b X.env)] := by rfl) (hs2 : starEach [b] X.env = [(false, eval b X.env)] := by rfl) :
    DI G cur W X tg (.Call (.Name "range" p) [a, b] [] pos) (dRng2 f) := by
  refine ⟨_, pi_range2 hg hm ha.pa hs hs2, fun s H Q Z m r st hs he hw => iargs_down hs he hw fun ds vs st1 m1 H1 g1 s1 e1 rv w1 => ?_⟩
  match ds, rv, w1 with
  | [.int i, .int j], rv, w1 =>
    obtain ⟨v, w, rfl, r1, r2⟩ := reps2 rv
    cases r1; cases r2
    simp only at w1
    split at w1
    · rename_i q
      exact ⟨i, j, rfl, q, w1 m1 H1 _ g1 s1 it_rng⟩
    · exact w1.elim

/-! ## for -/
open Classical in
noncomputable def forG (o : Option Nat) (all : List D) (g : DTg) (body : DSt) : List D → DEnv → Store → RS
  | [], r, st => if gdOk o all st then .nx r st else .stuck
  | d :: ds, r, st => if gdOk o all st then (match g d r st with
    | .nx r1 st1 => (match body r1 st1 with
      | .nx r2 st2 => forG o all g body ds r2 st2
      | .ct r2 st2 => forG o all g body ds r2 st2
      | .bk r2 st2 => .nx r2 st2
      | o => o)
    | _ => .stuck) else .stuck
def forD (g : DTg) (body : DSt) : List D → DEnv → Store → RS
  | [], r, st => .nx r st
  | d :: ds, r, st => (match g d r st with
    | .nx r1 st1 => (match body r1 st1 with
      | .nx r2 st2 => forD g body ds r2 st2
      | .ct r2 st2 => forD g body ds r2 st2
      | .bk r2 st2 => .nx r2 st2
      | o => o)
    | _ => .stuck)
theorem forG_none {all : List D} {g : DTg} {body : DSt} : ∀ (ds : List D) (r : DEnv) (st : Store), forG none all g body ds r st = forD g body ds r st
  | [], r, st => by unfold forG forD; rw [if_pos (show gdOk none all st from trivial)]
  | d :: ds, r, st => by
    unfold forG forD
    rw [if_pos (show gdOk none all st from trivial)]
    cases g d r st with
    | nx r1 st1 =>
      dsimp only
      cases body r1 st1 with
      | nx r2 st2 => exact forG_none ds r2 st2
      | ct r2 st2 => exact forG_none ds r2 st2
      | _ => rfl
    | _ => rfl
noncomputable def dFor (fi : DIt) (g : DTg) (body : DSt) : DSt := fun r st => sBind (fi r st) r fun a st1 => match a.o with
  | none => forD g body a.ds r st1
  | some n => forG (some n) a.ds g body a.ds r st1
theorem dFor_eq {fi : DIt} {g : DTg} {body : DSt} {r : DEnv} {st : Store} : dFor fi g body r st = sBind (fi r st) r fun a st1 => forG a.o a.ds g body a.ds r st1 := by
  unfold dFor
  congr 1
  funext a st1
  obtain ⟨ds, o⟩ := a
  cases o with
  | none => exact (forG_none ds r st1).symm
  | some n => rfl
theorem drop_cons {α : Type} {l : List α} {i : Nat} {a : α} (h : l[i]? = some a) : l.drop i = a :: l.drop (i + 1) := by
  obtain ⟨hi, e⟩ := List.getElem?_eq_some_iff.mp h
  rw [List.drop_eq_getElem_cons hi, e]
theorem ds_for {fi : DIt} {g : DTg} {body : List Stmt} {f : DSt} (hp : PassesOwn (model X.prog X.w) X.A X.env X.xe) (hc : X.calm = true) (hi : DI G cur W X tg iter fi) (hg : DG G cur W X tg g) (hb : DB G cur W X body f)
    (hs : ∀ x, foldedSetIterable iter X.env x = pure x := by intro _; rfl) : DS G cur W X (.For tg iter body [] pos) (dFor fi g f) := by
  obtain ⟨wi, pi, ki⟩ := hi.run
  obtain ⟨t, pg, kg⟩ := hg.run
  refine ⟨psW (ps_for hp hc pi pg hb.pss hs) fun E s H ⟨Z, m, r, st, hs, he, hw⟩ => ?_⟩
  rw [dFor_eq] at hw
  refine ki s H _ Z m r st hs he ?_
  unfold sBind at hw
  cases ea : fi r st with
  | stuck => rw [ea] at hw; exact hw.elim
  | exc x st1 => rw [ea] at hw; exact fun m1 H1 c d g1 s1 rx => hw m1 H1 s c d g1 s1 (he.grow hs.ok g1) rx
  | ok a st1 =>
    rw [ea] at hw
    intro m1 H1 J g1 s1 hJ
    obtain ⟨ds, o⟩ := a
    have hw1 : WpS G cur W Z m1 H1 E (forG o ds g f ds r st1) := WpS.grow g1 hw
    have e1 : RepEnv G cur Z m1 H1 s r := he.grow hs.ok g1
    refine ⟨fun i k s' H' => k = ds.length - i ∧ i ≤ ds.length ∧ ∃ m2 r2 st2, Grow m1 H1 m2 H' ∧ RepSt G Z m2 H' st2 ∧ RepEnv G cur Z m2 H' s' r2 ∧ WpS G cur W Z m2 H' E (forG o ds g f (ds.drop i) r2 st2),
      ⟨ds.length, by simp, Nat.zero_le _, m1, r, st1, .refl, s1, e1, hw1⟩, ?_⟩
    rintro i k s' H' ⟨rfl, hi, m2, r2, st2, g2, s2, e2, w2⟩
    by_cases hlt : i < ds.length
    · have e3 : ds[i]? = some ds[i] := List.getElem?_eq_getElem hlt
      rw [drop_cons e3] at w2
      unfold forG at w2
      split at w2
      · rename_i gd
        obtain ⟨go, yl⟩ := hJ.go Z i _ m2 H' st2 .refl g2 s2 gd e3
        refine .inr ⟨go, fun s3 H3 => ∃ m3 r3 st3, Grow m1 H1 m3 H3 ∧ RepSt G Z m3 H3 st3 ∧ RepEnv G cur Z m3 H3 s3 r3 ∧ WpS G cur W Z m3 H3 E (forG o ds g f (ds.drop (i + 1)) r3 st3), fun s3 H3 h3 => ⟨ds.length - (i + 1), by omega, rfl, hlt, h3⟩, fun x H3 y => ?_⟩
        obtain ⟨ext, rx⟩ := yl x H3 y
        have g3 : Grow m2 H' m2 H3 := ⟨⟨[], by simp⟩, fun b u q n => ⟨ext b u q, n⟩⟩
        have s3 := s2.same ext
        have e4 := e2.grow s2.ok g3
        replace w2 := WpS.grow g3 w2
        cases eg : g ds[i] r2 st2 with
        | nx r4 st4 =>
          rw [eg] at w2
          refine kg Z m2 H3 s' r2 st2 x ds[i] ⟨fun s5 H5 => tDS G cur W f _ s5 H5, fun _ _ => True, fun _ _ => True, fun _ _ => True⟩ s3 e4 rx ⟨r4, st4, eg⟩ ?_
          rw [eg]
          intro m5 H5 s5 g5 hs5 he5
          refine ⟨Z, m5, r4, st4, hs5, he5, ?_⟩
          replace w2 := WpS.grow g5 w2
          have gg : Grow m1 H1 m5 H5 := (g2.trans g3).trans g5
          dsimp only at w2
          cases eb : f r4 st4 with
          | nx r6 st6 => rw [eb] at w2; exact fun m6 H6 s6 g6 hs6 he6 => ⟨m6, r6, st6, gg.trans g6, hs6, he6, WpS.grow g6 w2⟩
          | ct r6 st6 => rw [eb] at w2; exact fun m6 H6 s6 g6 hs6 he6 => ⟨m6, r6, st6, gg.trans g6, hs6, he6, WpS.grow g6 w2⟩
          | bk r6 st6 => rw [eb] at w2; exact w2
          | rt d st6 => rw [eb] at w2; exact w2
          | ex x r6 st6 => rw [eb] at w2; exact w2
          | stuck => rw [eb] at w2; exact w2
        | _ => rw [eg] at w2; exact w2.elim
      · exact w2.elim
    · have e3 : ds.drop i = [] := List.drop_eq_nil_of_le (by omega)
      rw [e3] at w2
      unfold forG at w2
      split at w2
      · rename_i gd
        exact .inl ⟨hJ.stop Z i m2 H' st2 .refl g2 s2 gd (show ds.length ≤ i by omega), w2 m2 H' s' .refl s2 e2⟩
      · exact w2.elim

/-! ## while -/
def whileD (t : DTs) (body : DSt) : Nat → DEnv → Store → RS
  | 0, _, _ => .stuck
  | n + 1, r, st => sBind (t r st) r fun k st1 => if k = true then (match body r st1 with
      | .nx r2 st2 => whileD t body n r2 st2
      | .ct r2 st2 => whileD t body n r2 st2
      | .bk r2 st2 => .nx r2 st2
      | o => o) else .nx r st1
def dWhile (n : Nat) (t : DTs) (body : DSt) : DSt := whileD t body n
theorem ds_while {n : Nat} {c : Expr} {t : DTs} {body : List Stmt} {f : DSt} (hp : PassesOwn (model X.prog X.w) X.A X.env X.xe) (hc : DT G cur W X c t) (hb : DB G cur W X body f) : DS G cur W X (.While c body [] pos) (dWhile n t f) := by
  refine ⟨psW (ps_while hp hc.pt hb.pss) fun E s H ⟨Z, m, r, st, hs, he, hw⟩ => ?_⟩
  refine ⟨fun k s' H' => ∃ m2 r2 st2, RepSt G Z m2 H' st2 ∧ RepEnv G cur Z m2 H' s' r2 ∧ WpS G cur W Z m2 H' E (whileD t f k r2 st2), ⟨n, m, r, st, hs, he, hw⟩, ?_⟩
  rintro k s' H' ⟨m2, r2, st2, s2, e2, w2⟩
  cases k with
  | zero => exact w2.elim
  | succ k =>
    unfold whileD at w2
    refine stst_down s2 e2 w2 fun b st3 m3 H3 s3 e3 w3 => ?_
    cases b with
    | false => exact iteF (w3 m3 H3 s' .refl s3 e3)
    | true =>
      refine iteT ⟨fun s4 H4 => ∃ m4 r4 st4, RepSt G Z m4 H4 st4 ∧ RepEnv G cur Z m4 H4 s4 r4 ∧ WpS G cur W Z m4 H4 E (whileD t f k r4 st4), fun s4 H4 h4 => ⟨k, Nat.lt_succ_self k, h4⟩, Z, m3, r2, st3, s3, e3, ?_⟩
      rw [if_pos rfl] at w3
      cases eb : f r2 st3 with
      | nx r6 st6 => rw [eb] at w3; exact fun m6 H6 s6 g6 hs6 he6 => ⟨m6, r6, st6, hs6, he6, WpS.grow g6 w3⟩
      | ct r6 st6 => rw [eb] at w3; exact fun m6 H6 s6 g6 hs6 he6 => ⟨m6, r6, st6, hs6, he6, WpS.grow g6 w3⟩
      | bk r6 st6 => rw [eb] at w3; exact w3
      | rt d st6 => rw [eb] at w3; exact w3
      | ex x r6 st6 => rw [eb] at w3; exact w3
      | stuck => rw [eb] at w3; exact w3
end
end Dl
namespace Dl
open PySem PySem.Spec PyProof.Rows L2

/-! ## a list in flux -/
section
variable {G : Gx} {Z : List Addr} {m : Mu} {H : Hp} {q : Addr}
mutual
theorem Rep.ban (n : H q = none) : ∀ {v d}, Rep G Z m H v d → Rep G (q :: Z) m H v d
  | _, _, .non => .non
  | _, _, .bl => .bl
  | _, _, .int => .int
  | _, _, .str => .str
  | _, _, .tup h r => .tup h (Reps.ban n r)
  | _, _, .lst h k z r => .lst h k (fun w => by
    rcases List.mem_cons.mp w with w | w
    · rw [w, n] at h; cases h
    · exact z w) (Reps.ban n r)
  | _, _, .loc h => .loc h
  | _, _, .obj h o k f l r => .obj h o k f l (Reps.ban n r)
  | _, _, .scr h => .scr h
  | _, _, .cls => .cls
  | _, _, .typ => .typ
theorem Reps.ban (n : H q = none) : ∀ {vs ds}, Reps G Z m H vs ds → Reps G (q :: Z) m H vs ds
  | _, _, .nil => .nil
  | _, _, .cons r t => .cons (Rep.ban n r) (Reps.ban n t)
end
mutual
theorem Rep.unban : ∀ {v d}, Rep G (q :: Z) m H v d → Rep G Z m H v d
  | _, _, .non => .non
  | _, _, .bl => .bl
  | _, _, .int => .int
  | _, _, .str => .str
  | _, _, .tup h r => .tup h (Reps.unban r)
  | _, _, .lst h k z r => .lst h k (fun w => z (List.mem_cons_of_mem _ w)) (Reps.unban r)
  | _, _, .loc h => .loc h
  | _, _, .obj h o k f l r => .obj h o k f l (Reps.unban r)
  | _, _, .scr h => .scr h
  | _, _, .cls => .cls
  | _, _, .typ => .typ
theorem Reps.unban : ∀ {vs ds}, Reps G (q :: Z) m H vs ds → Reps G Z m H vs ds
  | _, _, .nil => .nil
  | _, _, .cons r t => .cons (Rep.unban r) (Reps.unban t)
end
theorem seqT_flux {a : Addr} {xs zs ys : List V} (hq : H q = some (.lst zs)) (h : SqT G.K H a xs) : SqT G.K (upd H q (.lst ys)) a xs := by
  rcases h with (h | ⟨o, h⟩) | h
  · exact .inl (.inl (by rw [upd_ne (fun z => by rw [z, hq] at h; cases h)]; exact h))
  · exact .inl (.inr ⟨o, by rw [upd_ne (fun z => by rw [z, hq] at h; cases h)]; exact h⟩)
  · exact .inr h
theorem scr_flux {a : Addr} {zs ys : List V} {ns : List Int} (hq : H q = some (.lst zs)) (h : ScrAt G.K H a ns) : ScrAt G.K (upd H q (.lst ys)) a ns := by
  rcases h with ⟨o, h⟩ | h
  · exact .inl ⟨o, by rw [upd_ne (fun z => by rw [z, hq] at h; cases h)]; exact h⟩
  · exact .inr h
mutual
theorem Rep.flux {zs ys : List V} (hq : H q = some (.lst zs)) (hz : q ∈ Z ∨ some q ∈ m) : ∀ {v d}, Rep G Z m H v d → Rep G Z m (upd H q (.lst ys)) v d
  | _, _, .non => .non
  | _, _, .bl => .bl
  | _, _, .int => .int
  | _, _, .str => .str
  | _, _, .tup h r => .tup (seqT_flux hq h) (Reps.flux hq hz r)
  | _, _, .lst h k z r => .lst (by rw [upd_ne (fun w => by exact hz.elim (fun u => z (w ▸ u)) fun u => k (w ▸ u))]; exact h) k z (Reps.flux hq hz r)
  | _, _, .loc h => .loc h
  | _, _, .obj h o k f l r => .obj (by rw [upd_ne (fun w => by rw [w, hq] at h; cases h)]; exact h) (by rw [upd_ne (fun w => by rw [w, hq] at o; cases o)]; exact o) k f l (Reps.flux hq hz r)
  | _, _, .scr h => .scr (scr_flux hq h)
  | _, _, .cls => .cls
  | _, _, .typ => .typ
theorem Reps.flux {zs ys : List V} (hq : H q = some (.lst zs)) (hz : q ∈ Z ∨ some q ∈ m) : ∀ {vs ds}, Reps G Z m H vs ds → Reps G Z m (upd H q (.lst ys)) vs ds
  | _, _, .nil => .nil
  | _, _, .cons r t => .cons (Rep.flux hq hz r) (Reps.flux hq hz t)
end
theorem FldO.flux {zs ys : List V} (hq : H q = some (.lst zs)) (hz : q ∈ Z ∨ some q ∈ m) {fs n o} (h : FldO G Z m H fs n o) : FldO G Z m (upd H q (.lst ys)) fs n o := by
  cases o with
  | none => exact h
  | some d => obtain ⟨v, h1, h2⟩ := h; exact ⟨v, h1, h2.flux hq hz⟩
theorem RepX.flux {zs ys : List V} (hq : H q = some (.lst zs)) (hz : q ∈ Z ∨ some q ∈ m) {c d e} (h : RepX G Z m H c d e) : RepX G Z m (upd H q (.lst ys)) c d e := by
  refine ⟨h.cls, ?_⟩
  rcases h.fld with h | ⟨h0, dd, fs, vs, h1, h2, h3, h4⟩
  · exact .inl h
  · exact .inr ⟨h0, dd, fs, vs, h1, by rw [upd_ne (fun w => by rw [w, hq] at h2; cases h2)]; exact h2, h3, h4.flux hq hz⟩
theorem RepEnv.flux {cur : Cur} {zs ys : List V} (hq : H q = some (.lst zs)) (hz : q ∈ Z ∨ some q ∈ m) {s r} (h : RepEnv G cur Z m H s r) : RepEnv G cur Z m (upd H q (.lst ys)) s r :=
  ⟨h.len, fun i sl e => let ⟨o, e1, e2⟩ := h.at_ i sl e; ⟨o, e1, by
    cases sl with
    | no => cases o <;> trivial
    | val d => cases o <;> (obtain ⟨v, e, r⟩ := e2; exact ⟨v, e, r.flux hq hz⟩)
    | exn x => cases o <;> (obtain ⟨a, c, d, e1, e2, r⟩ := e2; exact ⟨a, c, d, e1, e2, r.flux hq hz⟩)⟩⟩
theorem CellRep.flux {zs ys : List V} (hq : H q = some (.lst zs)) (hz : q ∈ Z ∨ some q ∈ m) {a : Addr} {c : Cell} (na : a ≠ q) (h : CellRep G Z m H a c) : CellRep G Z m (upd H q (.lst ys)) a c := by
  cases c with
  | lst ds => obtain ⟨xs, h1, h2⟩ := h; exact ⟨xs, by rw [upd_ne na]; exact h1, h2.flux hq hz⟩
  | ins c os =>
    obtain ⟨dx, fs, h1, h2, h3, h4, h5⟩ := h
    exact ⟨dx, fs, by rw [upd_ne na]; exact h1, by rw [upd_ne (fun w => by rw [w, hq] at h2; cases h2)]; exact h2, h3, h4, fun i n w e1 e2 => (h5 i n w e1 e2).flux hq hz⟩
theorem RepSt.fluxZ {st : Store} {zs ys : List V} (hs : RepSt G Z m H st) (hq : H q = some (.lst zs)) (hz : q ∈ Z) : RepSt G Z m (upd H q (.lst ys)) st := by
  have nm : some q ∉ m := by obtain ⟨_, _, n⟩ := hs.zs q hz; exact n
  refine ⟨hs.len, hs.inj, fun i a h => ?_, fun z h => ?_⟩
  · obtain ⟨c, e, hc⟩ := hs.cell i a h
    exact ⟨c, e, hc.flux hq (.inl hz) fun w => nm (w ▸ List.mem_iff_getElem?.mpr ⟨i, h⟩)⟩
  · obtain ⟨xs, h1, h2⟩ := hs.zs z h
    by_cases w : z = q
    · exact ⟨ys, by rw [w, upd_same], h2⟩
    · exact ⟨xs, by rw [upd_ne w]; exact h1, h2⟩
/-- a cell's list is written -/
theorem RepSt.fluxM {st : Store} {n : Nat} {zs ys : List V} {ds : List D} (hs : RepSt G Z m H st) (hq : H q = some (.lst zs)) (hm : m[n]? = some (some q)) (hr : Reps G Z m H ys ds) : RepSt G Z m (upd H q (.lst ys)) (st.set n (.lst ds)) := by
  have mm : some q ∈ m := List.mem_iff_getElem?.mpr ⟨n, hm⟩
  have hn : n < st.length := by rw [← hs.len]; exact (List.getElem?_eq_some_iff.mp hm).1
  refine ⟨by rw [List.length_set]; exact hs.len, hs.inj, fun i a h => ?_, fun z h => ?_⟩
  · obtain ⟨c, e, hc⟩ := hs.cell i a h
    by_cases w : i = n
    · subst w
      rw [hm] at h
      cases h
      exact ⟨.lst ds, List.getElem?_set_self hn, ys, upd_same, hr.flux hq (.inr mm)⟩
    · refine ⟨c, by rw [List.getElem?_set_ne (Ne.symm w)]; exact e, hc.flux hq (.inr mm) fun e => w ?_⟩
      subst e
      exact hs.inj i n a h hm
  · obtain ⟨xs, h1, h2⟩ := hs.zs z h
    exact ⟨xs, by rw [upd_ne (fun w => h2 (by rw [w]; exact mm))]; exact h1, h2⟩
/-- .. and what stood, and is no cell, stands -/
theorem Grow.fluxM {st : Store} {n : Nat} {ys : List V} (hm : m[n]? = some (some q)) : Grow m H m (upd H q (.lst ys)) :=
  ⟨⟨[], by simp⟩, fun b o h k => ⟨by rw [upd_ne (fun w => k (by rw [w]; exact List.mem_iff_getElem?.mpr ⟨n, hm⟩))]; exact h, k⟩⟩
theorem RepSt.ban {st : Store} (hs : RepSt G Z m H st) (n : H q = none) : RepSt G (q :: Z) m (upd H q (.lst [])) st := by
  have h1 := hs.new (o := .lst []) n
  have g : Grow m H m (upd H q (.lst [])) := .new n
  have nm := not_mu hs n
  refine ⟨hs.len, hs.inj, fun i a h => ?_, fun z h => ?_⟩
  · obtain ⟨c, e, hc⟩ := hs.cell i a h
    have na : a ≠ q := fun w => nm (w ▸ List.mem_iff_getElem?.mpr ⟨i, h⟩)
    refine ⟨c, e, ?_⟩
    cases c with
    | lst ds => obtain ⟨xs, k1, k2⟩ := hc; exact ⟨xs, by rw [upd_ne na]; exact k1, (k2.ban n).grow hs.ok g⟩
    | ins c os =>
      obtain ⟨dx, fs, k1, k2, k3, k4, k5⟩ := hc
      refine ⟨dx, fs, by rw [upd_ne na]; exact k1, by rw [upd_ne (ne_of_none k2 n)]; exact k2, k3, k4, fun i x w e1 e2 => ?_⟩
      have z := k5 i x w e1 e2
      cases w with
      | none => exact z
      | some d => obtain ⟨v, z1, z2⟩ := z; exact ⟨v, z1, (z2.ban n).grow hs.ok g⟩
  · rcases List.mem_cons.mp h with w | w
    · subst w; exact ⟨[], upd_same, nm⟩
    · exact h1.zs z w
theorem RepSt.unban {st : Store} (hs : RepSt G (q :: Z) m H st) : RepSt G Z m H st := by
  refine ⟨hs.len, hs.inj, fun i a h => ?_, fun z h => hs.zs z (List.mem_cons_of_mem _ h)⟩
  obtain ⟨c, e, hc⟩ := hs.cell i a h
  refine ⟨c, e, ?_⟩
  cases c with
  | lst ds => obtain ⟨xs, k1, k2⟩ := hc; exact ⟨xs, k1, k2.unban⟩
  | ins c os =>
    obtain ⟨dx, fs, k1, k2, k3, k4, k5⟩ := hc
    refine ⟨dx, fs, k1, k2, k3, k4, fun i x w e1 e2 => ?_⟩
    have z := k5 i x w e1 e2
    cases w with
    | none => exact z
    | some d => obtain ⟨v, z1, z2⟩ := z; exact ⟨v, z1, z2.unban⟩
theorem RepX.banX {st : Store} (hs : RepSt G Z m H st) (n : H q = none) {c d e} (r : RepX G Z m H c d e) : RepX G (q :: Z) m (upd H q (.lst [])) c d e := by
  refine ⟨r.cls, ?_⟩
  rcases r.fld with f | ⟨f0, dd, fs, vs, f1, f2, f3, f4⟩
  · exact .inl f
  · exact .inr ⟨f0, dd, fs, vs, f1, by rw [upd_ne (ne_of_none f2 n)]; exact f2, f3, (f4.ban n).grow hs.ok (.new n)⟩
theorem RepEnv.ban {cur : Cur} {s r} {st : Store} (hs : RepSt G Z m H st) (n : H q = none) (h : RepEnv G cur Z m H s r) : RepEnv G cur (q :: Z) m (upd H q (.lst [])) s r := by
  have g : Grow m H m (upd H q (.lst [])) := .new n
  refine ⟨h.len, fun i sl e => let ⟨o, e1, e2⟩ := h.at_ i sl e; ⟨o, e1, ?_⟩⟩
  cases sl with
  | no => cases o <;> trivial
  | val d => cases o <;> (obtain ⟨v, e, r⟩ := e2; exact ⟨v, e, (r.ban n).grow hs.ok g⟩)
  | exn x => cases o <;> (obtain ⟨a, c, d, e1, e2, r⟩ := e2; exact ⟨a, c, d, e1, e2, r.banX hs n⟩)
end

/-! ## list comprehensions -/
def wipeD (r : DEnv) : List Nat → DEnv
  | [] => r
  | v :: vs => (wipeD r vs).set v .no
def compD (g : DTg) (t : DTs) (f : DEx) (vs : List Nat) (r : DEnv) : List D → List D → Store → RE (List D)
  | [], acc, st => .ok acc st
  | d :: ds, acc, st => (match g d (wipeD r vs) st with
    | .nx r1 st1 => (match t r1 st1 with
      | .ok true st2 => (match f r1 st2 with
        | .ok x st3 => if acc.length < sizeLine then compD g t f vs r ds (acc ++ [x]) st3 else .stuck
        | _ => .stuck)
      | .ok false st2 => compD g t f vs r ds acc st2
      | _ => .stuck)
    | _ => .stuck)
theorem compD_cons {g : DTg} {t : DTs} {f : DEx} {vs : List Nat} {r : DEnv} {d : D} {ds acc : List D} {st : Store} : compD g t f vs r (d :: ds) acc st = (match g d (wipeD r vs) st with
    | .nx r1 st1 => (match t r1 st1 with
      | .ok true st2 => (match f r1 st2 with
        | .ok x st3 => if acc.length < sizeLine then compD g t f vs r ds (acc ++ [x]) st3 else .stuck
        | _ => .stuck)
      | .ok false st2 => compD g t f vs r ds acc st2
      | _ => .stuck)
    | _ => .stuck) := rfl
def dCompG (fin : List D → Store → RE D) (fi : DIt) (g : DTg) (t : DTs) (f : DEx) (vs : List Nat) : DEx := fun r st => (fi r st).bind fun a st1 => match a.o with
  | some _ => .stuck
  | none => (match compD g t f vs r a.ds [] st1 with
    | .ok xs st2 => fin xs st2
    | _ => .stuck)
abbrev dComp (fi : DIt) (g : DTg) (t : DTs) (f : DEx) (vs : List Nat) : DEx := dCompG (fun xs st => .ok (.lst xs) st) fi g t f vs
/-- .. a list that will be changed -/
abbrev dCompN (fi : DIt) (g : DTg) (t : DTs) (f : DEx) (vs : List Nat) : DEx := dCompG (fun xs st => .ok (.loc st.length) (st ++ [.lst xs])) fi g t f vs
abbrev W0 : WX := fun _ _ _ _ => False
/-- what is asked of a comprehension's target -/
structure DGc (G : Gx) (cur : Cur) (X : Cx) (scope : Scope) (vs : List Nat) (tg : Expr) (g : DTg) : Prop where
  run : ∃ t : TG, (∀ (s : Shared) (H : Hp) (C : Addr) (cl : List (Str × Addr)) (fp : List Addr), PG (X.blk s H scope (compEnvC scope cl C X.env) fp) tg t) ∧
    ∀ (Z : List Addr) (m : Mu) (H : Hp) (s : L2.St) (r r1 : DEnv) (st st1 : Store) (v : V) (d : D) (E : L2.St → Hp → Prop), RepSt G Z m H st → RepEnv G cur Z m H s r → Rep G Z m H v d →
      g d r st = .nx r1 st1 → (∀ s1, st1 = st → RepEnv G cur Z m H s1 r1 → wipe s1 vs = wipe s vs → E s1 H) → t v s H E
section
variable {G : Gx} {cur : Cur} {W : WX} {X : Cx} {e tg iter elt : Expr} {pos : Pos} {scope : Scope} {vs : List Nat}
theorem wipe_set {s : L2.St} {i : Nat} {o : Option V} : ∀ {vs : List Nat}, i ∈ vs → wipe (s.set i o) vs = wipe s vs
  | [], h => by cases h
  | v :: vs, h => by
    unfold wipe
    by_cases e : i ∈ vs
    · rw [wipe_set e]
    · have q : i = v := by
        rcases List.mem_cons.mp h with q | q
        · exact q
        · exact absurd q e
      subst q
      have out : ∀ {ws : List Nat}, i ∉ ws → wipe (s.set i o) ws = (wipe s ws).set i o := by
        intro ws
        induction ws with
        | nil => intro _; rfl
        | cons w ws ih =>
          intro hw
          have h1 : i ≠ w := fun z => hw (by rw [z]; exact List.mem_cons_self ..)
          have h2 : i ∉ ws := fun z => hw (List.mem_cons_of_mem _ z)
          unfold wipe
          rw [ih h2, List.set_comm _ _ h1]
      rw [out e, List.set_set]
theorem wipe_at {s : L2.St} {i : Nat} : ∀ {vs : List Nat}, i ∈ vs → i < s.length → (wipe s vs)[i]? = some none
  | [], h, _ => by cases h
  | v :: vs, h, hl => by
    unfold wipe
    by_cases e : v = i
    · subst e
      rw [List.getElem?_set_self (by rw [wipe_length]; exact hl)]
    · rw [List.getElem?_set_ne e]
      exact wipe_at ((List.mem_cons.mp h).resolve_left fun q => e q.symm) hl
theorem set_none {s : L2.St} {i : Nat} (h : i < s.length → s[i]? = some none) : s.set i none = s := by
  apply List.ext_getElem?
  intro j
  by_cases e : i = j
  · subst e
    by_cases hl : i < s.length
    · rw [List.getElem?_set_self hl, h hl]
    · rw [List.getElem?_eq_none (by rw [List.length_set]; omega), List.getElem?_eq_none (by omega)]
  · rw [List.getElem?_set_ne e]
theorem wipe_sub {s : L2.St} {vs : List Nat} : ∀ {ws : List Nat}, (∀ w ∈ ws, w ∈ vs) → wipe (wipe s vs) ws = wipe s vs
  | [], _ => rfl
  | w :: ws, h => by
    show (wipe (wipe s vs) ws).set w none = _
    rw [wipe_sub fun x hx => h x (List.mem_cons_of_mem _ hx)]
    exact set_none fun hl => wipe_at (h w (List.mem_cons_self ..)) (by rw [wipe_length] at hl; exact hl)
theorem wipe_idem {s : L2.St} {vs : List Nat} : wipe (wipe s vs) vs = wipe s vs := wipe_sub fun _ h => h
theorem dgc_name {i : Nat} {x : Str} (hi : i ∈ vs) (h : ∀ (s : Shared) (H : Hp) (C : Addr) (cl : List (Str × Addr)) (fp : List Addr), PG (X.blk s H scope (compEnvC scope cl C X.env) fp) (.Name x pos) (gName i)) : DGc G cur X scope vs (.Name x pos) (gSet i) :=
  ⟨gName i, h, fun Z m H s r r1 st st1 v d E hs he rv e k => by
    cases e
    exact k _ rfl (he.set rv i) (wipe_set hi)⟩
theorem RepEnv.wipe {Z : List Addr} {m : Mu} {H : Hp} {s : L2.St} {r : DEnv} (h : RepEnv G cur Z m H s r) : ∀ vs : List Nat, RepEnv G cur Z m H (wipe s vs) (wipeD r vs)
  | [] => h
  | v :: vs => by unfold L2.wipe wipeD; exact (RepEnv.wipe h vs).unset v
theorem lc_down {fi : DIt} {wi : TI} {g : DTg} {t : DTs} {f : DEx} {tgt : TG} {s : L2.St} {H : Hp} {Q : VK} {Z : List Addr} {m : Mu} {r : DEnv} {st : Store}
    (ki : ∀ (s : L2.St) (H : Hp) (Q : It → Hp → Prop) (Z : List Addr) (m : Mu) (r : DEnv) (st : Store), RepSt G Z m H st → RepEnv G cur Z m H s r → WpI G (fun c d H' => W c d s H') Z m H Q (fi r st) → wi s H Q)
    (kg : ∀ (Z : List Addr) (m : Mu) (H : Hp) (s : L2.St) (r r1 : DEnv) (st st1 : Store) (v : V) (d : D) (E : L2.St → Hp → Prop), RepSt G Z m H st → RepEnv G cur Z m H s r → Rep G Z m H v d →
      g d r st = .nx r1 st1 → (∀ s1, st1 = st → RepEnv G cur Z m H s1 r1 → wipe s1 vs = wipe s vs → E s1 H) → tgt v s H E)
    (hs : RepSt G Z m H st) (he : RepEnv G cur Z m H s r) {fin : List D → Store → RE D}
    (hw : WpE G (fun c d H' => W c d s H') Z m H (Rep G Z) Q (dCompG fin fi g t f vs r st))
    (hfin : ∀ xs ys st2 q m2 H2, Grow m H m2 H2 → RepSt G (q :: Z) m2 H2 st2 → H2 q = some (.lst ys) → Reps G (q :: Z) m2 H2 ys xs → WpE G (fun c d H' => W c d s H') Z m H (Rep G Z) Q (fin xs st2) → H q = none → Q (.ref q) H2) :
    tLc wi tgt (tDT G cur W0 t) (tDE G cur W0 f) vs s H Q := by
  refine ki s H _ Z m r st hs he ?_
  unfold dCompG at hw
  cases ea : fi r st with
  | stuck => rw [ea] at hw; exact hw.elim
  | exc x st1 => rw [ea] at hw; exact hw
  | ok a st1 =>
    rw [ea] at hw
    intro m1 H1 J g1 s1 hJ q hq
    obtain ⟨ds, o⟩ := a
    cases o with
    | some n => exact hw.elim
    | none =>
      have hq0 : H q = none := by
        cases z : H q with
        | none => rfl
        | some u =>
          by_cases k : some q ∈ m
          · obtain ⟨i, hi⟩ := List.mem_iff_getElem?.mp k
            rcases s1.ok i q (g1.get hi) with ⟨_, y⟩ | ⟨_, _, _, y⟩ <;> (rw [hq] at y; cases y)
          · have := (g1.keep q u z k).1
            rw [hq] at this; cases this
      have e1 := he.grow hs.ok g1
      have n1 := not_mu s1 hq
      have sB : RepSt G (q :: Z) m1 (upd H1 q (.lst [])) st1 := s1.ban hq
      have eB : RepEnv G cur (q :: Z) m1 (upd H1 q (.lst [])) s r := e1.ban s1 hq
      have gB : Grow m1 H1 m1 (upd H1 q (.lst [])) := .new hq
      simp only [RE.bind] at hw
      refine ⟨fun i k H' => k = ds.length - i ∧ i ≤ ds.length ∧ ∃ m2 st2 acc ys, Grow m1 H1 m2 H' ∧ RepSt G (q :: Z) m2 H' st2 ∧ RepEnv G cur (q :: Z) m2 H' s r ∧ H' q = some (.lst ys) ∧ Reps G (q :: Z) m2 H' ys acc ∧
          compD g t f vs r ds [] st1 = compD g t f vs r (ds.drop i) acc st2,
        ⟨ds.length, by simp, Nat.zero_le _, m1, st1, [], [], gB, sB, eB, upd_same, .nil, rfl⟩, ?_⟩
      rintro i k H' ⟨rfl, hi, m2, st2, acc, ys, g2, s2, e2, q2, r2, ec⟩
      have q2m : some q ∉ m2 := by obtain ⟨_, _, n⟩ := s2.zs q (List.mem_cons_self ..); exact n
      by_cases hlt : i < ds.length
      · have e3 : ds[i]? = some ds[i] := List.getElem?_eq_getElem hlt
        rw [drop_cons e3] at ec
        rw [ec, compD_cons] at hw
        obtain ⟨go, yl⟩ := hJ.go (q :: Z) i _ m2 H' st2 (.cons hq) g2 s2 trivial e3
        refine .inr ⟨go, fun H3 => ∃ m3 st3 acc' ys', Grow m1 H1 m3 H3 ∧ RepSt G (q :: Z) m3 H3 st3 ∧ RepEnv G cur (q :: Z) m3 H3 s r ∧ H3 q = some (.lst ys') ∧ Reps G (q :: Z) m3 H3 ys' acc' ∧
          compD g t f vs r ds [] st1 = compD g t f vs r (ds.drop (i + 1)) acc' st3, fun H3 h3 => ⟨ds.length - (i + 1), by omega, rfl, hlt, h3⟩, fun x H3 y => ?_⟩
        rw [compD_cons] at ec
        obtain ⟨ext, rx⟩ := yl x H3 y
        have g3 : Grow m2 H' m2 H3 := ⟨⟨[], by simp⟩, fun b u z n => ⟨ext b u z, n⟩⟩
        have s3 := s2.same ext
        have e4 := (e2.grow s2.ok g3).wipe vs
        have q3 := ext _ _ q2
        cases eg : g ds[i] (wipeD r vs) st2 with
        | nx r4 st4 =>
          rw [eg] at hw ec
          refine kg (q :: Z) m2 H3 _ _ r4 st2 st4 x ds[i] _ s3 e4 rx eg fun s5 est e5 w5 => ⟨by rw [w5]; exact wipe_idem, ?_⟩
          subst est
          dsimp only at hw ec
          refine ⟨q :: Z, m2, r4, st4, s3, e5, ?_⟩
          cases et : t r4 st4 with
          | stuck => rw [et] at hw; exact hw.elim
          | exc z st5 => rw [et] at hw; exact hw.elim
          | ok b st5 =>
            rw [et] at hw ec
            intro m5 H5 b' g5 hs5 eb
            subst eb
            have q5 := (g5.keep q _ q3 q2m).1
            have gg : Grow m1 H1 m5 H5 := (g2.trans g3).trans g5
            have r5 : Reps G (q :: Z) m5 H5 ys acc := (r2.grow s2.ok g3).grow s3.ok g5
            have e6 : RepEnv G cur (q :: Z) m5 H5 s r := (e2.grow s2.ok g3).grow s3.ok g5
            cases b' with
            | false => exact iteF ⟨m5, st5, acc, ys, gg, hs5, e6, q5, r5, ec⟩
            | true =>
              refine iteT ⟨q :: Z, m5, r4, st5, hs5, e5.grow s3.ok g5, ?_⟩
              dsimp only at hw ec
              cases ef : f r4 st5 with
              | stuck => rw [ef] at hw; exact hw.elim
              | exc z st6 => rw [ef] at hw; exact hw.elim
              | ok z st6 =>
                rw [ef] at hw ec
                dsimp only at hw ec
                intro m6 H6 zv g6 hs6 rz
                have q5m : some q ∉ m5 := (g5.keep q _ q3 q2m).2
                have q6 := (g6.keep q _ q5 q5m).1
                by_cases hl : acc.length < sizeLine
                · rw [if_pos hl] at ec
                  have r6 := r5.grow hs5.ok g6
                  refine ⟨ys, q6, by rw [r6.length]; exact hl, m6, st6, acc ++ [z], ys ++ [zv], ?_, hs6.fluxZ q6 (List.mem_cons_self ..), (e6.grow hs5.ok g6).flux q6 (.inl (List.mem_cons_self ..)), upd_same, (r6.app (.cons rz .nil)).flux q6 (.inl (List.mem_cons_self ..)), ec⟩
                  have gg6 := gg.trans g6
                  exact ⟨gg6.pre, fun b u z n => ⟨by rw [upd_ne (ne_of_none z hq)]; exact (gg6.keep b u z n).1, (gg6.keep b u z n).2⟩⟩
                · rw [if_neg hl] at hw; exact hw.elim
        | _ => rw [eg] at hw; exact hw.elim
      · have e3 : ds.drop i = [] := List.drop_eq_nil_of_le (by omega)
        rw [e3] at ec
        rw [ec] at hw
        exact .inl ⟨hJ.stop (q :: Z) i m2 H' st2 (.cons hq) g2 s2 trivial (show ds.length ≤ i by omega), hfin acc ys st2 q m2 H' (g1.trans g2) s2 q2 r2 hw hq0⟩
end
end Dl
namespace Dl
open PySem PySem.Spec PyProof.Rows L2

section
variable {G : Gx} {cur : Cur} {W : WX} {X : Cx} {e tg iter elt o ix : Expr} {es : List Expr} {pos : Pos} {scope : Scope} {own : List (Str × Nat)}
/-! ## comprehensions as expressions, as stores -/
theorem dComp_down {fi : DIt} {wi : TI} {g : DTg} {t : DTs} {f : DEx} {tgt : TG} {vs : List Nat} {s : L2.St} {H : Hp} {Q : VK}
    (ki : ∀ (s : L2.St) (H : Hp) (Q : It → Hp → Prop) (Z : List Addr) (m : Mu) (r : DEnv) (st : Store), RepSt G Z m H st → RepEnv G cur Z m H s r → WpI G (fun c d H' => W c d s H') Z m H Q (fi r st) → wi s H Q)
    (kg : ∀ (Z : List Addr) (m : Mu) (H : Hp) (s : L2.St) (r r1 : DEnv) (st st1 : Store) (v : V) (d : D) (E : L2.St → Hp → Prop), RepSt G Z m H st → RepEnv G cur Z m H s r → Rep G Z m H v d →
      g d r st = .nx r1 st1 → (∀ s1, st1 = st → RepEnv G cur Z m H s1 r1 → wipe s1 vs = wipe s vs → E s1 H) → tgt v s H E)
    (h : tDE G cur W (dComp fi g t f vs) s H Q) : tLc wi tgt (tDT G cur W0 t) (tDE G cur W0 f) vs s H Q := by
  obtain ⟨Z, m, r, st, hs, he, hw⟩ := h
  refine lc_down ki kg hs he (fin := fun xs st2 => .ok (.lst xs) st2) hw fun xs ys st2 q m2 H2 g2 s2 e2 r2 w2 hq => ?_
  have n2 : some q ∉ m2 := by obtain ⟨_, _, n⟩ := s2.zs q (List.mem_cons_self ..); exact n
  have nz : q ∉ Z := fun k => by
    obtain ⟨xs, e, _⟩ := hs.zs q k
    rw [hq] at e; cases e
  exact w2 m2 H2 _ g2 s2.unban (.lst e2 n2 nz r2.unban)
theorem RepSt.freeze {Z : List Addr} {m : Mu} {H : Hp} {st : Store} {q : Addr} {ys : List V} {xs : List D} (hs : RepSt G (q :: Z) m H st) (nz : q ∉ Z) (e : H q = some (.lst ys)) (r : Reps G (q :: Z) m H ys xs) :
    Grow m H m H → RepSt G Z (m ++ [some q]) H (st ++ [.lst xs]) := fun _ => by
  have nm : some q ∉ m := by obtain ⟨_, _, n⟩ := hs.zs q (List.mem_cons_self ..); exact n
  have key : (∀ {v d}, Rep G (q :: Z) m H v d → Rep G Z (m ++ [some q]) H v d) ∧ ∀ {vs ds}, Reps G (q :: Z) m H vs ds → Reps G Z (m ++ [some q]) H vs ds := by
    have lem : ∀ {a : Addr}, some a ∉ m → a ∉ q :: Z → some a ∉ m ++ [some q] := fun {a} k z w => by
      rcases List.mem_append.mp w with w | w
      · exact k w
      · exact z (by rw [show a = q by simpa using w]; exact List.mem_cons_self ..)
    have lem2 : ∀ {a : Addr} {C dx : Addr} {fs : List (Str × V)}, H a = some (.ins C dx fs) → some a ∉ m → some a ∉ m ++ [some q] := fun {a C dx fs} h k w => by
      rcases List.mem_append.mp w with w | w
      · exact k w
      · rw [show a = q by simpa using w, e] at h; cases h
    have both : ∀ v d, Rep G (q :: Z) m H v d → Rep G Z (m ++ [some q]) H v d := fun v d h =>
      Rep.rec (motive_1 := fun v d _ => Rep G Z (m ++ [some q]) H v d) (motive_2 := fun vs ds _ => Reps G Z (m ++ [some q]) H vs ds)
        .non .bl .int .str (fun h _ r => .tup h r) (fun h k z _ r => .lst h (lem k z) (fun w => z (List.mem_cons_of_mem _ w)) r)
        (fun {n a} h => .loc (by
          rw [List.getElem?_append_left (List.getElem?_eq_some_iff.mp h).1]; exact h))
        (fun h o k f l _ r => .obj h o (lem2 h k) f l r) (fun h => .scr h) .cls .typ .nil (fun _ _ r t => .cons r t) h
    refine ⟨fun {v d} h => both v d h, fun {vs ds} h => ?_⟩
    induction ds generalizing vs with
    | nil => cases h; exact .nil
    | cons d ds ih => cases h with | cons r t => exact .cons (both _ _ r) (ih t)
  refine ⟨by rw [List.length_append, List.length_append, hs.len]; rfl, fun i j a h1 h2 => ?_, fun i a h => ?_, fun z hz => ?_⟩
  · rcases cell_get h1 with k1 | ⟨k1, e1⟩
    · rcases cell_get h2 with k2 | ⟨k2, e2⟩
      · exact hs.inj i j a k1 k2
      · subst e2; exact absurd (List.mem_iff_getElem?.mpr ⟨_, k1⟩) nm
    · rcases cell_get h2 with k2 | ⟨k2, e2⟩
      · subst e1; exact absurd (List.mem_iff_getElem?.mpr ⟨_, k2⟩) nm
      · omega
  · rcases cell_get h with h | ⟨h, ea⟩
    · obtain ⟨c, ec, hc⟩ := hs.cell i a h
      refine ⟨c, by rw [List.getElem?_append_left (List.getElem?_eq_some_iff.mp ec).1]; exact ec, ?_⟩
      cases c with
      | lst ds => obtain ⟨xs, k1, k2⟩ := hc; exact ⟨xs, k1, key.2 k2⟩
      | ins c os =>
        obtain ⟨dx, fs, k1, k2, k3, k4, k5⟩ := hc
        refine ⟨dx, fs, k1, k2, k3, k4, fun i x w e1 e2 => ?_⟩
        have z := k5 i x w e1 e2
        cases w with
        | none => exact z
        | some d => obtain ⟨v, z1, z2⟩ := z; exact ⟨v, z1, key.1 z2⟩
    · subst h; subst ea
      exact ⟨.lst xs, by rw [hs.len, List.getElem?_append_right (Nat.le_refl _), Nat.sub_self]; rfl, ys, e, key.2 r⟩
  · obtain ⟨zs, h1, h2⟩ := hs.zs z (List.mem_cons_of_mem _ hz)
    refine ⟨zs, h1, fun w => ?_⟩
    rcases List.mem_append.mp w with w | w
    · exact h2 w
    · exact nz (by rw [← show z = q by simpa using w]; exact hz)
theorem dCompN_down {fi : DIt} {wi : TI} {g : DTg} {t : DTs} {f : DEx} {tgt : TG} {vs : List Nat} {s : L2.St} {H : Hp} {Q : VK}
    (ki : ∀ (s : L2.St) (H : Hp) (Q : It → Hp → Prop) (Z : List Addr) (m : Mu) (r : DEnv) (st : Store), RepSt G Z m H st → RepEnv G cur Z m H s r → WpI G (fun c d H' => W c d s H') Z m H Q (fi r st) → wi s H Q)
    (kg : ∀ (Z : List Addr) (m : Mu) (H : Hp) (s : L2.St) (r r1 : DEnv) (st st1 : Store) (v : V) (d : D) (E : L2.St → Hp → Prop), RepSt G Z m H st → RepEnv G cur Z m H s r → Rep G Z m H v d →
      g d r st = .nx r1 st1 → (∀ s1, st1 = st → RepEnv G cur Z m H s1 r1 → wipe s1 vs = wipe s vs → E s1 H) → tgt v s H E)
    (h : tDE G cur W (dCompN fi g t f vs) s H Q) : tLc wi tgt (tDT G cur W0 t) (tDE G cur W0 f) vs s H Q := by
  obtain ⟨Z, m, r, st, hs, he, hw⟩ := h
  refine lc_down ki kg hs he (fin := fun xs st2 => .ok (.loc st2.length) (st2 ++ [.lst xs])) hw fun xs ys st2 q m2 H2 g2 s2 e2 r2 w2 hq => ?_
  have nz : q ∉ Z := fun k => by
    obtain ⟨xs, e, _⟩ := hs.zs q k
    rw [hq] at e; cases e
  have s3 := s2.freeze nz e2 r2 .refl
  refine w2 _ H2 _ ?_ s3 (.loc (by rw [← s2.len, List.getElem?_append_right (Nat.le_refl _), Nat.sub_self]; rfl))
  obtain ⟨n, en⟩ := g2.pre
  refine ⟨⟨n ++ [some q], by rw [en, List.append_assoc]⟩, fun b u h k => ⟨(g2.keep b u h k).1, fun w => ?_⟩⟩
  rcases List.mem_append.mp w with w | w
  · exact (g2.keep b u h k).2 w
  · rw [show b = q by simpa using w, hq] at h; cases h
theorem de_lc {fi : DIt} {g : DTg} {ifs : List Expr} {t : DTs} {f : DEx} {fin : List D → Store → RE D} (hfin : fin = (fun xs st => .ok (.lst xs) st) ∨ fin = (fun xs st => .ok (.loc st.length) (st ++ [.lst xs])))
    (hc : X.calm = true) (hN : X.N.Nodup) (hi : DI G cur W X tg iter fi) (ok : BlkOk X.N X.env.scope scope own) (hg : DGc G cur X scope (own.map (·.2)) tg g)
    (ht : ∀ (s : Shared) (H : Hp) (C : Addr) (cl : List (Str × Addr)) (fp : List Addr), PTs (X.blk s H scope (compEnvC scope cl C X.env) fp) ifs (tDT G cur W0 t)) (he : ∀ (s : Shared) (H : Hp) (C : Addr) (cl : List (Str × Addr)) (fp : List Addr), DE G cur W0 (X.blk s H scope (compEnvC scope cl C X.env) fp) elt f)
    (hs : ∀ x, foldedSetIterable iter X.env x = pure x := by intro _; rfl) : DE G cur W X (.ListComp elt [⟨tg, iter, ifs, 0⟩] scope pos) (dCompG fin fi g t f (own.map (·.2))) := by
  obtain ⟨wi, pi, ki⟩ := hi.run
  obtain ⟨tgt, pg, kg⟩ := hg.run
  refine ⟨peW (pe_lc hc hN pi ok pg ht (fun s H C cl fp => (he s H C cl fp).pe) hs) fun s H Q h => ?_⟩
  rcases hfin with e | e
  · subst e; exact dComp_down ki kg h
  · subst e; exact dCompN_down ki kg h
/-- name = [..] on one line -/
theorem ds_setLc {i : Nat} {y : Str} {py spos : Pos} {fi : DIt} {g : DTg} {ifs : List Expr} {t : DTs} {f : DEx} {fin : List D → Store → RE D} (hfin : fin = (fun xs st => .ok (.lst xs) st) ∨ fin = (fun xs st => .ok (.loc st.length) (st ++ [.lst xs])))
    (hc : X.calm = true) (hN : X.N.Nodup) (hy : X.N[i]? = some y) (hyl : X.env.scope.names.lookup y = some .local)
    (hsw : swapsWith (.ListComp elt [⟨tg, iter, ifs, 0⟩] scope pos) (some (.Name y py)) spos.line X.env = pure true)
    (hi : DI G cur W X tg iter fi) (ok : BlkOk X.N X.env.scope scope own) (hg : DGc G cur X scope (own.map (·.2)) tg g)
    (ht : ∀ (s : Shared) (H : Hp) (C : Addr) (cl : List (Str × Addr)) (fp : List Addr), PTs (X.blk s H scope (compEnvC scope cl C X.env) fp) ifs (tDT G cur W0 t)) (he : ∀ (s : Shared) (H : Hp) (C : Addr) (cl : List (Str × Addr)) (fp : List Addr), DE G cur W0 (X.blk s H scope (compEnvC scope cl C X.env) fp) elt f)
    (hs : ∀ x, foldedSetIterable iter X.env x = pure x := by intro _; rfl) : DS G cur W X (.Assign [.Name y py] (.ListComp elt [⟨tg, iter, ifs, 0⟩] scope pos) spos) (dSet i (dCompG fin fi g t f (own.map (·.2)))) := by
  obtain ⟨wi, pi, ki⟩ := hi.run
  obtain ⟨tgt, pg, kg⟩ := hg.run
  refine ⟨psW (ps_setLc hc hN hy hyl hsw pi ok pg ht (fun s H C cl fp => (he s H C cl fp).pe) hs) fun E s H ⟨Z, m, r, st, hs, he, hw⟩ => ?_⟩
  have h : tDE G cur W (dCompG fin fi g t f (own.map (·.2))) s H (fun x H1 => E.nx (s.set i (some x)) H1) :=
    sexp_down hs he hw fun d v st1 m1 H1 _ s1 e1 rv w1 => w1 m1 H1 _ .refl s1 (e1.set rv i)
  rcases hfin with e | e
  · subst e; exact dComp_down ki kg h
  · subst e; exact dCompN_down ki kg h
def dYes : DTs := fun _ st => .ok true st
theorem pts0 {Y : Cx} : PTs Y [] (tDT G cur W0 dYes) := ⟨fun p s r H Q I ⟨Z, m, r', st, hs, he, hw⟩ => pts_nil.run p s r H Q I (hw m H true .refl hs rfl)⟩
theorem pts1 {Y : Cx} {c : Expr} {t : DTs} (h : DT G cur W0 Y c t) : PTs Y [c] (tDT G cur W0 t) := pts_one h.pt

/-! ## writing a cell -/
def cellSet (st : Store) (n : Nat) (ds : List D) : Store := st.set n (.lst ds)
/-- x[i] = v -/
def gSubD (fo fi : DEx) : DTg := fun d r st => match fo r st with
  | .ok (.loc n) st1 => (match fi r st1 with
    | .ok (.int k) st2 => (match st2[n]? with
      | some (.lst ds) => (match ixN ds.length k with
        | some j => .nx r (st2.set n (.lst (ds.set j d)))
        | none => .stuck)
      | _ => .stuck)
    | _ => .stuck)
  | _ => .stuck
theorem dg_sub {fo fi : DEx} (ho : DE G cur W0 X.nox o fo) (hi : DE G cur W0 X.nox ix fi)
    (ha : ∀ v, assign (.Subscript o ix pos) X.env v = (do
      let ov ← holding [v] (eval o X.env)
      let iv ← holding [v, ov] (eval ix X.env)
      standAt pos
      holding [v, ov, iv] (setItem ov iv v)
      release [v, ov, iv] []) := by intro _; rfl) : DG G cur W X (.Subscript o ix pos) (gSubD fo fi) := by
  refine ⟨gSub (tDE G cur W0 fo) (tDE G cur W0 fi) rSetL, pg_sub ho.pe.nox hi.pe.nox set_list ha, fun Z m H s r st v d E hs he rv ⟨r1, st1, e⟩ hw => ?_⟩
  unfold gSubD at e hw
  refine ⟨Z, m, r, st, hs, he, ?_⟩
  cases eo : fo r st with
  | stuck => rw [eo] at hw; exact hw.elim
  | exc x st1 => rw [eo] at hw; exact hw.elim
  | ok od st1 =>
    rw [eo] at hw
    intro m1 H1 ov g1 s1 ro
    cases ro with
    | @loc n a hm =>
      dsimp only at hw
      refine ⟨Z, m1, r, st1, s1, he.grow hs.ok g1, ?_⟩
      replace hw := WpS.grow g1 hw
      cases ei : fi r st1 with
      | stuck => rw [ei] at hw; exact hw.elim
      | exc x st2 => rw [ei] at hw; exact hw.elim
      | ok id st2 =>
        rw [ei] at hw
        intro m2 H2 iv g2 s2 ri
        cases ri with
        | @int k =>
          dsimp only at hw
          replace hw := WpS.grow g2 hw
          obtain ⟨c, ec, hc⟩ := s2.cell n a (g2.get hm)
          rw [ec] at hw
          cases c with
          | ins c os => exact hw.elim
          | lst ds =>
            obtain ⟨xs, h1, h2⟩ := hc
            dsimp only at hw
            cases ej : ixN ds.length k with
            | none => rw [ej] at hw; exact hw.elim
            | some j =>
              rw [ej] at hw
              have rv2 : Rep G Z m2 H2 v d := (rv.grow hs.ok g1).grow s1.ok g2
              have hm2 : m2[n]? = some (some a) := g2.get hm
              refine ⟨a, xs, k, j, rfl, rfl, h1, by rw [h2.length]; exact ej, ?_⟩
              have e2 : RepEnv G cur Z m2 H2 s r := (he.grow hs.ok g1).grow s1.ok g2
              exact hw m2 _ s (.fluxM (st := st2) hm2) (s2.fluxM h1 hm2 (h2.set rv2 j)) (e2.flux h1 (.inr (List.mem_iff_getElem?.mpr ⟨n, hm2⟩)))
        | _ => exact hw.elim
    | _ => exact hw.elim
/-- x.append(e) -/
def dApp (fo fe : DEx) : DEx := fun r st => (fo r st).bind fun x st1 => match x with
  | .loc n => (match st1[n]? with
    | some (.lst _) => (fe r st1).bind fun y st2 => (match st2[n]? with
      | some (.lst ds) => if ds.length < sizeLine then .ok .non (st2.set n (.lst (ds ++ [y]))) else .stuck
      | _ => .stuck)
    | _ => .stuck)
  | _ => .stuck
theorem de_app {apos : Pos} {fo fe : DEx} (hK : X.K = G.K) (ho : DE G cur W X o fo) (he : DE G cur W X e fe)
    (h : ∀ to ta, PE X o to → PE X e ta → PE X (.Call (.Attribute o "append" apos) [e] [] pos) (tBM X.K "list" rAppend to (tCons ta tNil))) : DE G cur W X (.Call (.Attribute o "append" apos) [e] [] pos) (dApp fo fe) :=
  ⟨peW (h _ _ ho.pe he.pe) fun s H Q ⟨Z, m, r, st, hs, he, hw⟩ => exp_down hs he hw fun x v st1 m1 H1 _ s1 e1 rx w1 => by
    cases rx with
    | @loc n a hm =>
      obtain ⟨c, ec, hc⟩ := s1.cell n a hm
      dsimp only at w1
      rw [ec] at w1
      cases c with
      | lst ds0 =>
        obtain ⟨xs0, h0, _⟩ := hc
        refine ⟨.inl ⟨rfl, xs0, SqL.of h0⟩, exp_down s1 e1 w1 fun y u st2 m2 H2 g2 s2 e2 ry w2 => ?_⟩
        obtain ⟨c, ec2, hc2⟩ := s2.cell n a (g2.get hm)
        rw [ec2] at w2
        cases c with
        | ins c os => exact w2.elim
        | lst ds =>
          obtain ⟨xs, h1, h2⟩ := hc2
          obtain ⟨hl, w2⟩ := re_ok w2
          refine ⟨a, xs, u, rfl, rfl, h1, by rw [h2.length]; exact hl, ?_⟩
          have hm2 : m2[n]? = some (some a) := g2.get hm
          exact w2 m2 _ _ (.fluxM (st := st2) hm2) (s2.fluxM h1 hm2 (h2.app (.cons ry .nil))) .non
      | ins c os => exact w1.elim
    | _ => exact w1.elim⟩
end
end Dl
namespace Dl
open PySem PySem.Spec PyProof.Rows L2

/-! ## defs -/
def env0 (n : Nat) (ds : List D) : DEnv := ds.map Slot.val ++ List.replicate (n - ds.length) .no
def outD : RS → RE D
  | .rt d st => .ok d st
  | .nx _ st => .ok .non st
  | .ex e _ st => .exc e st
  | _ => .stuck
/-- a def that leaves the cells' number as it is, or leaves more cells on purpose -/
def runD (n : Nat) (body : DSt) : DFun := fun ds st => outD (body (env0 n ds) st)
def spD (G : Gx) (np : Nat) (F : DFun) : Sp := fun vs H Q E => vs.length = np ∧ ∃ Z m st ds, RepSt G Z m H st ∧ Reps G Z m H vs ds ∧ WpE G (fun c d H' => E c d H') Z m H (Rep G Z) Q (F ds st)
theorem repEnv_start {G : Gx} {cur : Cur} {Z : List Addr} {m : Mu} {H : Hp} {N : List Str} {vs : List V} {ds : List D} (r : Reps G Z m H vs ds) : RepEnv G cur Z m H (L2.start N vs) (env0 N.length ds) := by
  refine ⟨?_, fun i sl e => ?_⟩
  · unfold L2.start env0
    rw [List.length_append, List.length_append, List.length_map, List.length_map, List.length_replicate, List.length_replicate, r.length]
  · unfold L2.start
    unfold env0 at e
    by_cases hi : i < ds.length
    · rw [List.getElem?_append_left (by rw [List.length_map]; exact hi), List.getElem?_map] at e
      rw [List.getElem?_append_left (by rw [List.length_map, r.length]; exact hi), List.getElem?_map]
      cases ed : ds[i]? with
      | none => rw [ed] at e; cases e
      | some d =>
        rw [ed] at e
        cases e
        obtain ⟨v, e1, rv⟩ := r.get ed
        exact ⟨some v, by rw [e1]; rfl, v, rfl, rv⟩
    · rw [List.getElem?_append_right (by rw [List.length_map]; omega), List.getElem?_replicate] at e
      rw [List.getElem?_append_right (by rw [List.length_map, r.length]; omega), List.getElem?_replicate]
      rw [List.length_map] at e ⊢
      rw [r.length]
      split at e
      · cases e
        rename_i h
        exact ⟨none, by rw [if_pos h], trivial⟩
      · cases e
section
variable {P : Program} {w : World} {K : PySem.W.Frag} {mg : Str → Option Value} {base : Heap}
/-- the context of a def's body -/
abbrev cxD (P : Program) (w : World) (K : PySem.W.Frag) (mg : Str → Option Value) (base : Heap) (N : List Str) (qual : Str) (scope : Scope) (f : Addr) (cdv : Value) (A : Around) (outer : List Env) (s : Shared) (H : Hp) (E : XK) : Cx :=
  cxOf (L2.CX P w) P w K mg base N qual scope f cdv A outer s H E
abbrev WD (E : XK) : WX := fun c d _ H => E c d H
theorem body_out {G : Gx} {cur : Cur} {W : Value → Option Addr → Hp → Prop} {Z : List Addr} {m : Mu} {H : Hp} {Q : VK} {o : RS} (h : WpE G W Z m H (Rep G Z) Q (outD o)) : WpS G cur (fun c d _ H => W c d H) Z m H { nx := fun _ H' => Q .non H', rt := Q } o := by
  cases o with
  | nx r st => exact fun m1 H1 s1 g1 hs1 _ => h m1 H1 _ g1 hs1 .non
  | rt d st => exact fun m1 H1 v g1 hs1 rv => h m1 H1 v g1 hs1 rv
  | bk r st => exact h.elim
  | ct r st => exact h.elim
  | ex e r st => exact fun m1 H1 s1 c d g1 hs1 _ rx => h m1 H1 c d g1 hs1 rx
  | stuck => exact h
theorem fn_D {G : Gx} {x qual : Str} {params : Arguments} {bd : List Stmt} {scope : Scope} {dvs : List V} {kws : List (Str × V)} {f : Addr} {fd : FuncData} {N ps : List Str} {k : Nat} {body : DSt}
    (F : FunD K x qual params bd scope dvs kws f fd) (S : FnScope N ps scope)
    (hb : ∀ (cdv : Value) (A : Around) (outer : List Env) (s : Shared) (H : Hp) (E : XK), Room k (A.deeper (envOfC qual scope s.heap.objs.size f cdv)) → Takes (cxD P w K mg base N qual scope f cdv A outer s H E) (WD E) →
      PassesOwn (model P w) (cxD P w K mg base N qual scope f cdv A outer s H E).A (cxD P w K mg base N qual scope f cdv A outer s H E).env (cxD P w K mg base N qual scope f cdv A outer s H E).xe →
      DB G none (WD E) (cxD P w K mg base N qual scope f cdv A outer s H E) bd body) :
    FnOk P w K mg base (L2.CX P w) (k + 1) f fd ps (spD G ps.length (runD N.length body)) := by
  refine F.ok S (fun vs H Q E h => h.1) fun cdv A outer s H vs Q E hr h => ?_
  obtain ⟨hl, Z, m, st, ds, hs, r, hw⟩ := h
  refine ⟨_, (hb cdv A outer s H E hr (takes_of rfl rfl rfl rfl) (passes_of rfl)).pss, Z, m, env0 N.length ds, st, hs, repEnv_start r, ?_⟩
  exact body_out hw
end

/-! ## calls of defs -/
structure Callee (G : Gx) (P : Program) (w : World) (mg : Str → Option Value) (base : Heap) (x : Str) (k np : Nat) (dd : List D) (F : DFun) : Prop where
  ex : ∃ (f : Addr) (fd : FuncData) (ps : List Str) (dvs : List V) (dus : List Value), mg x = some (.ref f) ∧ PySem.W.keepIn G.K (.ref f) = true ∧ FnOk P w G.K mg base (L2.CX P w) k f fd ps (spD G np F) ∧ ps.length = np ∧
    Binds G.K fd ps dus ∧ Vals dvs dus ∧ ∀ Z m H, Reps G Z m H dvs dd
theorem Callee.mono {G P w mg base x j k np dd F} (c : Callee G P w mg base x j np dd F) (h : j ≤ k) : Callee G P w mg base x k np dd F := by
  obtain ⟨f, fd, ps, dvs, dus, h1, h2, h3, h4⟩ := c.ex
  exact ⟨f, fd, ps, dvs, dus, h1, h2, h3.mono h, h4⟩
def dCall (F : DFun) (dd : List D) (fa : DAs) : DEx := fun r st => (fa r st).bind fun xs st1 => F (xs ++ dd) st1
section
variable {G : Gx} {cur : Cur} {W : WX} {X : Cx} {e : Expr} {es : List Expr} {pos p : Pos} {x : Str} {k np : Nat} {dd : List D} {F : DFun} {fa : DAs}
theorem run_callD {f : Addr} {fd : FuncData} {ps : List Str} {dvs : List V} {dus : List Value} (tk : Takes X W) (hr : Room k X.A) (h3 : FnOk X.prog X.w X.K X.mg X.base (L2.CX X.prog X.w) k f fd ps (spD G np F)) (hp : ps.length = np)
    (h4 : Binds X.K fd ps dus) (h5 : Vals dvs dus) {pins : List (Addr × Obj)} {σ : L2.St} {H : Hp} {s : Shared} {Q : VK} {us : List Value} {vs : List V}
    (I : Inv X pins σ H s) (r : Vals vs us) {Z : List Addr} {m : Mu} {st : Store} {ds : List D} (hl : (vs ++ dvs).length = np) (hs : RepSt G Z m H st) (rr : Reps G Z m H (vs ++ dvs) ds)
    (hw : WpE G (fun c d H' => W c d σ H') Z m H (Rep G Z) Q (F ds st)) : wpAny (model X.prog X.w) X.A (call (.ref f) us) (EP X pins σ Q) X.xe s := by
  have r2 : Vals (vs ++ dvs) (us ++ dus) := r.append h5
  have hl2 : (us ++ dus).length = ps.length := by rw [← r2.length, hp]; exact hl
  refine wpAny_call (codeAny_mono (h3.run X.A X.stack s H ⟨us, []⟩ (us ++ dus) (vs ++ dvs) Q (fun c d H' => W c d σ H') hr I.env0 (h4 s us I.kIn hl2) r2 ⟨hl, Z, m, st, ds, hs, rr, hw⟩) fun r s' hq => ?_)
  cases r with
  | error e => exact passAt tk σ pins H s e s' I hq
  | ok fl =>
    cases fl with
    | ret u => exact I.after hq
    | next => exact False.elim hq
    | brk => exact False.elim hq
    | cont => exact False.elim hq
theorem de_call (C : Callee G X.prog X.w X.mg X.base x k np dd F) (hK : X.K = G.K) (tk : Takes X W) (hr : Room k X.A) (hg : Gl X x) (ha : DA G cur W X (e :: es) fa) (hn : (e :: es).length + dd.length = np)
    (hdb : (x == ("__debug__" : Str)) = false := by decide) (he : starEach (e :: es) X.env = (false, eval e X.env) :: starEach es X.env := by rfl) (hpl : (backTo pos (starEach es X.env)).any (·.1) = false := by rfl) :
    DE G cur W X (.Call (.Name x p) (e :: es) [] pos) (dCall F dd fa) := by
  obtain ⟨f, fd, ps, dvs, dus, h1, h2, h3, hp, h4, h5, h6⟩ := C.ex
  rw [← hK] at h2 h3 h4
  refine ⟨⟨fun pins s σ H Q I ⟨Z, m, r, st, hs, henv, hw⟩ => ?_⟩⟩
  refine wpAny_Call_Name_kw (ld_glob I hg h1 ?_ hdb)
  have h : tDA G cur W fa σ H fun vs H1 => ∃ Z m st ds, (vs ++ dvs).length = np ∧ RepSt G Z m H1 st ∧ Reps G Z m H1 (vs ++ dvs) ds ∧ WpE G (fun c d H' => W c d σ H') Z m H1 (Rep G Z) Q (F ds st) := by
    refine ⟨Z, m, r, st, hs, henv, ?_⟩
    unfold dCall at hw
    cases ea : fa r st with
    | stuck => rw [ea] at hw; exact hw.elim
    | exc x st1 => rw [ea] at hw; exact hw
    | ok xs st1 =>
      rw [ea] at hw
      intro m1 H1 vs g1 s1 rx
      have hxl := ha.len _ _ _ _ ea
      refine ⟨Z, m1, st1, xs ++ dd, ?_, s1, rx.app (h6 Z m1 H1), WpE.grow g1 hw⟩
      rw [List.length_append, rx.length, (h6 Z m1 H1).length, hxl]
      exact hn
  refine PySem.W.callWith_K (h₀ := X.base) I.ok.mod.kin h2 (thn (ha.pa.run pos pins s σ H _ I h) fun us s1 ⟨vs, H1, I1, r1, q⟩ => ⟨I1.kIn, ?_⟩) he hpl
  obtain ⟨Z1, m1, st1, ds, hl, s1', rr, w1⟩ := q
  exact run_callD tk hr h3 hp h4 h5 I1 r1 hl s1' rr w1
/-- f() -/
theorem de_call0 (C : Callee G X.prog X.w X.mg X.base x k np dd F) (hK : X.K = G.K) (tk : Takes X W) (hr : Room k X.A) (hg : Gl X x) (hn : dd.length = np) (hdb : (x == ("__debug__" : Str)) = false := by decide) :
    DE G cur W X (.Call (.Name x p) [] [] pos) (dCall F dd dNil) := by
  obtain ⟨f, fd, ps, dvs, dus, h1, h2, h3, hp, h4, h5, h6⟩ := C.ex
  rw [← hK] at h2 h3 h4
  refine ⟨⟨fun pins s σ H Q I ⟨Z, m, r, st, hs, henv, hw⟩ => ?_⟩⟩
  refine wpAny_Call_Name_kw (ld_glob I hg h1 ?_ hdb)
  refine PySem.W.callWith_K0 I.kIn h2 (run_callD (us := []) (vs := []) tk hr h3 hp h4 h5 I .nil (Z := Z) (m := m) (st := st) (ds := dd) ?_ hs (h6 Z m H) hw)
  rw [List.nil_append, (h6 Z m H).length]
  exact hn
end
end Dl
namespace Dl
open PySem PySem.Spec PyProof.Rows L2

/-! ## == of data -/
mutual
def pyD0 : D → Option PyData
  | .non => some .none
  | .bl b => some (.bool b)
  | .int i => some (.int i)
  | .str x => some (.str x)
  | .tup ds => (pyAll0 ds).map PyData.tuple
  | .lst ds => (pyAll0 ds).map PyData.list
  | .scr ns => some (.list (ns.map PyData.int))
  | _ => none
def pyAll0 : List D → Option (List PyData)
  | [] => some []
  | d :: ds => (pyD0 d).bind fun x => (pyAll0 ds).map fun xs => x :: xs
end
def pyD (st : Store) : D → Option PyData
  | .loc n => (match st[n]? with
    | some (.lst ds) => (pyAll0 ds).map PyData.list
    | _ => none)
  | d => pyD0 d
section
variable {G : Gx} {Z : List Addr} {m : Mu} {H : Hp} {st : Store}
theorem dpInts : ∀ (ns : List Int), DpAll G.K H (ns.map V.int) (ns.map PyData.int)
  | [] => .nil
  | n :: ns => .cons (.int n) (dpInts ns)
mutual
theorem dp0 : ∀ {v d x}, Rep G Z m H v d → pyD0 d = some x → Dp G.K H v x
  | _, _, _, .non, e => by cases e; exact .non
  | _, _, _, .bl, e => by cases e; exact .bl _
  | _, _, _, .int, e => by cases e; exact .int _
  | _, _, _, .str, e => by cases e; exact .str _
  | _, .tup ds, _, .tup h r, e => by
    simp only [pyD0] at e
    cases q : pyAll0 ds with
    | none => rw [q] at e; cases e
    | some xs => rw [q] at e; cases e; exact .tup h (dpAll0 r q)
  | _, .lst ds, _, .lst h _ _ r, e => by
    simp only [pyD0] at e
    cases q : pyAll0 ds with
    | none => rw [q] at e; cases e
    | some xs => rw [q] at e; cases e; exact .lst (SqL.of h) (dpAll0 r q)
  | _, _, _, .loc _, e => by cases e
  | _, _, _, .obj _ _ _ _ _ _, e => by cases e
  | _, _, _, .scr h, e => by cases e; exact .lst h.seq (dpInts _)
  | _, _, _, .cls, e => by cases e
  | _, _, _, .typ, e => by cases e
theorem dpAll0 : ∀ {vs ds xs}, Reps G Z m H vs ds → pyAll0 ds = some xs → DpAll G.K H vs xs
  | _, _, _, .nil, e => by cases e; exact .nil
  | _, d :: ds, _, .cons r t, e => by
    simp only [pyAll0] at e
    cases q : pyD0 d with
    | none => rw [q] at e; cases e
    | some x =>
      rw [q] at e
      simp only [Option.bind_some] at e
      cases q2 : pyAll0 ds with
      | none => rw [q2] at e; cases e
      | some ys => rw [q2] at e; cases e; exact .cons (dp0 r q) (dpAll0 t q2)
end
theorem dp_at {v : V} {d : D} {x : PyData} (hs : RepSt G Z m H st) (r : Rep G Z m H v d) (e : pyD st d = some x) : Dp G.K H v x := by
  cases r with
  | loc h1 =>
    rename_i n a
    obtain ⟨c, ec, hc⟩ := hs.cell _ _ h1
    simp only [pyD, ec] at e
    cases c with
    | ins c os => cases e
    | lst ds =>
      obtain ⟨xs, h2, h3⟩ := hc
      simp only at e
      cases q : pyAll0 ds with
      | none => rw [q] at e; cases e
      | some ys => rw [q] at e; cases e; exact .lst (SqL.of h2) (dpAll0 h3 q)
  | non => exact dp0 (Z := Z) (m := m) .non e
  | bl => exact dp0 (Z := Z) (m := m) .bl e
  | int => exact dp0 (Z := Z) (m := m) .int e
  | str => exact dp0 (Z := Z) (m := m) .str e
  | tup h1 h2 => exact dp0 (.tup h1 h2) e
  | lst h1 h2 h3 h4 => exact dp0 (.lst h1 h2 h3 h4) e
  | obj h1 h2 h3 h4 h5 h6 => cases e
  | scr h => exact dp0 (Z := Z) (m := m) (.scr h) e
  | cls => cases e
  | typ => cases e
end
def eqD (st : Store) (x y : D) : Option Bool := match pyD st x, pyD st y with
  | some a, some b => if SeqAt.shaped a = true ∧ SeqAt.shaped b = true then some (PyData.eqv a b) else none
  | _, _ => none
def dEqN (neg : Bool) : DOp2 := fun x y st => match eqD st x y with
  | some b => .ok (.bl (if neg then !b else b)) st
  | none => .stuck
abbrev dEq : DOp2 := dEqN false
abbrev dNe : DOp2 := dEqN true
/-- x in ys -/
def inD (st : Store) (x y : D) : Option Bool := match pyD st x, pyD st y with
  | some a, some (.list bs) => if SeqAt.shaped a = true ∧ SeqAt.shaped (.list bs) = true then some (bs.any fun z => PyData.eqv z a) else none
  | _, _ => none
def dInN (neg : Bool) : DOp2 := fun x y st => match inD st x y with
  | some b => .ok (.bl (if neg then !b else b)) st
  | none => .stuck
abbrev dIn : DOp2 := dInN false
abbrev dNotIn : DOp2 := dInN true
section
variable {G : Gx} {X : Cx}
theorem eqD_at {Z : List Addr} {m : Mu} {H : Hp} {st : Store} {x y : V} {dx dy : D} {b : Bool} (hs : RepSt G Z m H st) (r1 : Rep G Z m H x dx) (r2 : Rep G Z m H y dy) (e : eqD st dx dy = some b) :
    ∃ p q, Dp G.K H x p ∧ Dp G.K H y q ∧ SeqAt.shaped p = true ∧ SeqAt.shaped q = true ∧ b = PyData.eqv p q := by
  unfold eqD at e
  cases e1 : pyD st dx with
  | none => rw [e1] at e; cases e
  | some p =>
    cases e2 : pyD st dy with
    | none => rw [e1, e2] at e; cases e
    | some q =>
      rw [e1, e2] at e
      simp only at e
      split at e
      · rename_i k
        exact ⟨p, q, dp_at hs r1 e1, dp_at hs r2 e2, k.1, k.2, (Option.some.inj e).symm⟩
      · cases e
theorem op_eqDD (hK : X.K = G.K) (hu : X.A.units + 64 < cLine) : OpR X (compareOp .Eq) (rD G dEq) := by
  intro pins s σ H x y v u Q I rx ry ⟨Z, m, st, dx, dy, hs, r1, r2, hw⟩
  simp only [dEqN] at hw
  cases e : eqD st dx dy with
  | none => rw [e] at hw; exact hw.elim
  | some b =>
    rw [e] at hw
    obtain ⟨p, q, h1, h2, h3, h4, rfl⟩ := eqD_at hs r1 r2 e
    exact op_eqD hu pins s σ H _ _ v u Q I rx ry ⟨p, q, by rw [hK]; exact h1, by rw [hK]; exact h2, h3, h4, hw m H _ .refl hs .bl⟩
theorem op_neDD (hK : X.K = G.K) (hu : X.A.units + 64 < cLine) : OpR X (compareOp .NotEq) (rD G dNe) := by
  intro pins s σ H x y v u Q I rx ry ⟨Z, m, st, dx, dy, hs, r1, r2, hw⟩
  simp only [dEqN] at hw
  cases e : eqD st dx dy with
  | none => rw [e] at hw; exact hw.elim
  | some b =>
    rw [e] at hw
    obtain ⟨p, q, h1, h2, h3, h4, rfl⟩ := eqD_at hs r1 r2 e
    exact op_neD hu pins s σ H _ _ v u Q I rx ry ⟨p, q, by rw [hK]; exact h1, by rw [hK]; exact h2, h3, h4, hw m H _ .refl hs .bl⟩
theorem inD_at {Z : List Addr} {m : Mu} {H : Hp} {st : Store} {x y : V} {dx dy : D} {b : Bool} (hs : RepSt G Z m H st) (r1 : Rep G Z m H x dx) (r2 : Rep G Z m H y dy) (e : inD st dx dy = some b) :
    ∃ p qs, Dp G.K H x p ∧ Dp G.K H y (.list qs) ∧ SeqAt.shaped p = true ∧ SeqAt.shaped (.list qs) = true ∧ b = qs.any fun z => PyData.eqv z p := by
  unfold inD at e
  cases e1 : pyD st dx with
  | none => rw [e1] at e; cases e
  | some p =>
    cases e2 : pyD st dy with
    | none => rw [e1, e2] at e; cases e
    | some q =>
      rw [e1, e2] at e
      cases q with
      | list qs =>
        simp only at e
        split at e
        · rename_i k
          exact ⟨p, qs, dp_at hs r1 e1, dp_at hs r2 e2, k.1, k.2, (Option.some.inj e).symm⟩
        · cases e
      | _ => cases e
theorem op_inDD (hK : X.K = G.K) (hu : X.A.units + 65 < cLine) : OpR X (compareOp .In) (rD G dIn) := by
  intro pins s σ H x y v u Q I rx ry ⟨Z, m, st, dx, dy, hs, r1, r2, hw⟩
  simp only [dInN] at hw
  cases e : inD st dx dy with
  | none => rw [e] at hw; exact hw.elim
  | some b =>
    rw [e] at hw
    obtain ⟨p, q, h1, h2, h3, h4, rfl⟩ := inD_at hs r1 r2 e
    exact op_inD hu pins s σ H _ _ v u Q I rx ry ⟨p, q, by rw [hK]; exact h1, by rw [hK]; exact h2, h3, h4, hw m H _ .refl hs .bl⟩
theorem op_notInDD (hK : X.K = G.K) (hu : X.A.units + 65 < cLine) : OpR X (compareOp .NotIn) (rD G dNotIn) := by
  intro pins s σ H x y v u Q I rx ry ⟨Z, m, st, dx, dy, hs, r1, r2, hw⟩
  simp only [dInN] at hw
  cases e : inD st dx dy with
  | none => rw [e] at hw; exact hw.elim
  | some b =>
    rw [e] at hw
    obtain ⟨p, q, h1, h2, h3, h4, rfl⟩ := inD_at hs r1 r2 e
    exact op_notInD hu pins s σ H _ _ v u Q I rx ry ⟨p, q, by rw [hK]; exact h1, by rw [hK]; exact h2, h3, h4, hw m H _ .refl hs .bl⟩
end

/-! ## isinstance -/
/-- the built-in type of a value -/
inductive Ty where
  | non | bl | int | str | tup | lst
  deriving DecidableEq
def Ty.nm : Ty → String
  | .non => "NoneType"
  | .bl => "bool"
  | .int => "int"
  | .str => "str"
  | .tup => "tuple"
  | .lst => "list"
/-- what a value is: of a built-in type, an instance of a class -/
inductive Kd where
  | ty (t : Ty)
  | own (c : Nat)
def kdOf (st : Store) : D → Option Kd
  | .non => some (.ty .non)
  | .bl _ => some (.ty .bl)
  | .int _ => some (.ty .int)
  | .str _ => some (.ty .str)
  | .tup _ => some (.ty .tup)
  | .lst _ => some (.ty .lst)
  | .scr _ => some (.ty .lst)
  | .loc n => (match st[n]? with
    | some (.lst _) => some (.ty .lst)
    | _ => none)
  | .obj c _ => some (.own c)
  | _ => none
def Ty.sub : Ty → Ty → Bool
  | .bl, .int => true
  | a, b => decide (a = b)
def tyOf (n : String) : Option Ty := if n = "int" then some .int else if n = "bool" then some .bl else if n = "str" then some .str else if n = "tuple" then some .tup else if n = "list" then some .lst else none
theorem tyOf_nm {n : String} {t : Ty} (h : tyOf n = some t) : n = t.nm ∧ t ≠ .non := by
  unfold tyOf at h
  repeat (split at h; (rename_i e; cases h; exact ⟨e, fun z => by cases z⟩))
  cases h
theorem kit_bi {K : PySem.W.Frag} : ∀ a b : Ty, b ≠ .non → PySem.W.kitOne K (.type a.nm) (.type b.nm) = some (a.sub b) := by
  intro a b hb
  cases b with
  | non => exact absurd rfl hb
  | _ => cases a <;> exact kit_ty (by decide +kernel)
/-- what the classes are to each other, and to the built-in types -/
structure KindOk (G : Gx) (cs : List Nat) (sub : Nat → Nat → Bool) : Prop where
  one : ∀ a ∈ cs, ∀ b ∈ cs, PySem.W.kitOne G.K (.ref (G.ca a)) (.ref (G.ca b)) = some (sub a b)
  to : ∀ a ∈ cs, ∀ t : Ty, t ≠ .non → PySem.W.kitOne G.K (.ref (G.ca a)) (.type t.nm) = some false
  of : ∀ (t : Ty), ∀ b ∈ cs, PySem.W.kitOne G.K (.type t.nm) (.ref (G.ca b)) = some false
  ty : ∀ a ∈ cs, ∀ (H : Hp) (x dx : Addr) (fs : List (Str × V)), H x = some (.ins (G.ca a) dx fs) → TyX G.K H (.ref x) (.ref (G.ca a))
def kdVal (G : Gx) : Kd → Value
  | .ty t => .type t.nm
  | .own c => .ref (G.ca c)
/-- is it of that class -/
def isD (cs : List Nat) (sub : Nat → Nat → Bool) (k : Kd) (c : D) : Option Bool := match k, c with
  | .ty a, .typ n => (tyOf n).map fun b => a.sub b
  | .ty _, .cls b => if b ∈ cs then some false else none
  | .own a, .typ n => if a ∈ cs then (tyOf n).map fun _ => false else none
  | .own a, .cls b => if a ∈ cs ∧ b ∈ cs then some (sub a b) else none
  | _, _ => none
def dIsi (cs : List Nat) (sub : Nat → Nat → Bool) : DOpN := fun ds st => match ds with
  | [x, c] => (match (kdOf st x).bind fun k => isD cs sub k c with
    | some b => .ok (.bl b) st
    | none => .stuck)
  | _ => .stuck
section
variable {G : Gx} {X : Cx} {cs : List Nat} {sub : Nat → Nat → Bool}
theorem ty_seqL {H : Hp} {a : Addr} {xs : List V} (h : SqL G.K H a xs) : TyX G.K H (.ref a) (.type "list") := by
  rcases h with (h | ⟨o, h⟩) | ⟨o, its, n, h1, h2, _⟩
  · exact .base (.lst h)
  · exact .base (.frz h)
  · exact .kList h1 h2
theorem ty_seqT {H : Hp} {a : Addr} {xs : List V} (h : SqT G.K H a xs) : TyX G.K H (.ref a) (.type "tuple") := by
  rcases h with (h | ⟨o, h⟩) | ⟨o, its, n, h1, h2, _⟩
  · exact .base (.tup h)
  · exact .fTuple h
  · exact .kTuple h1 h2
theorem kd_at {Z : List Addr} {m : Mu} {H : Hp} {st : Store} {v : V} {d : D} {k : Kd} (ko : KindOk G cs sub) (hs : RepSt G Z m H st) (r : Rep G Z m H v d) (e : kdOf st d = some k) (hc : ∀ c, k = .own c → c ∈ cs) : TyX G.K H v (kdVal G k) := by
  cases r with
  | non => cases e; exact .base .non
  | bl => cases e; exact .base (.bl _)
  | int => cases e; exact .base (.int _)
  | str => cases e; exact .base (.str _)
  | tup h1 h2 => cases e; exact ty_seqT h1
  | lst h1 h2 h3 h4 => cases e; exact .base (.lst h1)
  | loc h1 =>
    rename_i n a
    obtain ⟨c, ec, hc⟩ := hs.cell _ _ h1
    simp only [kdOf, ec] at e
    cases c with
    | ins c os => cases e
    | lst ds => obtain ⟨xs, h2, _⟩ := hc; cases e; exact .base (.lst h2)
  | obj h1 h2 h3 h4 h5 h6 => cases e; exact ko.ty _ (hc _ rfl) H _ _ _ h1
  | scr h => cases e; exact ty_seqL h.seq
  | cls => cases e
  | typ => cases e
theorem is_at {Z : List Addr} {m : Mu} {H : Hp} {v : V} {c : D} {k : Kd} {b : Bool} (ko : KindOk G cs sub) (r : Rep G Z m H v c) (e : isD cs sub k c = some b) :
    (∀ c, k = .own c → c ∈ cs) ∧ ∃ u, ClsV v u ∧ PySem.W.kitOne G.K (kdVal G k) u = some b := by
  cases c with
  | typ n =>
    cases r
    cases k with
    | ty a =>
      simp only [isD] at e
      cases q : tyOf n with
      | none => rw [q] at e; cases e
      | some t =>
        rw [q] at e
        cases e
        obtain ⟨e1, e2⟩ := tyOf_nm q
        subst e1
        exact ⟨fun c z => (by cases z), _, .ty _, kit_bi a t e2⟩
    | own a =>
      simp only [isD] at e
      split at e
      · rename_i ha
        cases q : tyOf n with
        | none => rw [q] at e; cases e
        | some t =>
          rw [q] at e
          cases e
          obtain ⟨e1, e2⟩ := tyOf_nm q
          subst e1
          exact ⟨fun c z => (by cases z; exact ha), _, .ty _, ko.to a ha t e2⟩
      · cases e
  | cls n =>
    cases r
    cases k with
    | ty a =>
      simp only [isD] at e
      split at e
      · rename_i hb
        cases e
        exact ⟨fun c z => (by cases z), _, .own _, ko.of a n hb⟩
      · cases e
    | own a =>
      simp only [isD] at e
      split at e
      · rename_i hb
        cases e
        exact ⟨fun c z => (by cases z; exact hb.1), _, .own _, ko.one a hb.1 n hb.2⟩
      · cases e
  | _ => cases k <;> cases e
theorem cr_isD (ko : KindOk G cs sub) (hK : X.K = G.K) : CallR X (.builtin "isinstance") (rDN G (dIsi cs sub)) := by
  intro pins s σ H xs us Q I rx ⟨Z, m, st, ds, hs, r, hw⟩
  match ds, r, hw with
  | [x, c], r, hw =>
    obtain ⟨v, w, rfl, r1, r2⟩ := reps2 r
    simp only [dIsi] at hw
    cases e : kdOf st x with
    | none => rw [e] at hw; exact hw.elim
    | some k =>
      rw [e] at hw
      simp only [Option.bind_some] at hw
      cases e2 : isD cs sub k c with
      | none => rw [e2] at hw; exact hw.elim
      | some b =>
        rw [e2] at hw
        obtain ⟨hc, u, h1, h2⟩ := is_at ko r2 e2
        refine call_isi pins s σ H _ us Q I rx ⟨v, w, _, u, b, rfl, h1, by rw [hK]; exact kd_at ko hs r1 e hc, by rw [hK]; exact h2, hw m H _ .refl hs .bl⟩
end
end Dl
namespace Dl
open PySem PySem.Spec PyProof.Rows L2

section
variable {G : Gx} {cur : Cur} {W : WX} {X : Cx} {a b c e : Expr} {es : List Expr} {pos p p2 p3 : Pos} {x : Str}
/-! ## names of the built-in, of the module -/
theorem de_ty {n : String} (hg : Gl X x) (hm : X.mg x = none) (hv : bootBuiltins x = some (.type n)) (hn : x ≠ "__name__" := by decide) (hd : (x == ("__debug__" : Str)) = false := by decide) : DE G cur W X (.Name x pos) (dC (.typ n)) :=
  de_c (fun _ _ _ => .typ) (pe_bltn hg hm hv rfl hn hd)
theorem de_cls {k : Nat} (hg : Gl X x) (hm : X.mg x = some (.ref (G.ca k))) (hd : (x == ("__debug__" : Str)) = false := by decide) : DE G cur W X (.Name x pos) (dC (.cls k)) :=
  de_c (fun _ _ _ => .cls) (pe_glob hg hm rfl hd)
/-- a module's constant -/
structure ConstAt (G : Gx) (mg : Str → Option Value) (x : Str) (d : D) : Prop where
  ex : ∃ v u, mg x = some u ∧ RelV v u ∧ ∀ Z m H, Rep G Z m H v d
theorem de_k {d : D} (h : ConstAt G X.mg x d) (hg : Gl X x) (hd : (x == ("__debug__" : Str)) = false := by decide) : DE G cur W X (.Name x pos) (dC d) := by
  obtain ⟨v, u, h1, h2, h3⟩ := h.ex
  exact de_c h3 (pe_glob hg h1 h2 hd)
/-! ## isinstance of two built-in types -/
def isTy2 (st : Store) (x : D) (n1 n2 : String) : Option Bool := match kdOf st x with
  | some (.ty a) => (match tyOf n1, tyOf n2 with
    | some t1, some t2 => some (a.sub t1 || a.sub t2)
    | _, _ => none)
  | _ => none
def dIsTy2 (n1 n2 : String) (f : DEx) : DEx := fun r st => (f r st).bind fun x st1 => match isTy2 st1 x n1 n2 with
  | some b => .ok (.bl b) st1
  | none => .stuck
theorem kindNone : KindOk G [] fun _ _ => false := ⟨fun _ h => by simp at h, fun _ h => by simp at h, fun _ _ h => by simp at h, fun _ h => by simp at h⟩
theorem de_is2 {n1 n2 : String} {x1 x2 : Str} {q1 q2 q3 : Pos} {kk : Nat} {f : DEx} (hK : X.K = G.K) (hg : Gl X "isinstance") (hm : X.mg "isinstance" = none) (ha : DE G cur W X a f)
    (g1 : Gl X x1) (m1 : X.mg x1 = none) (v1 : bootBuiltins x1 = some (.type n1)) (g2 : Gl X x2) (m2 : X.mg x2 = none) (v2 : bootBuiltins x2 = some (.type n2))
    (hv : bootBuiltins "isinstance" = some (.builtin "isinstance") := by exact PyProof.Rows.boot_isinstance)
    (k1 : x1 ≠ "__name__" := by decide) (d1 : (x1 == ("__debug__" : Str)) = false := by decide) (k2 : x2 ≠ "__name__" := by decide) (d2 : (x2 == ("__debug__" : Str)) = false := by decide)
    (he : starEach [a, .Tuple [.Name x1 q1, .Name x2 q2] kk q3] X.env = (false, eval a X.env) :: starEach [.Tuple [.Name x1 q1, .Name x2 q2] kk q3] X.env := by rfl) (hpl : (backTo pos (starEach [.Tuple [.Name x1 q1, .Name x2 q2] kk q3] X.env)).any (·.1) = false := by rfl) :
    DE G cur W X (.Call (.Name "isinstance" p) [a, .Tuple [.Name x1 q1, .Name x2 q2] kk q3] [] pos) (dIsTy2 n1 n2 f) := by
  have ht : PA X [.Name x1 q1, .Name x2 q2] (tCons (tC (.ty n1)) (tCons (tC (.ty n2)) tNil)) := pa_cons (pe_bltn g1 m1 v1 rfl k1 d1) (pa_cons (pe_bltn g2 m2 v2 rfl k2 d2) pa_nil)
  refine ⟨peW (pe_callB call_isiT hg hm hv (pa_cons ha.pe (pa_cons (pe_tup ht) pa_nil) he) (by decide) (by decide) he hpl) fun s H Q ⟨Z, m, r, st, hs, hen, hw⟩ => exp_down hs hen hw fun x v st1 m1' H1 _ s1 e1 rx w1 => ?_⟩
  refine ⟨by show 2 ≤ sizeLine; rw [sizeLine_eq]; omega, fun tp hp => ?_⟩
  cases ek : kdOf st1 x with
  | none => simp only [isTy2, ek] at w1; exact w1.elim
  | some k =>
    cases k with
    | own c => simp only [isTy2, ek] at w1; exact w1.elim
    | ty a =>
      simp only [isTy2, ek] at w1
      cases t1 : tyOf n1 with
      | none => rw [t1] at w1; exact w1.elim
      | some y1 =>
        cases t2 : tyOf n2 with
        | none => rw [t1, t2] at w1; exact w1.elim
        | some y2 =>
          rw [t1, t2] at w1
          obtain ⟨b1, c1⟩ := tyOf_nm t1
          obtain ⟨b2, c2⟩ := tyOf_nm t2
          have gr : Grow m1' H1 m1' (upd H1 tp (.tup [.ty n1, .ty n2])) := .new hp
          refine ⟨v, tp, [.ty n1, .ty n2], .type a.nm, [.type n1, .type n2], a.sub y1 || a.sub y2, rfl, upd_same, .cons (.ty _) (.cons (.ty _) .nil), ?_, ?_, w1 m1' _ _ gr (s1.new hp) .bl⟩
          · rw [hK]
            exact kd_at kindNone (s1.new hp) (rx.grow s1.ok gr) ek fun c z => (by cases z)
          · rw [b1, b2]
            refine kitAny_cons (b := a.sub y1) (kit_bi a y1 c1) (fun hb => ?_) fun hb => by rw [hb]; rfl
            rw [hb, Bool.false_or]
            refine kitAny_cons (b := a.sub y2) (kit_bi a y2 c2) (fun hb => ?_) fun hb => hb
            rw [hb]
            rfl

/-! ## slices -/
/-- a slice's part -/
structure DO (G : Gx) (cur : Cur) (W : WX) (X : Cx) (e : Option Expr) (f : DEx) : Prop where
  po : ∃ t, PO X e t ∧ ∀ (s : L2.St) (H : Hp) (Q : Option Int → Hp → Prop) (Z : List Addr) (m : Mu) (r : DEnv) (st : Store), RepSt G Z m H st → RepEnv G cur Z m H s r →
    (match f r st with
      | .ok .non st1 => ∀ m' H', Grow m H m' H' → RepSt G Z m' H' st1 → Q none H'
      | .ok (.int i) st1 => ∀ m' H', Grow m H m' H' → RepSt G Z m' H' st1 → Q (some i) H'
      | .ok _ _ => False
      | .exc e st1 => ∀ m' H' cls d, Grow m H m' H' → RepSt G Z m' H' st1 → RepX G Z m' H' cls d e → W cls d s H'
      | .stuck => False) → t s H Q
theorem do_none : DO G cur W X none (dC .non) := ⟨tNoPart, po_none, fun s H Q Z m r st hs he hw => hw m H .refl hs⟩
/-- a part that is said: an int -/
def dPart (f : DEx) : DEx := fun r st => match f r st with
  | .ok (.int i) st1 => .ok (.int i) st1
  | .exc e st1 => .exc e st1
  | _ => .stuck
theorem do_some {f : DEx} (h : DE G cur W X e f) : DO G cur W X (some e) (dPart f) := ⟨_, po_some h.pe, fun s H Q Z m r st hs he hw => by
  refine ⟨Z, m, r, st, hs, he, ?_⟩
  unfold dPart at hw
  cases ea : f r st with
  | stuck => rw [ea] at hw; exact hw.elim
  | exc e st1 => rw [ea] at hw; exact hw
  | ok d st1 =>
    rw [ea] at hw
    cases d with
    | int i =>
      intro m1 H1 v g1 s1 rv
      cases rv
      exact ⟨i, rfl, hw m1 H1 g1 s1⟩
    | _ => exact hw.elim⟩
def partD : D → Option (Option Int)
  | .non => some none
  | .int i => some (some i)
  | _ => none
def cutD (ds : List D) (lo hi : Option Int) : List D := (ds.drop (HT.sIx ds.length 0 lo)).take (HT.sIx ds.length ds.length hi - HT.sIx ds.length 0 lo)
def slD (st : Store) (x : D) (lo hi : Option Int) : RE D := match x with
  | .str z => if z.length ≤ sizeLine then .ok (.str (cutS z lo hi)) st else .stuck
  | .tup ds => .ok (.tup (cutD ds lo hi)) st
  | d => (match lstOf st d with
    | some ds => .ok (.lst (cutD ds lo hi)) st
    | none => .stuck)
def slOut (st : Store) (x : D) (lo : Option Int) (o : Option (Option Int)) : RE D := match o with
  | some hi => slD st x lo hi
  | none => .stuck
def dSl (f fl fh : DEx) : DEx := fun r st => (f r st).bind fun x st1 => (fl r st1).bind fun l st2 => match partD l with
  | none => .stuck
  | some lo => (fh r st2).bind fun h st3 => match slOut st3 x lo (partD h) with
    | .ok z st4 => .ok z st4
    | _ => .stuck
theorem Reps.cut {Z m H} {vs : List V} {ds : List D} (h : Reps G Z m H vs ds) (lo hi : Option Int) : Reps G Z m H (cutV vs lo hi) (cutD ds lo hi) := by
  unfold cutV cutD
  rw [h.length]
  exact (h.drop _).take _
theorem cutV_whole {vs : List V} {lo hi : Option Int} (h : HT.sIx vs.length 0 lo = 0 ∧ HT.sIx vs.length vs.length hi = vs.length) : cutV vs lo hi = vs := by
  unfold cutV
  rw [h.1, h.2, List.drop_zero, Nat.sub_zero, List.take_length]
theorem cutD_whole {vs : List V} {ds : List D} {Z m H} (hr : Reps G Z m H vs ds) {lo hi : Option Int} (h : HT.sIx vs.length 0 lo = 0 ∧ HT.sIx vs.length vs.length hi = vs.length) : cutD ds lo hi = ds := by
  unfold cutD
  rw [← hr.length, h.1, h.2, List.drop_zero, Nat.sub_zero, hr.length, List.take_length]
def rSlD (G : Gx) : V → Option Int → Option Int → Hp → VK → Prop := fun x lo hi H Q => ∃ Z m st d, RepSt G Z m H st ∧ Rep G Z m H x d ∧ WpE G (fun _ _ _ => False) Z m H (Rep G Z) Q (slD st d lo hi)
theorem sl_D (hK : X.K = G.K) : SlR X (rSlD G) := by
  intro pins s σ H x v vl vu lo hi sl Q I rx hsl pl pu ⟨Z, m, st, d, hs, r, hw⟩
  have lst : ∀ ds, lstOf st d = some ds → WpE G (fun _ _ _ => False) Z m H (Rep G Z) Q (.ok (.lst (cutD ds lo hi)) st) → ∃ T id, typeLookup (.type T) "__getitem__" = pure (some (.builtin id)) ∧ s.TypeIs v T ∧ wpAny (model X.prog X.w) X.A (getItem v (.ref sl)) (EP X pins σ Q) X.xe s := fun ds e hw => by
    obtain ⟨a, xs, rfl, h1, h2⟩ := lst_at hs r e
    exact sl_list pins s σ H _ v vl vu lo hi sl Q I rx hsl pl pu ⟨a, xs, rfl, by rw [hK]; exact h1, fun p hp => hw m _ _ (.new hp) (hs.new hp) (new_lst hs (h2.cut lo hi) hp)⟩
  have lst2 : WpE G (fun _ _ _ => False) Z m H (Rep G Z) Q (match lstOf st d with | some ds => .ok (.lst (cutD ds lo hi)) st | none => .stuck) → ∃ T id, typeLookup (.type T) "__getitem__" = pure (some (.builtin id)) ∧ s.TypeIs v T ∧ wpAny (model X.prog X.w) X.A (getItem v (.ref sl)) (EP X pins σ Q) X.xe s := fun hw => by
    cases e : lstOf st d with
    | none => rw [e] at hw; exact hw.elim
    | some ds => rw [e] at hw; exact lst ds e hw
  cases d with
  | str z =>
    cases r
    obtain ⟨q, hw⟩ := re_ok hw
    exact sl_str pins s σ H _ v vl vu lo hi sl Q I rx hsl pl pu ⟨z, rfl, q, hw m H _ .refl hs .str⟩
  | tup ds =>
    cases r with
    | tup h1 h2 =>
      refine sl_tupA pins s σ H _ v vl vu lo hi sl Q I rx hsl pl pu ⟨_, _, rfl, by rw [hK]; exact h1, fun hh => ?_, fun hh p hp => ?_⟩
      · have e := cutD_whole h2 hh
        refine hw m H _ .refl hs ?_
        rw [e]
        exact .tup h1 h2
      · exact hw m _ _ (.new hp) (hs.new hp) (new_tup hs (h2.cut lo hi) hp)
  | _ => exact lst2 hw
theorem de_sl {lo hi : Option Expr} {f fl fh : DEx} (hK : X.K = G.K) (he : DE G cur W X e f) (hl : DO G cur W X lo fl) (hh : DO G cur W X hi fh) : DE G cur W X (.Subscript e (.Slice lo hi none p2) pos) (dSl f fl fh) := by
  obtain ⟨tl, pl, kl⟩ := hl.po
  obtain ⟨th, ph, kh⟩ := hh.po
  refine ⟨peW (pe_slice (sl_D hK) he.pe pl ph) fun s H Q ⟨Z, m, r, st, hs, hen, hw⟩ => exp_down hs hen hw fun x v st1 m1 H1 g1 s1 e1 rx w1 => ?_⟩
  refine kl s H1 _ Z m1 r st1 s1 e1 ?_
  have step2 : ∀ (lo : Option Int) (st2 : Store) (m2 : Mu) (H2 : Hp), Grow m1 H1 m2 H2 → RepSt G Z m2 H2 st2 → WpE G (fun c d H' => W c d s H') Z m2 H2 (Rep G Z) Q ((fh r st2).bind fun h st3 => match slOut st3 x lo (partD h) with | .ok z st4 => .ok z st4 | _ => .stuck) →
      th s H2 fun u H3 => rSlD G v lo u H3 Q := fun lo st2 m2 H2 g2 s2 w2 => by
    have e2 : RepEnv G cur Z m2 H2 s r := e1.grow s1.ok g2
    refine kh s H2 _ Z m2 r st2 s2 e2 ?_
    cases ea : fh r st2 with
    | stuck => rw [ea] at w2; exact w2.elim
    | exc y st3 => rw [ea] at w2; exact w2
    | ok h st3 =>
      rw [ea] at w2
      simp only [RE.bind] at w2
      have fin : ∀ hi, partD h = some hi → ∀ m3 H3, Grow m2 H2 m3 H3 → RepSt G Z m3 H3 st3 → rSlD G v lo hi H3 Q := fun hi eh m3 H3 g3 s3 => by
        rw [eh] at w2
        exact ⟨Z, m3, st3, x, s3, (rx.grow s1.ok g2).grow s2.ok g3, un_last (WpE.grow g3 w2)⟩
      cases h with
      | non => exact fin _ rfl
      | int i => exact fin _ rfl
      | _ => exact w2.elim
  cases ea : fl r st1 with
  | stuck => rw [ea] at w1; exact w1.elim
  | exc y st2 => rw [ea] at w1; exact w1
  | ok l st2 =>
    rw [ea] at w1
    cases l with
    | non => exact fun m2 H2 g2 s2 => step2 none st2 m2 H2 g2 s2 (WpE.grow g2 w1)
    | int i => exact fun m2 H2 g2 s2 => step2 (some i) st2 m2 H2 g2 s2 (WpE.grow g2 w1)
    | _ => exact w1.elim

/-! ## f-strings -/
def fmtD (d : D) (st : Store) : RE D := match d with
  | .str y => if y.length ≤ sizeLine then .ok (.str y) st else .stuck
  | .int i => if i.natAbs.log2 < 1920 then .ok (.str (toString i)) st else .stuck
  | _ => .stuck
def dFmt (f : DEx) : DEx := fun r st => (f r st).bind fun x st1 => match fmtD x st1 with
  | .ok z st2 => .ok z st2
  | _ => .stuck
theorem de_fmt {f : DEx} (h : DE G cur W X e f) : DE G cur W X (.FormattedValue e (-1) none pos) (dFmt f) :=
  ⟨peW (pe_fmt h.pe) fun s H Q ⟨Z, m, r, st, hs, hen, hw⟩ => exp_down hs hen hw fun x v st1 m1 H1 g1 s1 e1 rx w1 => by
    cases rx with
    | str =>
      obtain ⟨q, w1⟩ := re_ok (un_last w1)
      exact .inl ⟨_, rfl, q, w1 m1 H1 _ .refl s1 .str⟩
    | int =>
      obtain ⟨q, w1⟩ := re_ok (un_last w1)
      exact .inr ⟨_, rfl, q, w1 m1 H1 _ .refl s1 .str⟩
    | _ => exact w1.elim⟩
def joinD : List DEx → Str → DEx
  | [], acc => fun _ st => .ok (.str acc) st
  | f :: fs, acc => fun r st => (f r st).bind fun x st1 => match x with
    | .str y => if (acc ++ y).length ≤ sizeLine then joinD fs (acc ++ y) r st1 else .stuck
    | _ => .stuck
inductive DJ (G : Gx) (cur : Cur) (W : WX) (X : Cx) : List Expr → List DEx → Prop where
  | nil : DJ G cur W X [] []
  | cons {e : Expr} {f : DEx} {es : List Expr} {fs : List DEx} (h : DE G cur W X e f) (r : DJ G cur W X es fs) : DJ G cur W X (e :: es) (f :: fs)
theorem DJ.pj {es : List Expr} {fs : List DEx} (h : DJ G cur W X es fs) : PJ X es (fs.map (tDE G cur W)) := by
  induction h with
  | nil => exact .nil
  | cons h _ ih => exact .cons h.pe ih
theorem join_down : ∀ (fs : List DEx) (acc : Str) (s : L2.St) (H : Hp) (Q : VK) (Z : List Addr) (m : Mu) (r : DEnv) (st : Store), RepSt G Z m H st → RepEnv G cur Z m H s r → WpE G (fun c d H' => W c d s H') Z m H (Rep G Z) Q (joinD fs acc r st) →
    tJs (fs.map (tDE G cur W)) acc s H fun out H1 => Q (.str out) H1
  | [], acc, s, H, Q, Z, m, r, st, hs, he, hw => hw m H _ .refl hs .str
  | f :: fs, acc, s, H, Q, Z, m, r, st, hs, he, hw => exp_down hs he hw fun x v st1 m1 H1 g1 s1 e1 rx w1 => by
    cases rx with
    | str =>
      obtain ⟨q, w1⟩ : _ ∧ _ := by
        simp only at w1
        split at w1
        · rename_i q; exact ⟨q, w1⟩
        · exact w1.elim
      exact ⟨_, rfl, q, join_down fs _ s H1 Q Z m1 r st1 s1 e1 w1⟩
    | _ => exact w1.elim
theorem de_join {v1 v2 : Expr} {rest : List Expr} {fs : List DEx} (h : DJ G cur W X (v1 :: v2 :: rest) fs) : DE G cur W X (.JoinedStr (v1 :: v2 :: rest) pos) (joinD fs Str.empty) :=
  ⟨peW (pe_joined h.pj) fun s H Q ⟨Z, m, r, st, hs, he, hw⟩ => join_down fs _ s H Q Z m r st hs he hw⟩

/-! ## enumerate, zip -/
structure SqOk (G : Gx) (Z : List Addr) (m0 : Mu) (H0 : Hp) (P : Hp → List V → Prop) (ds : List D) : Prop where
  run : ∀ (Y : List Addr) (m : Mu) (H : Hp), BanOk Z Y H0 → Grow m0 H0 m H → ∃ xs, P H xs ∧ Reps G Y m H xs ds
def enumD : Nat → List D → List D
  | _, [] => []
  | k, d :: ds => .tup [.int (k : Nat), d] :: enumD (k + 1) ds
theorem enumD_get : ∀ {ds : List D} {k i : Nat} {d : D}, (enumD k ds)[i]? = some d → ∃ x, ds[i]? = some x ∧ d = .tup [.int ((k + i : Nat) : Int), x]
  | [], k, i, d, h => by simp [enumD] at h
  | y :: ds, k, 0, d, h => by
    simp only [enumD, List.getElem?_cons_zero] at h
    cases h
    exact ⟨y, rfl, rfl⟩
  | y :: ds, k, i + 1, d, h => by
    simp only [enumD, List.getElem?_cons_succ] at h
    obtain ⟨x, h1, h2⟩ := enumD_get h
    exact ⟨x, by simpa using h1, by rw [h2, show k + 1 + i = k + (i + 1) by omega]⟩
theorem enumD_len : ∀ {ds : List D} {k : Nat}, (enumD k ds).length = ds.length
  | [], _ => rfl
  | _ :: ds, k => by rw [enumD, List.length_cons, List.length_cons, enumD_len]
theorem upd_keep {H : Hp} {p : Addr} {o : HO} (hp : H p = none) : ∀ b u, H b = some u → upd H p o b = some u := fun b u h => by rw [upd_ne (ne_of_none h hp)]; exact h
theorem it_enum {Z : List Addr} {m : Mu} {H : Hp} {a : Addr} {ds : List D} (h : SqOk G Z m H (fun H xs => SqL G.K H a xs) ds) : ItOk G Z (Ite G.K a) m H none (enumD 0 ds) :=
  ⟨fun Y i d m' H' st bn g hs _ e => by
    obtain ⟨xs, h1, h2⟩ := h.run Y m' H' bn g
    obtain ⟨x, ex, rfl⟩ := enumD_get e
    obtain ⟨v, e2, rv⟩ := h2.get ex
    exact ⟨⟨xs, v, h1, e2⟩, fun y H2 ⟨T, x2, ey, hT, eH, k⟩ => by
      subst ey eH
      have e4 := (k xs h1).symm.trans e2
      cases e4
      refine ⟨upd_keep hT, ?_⟩
      rw [Nat.zero_add]
      exact new_tup hs (.cons .int (.cons rv .nil)) hT⟩, fun Y i m' H' st bn g _ _ l => by
    obtain ⟨xs, h1, h2⟩ := h.run Y m' H' bn g
    rw [enumD_len] at l
    exact ⟨xs, h1, by rw [h2.length]; exact l⟩⟩
/-- a list that is read and never written -/
def frzOf : D → Option (List D)
  | .lst ds => some ds
  | .scr ns => some (ns.map D.int)
  | _ => none
theorem sq_frz {Z : List Addr} {m : Mu} {H : Hp} {st : Store} {v : V} {d : D} {ds : List D} (hs : RepSt G Z m H st) (r : Rep G Z m H v d) (e : frzOf d = some ds) : ∃ a, v = .ref a ∧ (∃ xs, SqL G.K H a xs) ∧ SqOk G Z m H (fun H xs => SqL G.K H a xs) ds := by
  cases r with
  | lst h1 h2 h3 h4 =>
    cases e
    exact ⟨_, rfl, ⟨_, SqL.of h1⟩, ⟨fun Y m' H' bn g => ⟨_, SqL.of (g.keep _ _ h1 h2).1, (h4.banL bn).grow hs.ok g⟩⟩⟩
  | scr h1 =>
    cases e
    exact ⟨_, rfl, ⟨_, h1.seq⟩, ⟨fun Y m' H' bn g => ⟨_, (scr_grow hs.ok g h1).seq, Reps.ints _⟩⟩⟩
  | _ => cases e
theorem sq_tupK {Z : List Addr} {m : Mu} {H : Hp} {st : Store} {v : V} {ds : List D} (hs : RepSt G Z m H st) (r : Rep G Z m H v (.tup ds)) : ∃ a, v = .ref a ∧ (∃ xs, SqT G.K H a xs) ∧ SqOk G Z m H (fun H xs => SqT G.K H a xs) ds := by
  cases r with
  | tup h1 h2 => exact ⟨_, rfl, ⟨_, h1⟩, ⟨fun Y m' H' bn g => ⟨_, seqT_grow g hs.ok.tup h1, (h2.banL bn).grow hs.ok g⟩⟩⟩
def dEnum (f : DAs) : DIt := fun r st => (f r st).bind fun xs st1 => match xs with
  | [d] => (match frzOf d with
    | some ds => .ok ⟨enumD 0 ds, none⟩ st1
    | none => .stuck)
  | _ => .stuck
theorem di_enum {f : DAs} {elts : List Expr} {kk : Nat} {tpos : Pos} (hK : X.K = G.K) (hg : Gl X "enumerate") (hm : X.mg "enumerate" = none) (ha : DA G cur W X [a] f) (hs : starEach [a] X.env = [(false, eval a X.env)] := by rfl) :
    DI G cur W X (.Tuple elts kk tpos) (.Call (.Name "enumerate" p) [a] [] pos) (dEnum f) := by
  refine ⟨_, pi_enum hg hm ha.pa hs, fun s H Q Z m r st hs he hw => iargs_down hs he hw fun ds vs st1 m1 H1 g1 s1 e1 rv w1 => ?_⟩
  match ds, rv, w1 with
  | [d], rv, w1 =>
    obtain ⟨v, rfl, r1⟩ := reps1 rv
    cases e : frzOf d with
    | none => simp only [e] at w1; exact w1.elim
    | some xs =>
      simp only [e] at w1
      obtain ⟨a, rfl, ⟨ys, hy⟩, ho⟩ := sq_frz s1 r1 e
      exact ⟨a, ys, rfl, by rw [hK]; exact hy, by rw [hK]; exact w1 m1 H1 _ g1 s1 (it_enum ho)⟩
def zipD (ds es : List D) : List D := List.zipWith (fun a b => .tup [a, b]) ds es
theorem zipD_get {ds es : List D} {i : Nat} {d : D} (h : (zipD ds es)[i]? = some d) : ∃ x y, ds[i]? = some x ∧ es[i]? = some y ∧ d = .tup [x, y] := by
  unfold zipD at h
  rw [List.getElem?_zipWith] at h
  cases h1 : ds[i]? with
  | none => rw [h1] at h; cases h
  | some x =>
    cases h2 : es[i]? with
    | none => rw [h1, h2] at h; cases h
    | some y => rw [h1, h2] at h; cases h; exact ⟨x, y, rfl, rfl, rfl⟩
theorem it_zipL {Z : List Addr} {m : Mu} {H : Hp} {a b : Addr} {ds es : List D} (h : SqOk G Z m H (fun H xs => SqL G.K H a xs) ds) (h' : SqOk G Z m H (fun H xs => SqL G.K H b xs) es) : ItOk G Z (Itz G.K a b) m H none (zipD ds es) :=
  ⟨fun Y i d m' H' st bn g hs _ e => by
    obtain ⟨xs, h1, h2⟩ := h.run Y m' H' bn g
    obtain ⟨ys, h3, h4⟩ := h'.run Y m' H' bn g
    obtain ⟨x, y, ex, ey, rfl⟩ := zipD_get e
    obtain ⟨v, e2, rv⟩ := h2.get ex
    obtain ⟨w, e3, rw'⟩ := h4.get ey
    exact ⟨⟨xs, ys, v, w, h1, h3, e2, e3⟩, fun z H2 ⟨T, x2, y2, ez, hT, eH, k, k'⟩ => by
      subst ez eH
      have e4 := (k xs h1).symm.trans e2
      have e5 := (k' ys h3).symm.trans e3
      cases e4
      cases e5
      exact ⟨upd_keep hT, new_tup hs (.cons rv (.cons rw' .nil)) hT⟩⟩, fun Y i m' H' st bn g _ _ l => by
    obtain ⟨xs, h1, h2⟩ := h.run Y m' H' bn g
    obtain ⟨ys, h3, h4⟩ := h'.run Y m' H' bn g
    unfold zipD at l
    rw [List.length_zipWith] at l
    exact ⟨xs, ys, h1, h3, by rw [h2.length, h4.length]; omega⟩⟩
theorem it_zipT {Z : List Addr} {m : Mu} {H : Hp} {a b : Addr} {ds es : List D} (h : SqOk G Z m H (fun H xs => SqT G.K H a xs) ds) (h' : SqOk G Z m H (fun H xs => SqT G.K H b xs) es) : ItOk G Z (RZ.ItzT G.K a b) m H none (zipD ds es) :=
  ⟨fun Y i d m' H' st bn g hs _ e => by
    obtain ⟨xs, h1, h2⟩ := h.run Y m' H' bn g
    obtain ⟨ys, h3, h4⟩ := h'.run Y m' H' bn g
    obtain ⟨x, y, ex, ey, rfl⟩ := zipD_get e
    obtain ⟨v, e2, rv⟩ := h2.get ex
    obtain ⟨w, e3, rw'⟩ := h4.get ey
    exact ⟨⟨xs, ys, v, w, h1, h3, e2, e3⟩, fun z H2 ⟨T, x2, y2, ez, hT, eH, k, k'⟩ => by
      subst ez eH
      have e4 := (k xs h1).symm.trans e2
      have e5 := (k' ys h3).symm.trans e3
      cases e4
      cases e5
      exact ⟨upd_keep hT, new_tup hs (.cons rv (.cons rw' .nil)) hT⟩⟩, fun Y i m' H' st bn g _ _ l => by
    obtain ⟨xs, h1, h2⟩ := h.run Y m' H' bn g
    obtain ⟨ys, h3, h4⟩ := h'.run Y m' H' bn g
    unfold zipD at l
    rw [List.length_zipWith] at l
    exact ⟨xs, ys, h1, h3, by rw [h2.length, h4.length]; omega⟩⟩
def zipOf : D → D → Option (List D)
  | .tup ds, .tup es => some (zipD ds es)
  | d, e => (frzOf d).bind fun ds => (frzOf e).map fun es => zipD ds es
def dZip (f : DAs) : DIt := fun r st => (f r st).bind fun xs st1 => match xs with
  | [d, e] => (match zipOf d e with
    | some ds => .ok ⟨ds, none⟩ st1
    | none => .stuck)
  | _ => .stuck
theorem di_zip {f : DAs} {elts : List Expr} {kk : Nat} {tpos : Pos} (hK : X.K = G.K) (hg : Gl X "zip") (hm : X.mg "zip" = none) (ha : DA G cur W X [a, b] f)
    (hs : starEach [a, b] X.env = (false, eval a X.env) :: starEach [b] X.env := by rfl) (hpl : (backTo pos (starEach [b] X.env)).any (·.1) = false := by rfl) :
    DI G cur W X (.Tuple elts kk tpos) (.Call (.Name "zip" p) [a, b] [] pos) (dZip f) := by
  refine ⟨_, RZ.pi_zipA hg hm ha.pa hs hpl, fun s H Q Z m r st hs he hw => iargs_down hs he hw fun ds vs st1 m1 H1 g1 s1 e1 rv w1 => ?_⟩
  match ds, rv, w1 with
  | [d, e], rv, w1 =>
    obtain ⟨v, w, rfl, r1, r2⟩ := reps2 rv
    have lst : ∀ xs, ((frzOf d).bind fun ds => (frzOf e).map fun es => zipD ds es) = some xs → WpI G (fun c d H' => W c d s H') Z m H Q (.ok ⟨xs, none⟩ st1) → RZ.iZipA X.K (fun _ _ R => R [v, w] H1) s H1 Q := fun xs q w1 => by
      cases q1 : frzOf d with
      | none => rw [q1] at q; cases q
      | some ys =>
        cases q2 : frzOf e with
        | none => rw [q1, q2] at q; cases q
        | some zs =>
          rw [q1, q2] at q
          cases q
          obtain ⟨a, rfl, ⟨_, hy⟩, ho⟩ := sq_frz s1 r1 q1
          obtain ⟨b, rfl, ⟨_, hz⟩, ho'⟩ := sq_frz s1 r2 q2
          exact ⟨a, b, _, _, rfl, .inl ⟨by rw [hK]; exact hy, by rw [hK]; exact hz, by rw [hK]; exact w1 m1 H1 _ g1 s1 (it_zipL ho ho')⟩⟩
    cases q : zipOf d e with
    | none => simp only [q] at w1; exact w1.elim
    | some xs =>
      simp only [q] at w1
      have hl : ((frzOf d).bind fun ds => (frzOf e).map fun es => zipD ds es) = some xs ∨ ∃ ds es, d = .tup ds ∧ e = .tup es ∧ xs = zipD ds es := by
        cases d with
        | tup ds =>
          cases e with
          | tup es => cases q; exact .inr ⟨ds, es, rfl, rfl, rfl⟩
          | _ => exact .inl q
        | _ => exact .inl q
      rcases hl with hl | ⟨ds, es, rfl, rfl, rfl⟩
      · exact lst xs hl w1
      · obtain ⟨a, rfl, ⟨_, hy⟩, ho⟩ := sq_tupK s1 r1
        obtain ⟨b, rfl, ⟨_, hz⟩, ho'⟩ := sq_tupK s1 r2
        exact ⟨a, b, _, _, rfl, .inr ⟨by rw [hK]; exact hy, by rw [hK]; exact hz, by rw [hK]; exact w1 m1 H1 _ g1 s1 (it_zipT ho ho')⟩⟩
end
end Dl
namespace Dl
open PySem PySem.Spec PyProof.Rows L2

/-! ## an own exception: C(..) where C's __init__ is super().__init__('word', ..), then self.f = f -/
/-- the words of the super call: a text, then some of the parameters -/
inductive SupAs (ps : List Str) : List Expr → Prop where
  | nil : SupAs ps []
  | cons {x : Str} {p : Pos} {es : List Expr} (h : x ∈ ps) (hd : (x == ("__debug__" : Str)) = false) (r : SupAs ps es) : SupAs ps (.Name x p :: es)
/-- self.f = f, one behind another -/
inductive SupSs (self : Str) : List Str → List Stmt → Prop where
  | nil : SupSs self [] []
  | cons {f : Str} {fs : List Str} {p1 p2 p3 p4 : Pos} {ss : List Stmt} (hd : (f == ("__debug__" : Str)) = false) (r : SupSs self fs ss) : SupSs self (f :: fs) (.Assign [.Attribute (.Name self p1) f p2] (.Name f p3) p4 :: ss)
/-- how the super call goes -/
def SupEv (wd : Str) (p0 p1 p2 p3 p4 : Pos) (j : Nat) (es : List Expr) (env : Env) : Prop := ∃ pl, eval (.Call (.Attribute (.Call (.Name "super" p0) [] [] p1) "__init__" p2) (.Constant (.str wd) j p3 :: es) [] p4) env = (do
  let ov ← attributeBase (.Call (.Name "super" p0) [] [] p1) "__init__" env (eval (.Call (.Name "super" p0) [] [] p1) env)
  standAt p2.atName
  let (f, first) ← holding [ov] (getMethod ov "__init__" pl)
  callWith p4 f first (backTo p4 (starEach (.Constant (.str wd) j p3 :: es) env)) [])
/-- the whole body -/
inductive SupBody (self : Str) (ps : List Str) : List Stmt → Prop where
  | mk {w : Str} {p0 p1 p2 p3 p4 p5 : Pos} {j : Nat} {es : List Expr} {ss : List Stmt} (a : SupAs ps es) (hz : es.length ≤ 100) (s : SupSs self ps ss) (ev : ∀ env, SupEv w p0 p1 p2 p3 p4 j es env)
    (sw : ∀ env : Env, swapsWith (.Call (.Attribute (.Call (.Name "super" p0) [] [] p1) "__init__" p2) (.Constant (.str w) j p3 :: es) [] p4) none p5.line env = pure false) :
    SupBody self ps (.Expr (.Call (.Attribute (.Call (.Name "super" p0) [] [] p1) "__init__" p2) (.Constant (.str w) j p3 :: es) [] p4) p5 :: ss)

section
variable {prog : Program} {w : World} {M : Model} {A : Around} {E : Value → Shared → Prop} {env : Env} {m : Str → Option Value}
theorem name_at {s : Shared} {x : Str} {p : Pos} {v : Value} {Q : Value → Shared → Prop} (hn : s.heap.Ns env.locals m) (hv : m x = some v) (hk : env.scope.kind = .function) (hl : env.kindOf x = some .local) (hd : (x == ("__debug__" : Str)) = false) (h : Q v s) :
    wpAny M A (eval (.Name x p) env) Q E s := wpAny_Name (wpAny_loadName_local hk hl hn hv h) hd
theorem each_name {x : Str} {p : Pos} {es : List Expr} : starEach (.Name x p :: es) env = (false, eval (.Name x p) env) :: starEach es env := by rfl
theorem names_at {ps : List Str} {pos : Pos} (hk : env.scope.kind = .function) (hl : ∀ x ∈ ps, env.kindOf x = some .local) {s : Shared} (hn : s.heap.Ns env.locals m) (hv : ∀ x ∈ ps, ∃ v, m x = some v) :
    ∀ {es : List Expr}, SupAs ps es → ∀ {Q : List Value → Shared → Prop}, (∀ vs, vs.length = es.length → Q vs s) → wpAny M A (spliced (backTo pos (starEach es env))) Q E s
  | _, .nil, Q, h => Calls.spliced_nil (h [] rfl)
  | _, .cons (x := x) (p := p) (es := es) hx hd r, Q, h => by
    rw [each_name]
    show wpAny M A (spliced ((false, eval (.Name x p) env) :: backTo pos (starEach es env))) Q E s
    obtain ⟨v, e⟩ := hv x hx
    exact Calls.spliced_cons (name_at hn e hk (hl x hx) hd (names_at hk hl hn hv r fun vs l => h (v :: vs) (by rw [List.length_cons, List.length_cons, l])))
theorem SupAs.plain {ps : List Str} {pos : Pos} : ∀ {es : List Expr}, SupAs ps es → (backTo pos (starEach es env)).any (·.1) = false
  | _, .nil => rfl
  | _, .cons (x := x) (p := p) (es := es) _ _ r => by
    rw [each_name]
    show (false || (backTo pos (starEach es env)).any (·.1)) = false
    rw [r.plain]
    rfl
end
section
variable {prog : Program} {w : World} {A : Around} {E : Value → Shared → Prop} {env : Env} {m mg mb : Str → Option Value} {K : PySem.W.Frag} {h : Heap} {g : Array GenState} {d : Drawn} {t : Nat} {os : OsState}
variable {nm q : Str} {C N : Addr} {bs bm : List Value} {sn : List Str} {sub : List Value} {ab : Bool} {col : Option Bool} {dd : Option Addr} {k0 k1 k2 k3 k5 : Option Value}
/-- what the written part says, for super() in C's __init__ -/
structure SupK (K : PySem.W.Frag) (C : Addr) : Prop where
  found : PySem.W.ks_superIn K C C "__init__" = some (some (.builtin "ValueError.__init__"))
  isVE : PySem.W.subIn K (.ref C) (.type "ValueError") = some true
  isC : PySem.W.mroIn K C (.ref C) = some true
  any : PySem.W.nsIn K cStatics "thirdparty.any" = some none
theorem veinit_run {u e t0 : Addr} {vs : List Value} {Q : Value → Shared → Prop} (hC : h.get? C = some (excClassObj nm q C N bs bm true sn sub ab col dd k0 k1 k2 k3 k5 "ValueError.__new__")) (he : h.get? e = some (HandSPX.excO C t0)) (hu : h.get? u = some (PySem.W.kxs_mw "ValueError.__init__" e)) (hz : vs.length ≤ sizeLine)
    (k : ∀ h' t1, (∀ b o, b ≠ e → h.get? b = some o → h'.get? b = some o) → h'.get? e = some (HandSPX.excO C t1) → Q .none ⟨h', g, d, t, os⟩) :
    wpAny (model prog w) A (call (.ref u) vs) Q E ⟨h, g, d, t, os⟩ := by
  refine wpAny_call (codeAny_of_tree ?_)
  show wpAny (model prog w) A.in1 (callAny (.ref u) ⟨vs, []⟩) _ _ _
  simp only [callAny]
  refine wpAny_bind (wpAny_load hu ?_)
  have m1 : (Value.type "method-wrapper" == Value.type "method") = false := by decide
  have m2 : (Value.type "method-wrapper" == Value.type "method-wrapper") = true := by decide
  have m3 : (Value.type "method-wrapper" == Value.type "builtin_function_or_method") = false := by decide
  simp only [PySem.W.kxs_mw, m1, m2, m3, Bool.or_true, Bool.or_false, Bool.false_or, if_true]
  refine PySem.W.KFB.if_so (by decide) ?_
  refine wpAny_bind (PySem.W.check_bound_init F.excBase_ValueError.toExcCallFacts hC he rfl ?_)
  refine wpAny_bind (wpAny_pure (wpAny_pure ?_))
  refine ⟨plainId_quiet F.excBase_ValueError.init.plain _, codeAny_builtin F.excBase_ValueError.initEntry ?_⟩
  exact PySem.W.exc_init_tree (cls := .ref C) (t0 := t0) (dv := none) (c2 := .none) (c3 := .none) (b4 := .bool false) he hz fun h' a b _ => k h' _ a b
theorem sup_call {fI cda cc e t0 : Addr} {body : List Stmt} {p0 p1 p2 p3 p4 : Pos} {j : Nat} {wd : Str} {ps : List Str} {es : List Expr} {of oc oD : Obj} {fd : FuncData} {ar : Arg} {vs : Array Value} {file : Str} {tf : Tok} {cd : ClassData} {Q : Value → Shared → Prop}
    (S : SupK K C) (X : K.In h) (hK : PySem.W.clsIn K C = some cd) (hC : h.get? C = some (excClassObj nm q C N bs bm true sn sub ab col dd k0 k1 k2 k3 k5 "ValueError.__new__")) (he : h.get? e = some (HandSPX.excO C t0))
    (hk : env.scope.kind = .function) (hks : env.kindOf "super" = some .globalImplicit) (hkc : env.kindOf "__class__" = some .free) (hfu : env.func = some fI) (hf : h.get? fI = some of) (hfd : of.data = .func fd) (hp : (fd.params.posonlyargs ++ fd.params.args).head? = some ar)
    (hco : env.code = .ref cda) (hcc : h.get? cda = some oc) (hoc : oc.data = .fields vs) (hvs : vs[2]? = some (.str file tf)) (hfile : ((prog.main.file : Str) == file) = true) (htop : (prog.main.scope.names.lookup ("super" : Str)).isSome = false)
    (hcl : env.cells.lookup ("__class__" : Str) = some cc) (hcv : h.IsCell cc (some (.ref C))) (hn : h.Ns env.locals m) (hself : m ar.arg = some (.ref e)) (hsl : env.kindOf ar.arg = some .local)
    (hg : h.Ns env.globals mg) (hgs : mg "super" = none) (hb : h.Ns env.builtins mb) (hbs : mb "super" = some (.type "super"))
    (hl : ∀ x ∈ ps, env.kindOf x = some .local) (hv : ∀ x ∈ ps, ∃ v, m x = some v) (ha : SupAs ps es) (hz : es.length ≤ 100) (hev : SupEv wd p0 p1 p2 p3 p4 j es env)
    (k : ∀ v h' t1 t', (∀ b o, b ≠ e → h.get? b = some o → h'.get? b = some o) → h'.get? e = some (HandSPX.excO C t1) → Q v ⟨h', g, d, t', os⟩) :
    _root_.PySem.wpAt (model prog w) A (.func body env) (eval (.Call (.Attribute (.Call (.Name "super" p0) [] [] p1) "__init__" p2) (.Constant (.str wd) j p3 :: es) [] p4) env) Q E ⟨h, g, d, t, os⟩ := by
  have hloc : ∃ ol, h.get? env.locals = some ol := by
    obtain ⟨o, _, _, e1, _⟩ := hn
    exact ⟨o, e1⟩
  obtain ⟨pl, hev⟩ := hev
  refine ks_wpAt_MethodCall (pl := pl) ?_ hev
  refine ks_wpAt_super_base hks hkc (by decide) hfu hf hfd hp hco hcc hoc hvs hfile htop ?_
  refine PySem.W.ks_loadName_global hk hks (Calls.loadGlobal_builtin hg hgs hb hbs ⟨rfl, ?_⟩)
  refine wpAny_loadName_free hk hkc hcl hcv ?_
  refine wpAny_loadName_local hk hsl hn hself ?_
  refine ks_wpAny_isType_cls hC rfl ⟨rfl, ?_⟩
  refine ks_wpAny_call_super hC rfl he rfl (fun c z => by cases z) (PySem.W.looks_mroIn X S.isC) fun h1 hso k1 => ?_
  have X1 : K.In h1 := PySem.W.Frag.In.keeps X k1
  have I1 : PySem.W.InstAt h1 e (HandSPX.excO C t0) C none := ⟨k1 _ _ he, rfl, rfl, trivial⟩
  have hM : PySem.W.alongIn K "__init__" ((cd.mro.dropWhile (· != .ref C)).drop 1) = some (some (.builtin "ValueError.__init__")) := by
    have z := S.found
    unfold PySem.W.ks_superIn at z
    rw [hK] at z
    exact z
  refine PySem.W.kxs_getMethod PySem.W.kxs_ValueError hso (PySem.W.looks_opaque X1 S.any) (l₀ := cd.mro) (fun A Q E s k q => wpAny_bind ((PySem.W.looks_clsIn X1 hK) A _ E s k (wpAny_pure q))) rfl X1 hM (I1.type.andThen (PySem.W.looks_subIn X1 S.isVE)) (PySem.W.ks_ne X1 I1 hK) (by decide) ?_
  have k2 : ∀ b o, h.get? b = some o → (h1.push (PySem.W.kxs_mw "ValueError.__init__" e)).get? b = some o := fun b o z => Heap.get?_push_of_some _ (k1 b o z)
  have hu : (h1.push (PySem.W.kxs_mw "ValueError.__init__" e)).get? h1.objs.size = some (PySem.W.kxs_mw "ValueError.__init__" e) := Heap.get?_push_at rfl rfl
  have n2 : (h1.push (PySem.W.kxs_mw "ValueError.__init__" e)).Ns env.locals m := hn.at fun o z => k2 _ o z
  have st : starEach (.Constant (.str wd) j p3 :: es) env = (false, eval (.Constant (.str wd) j p3) env) :: starEach es env := by rfl
  rw [st]
  refine PySem.W.kxs_callWith (i := "ValueError.__init__") (x := e) (by show (false || (backTo p4 (starEach es env)).any (·.1)) = false; rw [ha.plain]; rfl) ?_
  refine PySem.Calls.evalArgs_plain ?_
  show wpAny (model prog w) A (spliced ((false, eval (.Constant (.str wd) j p3) env) :: backTo p4 (starEach es env))) _ _ _
  refine Calls.spliced_cons (Calls.Constant_str ?_)
  refine names_at hk hl (by exact n2) hv ha fun us l => ⟨hu, ?_⟩
  refine veinit_run (k2 _ _ hC) (k2 _ _ he) hu (by rw [List.nil_append, List.length_cons, l, sizeLine_eq]; omega) fun h' t1 a b => ?_
  exact k _ h' t1 _ (fun x o nx z => a x o nx (k2 x o z)) b

/-! ### the fields -/
theorem lookup_con (f y : Str) (v : Value) (l : List (Str × Value)) : ((f, v) :: l).lookup y = if y = f then some v else l.lookup y := by
  by_cases h : y = f
  · subst h; simp [List.lookup]
  · have e : (y == f) = false := by simpa using h
    rw [if_neg h]; simp [List.lookup, e]
theorem within_list (l : List (Str × Value)) : _root_.PySem.Within (fun y => l.lookup y) (l.map (·.1)) := by
  intro y h
  induction l with
  | nil => exact absurd rfl h
  | cons p l ih =>
    obtain ⟨f, v⟩ := p
    by_cases e : y = f
    · subst e; exact List.mem_cons_self ..
    · have h2 : l.lookup y ≠ none := fun z => h (by show ((f, v) :: l).lookup y = none; rw [lookup_con, if_neg e]; exact z)
      exact List.mem_cons_of_mem _ (ih h2)
/-- the exception as it is being filled: its dict (none yet), the fields so far -/
structure Fill (h : Heap) (C e n0 : Addr) (done : List (Str × Value)) : Prop where
  ex : ∃ (t1 : Addr) (od : Option Addr), h.get? e = some { cls := .ref C, dict := od, data := .fields #[.ref t1, .none, .none, .none, .bool false, .none] } ∧
    ((od = none ∧ done = []) ∨ done ≠ [] ∧ ∃ dx, od = some dx ∧ n0 ≤ dx ∧ dx ≠ e ∧ h.Ns1 dx (fun y => done.lookup y))
theorem flds_run {self : Str} {e n0 : Addr} (T : OexC K C) (hk : env.scope.kind = .function) (hsl : env.kindOf self = some .local) (hsd : (self == ("__debug__" : Str)) = false) (hself : m self = some (.ref e)) (hLn : env.locals ≠ e) (hL0 : env.locals < n0) :
    ∀ {fs : List Str} {ss : List Stmt}, SupSs self fs ss → ∀ (vs : List Value), fs.length = vs.length → (∀ p ∈ fs.zip vs, env.kindOf p.1 = some .local ∧ m p.1 = some p.2 ∧ PySem.W.findIn K (.ref C) p.1 = some none) →
      ∀ {h0 h : Heap} {t : Nat} {done : List (Str × Value)} {Q : Flow → Shared → Prop}, (∀ b o, b ≠ e → b < n0 → h0.get? b = some o → h.get? b = some o) → n0 ≤ h.objs.size → h0.objs.size ≤ n0 → K.In h0 → (∀ o, K.lookup e ≠ some o) → h0.Ns env.locals m → Fill h C e n0 done → done.length + fs.length ≤ 800 →
        (∀ h' t', (∀ b o, b ≠ e → b < n0 → h0.get? b = some o → h'.get? b = some o) → Fill h' C e n0 ((fs.zip vs).reverse ++ done) → Q .next ⟨h', g, d, t', os⟩) → wpAny (model prog w) A (execs ss env) Q E ⟨h, g, d, t, os⟩
  | _, _, .nil, [], _, _, h0, h, t, done, Q, k, _, _, _, _, _, F, _, q => wpAny_execs_nil (q h t k F)
  | _, _, .nil, _ :: _, l, _, _, _, _, _, _, _, _, _, _, _, _, _, _, _ => by cases l
  | _, _, .cons _ _, [], l, _, _, _, _, _, _, _, _, _, _, _, _, _, _, _ => by cases l
  | _, _, .cons (f := f) (fs := fs) (p1 := p1) (p2 := p2) (p3 := p3) (p4 := p4) (ss := ss) hd r, v :: vs, l, hfs, h0, h, t, done, Q, k, hz, hz0, X0, hKe, hn, F, hl, q => by
    obtain ⟨hfl, hfv, hfn⟩ := hfs (f, v) (List.mem_cons_self ..)
    have lt0 : ∀ {b : Addr} {o : Obj}, h0.get? b = some o → b < n0 := fun {b o} z => Nat.lt_of_lt_of_le (Heap.lt_size z) hz0
    have X : K.In h := fun b o z => k b o (fun y => hKe o (by rw [← y]; exact z)) (lt0 (X0 b o z)) (X0 b o z)
    have n : h.Ns env.locals m := hn.at fun o z => k _ o hLn hL0 z
    refine wpAny_execs_cons (plainObj_wpAny_Assign_Attribute (name_at n hfv hk hfl hd (name_at n hself hk hsl hsd ?_)) (by rfl))
    have step : ∀ h' t', (∀ b o, b ≠ e → b < n0 → h0.get? b = some o → h'.get? b = some o) → n0 ≤ h'.objs.size → Fill h' C e n0 ((f, v) :: done) → wpAny (model prog w) A (execs ss env) Q E ⟨h', g, d, t', os⟩ := fun h' t' k' hz' F' =>
      flds_run T hk hsl hsd hself hLn hL0 r vs (Nat.succ.inj l) (fun p' hp' => hfs p' (List.mem_cons_of_mem _ hp')) k' hz' hz0 X0 hKe hn F' (by rw [List.length_cons] at hl ⊢; omega) fun h2 t2 k2 F2 => q h2 t2 k2 (by
        rw [List.zip_cons_cons, List.reverse_cons, List.append_assoc]
        exact F2)
    obtain ⟨nm, q', N, bs, bm, sn, sub, ab, col, dd, k0, k1, k2, k3, k5, hC, hbm⟩ := T.cls
    have hcl : PySem.W.clsIn K C = some { name := nm, bases := bs, mro := .ref C :: bm, ns := N, qualname := q', hasDict := true, slotNames := sn, subclasses := sub, abstract := ab, collection := col, hasDel := false } := by unfold PySem.W.clsIn; rw [hC] <;> rfl
    obtain ⟨t1, od, he, hod⟩ := F.ex
    rcases hod with ⟨rfl, rfl⟩ | ⟨_, dx, rfl, h1, h2, h3⟩
    · refine PySem.W.set_plain X (od := none) ⟨he, rfl, rfl, trivial⟩ T.sa ?_
      refine PySem.HandSPX.exc_osa X he hcl (show PySem.HandSPX.refsVE (.ref C :: bm) = true from hbm) rfl hfn (fun h' tk' dx kk dn dne hx hns => ?_)
      refine step h' tk' (fun b o nb lb z => kk b o nb (k b o nb lb z)) ?_ ⟨t1, some dx, hx, .inr ⟨List.cons_ne_nil _ _, dx, rfl, Nat.le_trans hz dn, dne, ?_⟩⟩
      · obtain ⟨o, _, _, e1, _⟩ := hns
        exact Nat.le_of_lt (Nat.lt_of_le_of_lt (Nat.le_trans hz dn) (Heap.lt_size e1))
      · have e3 : (fun y => List.lookup y ((f, v) :: ([] : List (Str × Value)))) = fun y => if y = f then some v else none := by
          funext y
          rw [lookup_con]
          rfl
        rw [e3]
        exact hns
    · obtain ⟨oD, _, _, hoD, _, _⟩ := h3.count (within_list done)
      refine PySem.W.set_plain X (od := some oD) ⟨he, rfl, rfl, hoD⟩ T.sa ?_
      refine PySem.OEX.osa_old X he h3 (within_list done) (by rw [List.length_map]; omega) hcl (show PySem.HandSPX.refsVE (.ref C :: bm) = true from hbm) rfl hfn (fun h' tk' kk hns => ?_)
      refine step h' tk' (fun b o nb lb z => kk b o (fun y => absurd (y ▸ lb) (Nat.not_lt.mpr h1)) (k b o nb lb z)) ?_ ⟨t1, some dx, kk e _ (Ne.symm h2) he, .inr ⟨List.cons_ne_nil _ _, dx, rfl, h1, h2, ?_⟩⟩
      · obtain ⟨o, _, _, e1, _⟩ := hns
        exact Nat.le_of_lt (Nat.lt_of_le_of_lt h1 (Heap.lt_size e1))
      · have e3 : (fun y => List.lookup y ((f, v) :: done)) = fun y => if y = f then some v else List.lookup y done := by
          funext y
          rw [lookup_con]
        rw [e3]
        exact hns

/-! ### the __init__ -/
theorem lookup_nodup : ∀ {l : List (Str × Value)}, (l.map (·.1)).Nodup → ∀ {k : Str} {v : Value}, (k, v) ∈ l → l.lookup k = some v
  | [], _, _, _, h => by cases h
  | (f, u) :: l, n, k, v, h => by
    rw [lookup_con]
    rw [List.map_cons, List.nodup_cons] at n
    rcases List.mem_cons.mp h with e | h
    · cases e; rw [if_pos rfl]
    · have ne : k ≠ f := fun z => n.1 (by rw [← z]; exact List.mem_map_of_mem (f := (·.1)) h)
      rw [if_neg ne]
      exact lookup_nodup n.2 h
theorem lookup_rev {l : List (Str × Value)} (n : (l.map (·.1)).Nodup) {k : Str} {v : Value} (h : (k, v) ∈ l) : l.reverse.lookup k = some v :=
  lookup_nodup (by rw [List.map_reverse]; exact List.pairwise_reverse.mpr (List.Pairwise.imp (fun h => Ne.symm h) n)) (List.mem_reverse.mpr h)
/-- all that the written part says of C's __init__ -/
structure SupFn (prog : Program) (K : PySem.W.Frag) (C fI : Addr) (ps : List Str) : Prop where
  ex : ∃ (oc : Value) (od : Option Addr) (osl : Array (Option Value)) (name qual self : Str) (params : Arguments) (body : List Stmt) (scope : Scope) (cc cda : Addr) (dV kV doc pm ct : Value) (an : Option Addr) (ccl cdc : Value) (ccd cdd : Option Addr) (ccs cds : Array (Option Value)) (vs : Array Value) (file : Str) (tf : Tok) (ar : Arg),
    K.lookup fI = some ⟨oc, od, .func (PySem.W.fnX name qual params body scope [("__class__", cc)] dV kV doc pm an (.ref cda) ct), osl⟩ ∧ PySem.W.codeIn K (.ref cda) qual = true ∧ K.lookup cc = some ⟨ccl, ccd, .cell (some (.ref C)), ccs⟩ ∧
    K.lookup cda = some ⟨cdc, cdd, .fields vs, cds⟩ ∧ vs[2]? = some (.str file tf) ∧ ((prog.main.file : Str) == file) = true ∧ (prog.main.scope.names.lookup ("super" : Str)).isSome = false ∧
    (params.posonlyargs ++ params.args).head? = some ar ∧ ar.arg = self ∧ SupBody self ps body ∧ (self :: ps).Nodup ∧ (self == ("__debug__" : Str)) = false ∧
    (∀ us : List Value, us.length = (self :: ps).length → bindArgs (PySem.W.fnX name qual params body scope [("__class__", cc)] dV kV doc pm an (.ref cda) ct) ⟨us, []⟩ = pure ((self :: ps).zip us)) ∧
    scope.kind = .function ∧ scope.isCoroutine = false ∧ scope.isGenerator = false ∧ (∀ x ∈ scope.names, x.2 ≠ .cell) ∧ scope.names.lookup ("super" : Str) = some .globalImplicit ∧ scope.names.lookup ("__class__" : Str) = some .free ∧ ∀ x ∈ self :: ps, scope.names.lookup x = some .local
  atr : ∀ f ∈ ps, PySem.W.findIn K (.ref C) f = some none
theorem sup_init {fI e t0 : Addr} {ps : List Str} {us : List Value} {R : Result → Shared → Prop} (Fn : SupFn prog K C fI ps) (T : OexC K C) (S : SupK K C) (X : K.In h) (hKe : ∀ o, K.lookup e ≠ some o) (he : h.get? e = some (HandSPX.excO C t0)) (hroom : A.depth < recursionLimit) (hlim : h.NoLimit)
    (hg : h.Ns mainGlobals mg) (hgs : mg "super" = none) (hb : h.Ns builtinsNs mb) (hbs : mb "super" = some (.type "super")) (hl : us.length = ps.length) (hps : ps.length ≤ 100)
    (q : ∀ h' t' n0, (∀ b o, b ≠ e → h.get? b = some o → h'.get? b = some o) → h.objs.size ≤ n0 → Fill h' C e n0 (ps.zip us).reverse → R (.ok (.ret .none)) ⟨h', g, d, t', os⟩) :
    codeAny (model prog w) A (.call (.ref fI) ⟨.ref e :: us, []⟩) R ⟨h, g, d, t, os⟩ := by
  obtain ⟨oc, od, osl, name, qual, self, params, body, scope, cc, cda, dV, kV, doc, pm, ct, an, ccl, cdc, ccd, cdd, ccs, cds, vs, file, tf, ar, lk, hcd, hcc, hcda, hvs, hfile, htop, hp, har, hbody, hnd, hsd, hbind, hkf, hco, hgen, hcell, hks, hkc, hloc⟩ := Fn.ex
  obtain ⟨nm, q', N, bs, bm, sn, sub, ab, col, dd, k0, k1, k2, k3, k5, hC, hbm⟩ := T.cls
  have hcl : ∃ cd, PySem.W.clsIn K C = some cd := ⟨_, by unfold PySem.W.clsIn; rw [hC] <;> rfl⟩
  obtain ⟨cd, hcl⟩ := hcl
  have hus : (Value.ref e :: us).length = (self :: ps).length := by rw [List.length_cons, List.length_cons, hl]
  have keys : (((self :: ps).zip (Value.ref e :: us)).map (·.1)) = self :: ps := List.map_fst_zip (by rw [hus]; exact Nat.le_refl _)
  have look : ∀ k v, (k, v) ∈ (self :: ps).zip (Value.ref e :: us) → ((self :: ps).zip (Value.ref e :: us)).reverse.lookup k = some v := fun k v hm => lookup_rev (by rw [keys]; exact hnd) hm
  have mself : ((self :: ps).zip (Value.ref e :: us)).reverse.lookup self = some (.ref e) := look _ _ (List.mem_cons_self ..)
  have mps : ∀ p ∈ ps.zip us, ((self :: ps).zip (Value.ref e :: us)).reverse.lookup p.1 = some p.2 := fun p hp => look _ _ (List.mem_cons_of_mem _ hp)
  refine ks_codeAny_call_defAt hroom (X _ _ lk) rfl hlim (PySem.W.codeRec_of X hcd) rfl (BindsTo.of_eq (hbind _ hus)) hcell (fun y hy => hloc y.1 (List.of_mem_zip hy).1) (fun h1 hns k1 => ?_) hco hgen hkf
  have hL : h.objs.size ≠ e := Nat.ne_of_gt (Heap.lt_size he)
  have kof : ∀ {x : Str} {z : NameKind}, scope.names.lookup x = some z → (callEnv (PySem.W.fnX name qual params body scope [("__class__", cc)] dV kV doc pm an (.ref cda) ct) h.objs.size fI).kindOf x = some z := fun {x z} y => y
  cases hbody with
  | @mk w0 p0 p1 p2 p3 p4 p5 j es ss a hz s ev sw =>
    refine ks_wpAt_execs_cons (ks_wpAt_Expr_any (sup_call (m := fun x => ((self :: ps).zip (Value.ref e :: us)).reverse.lookup x) (cc := cc) (fI := fI) (cda := cda) (ps := ps) (oD := default) S (PySem.W.Frag.In.keeps X k1) hcl (k1 _ _ (X _ _ hC)) (k1 _ _ he) hkf (kof hks) (kof hkc) rfl (k1 _ _ (X _ _ lk)) rfl hp rfl (k1 _ _ (X _ _ hcda)) rfl hvs hfile htop ?_ ⟨_, k1 _ _ (X _ _ hcc), rfl⟩ hns (by rw [har]; exact mself)
      (by rw [har]; exact kof (hloc _ (List.mem_cons_self ..))) (hg.at fun o z => k1 _ o z) hgs (hb.at fun o z => k1 _ o z) hbs (fun x hx => kof (hloc x (List.mem_cons_of_mem _ hx))) (fun x hx => ?_) a hz (ev _) ?_) (by show (scope.kind == .module && _) = false; rw [hkf]; rfl) (sw _))
    · rfl
    · obtain ⟨i, hi, ei⟩ := List.mem_iff_getElem.mp hx
      have hi2 : i < us.length := by rw [hl]; exact hi
      refine ⟨us[i], mps (x, us[i]) ?_⟩
      rw [List.mem_iff_getElem]
      exact ⟨i, by rw [List.length_zip]; omega, by rw [List.getElem_zip, ei]⟩
    · intro v h2 t1 t' k2 he2
      refine wpAt_of_wpAny ?_
      have lt1 : h.objs.size < h1.objs.size := by
        obtain ⟨o, _, _, e1, _⟩ := hns
        exact Heap.lt_size e1
      have n2 : h2.Ns h.objs.size fun x => ((self :: ps).zip (Value.ref e :: us)).reverse.lookup x := hns.at fun o z => k2 _ o hL z
      have X2 : K.In h2 := fun b o z => k2 b o (fun y => hKe o (by rw [← y]; exact z)) (k1 _ _ (X b o z))
      have lt2 : h.objs.size < h2.objs.size := by
        obtain ⟨o, _, _, e1, _⟩ := n2
        exact Heap.lt_size e1
      refine flds_run (h0 := h2) (n0 := h2.objs.size) (m := fun x => ((self :: ps).zip (Value.ref e :: us)).reverse.lookup x) T hkf (kof (hloc _ (List.mem_cons_self ..))) hsd mself hL lt2 s us hl.symm (fun p hp => ⟨kof (hloc _ (List.mem_cons_of_mem _ (List.of_mem_zip hp).1)), mps p hp, Fn.atr _ (List.of_mem_zip hp).1⟩)
        (fun b o _ _ z => z) (Nat.le_refl _) (Nat.le_refl _) X2 hKe n2 ⟨t1, none, he2, .inl ⟨rfl, rfl⟩⟩ (by simp; omega) fun h3 t3 k3 F3 => ?_
      refine q h3 t3 h2.objs.size (fun b o nb z => ?_) (Nat.le_of_lt lt2) (by rw [List.append_nil] at F3; exact F3)
      exact k3 b o nb (Heap.lt_size (k2 b o nb (k1 _ _ z))) (k2 b o nb (k1 _ _ z))
end

/-! ## C(..) -/
inductive Pk : List (Str × V) → List (Str × Value) → Prop
  | nil : Pk [] []
  | cons {f v u l l'} : RelV v u → Pk l l' → Pk ((f, v) :: l) ((f, u) :: l')
theorem Pk.app : ∀ {a b a' b'}, Pk a b → Pk a' b' → Pk (a ++ a') (b ++ b')
  | _, _, _, _, .nil, h => h
  | _, _, _, _, .cons r t, h => .cons r (t.app h)
theorem Pk.rev : ∀ {a b}, Pk a b → Pk a.reverse b.reverse
  | _, _, .nil => .nil
  | _, _, .cons r t => by rw [List.reverse_cons, List.reverse_cons]; exact t.rev.app (.cons r .nil)
theorem Pk.look : ∀ {a b}, Pk a b → ∀ f, RelO (a.lookup f) (b.lookup f)
  | _, _, .nil, _ => True.intro
  | _, _, .cons (f := g) r t, f => by
    rw [lookup_con, lookup_put]
    by_cases h : f = g
    · rw [if_pos h, if_pos h]; exact r
    · rw [if_neg h, if_neg h]; exact t.look f
theorem Pk.zip : ∀ {ps : List Str} {vs : List V} {us : List Value}, Vals vs us → Pk (ps.zip vs) (ps.zip us)
  | [], _, _, _ => by rw [List.zip_nil_left, List.zip_nil_left]; exact .nil
  | _ :: _, _, _, .nil => by rw [List.zip_nil_right, List.zip_nil_right]; exact .nil
  | _ :: _, _, _, .cons r t => by rw [List.zip_cons_cons, List.zip_cons_cons]; exact .cons r (Pk.zip t)
section
variable {X : Cx} {pins : List (Addr × Obj)} {σ : L2.St} {H1 : Hp} {s1 : Shared} {C fI : Addr} {ps : List Str} {us : List Value} {vs : List V} {k : Nat} {Q : XK}
theorem boot_super : bootBuiltins "super" = some (.type "super") := by first | exact PyProof.Rows.Boot.«super» | kernel_rfl
theorem mk_run (Fn : SupFn X.prog X.K C fI ps) (T : OexC X.K C) (S : SupK X.K C) (iC : PySem.W.findIn X.K (.ref C) "__init__" = some (some (.ref fI))) (tI : PySem.W.typeIn X.K (.ref fI) = some (.type "function")) (hs : X.mg "super" = none) (hr : Room (k + 1) X.A) (hps : ps.length ≤ 100)
    (I1 : Inv X pins σ H1 s1) (r1 : Vals vs us) (hl : us.length = ps.length) (q0 : ps = [] → Q (.ref C) none H1) (q1 : ps ≠ [] → ∀ dx, H1 dx = none → Q (.ref C) (some dx) (upd H1 dx (.xd (ps.zip vs).reverse))) :
    wpAny (model X.prog X.w) X.A (call (.ref C) us) (MkP X pins σ Q) X.xe s1 := by
  obtain ⟨nm, q, N, bs, bm, sn, sub, ab, col, dd, k0, k1, k2, k3, k5, hC, hbm⟩ := T.cls
  obtain ⟨mb, b1, b2⟩ := I1.ok.mod.blt
  have gl : s1.heap.Ns mainGlobals X.mg := I1.ok.mod.glob.keeps I1.bk
  have bl : s1.heap.Ns builtinsNs mb := b1.keeps I1.bk
  have nl := I1.nolimit
  obtain ⟨hp, g, dr, tk, os⟩ := s1
  have hus : us.length ≤ sizeLine := by rw [hl, sizeLine_eq]; omega
  have kk : ∀ b o, hp.get? b = some o → ((hp.push (PySem.W.kdv_tup us)).push (PySem.HandSPX.excO C hp.objs.size)).get? b = some o := fun b o e => Heap.get?_push_of_some _ (Heap.get?_push_of_some _ e)
  have hget : ((hp.push (PySem.W.kdv_tup us)).push (PySem.HandSPX.excO C hp.objs.size)).get? (hp.objs.size + 1) = some (PySem.HandSPX.excO C hp.objs.size) := by heap_get
  have hsz : ((hp.push (PySem.W.kdv_tup us)).push (PySem.HandSPX.excO C hp.objs.size)).objs.size = hp.objs.size + 2 := by rw [Heap.size_push, Heap.size_push]
  have nha : ∀ {b : Addr} {o : Obj}, hp.get? b = some o → b ≠ hp.objs.size + 1 := fun {b o} z => Nat.ne_of_lt (Nat.lt_succ_of_lt (Heap.lt_size z))
  have hge : hp.get? (hp.objs.size + 1) = none := Heap.get?_none_of_le (Nat.le_succ _)
  refine wpAny_call (PySem.HandSPX.call_own F.excBase_ValueError (fun Y => PySem.HandSPX.refsVE_contains Y bm hbm) (I1.kIn _ _ hC) (PySem.W.looks_findIn I1.kIn iC) (fun self => PySem.W.bind_fn I1.kIn self tI) hus
    (sup_init (mg := X.mg) (mb := mb) Fn T S (PySem.W.Frag.In.keeps I1.kIn kk) (fun o z => nha (I1.kIn _ _ z) rfl) hget (hr.make C us []).depth (nl.keeps kk) (gl.keeps kk) hs (bl.keeps kk) ((b2 _ (by decide +kernel)).trans boot_super) hl hps fun h' t' n0 k' hn F' => ⟨rfl, ?_⟩))
  have kh : ∀ b o, hp.get? b = some o → h'.get? b = some o := fun b o z => k' b o (nha z) (kk b o z)
  have na : H1 (hp.objs.size + 1) = none := I1.hok.fresh (Nat.le_succ _)
  obtain ⟨t1, od, hx, hod⟩ := F'.ex
  rcases hod with ⟨rfl, hd⟩ | ⟨d0, dx, rfl, d1, d2, d3⟩
  · have hz : ps = [] := by
      cases ps with
      | nil => rfl
      | cons p ps =>
        cases us with
        | nil => cases hl
        | cons u us =>
          rw [List.zip_cons_cons, List.reverse_cons] at hd
          exact absurd hd (by simp)
    exact ⟨hp.objs.size + 1, _, _, ⟨hp, g, dr, tk, os⟩, H1, .ref C, none, rfl, I1, kh, hge, hx, ⟨rfl, rfl⟩, rfl, rfl, na, rfl, I1.bare, raises_own T.exC T.tyC, q0 hz⟩
  · have dge : hp.objs.size ≤ dx := by
      rw [hsz] at hn
      exact Nat.le_trans (Nat.le_trans (Nat.le_add_right _ 2) hn) d1
    have hd1 : H1 dx = none := I1.hok.fresh dge
    obtain ⟨G, g1, g2⟩ := restrict h' fun b => decide (b ≠ hp.objs.size + 1)
    have gk : ∀ b, b ≠ hp.objs.size + 1 → G.get? b = h'.get? b := fun b hb => g1 b (decide_eq_true hb)
    have ge : G.get? (hp.objs.size + 1) = none := g2 _ (by simp)
    have kG : ∀ b o, hp.get? b = some o → G.get? b = some o := fun b o z => (gk b (nha z)).trans (kh b o z)
    have new : ObjOk X.prog X.w (upd H1 dx (.xd (ps.zip vs).reverse)) G dx (.xd (ps.zip vs).reverse) := ⟨_, d3.at fun o y => (gk dx d2).trans y, (Pk.zip r1).rev.look⟩
    have J : Inv X pins σ (upd H1 dx (.xd (ps.zip vs).reverse)) ⟨G, g, dr, t', os⟩ := I1.laid (t' := t') (a := dx) (h' := G) kG dge new
    refine ⟨hp.objs.size + 1, _, _, ⟨G, g, dr, t', os⟩, _, .ref C, some dx, rfl, J, fun b o z => ?_, ge, hx, ⟨rfl, rfl⟩, rfl, rfl, by rw [upd_ne (Ne.symm d2)]; exact na, rfl, I1.bare, raises_own T.exC T.tyC, q1 (fun z => d0 (by rw [z]; rfl)) dx hd1⟩
    by_cases hb : b = hp.objs.size + 1
    · rw [hb, ge] at z; cases z
    · exact (gk b hb).symm.trans z
end

/-! ## raise -/
structure MkD (G : Gx) (cur : Cur) (X : Cx) (e : Expr) (f : DEnv → Store → RE Exn) : Prop where
  pmk : PMk X e fun s H Q => ∃ Z m r st, RepSt G Z m H st ∧ RepEnv G cur Z m H s r ∧ match f r st with
    | .ok x st1 => ∀ m' H' cls d, Grow m H m' H' → RepSt G Z m' H' st1 → RepX G Z m' H' cls d x → Q cls d H'
    | _ => False
def dRaise (f : DEnv → Store → RE Exn) : DSt := fun r st => match f r st with
  | .ok x st1 => .ex x r st1
  | _ => .stuck
theorem ds_raise {G : Gx} {cur : Cur} {W : WX} {X : Cx} {e : Expr} {pos : Pos} {f : DEnv → Store → RE Exn} (hc : X.calm = true) (tk : Takes X W) (h : MkD G cur X e f) : DS G cur W X (.Raise (some e) none pos) (dRaise f) := by
  refine ⟨psW (ps_raise hc tk h.pmk) fun E s H ⟨Z, m, r, st, hs, he, hw⟩ => ⟨Z, m, r, st, hs, he, ?_⟩⟩
  unfold dRaise at hw
  cases e : f r st with
  | ok x st1 => rw [e] at hw; exact fun m1 H1 cls d g1 s1 rx => hw m1 H1 s cls d g1 s1 (he.grow hs.ok g1) rx
  | exc x st1 => rw [e] at hw; exact hw.elim
  | stuck => rw [e] at hw; exact hw.elim
/-- what is known of an own exception's class -/
structure SupC (G : Gx) (prog : Program) (mg : Str → Option Value) (x : Str) (c : Nat) : Prop where
  name : mg x = some (.ref (G.ca c))
  sup_ : mg "super" = none
  oex : OexC G.K (G.ca c)
  sup : SupK G.K (G.ca c)
  ini : ∃ fI, PySem.W.findIn G.K (.ref (G.ca c)) "__init__" = some (some (.ref fI)) ∧ PySem.W.typeIn G.K (.ref fI) = some (.type "function") ∧ SupFn prog G.K (G.ca c) fI (G.fl c)
  nod : (G.fl c).Nodup
  len : (G.fl c).length ≤ 100
def dMk (c np : Nat) (fa : DAs) : DEnv → Store → RE Exn := fun r st => match fa r st with
  | .ok ds st1 => if ds.length = np then .ok ⟨c, ds⟩ st1 else .stuck
  | _ => .stuck
theorem lookup_nodupV : ∀ {l : List (Str × V)}, (l.map (·.1)).Nodup → ∀ {k : Str} {v : V}, (k, v) ∈ l → l.lookup k = some v
  | [], _, _, _, h => by cases h
  | (f, u) :: l, n, k, v, h => by
    rw [lookup_put]
    rw [List.map_cons, List.nodup_cons] at n
    rcases List.mem_cons.mp h with e | h
    · cases e; rw [if_pos rfl]
    · have ne : k ≠ f := fun z => n.1 (by rw [← z]; exact List.mem_map_of_mem (f := (·.1)) h)
      rw [if_neg ne]
      exact lookup_nodupV n.2 h
theorem flds_of {l : List (Str × V)} : ∀ {ps : List Str} {vs : List V}, ps.length = vs.length → (∀ p ∈ ps.zip vs, l.lookup p.1 = some p.2) → Flds ps l vs
  | [], [], _, _ => .nil
  | [], _ :: _, h, _ => by cases h
  | _ :: _, [], h, _ => by cases h
  | p :: ps, v :: vs, h, k => .cons (k (p, v) (List.mem_cons_self ..)) (flds_of (Nat.succ.inj h) fun q hq => k q (List.mem_cons_of_mem _ hq))
section
variable {G : Gx} {cur : Cur} {X : Cx} {x : Str} {c np k : Nat} {p pos : Pos} {e : Expr} {es : List Expr} {fa : DAs}
theorem mk_D (C : SupC G X.prog X.mg x c) (hK : X.K = G.K) (hr : Room (k + 1) X.A) {pins : List (Addr × Obj)} {σ : L2.St} {H1 : Hp} {s1 : Shared} {us : List Value} {vs : List V} {Q : XK} (I1 : Inv X pins σ H1 s1) (r1 : Vals vs us) {Z : List Addr} {m : Mu} {st : Store} {ds : List D}
    (hs : RepSt G Z m H1 st) (rr : Reps G Z m H1 vs ds) (hl : ds.length = (G.fl c).length) (q : ∀ m' H' cls d, Grow m H1 m' H' → RepSt G Z m' H' st → RepX G Z m' H' cls d ⟨c, ds⟩ → Q cls d H') :
    wpAny (model X.prog X.w) X.A (call (.ref (G.ca c)) us) (MkP X pins σ Q) X.xe s1 := by
  obtain ⟨fI, i1, i2, i3⟩ := C.ini
  have T := C.oex
  have S := C.sup
  rw [← hK] at i1 i2 i3 T S
  have hvl : vs.length = (G.fl c).length := by rw [rr.length, hl]
  refine mk_run i3 T S i1 i2 C.sup_ hr C.len I1 r1 (by rw [← r1.length, hvl]) (fun e => ?_) fun ne dx hd => ?_
  · refine q m H1 _ _ .refl hs ⟨rfl, .inl ⟨?_, e, rfl⟩⟩
    rw [e] at hl
    exact List.eq_nil_of_length_eq_zero hl
  · have g : Grow m H1 m (upd H1 dx (.xd ((G.fl c).zip vs).reverse)) := .new hd
    refine q m _ _ _ g (hs.new hd) ⟨rfl, .inr ⟨fun z => ne (List.eq_nil_of_length_eq_zero (by rw [← hl]; exact congrArg List.length z)), dx, _, vs, rfl, upd_same, flds_of hvl.symm fun z hz => ?_, rr.grow hs.ok g⟩⟩
    refine lookup_nodupV ?_ (List.mem_reverse.mpr hz)
    rw [List.map_reverse]
    refine List.pairwise_reverse.mpr (List.Pairwise.imp (fun h => Ne.symm h) ?_)
    rw [List.map_fst_zip (by rw [hvl]; exact Nat.le_refl _)]
    exact C.nod
theorem mk_sup (C : SupC G X.prog X.mg x c) (hK : X.K = G.K) (hr : Room (k + 1) X.A) (hg : Gl X x) (ha : DA G cur W0 X (e :: es) fa) (hn : (G.fl c).length = np)
    (hdb : (x == ("__debug__" : Str)) = false := by decide) (he : starEach (e :: es) X.env = (false, eval e X.env) :: starEach es X.env := by rfl) (hpl : (backTo pos (starEach es X.env)).any (·.1) = false := by rfl) : MkD G cur X (.Call (.Name x p) (e :: es) [] pos) (dMk c np fa) := by
  refine ⟨fun pins s σ H Q I ⟨Z, m, r, st, hs, henv, hw⟩ => ?_⟩
  have kC := C.oex.kC
  rw [← hK] at kC
  refine wpAny_Call_Name_kw (ld_glob I hg C.name ?_ hdb)
  have h : tDA G cur W0 fa σ H fun vs H1 => ∃ m1 st1 ds, Grow m H m1 H1 ∧ RepSt G Z m1 H1 st1 ∧ Reps G Z m1 H1 vs ds ∧ ds.length = (G.fl c).length ∧ ∀ m' H' cls d, Grow m H m' H' → RepSt G Z m' H' st1 → RepX G Z m' H' cls d ⟨c, ds⟩ → Q cls d H' := by
    refine ⟨Z, m, r, st, hs, henv, ?_⟩
    unfold dMk at hw
    cases ea : fa r st with
    | stuck => rw [ea] at hw; exact hw.elim
    | exc y st1 => rw [ea] at hw; exact hw.elim
    | ok ds st1 =>
      rw [ea] at hw
      intro m1 H1 vs g1 s1 rx
      by_cases hz : ds.length = np
      · simp only [hz, if_true] at hw
        exact ⟨m1, st1, ds, g1, s1, rx, by rw [hz, hn], hw⟩
      · simp only [hz, if_false] at hw
  refine PySem.W.callWith_K (h₀ := X.base) I.ok.mod.kin kC (thn (ha.pa.run pos pins s σ H _ I h) fun us s1 ⟨vs, H1, I1, r1, q⟩ => ⟨I1.kIn, ?_⟩) he hpl
  obtain ⟨m1, st1, ds, g1, hs1, rr, hl, q1⟩ := q
  show wpAny _ _ (call (.ref (G.ca c)) us) _ _ _
  exact mk_D C hK hr I1 r1 hs1 rr hl fun m' H' cls d g => q1 m' H' cls d (g1.trans g)
theorem mk_sup0 (C : SupC G X.prog X.mg x c) (hK : X.K = G.K) (hr : Room (k + 1) X.A) (hg : Gl X x) (hn : (G.fl c).length = 0) (hdb : (x == ("__debug__" : Str)) = false := by decide) : MkD G cur X (.Call (.Name x p) [] [] pos) (dMk c 0 dNil) := by
  refine ⟨fun pins s σ H Q I ⟨Z, m, r, st, hs, henv, hw⟩ => ?_⟩
  have kC := C.oex.kC
  rw [← hK] at kC
  refine wpAny_Call_Name_kw (ld_glob I hg C.name ?_ hdb)
  refine PySem.W.callWith_K0 I.kIn kC ?_
  show wpAny _ _ (call (.ref (G.ca c)) []) _ _ _
  exact mk_D C hK hr I .nil hs .nil (by rw [hn]; rfl) fun m' H' cls d g s1 rx => hw m' H' cls d g s1 rx
end
end Dl
namespace Dl
open PySem PySem.Spec PyProof.Rows L2

/-! ## try: .. except C as e: .. -/
def Slot.plain : Slot → Bool
  | .exn _ => false
  | _ => true
def envPlain (r : DEnv) : Bool := r.all Slot.plain
/-- the suite is left: its name is gone -/
def outT (i : Nat) : RS → RS
  | .nx r st => if envPlain (r.set i .no) = true then .nx (r.set i .no) st else .stuck
  | .bk r st => if envPlain (r.set i .no) = true then .bk (r.set i .no) st else .stuck
  | .ct r st => if envPlain (r.set i .no) = true then .ct (r.set i .no) st else .stuck
  | .rt d st => .rt d st
  | _ => .stuck
/-- cs: the classes of the program's exceptions; hit: which of them the clause takes -/
def dTry (i : Nat) (cs : List Nat) (hit : Nat → Bool) (fb fs : DSt) : DSt := fun r st => match fb r st with
  | .ex e r1 st1 => if e.c ∈ cs then (if hit e.c = true then outT i (fs (r1.set i (.exn e)) st1) else .ex e r1 st1) else .stuck
  | o => o
structure CatchOk (G : Gx) (c : Value) (cs : List Nat) (hit : Nat → Bool) : Prop where
  one : ∀ k ∈ cs, PySem.W.exmOne G.K (.ref (G.ca k)) c = some (hit k)
section
variable {G : Gx} {cur : Cur} {Z : List Addr} {m : Mu} {H : Hp} {s : L2.St} {r : DEnv}
theorem RepEnv.intoExn {i : Nat} {a : Addr} {c : Value} {d : Option Addr} {e : Exn} (h : RepEnv G none Z m H s r) (rx : RepX G Z m H c d e) : RepEnv G (some (a, c, d)) Z m H (s.set i (some (.ref a))) (r.set i (.exn e)) := by
  refine ⟨by rw [List.length_set, List.length_set, h.len], fun j sl ej => ?_⟩
  by_cases hj : i = j
  · subst hj
    by_cases hl : i < r.length
    · rw [List.getElem?_set_self hl] at ej
      cases ej
      exact ⟨_, List.getElem?_set_self (by rw [h.len]; exact hl), a, c, d, rfl, rfl, rx⟩
    · rw [List.getElem?_eq_none (by rw [List.length_set]; omega)] at ej
      cases ej
  · rw [List.getElem?_set_ne hj] at ej
    obtain ⟨o, e1, e2⟩ := h.at_ j sl ej
    refine ⟨o, by rw [List.getElem?_set_ne hj]; exact e1, ?_⟩
    cases sl with
    | no => cases o <;> trivial
    | val d => cases o <;> exact e2
    | exn x => cases o <;> (obtain ⟨_, _, _, z, _⟩ := e2; cases z)
theorem RepEnv.outExn {i : Nat} (h : RepEnv G cur Z m H s r) (p : envPlain (r.set i .no) = true) : RepEnv G none Z m H (s.set i none) (r.set i .no) := by
  refine ⟨by rw [List.length_set, List.length_set, h.len], fun j sl ej => ?_⟩
  have hp : sl.plain = true := List.all_eq_true.mp p sl (List.mem_of_getElem? ej)
  by_cases hj : i = j
  · subst hj
    by_cases hl : i < r.length
    · rw [List.getElem?_set_self hl] at ej
      cases ej
      exact ⟨_, List.getElem?_set_self (by rw [h.len]; exact hl), trivial⟩
    · rw [List.getElem?_eq_none (by rw [List.length_set]; omega)] at ej
      cases ej
  · rw [List.getElem?_set_ne hj] at ej
    obtain ⟨o, e1, e2⟩ := h.at_ j sl ej
    refine ⟨o, by rw [List.getElem?_set_ne hj]; exact e1, ?_⟩
    cases sl with
    | no => cases o <;> trivial
    | val d => cases o <;> exact e2
    | exn x => cases hp
end
section
variable {G : Gx} {cur : Cur} {W : WX} {X : Cx} {x n : Str} {c : Value} {i : Nat} {body suite : List Stmt} {b₀ : Stmt} {np pos pos' : Pos} {cs : List Nat} {hit : Nat → Bool} {fb fs : DSt}
theorem ds_try (hs : X.stack = X.env :: X.outer) (hf : X.env.frame = some X.env.locals) (hN : X.N.Nodup) (hi : X.N[i]? = some n) (hln : X.env.kindOf n = some .local) (hc : Names X x c) (tk : Takes X W) (hK : X.K = G.K) (ko : CatchOk G c cs hit)
    (hb : ∀ (W : WX) (pn : List (Addr × Obj)) (xe : Value → Shared → Prop), Takes (X.tr pn xe) W → PassesOwn (model X.prog X.w) X.A X.env xe → DB G none W (X.tr pn xe) body fb)
    (hsu : ∀ (a : Addr) (oe : Obj) (cl : Value) (d : Option Addr) (pn : List (Addr × Obj)), Zc cl d oe → (∃ vs, oe.data = .fields vs) → DB G (some (a, cl, d)) W0 (X.suite a ((a, oe) :: pn)) (b₀ :: suite) fs) :
    DS G none W X (.Try body [.ExceptHandler (some (.Name x np)) (some n) (b₀ :: suite) pos'] [] [] pos) (dTry i cs hit fb fs) := by
  refine ⟨psW (ps_try_as (tb := fun W => tDS G none W fb) (ts := fun a cl d => tDS G (some (a, cl, d)) W0 fs) hs hf hN hi hln hc tk (fun W pn xe t p => (hb W pn xe t p).pss) fun a oe cl d pn h1 h2 => (hsu a oe cl d pn h1 h2).pss) fun E s H ⟨Z, m, r, st, hst, he, hw⟩ => ⟨Z, m, r, st, hst, he, ?_⟩⟩
  unfold dTry at hw
  cases e : fb r st with
  | nx r1 st1 => rw [e] at hw; exact hw
  | rt d st1 => rw [e] at hw; exact hw
  | bk r1 st1 => rw [e] at hw; exact hw
  | ct r1 st1 => rw [e] at hw; exact hw
  | stuck => rw [e] at hw; exact hw
  | ex y r1 st1 =>
    rw [e] at hw
    intro m1 H1 s1 cl d g1 hs1 he1 rx
    replace hw := WpS.grow g1 hw
    simp only at hw
    by_cases hm : y.c ∈ cs
    · rw [if_pos hm] at hw
      have hcl := rx.cls
      subst hcl
      refine ⟨hit y.c, by rw [hK]; exact ko.one _ hm, fun ht a ha => ?_, fun hf => ?_⟩
      · rw [if_pos ht] at hw
        refine ⟨Z, m1, r1.set i (.exn y), st1, hs1, he1.intoExn rx, ?_⟩
        cases e2 : fs (r1.set i (.exn y)) st1 with
        | nx r2 st2 =>
          rw [e2] at hw
          simp only [outT] at hw
          split at hw
          · rename_i hp
            exact fun m2 H2 s2 g2 hs2 he2 => hw m2 H2 _ g2 hs2 (he2.outExn hp)
          · exact hw.elim
        | bk r2 st2 =>
          rw [e2] at hw
          simp only [outT] at hw
          split at hw
          · rename_i hp
            exact fun m2 H2 s2 g2 hs2 he2 => hw m2 H2 _ g2 hs2 (he2.outExn hp)
          · exact hw.elim
        | ct r2 st2 =>
          rw [e2] at hw
          simp only [outT] at hw
          split at hw
          · rename_i hp
            exact fun m2 H2 s2 g2 hs2 he2 => hw m2 H2 _ g2 hs2 (he2.outExn hp)
          · exact hw.elim
        | rt d2 st2 => rw [e2] at hw; exact hw
        | ex y2 r2 st2 => rw [e2] at hw; exact hw.elim
        | stuck => rw [e2] at hw; exact hw.elim
      · rw [if_neg (by rw [hf]; decide)] at hw
        exact hw m1 H1 s1 _ d .refl hs1 he1 rx
    · rw [if_neg hm] at hw; exact hw.elim
/-! ### e.f in the suite -/
structure XfK (G : Gx) (c j : Nat) (f : Str) : Prop where
  xf : XfC G.K (G.ca c)
  no : PySem.W.findIn G.K (.ref (G.ca c)) f = some none
  at_ : (G.fl c)[j]? = some f
def dXf (i c j : Nat) : DEx := fun r st => match r[i]? with
  | some (.exn e) => if e.c = c then (match e.fs[j]? with
    | some d => .ok d st
    | none => .stuck) else .stuck
  | _ => .stuck
theorem Flds.get {ns : List Str} {fs : List (Str × V)} {vs : List V} (h : Flds ns fs vs) : ∀ {j : Nat} {n : Str} {v : V}, ns[j]? = some n → vs[j]? = some v → fs.lookup n = some v := by
  induction h with
  | nil => intro j n v e; simp at e
  | cons l _ ih =>
    intro j n v e1 e2
    cases j with
    | zero => simp at e1 e2; subst e1; subst e2; exact l
    | succ j => simp at e1 e2; exact ih e1 e2
theorem de_xf {a : Addr} {oe : Obj} {cl : Value} {d : Option Addr} {pn : List (Addr × Obj)} {e : Expr} {f : Str} {j k : Nat} {pos : Pos} (hK : X.K = G.K) (T : XfK G k j f) (hz : Zc cl d oe) (hf : ∃ vs, oe.data = .fields vs)
    (he : PE (X.suite a ((a, oe) :: pn)) e (tVar i)) (hb : attributeBase e f X.env (eval e X.env) = eval e X.env := by rfl) :
    DE G (some (a, cl, d)) W0 (X.suite a ((a, oe) :: pn)) (.Attribute e f pos) (dXf i k j) := by
  have xf := T.xf
  have no := T.no
  rw [← hK] at xf no
  refine ⟨peW (pe_xf xf no hz hf he hb) fun s H Q ⟨Z, m, r, st, hs, hen, hw⟩ => ?_⟩
  unfold dXf at hw
  split at hw
  · rename_i y e1
    split at hw
    · rename_i hc
      cases e2 : y.fs[j]? with
      | none => rw [e2] at hw; exact hw.elim
      | some dd =>
        rw [e2] at hw
        obtain ⟨o, eo, a2, c2, d2, h1, h2, rx⟩ := hen.at_ i _ e1
        cases h1
        subst h2
        have hcl := rx.cls
        rcases rx.fld with ⟨h3, _⟩ | ⟨_, dx, fs, vs, h3, h4, h5, h6⟩
        · rw [h3] at e2; simp at e2
        · obtain ⟨v, e3, rv⟩ := h6.get e2
          have at_ := T.at_
          rw [← hc] at at_
          exact ⟨.ref a, by rw [eo], rfl, by rw [hcl, hc], dx, fs, v, h3, h4, h5.get at_ e3, hw m H v .refl hs rv⟩
    · exact hw.elim
  · exact hw.elim
/-! ### isinstance(e, C) in the suite, e without fields -/
structure IsEK (G : Gx) (c : Nat) (cv : Value) (b : Bool) : Prop where
  ex : ExcC G.K (G.ca c)
  one : PySem.W.kitOne G.K (.ref (G.ca c)) cv = some b
def dIsE (i c : Nat) (b : Bool) : DEx := fun r st => match r[i]? with
  | some (.exn e) => if e.c = c then (if e.fs.isEmpty = true then .ok (.bl b) st else .stuck) else .stuck
  | _ => .stuck
theorem de_isE {a : Addr} {oe : Obj} {cl : Value} {d : Option Addr} {pn : List (Addr × Obj)} {e : Expr} {y : Str} {C : Addr} {k : Nat} {b : Bool} {pos p q : Pos} (hK : X.K = G.K) (T : IsEK G k (.ref C) b) (hz : Zc cl d oe) (hf : ∃ vs, oe.data = .fields vs) (hg : Gl X "isinstance") (hm : X.mg "isinstance" = none) (gy : Gl X y) (my : X.mg y = some (.ref C))
    (he : PE (X.suite a ((a, oe) :: pn)) e (tVar i)) (hdb : (y == ("__debug__" : Str)) = false := by decide) (hs : starEach [e, .Name y q] X.env = (false, eval e X.env) :: starEach [.Name y q] X.env := by rfl) (hs2 : starEach [.Name y q] X.env = (false, eval (.Name y q) X.env) :: starEach [] X.env := by rfl) (hpl : (backTo pos (starEach [.Name y q] X.env)).any (·.1) = false := by rfl) :
    DE G (some (a, cl, d)) W0 (X.suite a ((a, oe) :: pn)) (.Call (.Name "isinstance" p) [e, .Name y q] [] pos) (dIsE i k b) := by
  by_cases hcl : cl = .ref (G.ca k) ∧ d = none
  · obtain ⟨rfl, rfl⟩ := hcl
    have ex := T.ex
    have one := T.one
    rw [← hK] at ex one
    refine ⟨peW (pe_callB (call_isE ex hz hf) hg hm PyProof.Rows.boot_isinstance (pa_cons he (pa_cons (pe_glob (v := .ref C) gy my rfl hdb) pa_nil hs2) hs) (by decide) (by decide) hs hpl) fun s H Q ⟨Z, m, r, st, hst, hen, hw⟩ => ?_⟩
    unfold dIsE at hw
    split at hw
    · rename_i x e1
      obtain ⟨o, eo, a2, c2, d2, h1, h2, rx⟩ := hen.at_ i _ e1
      cases h1
      subst h2
      split at hw
      · split at hw
        · exact ⟨.ref a, by rw [eo], .ref C, .ref C, b, rfl, fun u ru => ru, one, hw m H _ .refl hst .bl⟩
        · exact hw.elim
      · exact hw.elim
    · exact hw.elim
  · refine ⟨⟨fun pins s σ H Q I ⟨Z, m, r, st, hst, hen, hw⟩ => ?_⟩⟩
    exfalso
    unfold dIsE at hw
    split at hw
    · rename_i x e1
      obtain ⟨o, eo, a2, c2, d2, h1, h2, rx⟩ := hen.at_ i _ e1
      cases h1
      split at hw
      · rename_i hc
        split at hw
        · rename_i hemp
          refine hcl ⟨by rw [rx.cls, hc], ?_⟩
          rcases rx.fld with ⟨_, _, z⟩ | ⟨z, _⟩
          · exact z
          · exact absurd (List.isEmpty_iff.mp hemp) z
        · exact hw.elim
      · exact hw.elim
    · exact hw.elim
end
end Dl
namespace Dl
open PySem PySem.Spec PyProof.Rows L2

/-! ## the head: own exceptions' facts -/
/-- an own exception's class, whose __init__ calls super().__init__: its fields -/
structure SupX where
  name : Str
  fl : List Str
  body : List Stmt
  params : Arguments
  scope : Scope
  qual : Str
abbrev SupV : Type := Option (Str × Str × Arguments × FuncBody × Scope × Addr × Addr)
def supV (K : PySem.W.Frag) (x : Str) : SupV := match K.lookup (He.ma K (He.ga K x) "__init__") with
  | some ⟨_, _, .func fd, _⟩ => some (fd.name, fd.qualname, fd.params, fd.body, fd.scope, fd.globals, fd.builtins)
  | _ => none
def SupX.val (d : SupX) : SupV := some ("__init__", d.qual, d.params, .stmts d.body, d.scope, mainGlobals, builtinsNs)
def oexB (K : PySem.W.Frag) (C : Addr) : Bool := match K.lookup C with
  | some ⟨.type t, _, .cls cd, sl⟩ => decide (t = "type") && (match cd.mro, sl.toList with
    | .ref C' :: bm, [_, _, _, _, some (.builtin n), _] => decide (C' = C) && (decide (n = "ValueError.__new__") && (HandSPX.refsVE bm && (cd.hasDict && !cd.hasDel)))
    | _, _ => false)
  | _ => false
def fnB (file : Str) (K : PySem.W.Frag) (C fI : Addr) (qual : Str) : Bool := match K.lookup fI with
  | some ⟨_, _, .func fd, _⟩ => (match fd.closure, fd.code with
    | [(n, cc)], .ref cda => decide (n = ("__class__" : Str)) && ((match fd.defaults with
      | .none => true
      | _ => false) && ((match K.lookup cc with
      | some ⟨_, _, .cell (some (.ref D)), _⟩ => decide (D = C)
      | _ => false) && (PySem.W.codeIn K fd.code qual && (match K.lookup cda with
      | some ⟨_, _, .fields vs, _⟩ => (match vs[2]? with
        | some (Value.str f _) => (file == f)
        | _ => false)
      | _ => false))))
    | _, _ => false)
  | _ => false
def supB (file : Str) (K : PySem.W.Frag) (d : SupX) : Bool :=
  let C := He.ga K d.name
  let fI := He.ma K C "__init__"
  He.eqO (PySem.W.nsIn K mainGlobals d.name) (some (some (.ref C))) && (He.eqO (PySem.W.findIn K (.ref C) "__init__") (some (some (.ref fI))) && (decide (PySem.W.typeIn K (.ref fI) = some (.type "function")) && (PySem.W.keepIn K (.ref C) && (oexB K C &&
  (He.eqO (PySem.W.findIn K (.ref C) "__setattr__") (some (some (.builtin "object.__setattr__"))) && (decide (PySem.W.subIn K (.ref C) (.type "BaseException") = some true) && (decide (PySem.W.typeIn K (.ref C) = some (.type "type")) &&
  (He.eqO (PySem.W.ks_superIn K C C "__init__") (some (some (.builtin "ValueError.__init__"))) && (decide (PySem.W.subIn K (.ref C) (.type "ValueError") = some true) && (decide (PySem.W.mroIn K C (.ref C) = some true) && (He.eqO (PySem.W.nsIn K cStatics "thirdparty.any") (some none) &&
  (fnB file K C fI d.qual && (xfB K C && (d.fl.all fun f => He.eqO (PySem.W.findIn K (.ref C) f) (some none)))))))))))))))
theorem oexB_ok {K : PySem.W.Frag} {C : Addr} (h : oexB K C = true) : ∃ nm q N bs bm sn sub ab col dd k0 k1 k2 k3 k5, K.lookup C = some (excClassObj nm q C N bs bm true sn sub ab col dd k0 k1 k2 k3 k5 "ValueError.__new__") ∧ HandSPX.refsVE bm = true := by
  unfold oexB at h
  split at h
  · rename_i t dd cd sl ho
    obtain ⟨h1, h2⟩ := He.ba h
    split at h2
    · rename_i C' bm k0 k1 k2 k3 n k5 hm hs
      obtain ⟨a1, a⟩ := He.ba h2
      obtain ⟨a2, a⟩ := He.ba a
      obtain ⟨a3, a⟩ := He.ba a
      obtain ⟨a4, a5⟩ := He.ba a
      have e1 := of_decide_eq_true h1
      have e2 := of_decide_eq_true a1
      have e3 := of_decide_eq_true a2
      obtain ⟨nm, bs, mro, ns, qn, hd, sn, sub, ab, col, del⟩ := cd
      dsimp only at hm a4 a5
      subst hm e1 e2 e3 a4
      have ed : del = false := by cases del with
        | true => cases a5
        | false => rfl
      subst ed
      have hsl : sl = #[k0, k1, k2, k3, some (.builtin "ValueError.__new__"), k5] := by
        obtain ⟨l⟩ := sl
        simp only at hs
        rw [hs]
      subst hsl
      exact ⟨nm, qn, ns, bs, bm, sn, sub, ab, col, dd, k0, k1, k2, k3, k5, ho, a3⟩
    · cases h2
  · cases h
/-- what the text says of such an __init__: to be shown of the row's program -/
structure SupT (prog : Program) (d : SupX) : Prop where
  ex : ∃ self ar, (d.params.posonlyargs ++ d.params.args).head? = some ar ∧ ar.arg = self ∧ SupBody self d.fl d.body ∧ (self :: d.fl).Nodup ∧ (self == ("__debug__" : Str)) = false ∧
    (∀ (cl : List (Str × Addr)) (dV kV doc pm cdv ct : Value) (an : Option Addr) (us : List Value), us.length = (self :: d.fl).length → dV = .none → bindArgs (PySem.W.fnX "__init__" d.qual d.params d.body d.scope cl dV kV doc pm an cdv ct) ⟨us, []⟩ = pure ((self :: d.fl).zip us)) ∧
    d.scope.kind = .function ∧ d.scope.isCoroutine = false ∧ d.scope.isGenerator = false ∧ (∀ x ∈ d.scope.names, x.2 ≠ .cell) ∧ d.scope.names.lookup ("super" : Str) = some .globalImplicit ∧ d.scope.names.lookup ("__class__" : Str) = some .free ∧ ∀ x ∈ self :: d.fl, d.scope.names.lookup x = some .local
  top : (prog.main.scope.names.lookup ("super" : Str)).isSome = false
  len : d.fl.length ≤ 100

theorem fn_at {prog : Program} {K : PySem.W.Frag} {d : SupX} (hv : supV K d.name = d.val) (hb : fnB prog.main.file K (He.ga K d.name) (He.ma K (He.ga K d.name) "__init__") d.qual = true) (T : SupT prog d) (hat : ∀ f ∈ d.fl, PySem.W.findIn K (.ref (He.ga K d.name)) f = some none) :
    SupFn prog K (He.ga K d.name) (He.ma K (He.ga K d.name) "__init__") d.fl := by
  refine ⟨?_, hat⟩
  unfold fnB at hb
  unfold supV at hv
  split at hb
  · rename_i oc od fd osl ho
    rw [ho] at hv
    split at hb
    · rename_i n cc cda hcl hco
      obtain ⟨a1, a⟩ := He.ba hb
      obtain ⟨a2, a⟩ := He.ba a
      obtain ⟨a3, a⟩ := He.ba a
      obtain ⟨a4, a5⟩ := He.ba a
      obtain ⟨f1, f2, f3, f4, f5, f6, f7, f8, f9, f10, f11, f12, f13, f14, f15⟩ := fd
      have e2 : (some (f1, f2, f3, f4, f5, f6, f15) : SupV) = some (("__init__" : Str), d.qual, d.params, FuncBody.stmts d.body, d.scope, mainGlobals, builtinsNs) := hv
      simp only [Option.some.injEq, Prod.mk.injEq] at e2
      obtain ⟨h1, h2, h3, h4, h5, h6, h7⟩ := e2
      dsimp only at hcl hco a2 a4
      subst h1 h2 h3 h4 h5 h6 h7 hcl hco
      have en := of_decide_eq_true a1
      subst en
      have ed : f8 = .none := by cases f8 <;> first | rfl | cases a2
      subst ed
      obtain ⟨self, ar, t1, t2, t3, t4, t5, t6, t7, t8, t9, t10, t11, t12, t13⟩ := T.ex
      split at a3
      · rename_i ccl ccd D ccs hcc
        have eD := of_decide_eq_true a3
        subst eD
        split at a5
        · rename_i cdc cdd vs cds hcda
          split at a5
          · rename_i file tf hvs
            exact ⟨oc, od, osl, _, _, self, _, _, _, cc, cda, _, _, _, _, _, _, ccl, cdc, ccd, cdd, ccs, cds, vs, file, tf, ar, ho, a4, hcc, hcda, hvs, a5, T.top, t1, t2, t3, t4, t5, fun us hl => t6 _ _ _ _ _ _ _ _ us hl rfl, t7, t8, t9, t10, t11, t12, t13⟩
          · cases a5
        · cases a5
      · cases a3
    · cases hb
  · cases hb
theorem supC_of {prog : Program} {K : PySem.W.Frag} {G : Gx} {h : Heap} {mg : Str → Option Value} {d : SupX} {c : Nat} (hK : G.K = K) (hc : G.ca c = He.ga K d.name) (hf : G.fl c = d.fl) (X : K.In h) (N : h.Ns mainGlobals mg) (hs : mg "super" = none) (T : SupT prog d)
    (hv : supV K d.name = d.val) (hb : supB prog.main.file K d = true) : SupC G prog mg d.name c ∧ ∀ j f, d.fl[j]? = some f → XfK G c j f := by
  obtain ⟨a1, a⟩ := He.ba hb
  obtain ⟨a2, a⟩ := He.ba a
  obtain ⟨a3, a⟩ := He.ba a
  obtain ⟨a4, a⟩ := He.ba a
  obtain ⟨a5, a⟩ := He.ba a
  obtain ⟨a6, a⟩ := He.ba a
  obtain ⟨a7, a⟩ := He.ba a
  obtain ⟨a8, a⟩ := He.ba a
  obtain ⟨a9, a⟩ := He.ba a
  obtain ⟨a10, a⟩ := He.ba a
  obtain ⟨a11, a⟩ := He.ba a
  obtain ⟨a12, a⟩ := He.ba a
  obtain ⟨a13, a⟩ := He.ba a
  obtain ⟨a14, a15⟩ := He.ba a
  have hat : ∀ f ∈ d.fl, PySem.W.findIn K (.ref (He.ga K d.name)) f = some none := fun f m => He.eqO_ok (List.all_eq_true.mp a15 f m)
  have nod : d.fl.Nodup := by
    obtain ⟨self, ar, t1, t2, t3, t4, _⟩ := T.ex
    exact (List.nodup_cons.mp t4).2
  subst hK
  refine ⟨⟨by rw [hc]; exact PySem.W.mg_of X N (He.eqO_ok a1), hs, ?_, ?_, ?_, by rw [hf]; exact nod, by rw [hf]; exact T.len⟩, fun j f e => ⟨by rw [hc]; exact xfB_ok a14, by rw [hc]; exact hat f (List.mem_of_getElem? e), by rw [hf]; exact e⟩⟩
  · rw [hc]
    exact ⟨oexB_ok a5, He.eqO_ok a6, of_decide_eq_true a7, of_decide_eq_true a8, a4⟩
  · rw [hc]
    exact ⟨He.eqO_ok a9, of_decide_eq_true a10, of_decide_eq_true a11, He.eqO_ok a12⟩
  · rw [hc, hf]
    exact ⟨_, He.eqO_ok a2, of_decide_eq_true a3, fn_at hv a13 T hat⟩

/-! ## the Hook -/
abbrev AlY : Type := He.AlD × Bool × List SupV
def obsY (fa : List He.Fa) (fn : List He.DefD) (sx : List SupX) (ex : PySem.W.Frag → Bool) (file : Str) (K : PySem.W.Frag) : AlY := (He.obsD fa fn K, (sx.all fun d => supB file K d) && ex K, sx.map fun d => supV K d.name)
def valY (fn : List He.DefD) (sx : List SupX) : AlY := (He.valD fn, true, sx.map SupX.val)
def SaysY (fa : List He.Fa) (fn : List He.DefD) (sx : List SupX) (ex : PySem.W.Frag → Bool) (file : Str) (K : PySem.W.Frag) : Prop := obsY fa fn sx ex file K = valY fn sx
/-- the objects that are looked at: what the module's names reach in n steps, the statics -/
def frY (n : Nat) (g : Addr → Option Obj) : PySem.W.Frag := He.frG g (cStatics :: He.asD g n)
def hookY (n : Nat) (fa : List He.Fa) (fn : List He.DefD) (sx : List SupX) (ex : PySem.W.Frag → Bool) (file : Str) : PySem.W.Hook where
  α := AlY
  obs := fun s => obsY fa fn sx ex file (frY n s.heap.get?)
  val := fun _ => valY fn sx
  says := fun _ h => ∃ K : PySem.W.Frag, K.In h ∧ SaysY fa fn sx ex file K
  of := fun _ _ e => ⟨_, He.frG_in, e⟩
  keeps := fun _ _ _ ⟨K, hK, c⟩ k => ⟨K, PySem.W.Frag.In.keeps hK k, c⟩
theorem obsY_eq {n : Nat} {fa : List He.Fa} {fn : List He.DefD} {sx : List SupX} {ex : PySem.W.Frag → Bool} {file : Str} {g : Addr → Option Obj} {s : Shared} (h : ∀ a, g a = s.heap.get? a) : obsY fa fn sx ex file (frY n g) = (hookY n fa fn sx ex file).obs s := by
  have e : g = s.heap.get? := funext h
  rw [e]
  rfl
section
variable {fa : List He.Fa} {fn : List He.DefD} {sx : List SupX} {ex : PySem.W.Frag → Bool} {file : Str} {K : PySem.W.Frag}
theorem SaysY.d (c : SaysY fa fn sx ex file K) : He.SaysD fa fn K := congrArg (fun z : AlY => z.1) c
theorem SaysY.more (c : SaysY fa fn sx ex file K) : ex K = true := (He.ba (show ((sx.all fun d => supB file K d) && ex K) = true from congrArg (fun z : AlY => z.2.1) c)).2
theorem SaysY.sup (c : SaysY fa fn sx ex file K) (i : Nat) {d : SupX} (h : sx[i]? = some d := by rfl) : supV K d.name = d.val ∧ supB file K d = true := by
  have c1 := (He.ba (show ((sx.all fun d => supB file K d) && ex K) = true from congrArg (fun z : AlY => z.2.1) c)).1
  have e : sx.map (fun d => supV K d.name) = sx.map SupX.val := congrArg (fun z : AlY => z.2.2) c
  have e2 : (sx.map fun d => supV K d.name)[i]? = (sx.map SupX.val)[i]? := by rw [e]
  rw [List.getElem?_map, List.getElem?_map, h] at e2
  exact ⟨Option.some.inj e2, List.all_eq_true.mp c1 d (List.mem_of_getElem? h)⟩
end

/-! ## isinstance of a caught exception -/
def isEB (K : PySem.W.Frag) (C : Addr) : Bool := He.eqO (PySem.W.findIn K (.ref C) "__getattribute__") (some (some (.builtin "BaseException.__getattribute__"))) && (He.eqO (PySem.W.findIn K (.ref C) "__getattr__") (some none) && (decide (PySem.W.subIn K (.ref C) (.type "BaseException") = some true) && (PySem.W.hasDictIn K C &&
  (He.eqO (PySem.W.findIn K (.ref C) "__class__") (some (some (.builtin "object.__class__"))) && (He.eqO (PySem.W.specialIn K (.builtin "object.__class__") "__get__") (some (some (.builtin "getset_descriptor.__get__"))) && (decide (PySem.W.takesIn K (.builtin "object.__class__") = some true) && decide (PySem.W.mroIn K C (.type "object") = some true)))))))
theorem isEB_ok {K : PySem.W.Frag} {C : Addr} (h : isEB K C = true) : ExcC K C := by
  obtain ⟨h1, h⟩ := He.ba h
  obtain ⟨h2, h⟩ := He.ba h
  obtain ⟨h3, h⟩ := He.ba h
  obtain ⟨h4, h⟩ := He.ba h
  obtain ⟨h5, h⟩ := He.ba h
  obtain ⟨h6, h⟩ := He.ba h
  obtain ⟨h7, h8⟩ := He.ba h
  exact ⟨He.eqO_ok h1, He.eqO_ok h2, of_decide_eq_true h3, h4, He.eqO_ok h5, He.eqO_ok h6, of_decide_eq_true h7, of_decide_eq_true h8⟩
def kitB2 (K : PySem.W.Frag) (x y : Str) (b : Bool) : Bool := decide (PySem.W.kitOne K (.ref (He.ga K x)) (.ref (He.ga K y)) = some b)
end Dl
namespace Dl
open PySem PySem.Spec PyProof.Rows L2

/-! ## calls with keywords -/
structure DK (G : Gx) (cur : Cur) (W : WX) (X : Cx) (kws : List Keyword) (f : DAs) : Prop where
  pk : PK X kws (tDA G cur W f)
  len : ∀ r st xs st1, f r st = .ok xs st1 → xs.length = kws.length
/-- what a call binds: n positional values, keywords named ks; g: the parameters' values from the positional ones, the defaults, the keywords' -/
abbrev Perm3 := ∀ (α : Type), List α → List α → List α → List α
structure CalleeK (G : Gx) (P : Program) (w : World) (mg : Str → Option Value) (base : Heap) (x : Str) (k n np : Nat) (ks : List Str) (dd : List D) (g : Perm3) (F : DFun) : Prop where
  ex : ∃ (f : Addr) (fd : FuncData) (ps : List Str) (dvs : List V) (its : List Value), mg x = some (.ref f) ∧ PySem.W.keepIn G.K (.ref f) = true ∧ FnOk P w G.K mg base (L2.CX P w) k f fd ps (spD G np F) ∧ ps.length = np ∧
    KBn G.K fd ps n ks (fun us ws => g Value us its ws) (fun vs zs => g V vs dvs zs) ∧ ∀ Z m H, Reps G Z m H dvs dd
  rep : ∀ (Z : List Addr) (m : Mu) (H : Hp) vs ds dvs zs es, Reps G Z m H vs ds → Reps G Z m H dvs dd → Reps G Z m H zs es → Reps G Z m H (g V vs dvs zs) (g D ds dd es)
  len : ∀ ds es : List D, ds.length = n → es.length = ks.length → (g D ds dd es).length = np
theorem CalleeK.mono {G P w mg base x j k n np ks dd g F} (c : CalleeK G P w mg base x j n np ks dd g F) (h : j ≤ k) : CalleeK G P w mg base x k n np ks dd g F := by
  obtain ⟨⟨f, fd, ps, dvs, its, h1, h2, h3, h4⟩, a, b⟩ := c
  exact ⟨⟨f, fd, ps, dvs, its, h1, h2, h3.mono h, h4⟩, a, b⟩
def dCallK (F : DFun) (dd : List D) (g : Perm3) (fa fk : DAs) : DEx := fun r st => (fa r st).bind fun xs st1 => (fk r st1).bind fun ys st2 => F (g D xs dd ys) st2
section
variable {G : Gx} {cur : Cur} {W : WX} {X : Cx} {e : Expr} {es : List Expr} {kws : List Keyword} {pos p kpos : Pos} {x : Str} {nm : Option Str} {k n np : Nat} {ks : List Str} {dd : List D} {g : Perm3} {F : DFun} {fa fk : DAs}
theorem dk_nil : DK G cur W X [] dNil := ⟨⟨fun pos p s σ H Q I ⟨Z, m, r, st, hs, he, hw⟩ => pk_nil.run pos p s σ H Q I (hw m H [] .refl hs .nil)⟩, fun r st xs st1 h => by cases h; rfl⟩
theorem dk_cons {f : DEx} {g : DAs} (ha : DE G cur W X e f) (hr : DK G cur W X kws g) : DK G cur W X (⟨nm, e, kpos⟩ :: kws) (dCons f g) :=
  ⟨⟨fun pos p s σ H Q I ⟨Z, m, r, st, hs, he, hw⟩ => (pk_cons ha.pe hr.pk).run pos p s σ H Q I (exp_down hs he hw fun x v st1 m1 H1 _ s1 e1 rx w1 => args_down s1 e1 w1 fun xs vs st2 m2 H2 g2 s2 e2 rxs w2 =>
    w2 m2 H2 _ .refl s2 (.cons (rx.grow s1.ok g2) rxs))⟩, fun r st xs st1 h => by
    unfold dCons at h
    cases ea : f r st with
    | ok a st2 =>
      rw [ea] at h
      simp only [RE.bind] at h
      cases eb : g r st2 with
      | ok b st3 =>
        rw [eb] at h
        cases h
        rw [List.length_cons, List.length_cons, hr.len _ _ _ _ eb]
      | exc x st3 => rw [eb] at h; cases h
      | stuck => rw [eb] at h; cases h
    | exc x st2 => rw [ea] at h; cases h
    | stuck => rw [ea] at h; cases h⟩
theorem de_callK (C : CalleeK G X.prog X.w X.mg X.base x k n np ks dd g F) (hK : X.K = G.K) (tk : Takes X W) (hr : Room k X.A) (hg : Gl X x) (ha : DA G cur W X (e :: es) fa) (hkw : DK G cur W X kws fk) (hn : (e :: es).length = n) (hn2 : kws.length = ks.length)
    (hall : (backToKw pos (keywordEach kws X.env)).all (·.1.isSome) = true := by rfl) (hks : (backToKw pos (keywordEach kws X.env)).filterMap (·.1) = ks := by rfl)
    (hdb : (x == ("__debug__" : Str)) = false := by decide) (he : starEach (e :: es) X.env = (false, eval e X.env) :: starEach es X.env := by rfl)
    (hpl : ((backTo pos (starEach (e :: es) X.env)).any (·.1) || (backToKw pos (keywordEach kws X.env)).any (·.1.isNone)) = false := by rfl) :
    DE G cur W X (.Call (.Name x p) (e :: es) kws pos) (dCallK F dd g fa fk) := by
  obtain ⟨f, fd, ps, dvs, its, h1, h2, h3, hp, h4, h6⟩ := C.ex
  rw [← hK] at h2 h3 h4
  refine ⟨⟨fun pins s σ H Q I ⟨Z, m, r, st, hs, henv, hw⟩ => ?_⟩⟩
  refine wpAny_Call_Name_kw (ld_glob I hg h1 ?_ hdb)
  have h : tDA G cur W fa σ H fun vs H1 => tDA G cur W fk σ H1 fun zs H2 => ∃ Z m st ds ys, RepSt G Z m H2 st ∧ Reps G Z m H2 vs ds ∧ Reps G Z m H2 zs ys ∧ ds.length = n ∧ ys.length = ks.length ∧ WpE G (fun c d H' => W c d σ H') Z m H2 (Rep G Z) Q (F (g D ds dd ys) st) := by
    refine ⟨Z, m, r, st, hs, henv, ?_⟩
    unfold dCallK at hw
    cases ea : fa r st with
    | stuck => rw [ea] at hw; exact hw.elim
    | exc x st1 => rw [ea] at hw; exact hw
    | ok xs st1 =>
      rw [ea] at hw
      intro m1 H1 vs g1 s1 rx
      refine ⟨Z, m1, r, st1, s1, henv.grow hs.ok g1, ?_⟩
      replace hw := WpE.grow g1 hw
      simp only [RE.bind] at hw
      cases eb : fk r st1 with
      | stuck => rw [eb] at hw; exact hw.elim
      | exc x st2 => rw [eb] at hw; exact hw
      | ok ys st2 =>
        rw [eb] at hw
        intro m2 H2 zs g2 s2 ry
        exact ⟨Z, m2, st2, xs, ys, s2, rx.grow s1.ok g2, ry, (ha.len _ _ _ _ ea).trans hn, (hkw.len _ _ _ _ eb).trans hn2, WpE.grow g2 hw⟩
  refine PySem.W.callWith_KW (h₀ := X.base) I.ok.mod.kin h2 hall (thn (ha.pa.run pos pins s σ H _ I h) fun us s1 ⟨vs, H1, I1, r1, q⟩ => ?_) hpl he
  refine thn (hkw.pk.run pos pins s1 σ H1 _ I1 q) fun ws s2 ⟨zs, H2, I2, rz, Z2, m2, st2, ds, ys, hs2, rr, ry, l1, l2, w2⟩ => ⟨I2.kIn, ?_⟩
  rw [hks]
  have l3 : us.length = n := by rw [← r1.length, rr.length, l1]
  have l4 : ws.length = ks.length := by rw [← rz.length, ry.length, l2]
  have rr2 := C.rep Z2 m2 H2 vs ds dvs zs ys rr (h6 Z2 m2 H2) ry
  have r2 := h4.rel r1 rz
  refine wpAny_call (codeAny_mono (h3.run X.A X.stack s2 H2 ⟨us, ks.zip ws⟩ _ _ Q (fun c d H' => W c d σ H') hr I2.env0 (h4.to s2 us ws I2.kIn l3 l4) r2 ⟨by rw [rr2.length]; exact C.len ds ys l1 l2, Z2, m2, st2, _, hs2, rr2, w2⟩) fun r s' hq => ?_)
  cases r with
  | error e => exact passAt tk σ pins H2 s2 e s' I2 hq
  | ok fl =>
    cases fl with
    | ret u => exact I2.after hq
    | next => exact False.elim hq
    | brk => exact False.elim hq
    | cont => exact False.elim hq
end
/-- a def with positional defaults only, called with keywords -/
theorem kbn1 {K : PySem.W.Frag} {x qual : Str} {params : Arguments} {body : List Stmt} {scope : Scope} {dvs : List V} {kws : List (Str × V)} {f : Addr} {fd : FuncData} {ps : List Str} (F : FunD K x qual params body scope dvs kws f fd) (n : Nat) (ks : List Str) (g : Perm3) (hd : dvs ≠ [])
    (hrel : ∀ {vs ds zs : List V} {us its ws : List Value}, Vals vs us → Vals ds its → Vals zs ws → Vals (g V vs ds zs) (g Value us its ws))
    (h : ∀ (T : Addr) (kV doc pm : Value) (an : Option Addr) (cdv ct : Value) (us its ws : List Value), us.length = n → its.length = dvs.length → ws.length = ks.length →
      ∃ k, bindArgs (PySem.W.fnOf x qual params body scope (.ref T) kV doc pm an cdv ct) ⟨us, ks.zip ws⟩ = seqItems? (.ref T) >>= k ∧ k (some its.toArray) = pure (ps.zip (g Value us its ws))) :
    ∃ its : List Value, KBn K fd ps n ks (fun us ws => g Value us its ws) (fun vs zs => g V vs dvs zs) := by
  obtain ⟨oc, od, dV, kV, doc, pm, an, cdv, ct, osl, rfl, lk, hcd, hD, hK⟩ := F.ex
  rcases hD with ⟨e, _⟩ | ⟨_, T, o, its, m, rfl, lT, oT, rT⟩
  · exact absurd e hd
  · refine ⟨its, ⟨fun s us ws X l1 l2 => ?_, fun r1 r2 => hrel r1 rT r2⟩⟩
    obtain ⟨k, e1, e2⟩ := h T kV doc pm an cdv ct us its ws l1 rT.length.symm l2
    refine BindsTo.of_looks fun M => ?_
    rw [e1]
    exact looks_items X lT oT (PySem.W.Looks.of_pure e2)
end Dl
namespace Dl
open PySem PySem.Spec PyProof.Rows L2

/-! ## a module's constants -/
mutual
def cdB (K : PySem.W.Frag) : D → Value → Bool
  | .non, u => (match u with
    | .none => true
    | _ => false)
  | .bl b, u => (match u with
    | .bool c => decide (b = c)
    | _ => false)
  | .int i, u => (match u with
    | .int j _ => decide (i = j)
    | _ => false)
  | .str x, u => (match u with
    | .str y _ => decide (x = y)
    | _ => false)
  | .tup ds, u => (match u with
    | .ref a => (match K.lookup a with
      | some ⟨.type c, _, .seq its _, _⟩ => decide (c = "tuple") && (decide (its.size ≤ sizeLine) && cdAll K ds its.toList)
      | _ => false)
    | _ => false)
  | _, _ => false
def cdAll (K : PySem.W.Frag) : List D → List Value → Bool
  | [], us => us.isEmpty
  | d :: ds, us => (match us with
    | [] => false
    | u :: us => cdB K d u && cdAll K ds us)
end
mutual
theorem cd_ok {G : Gx} : ∀ {d : D} {u : Value}, cdB G.K d u = true → ∃ v, RelV v u ∧ ∀ Z m H, Rep G Z m H v d
  | .non, u, h => by
    cases u with
    | none => exact ⟨.non, rfl, fun _ _ _ => .non⟩
    | _ => simp [cdB] at h
  | .bl b, u, h => by
    cases u with
    | bool c =>
      have e : b = c := by simpa [cdB] using h
      exact ⟨.bl b, by rw [e]; rfl, fun _ _ _ => .bl⟩
    | _ => simp [cdB] at h
  | .int i, u, h => by
    cases u with
    | int j t =>
      have e : i = j := by simpa [cdB] using h
      exact ⟨.int i, ⟨t, by rw [e]⟩, fun _ _ _ => .int⟩
    | _ => simp [cdB] at h
  | .str x, u, h => by
    cases u with
    | str y t =>
      have e : x = y := by simpa [cdB] using h
      exact ⟨.str x, ⟨t, by rw [e]⟩, fun _ _ _ => .str⟩
    | _ => simp [cdB] at h
  | .tup ds, u, h => by
    unfold cdB at h
    split at h
    · rename_i a
      split at h
      · rename_i c od its n sl ho
        obtain ⟨h1, h⟩ := He.ba h
        obtain ⟨h2, h3⟩ := He.ba h
        obtain ⟨vs, r1, r2⟩ := cdAll_ok (G := G) h3
        refine ⟨.ref a, rfl, fun Z m H => .tup (.inr ⟨_, its, n, ho, congrArg Value.type (of_decide_eq_true h1), rfl, of_decide_eq_true h2, r1⟩) (r2 Z m H)⟩
      · cases h
    · cases h
  | .lst _, _, h => by simp [cdB] at h
  | .loc _, _, h => by simp [cdB] at h
  | .obj _ _, _, h => by simp [cdB] at h
  | .scr _, _, h => by simp [cdB] at h
  | .cls _, _, h => by simp [cdB] at h
  | .typ _, _, h => by simp [cdB] at h
theorem cdAll_ok {G : Gx} : ∀ {ds : List D} {us : List Value}, cdAll G.K ds us = true → ∃ vs, Vals vs us ∧ ∀ Z m H, Reps G Z m H vs ds
  | [], us, h => by
    cases us with
    | nil => exact ⟨[], .nil, fun _ _ _ => .nil⟩
    | cons u us => simp [cdAll] at h
  | d :: ds, us, h => by
    cases us with
    | nil => simp [cdAll] at h
    | cons u us =>
      unfold cdAll at h
      obtain ⟨h1, h2⟩ := He.ba h
      obtain ⟨v, r1, r2⟩ := cd_ok (G := G) h1
      obtain ⟨vs, r3, r4⟩ := cdAll_ok (G := G) h2
      exact ⟨v :: vs, .cons r1 r3, fun Z m H => .cons (r2 Z m H) (r4 Z m H)⟩
end
/-- the module's name x stands for d -/
def constB (K : PySem.W.Frag) (x : Str) (d : D) : Bool := match PySem.W.nsIn K mainGlobals x with
  | some (some u) => cdB K d u
  | _ => false
theorem const_ok {G : Gx} {h : Heap} {mg : Str → Option Value} {x : Str} {d : D} (X : G.K.In h) (N : h.Ns mainGlobals mg) (c : constB G.K x d = true) : ConstAt G mg x d := by
  unfold constB at c
  split at c
  · rename_i u e
    obtain ⟨v, r1, r2⟩ := cd_ok (G := G) c
    exact ⟨v, u, PySem.W.mg_of X N e, r1, r2⟩
  · cases c
def bltB (K : PySem.W.Frag) (x : Str) (id : String) : Bool := match PySem.W.nsIn K mainGlobals x with
  | some (some (.builtin i)) => decide (i = id)
  | _ => false
theorem blt_ok {K : PySem.W.Frag} {h : Heap} {mg : Str → Option Value} {x : Str} {id : String} (X : K.In h) (N : h.Ns mainGlobals mg) (c : bltB K x id = true) : mg x = some (.builtin id) := by
  unfold bltB at c
  split at c
  · rename_i i e
    have z : i = id := of_decide_eq_true c
    rw [← z]
    exact PySem.W.mg_of X N e
  · cases c
/-- the classes of a law: their names, their fields -/
def gxOf (K : PySem.W.Frag) (names : List Str) (fl : List (List Str)) : Gx := ⟨K, fun c => He.ga K (names.getD c ""), fun c => fl.getD c []⟩
theorem tk0 {X : Cx} : Takes X W0 := fun _ _ ⟨_, _, _, _, _, _, _, _, _, _, _, _, _, _, _, _, w⟩ => w.elim
theorem dLen_list {ds : List D} {st : Store} : dLen [.lst ds] st = .ok (.int ds.length) st := rfl
end Dl
namespace Dl
open PySem PySem.Spec PyProof.Rows L2

/-! ## the end -/
theorem scr_at {K : PySem.W.Frag} {H : Hp} {a : Addr} {ns : List Int} (o : Only H) (h : SqL K H a (ns.map V.int)) : ScrAt K H a ns := by
  rcases h with (h | ⟨q, h⟩) | h
  · rcases o a with z | ⟨q, xs, z⟩
    · rw [z] at h; cases h
    · rw [z] at h; cases h
  · exact .inl ⟨q, h⟩
  · exact .inr fun _ => .inr h
theorem sp_law {G : Gx} {F : DFun} {ns : List Int} (h : ∃ st, F [.scr ns] [] = .ok (.bl true) st) {H : Hp} {a : Addr} (o : Only H) (hs : SqL G.K H a (ns.map V.int)) : spD G 1 F [.ref a] H (fun v _ => v = .bl true) fun _ _ _ => False := by
  obtain ⟨st, e⟩ := h
  refine ⟨rfl, [], [], [], [.scr ns], ⟨rfl, fun i j a h => by simp at h, fun i a h => by simp at h, fun z h => by simp at h⟩, .cons (.scr (scr_at o hs)) .nil, ?_⟩
  rw [e]
  intro m' H' b _ _ rb
  cases rb
  rfl
theorem cx_false {P : Program} {w : World} {H : Hp} {s : Shared} {e : Value} {s' : Shared} : L2.CX P w [] H s (fun _ _ _ => False) e s' → False := fun ⟨_, _, _, _, _, _, _, _, _, _, _, _, z⟩ => z
theorem walk_D {l : PySem.W.OpenLaw} {n k : Nat} {q : Program} {loose : List Str} {XP : (Str → Option Value) → Heap → Prop} {YP : World → Heap → Prop} {d : DefRec} {x : Str} (hn : l.most = some n) (h2 : n ≤ sizeLine) (hd : d.params.defaults = []) (hr : Room k callerA)
    (F : ∀ (w : World) (mg : Str → Option Value) (fa : Addr) (h : Heap), YP w h → h.Ns mainGlobals mg → mg d.name = some (.ref fa) → ∃ (K : PySem.W.Frag) (fd : FuncData) (sp : Sp), K.In h ∧ (∀ (s : Shared) (u : Value), BindsTo s fd ⟨[u], []⟩ [(x, u)]) ∧
      (∀ (H : Hp) (a : Addr) (ns : List Int), ns.length ≤ n → Only H → SqL K H a (ns.map V.int) → sp [.ref a] H (fun v _ => v = .bl true) fun _ _ _ => False) ∧ ∀ base : Heap, K.In base → base.Ns mainGlobals mg → FnOk l.prog w K mg base (L2.CX l.prog w) k fa fd [x] sp) :
    PySem.W.WalkO q loose XP YP l.row.toRowW d [] (fun f vs => PySem.call f vs) := by
  refine Att.attach_call hn hd fun w s0 s1 mg mb fa ob pm cd doc a vs ns T Y ho e1 e2 em eo ei el eg => ?_
  obtain ⟨K, fd, sp, k1, k2, k3, k4⟩ := F w mg fa _ Y T.T.g em
  exact law_call k1 T.T.g T.T.b T.T.builtins T.T.nolimit eg eo ei (Nat.le_trans el h2) hr k4 k2 (fun H o hS => k3 H a ns el o hS) fun H e s' => cx_false
end Dl
namespace Dl
open PySem PySem.Spec PyProof.Rows L2

/-! ## what D-functions do, told by what is wanted behind them -/
def Ev {α : Type} (x : RE α) (Φ : α → Store → Prop) (Y : Exn → Store → Prop) : Prop := match x with
  | .ok a st => Φ a st
  | .exc e st => Y e st
  | .stuck => False
abbrev NoX : Exn → Store → Prop := fun _ _ => False
structure Kt where
  nx : DEnv → Store → Prop
  rt : D → Store → Prop := fun _ _ => False
  ex : Exn → Store → Prop := fun _ _ => False
  bk : DEnv → Store → Prop := fun _ _ => False
  ct : DEnv → Store → Prop := fun _ _ => False
def Es (x : RS) (k : Kt) : Prop := match x with
  | .nx r st => k.nx r st
  | .rt d st => k.rt d st
  | .bk r st => k.bk r st
  | .ct r st => k.ct r st
  | .ex e _ st => k.ex e st
  | .stuck => False
def optK {β : Type} (o : Option β) (k : β → Prop) : Prop := match o with
  | some b => k b
  | none => False
def slotK (o : Option Slot) (k : D → Prop) : Prop := match o with
  | some (.val d) => k d
  | _ => False
def blK (d : D) (k : Bool → Prop) : Prop := match d with
  | .bl b => k b
  | _ => False
def intK (d : D) (k : Int → Prop) : Prop := match d with
  | .int b => k b
  | _ => False
def strK (d : D) (k : Str → Prop) : Prop := match d with
  | .str b => k b
  | _ => False
section
variable {α β : Type} {Φ : α → Store → Prop} {Ψ : D → Store → Prop} {Y : Exn → Store → Prop} {r : DEnv} {st : Store} {a : α} {d : D} {i j : Int} {fa fb fc f : DEx} {g : DOp2} {ga gb : DAs} {ta tb : DTs} {Θ : Bool → Store → Prop} {Λ : List D → Store → Prop}
theorem optK_some {b : β} {k : β → Prop} : optK (some b) k ↔ k b := Iff.rfl
theorem slotK_val {k : D → Prop} : slotK (some (.val d)) k ↔ k d := Iff.rfl
theorem blK_bl {b : Bool} {k : Bool → Prop} : blK (.bl b) k ↔ k b := Iff.rfl
theorem ev_ok : Ev (.ok a st) Φ Y ↔ Φ a st := Iff.rfl
theorem ev_exc {e : Exn} : Ev (.exc e st) Φ Y ↔ Y e st := Iff.rfl
theorem Ev.of {x : RE α} (e : x = .ok a st) (h : Φ a st) : Ev x Φ Y := by rw [e]; exact h
theorem Ev.mono {x : RE α} {Φ' : α → Store → Prop} {Y' : Exn → Store → Prop} (h : Ev x Φ Y) (k : ∀ a st, Φ a st → Φ' a st) (k2 : ∀ e st, Y e st → Y' e st) : Ev x Φ' Y' := by
  cases x with
  | ok a st => exact k _ _ h
  | exc e st => exact k2 _ _ h
  | stuck => exact h
theorem Ev.get {x : RE α} (h : Ev x Φ NoX) : ∃ a st, x = .ok a st ∧ Φ a st := by
  cases x with
  | ok a st => exact ⟨a, st, rfl, h⟩
  | exc e st => exact h.elim
  | stuck => exact h.elim
theorem Ev.congr {x : RE α} {Φ' : α → Store → Prop} (h : ∀ a st, Φ a st ↔ Φ' a st) : Ev x Φ Y ↔ Ev x Φ' Y := by
  cases x with
  | ok a st => exact h a st
  | exc e st => exact Iff.rfl
  | stuck => exact Iff.rfl
theorem ev_bind {x : RE α} {k : α → Store → RE β} {Φ : β → Store → Prop} : Ev (x.bind k) Φ Y ↔ Ev x (fun a st => Ev (k a st) Φ Y) Y := by cases x <;> exact Iff.rfl
theorem ev_if {c : Prop} [Decidable c] {x y : RE α} : Ev (if c then x else y) Φ Y ↔ if c then Ev x Φ Y else Ev y Φ Y := by by_cases h : c <;> simp [h]
theorem ev_ifS {c : Prop} [Decidable c] {x : RE α} : Ev (if c then x else .stuck) Φ Y ↔ c ∧ Ev x Φ Y := by by_cases h : c <;> simp [h, Ev]
theorem ev_var {i : Nat} : Ev (dVar i r st) Ψ Y ↔ slotK r[i]? fun d => Ψ d st := by
  unfold dVar slotK
  cases r[i]? with
  | none => exact Iff.rfl
  | some s => cases s <;> exact Iff.rfl
theorem ev_c : Ev (dC d r st) Ψ Y ↔ Ψ d st := Iff.rfl
theorem ev_bin : Ev (dBin g fa fb r st) Ψ Y ↔ Ev (fa r st) (fun x st1 => Ev (fb r st1) (fun y st2 => Ev (g x y st2) Ψ NoX) Y) Y := by
  unfold dBin
  rw [ev_bind]
  refine Ev.congr fun x st1 => ?_
  rw [ev_bind]
  refine Ev.congr fun y st2 => ?_
  cases g x y st2 <;> exact Iff.rfl
theorem ev_add : Ev (dAdd (.int i) (.int j) st) Ψ Y ↔ Ψ (.int (i + j)) st := Iff.rfl
theorem ev_addS {a b : Str} : Ev (dAdd (.str a) (.str b) st) Ψ Y ↔ a.length + b.length ≤ sizeLine ∧ Ψ (.str (a ++ b)) st := ev_ifS
theorem ev_addT {a b : List D} : Ev (dAdd (.tup a) (.tup b) st) Ψ Y ↔ a.length + b.length ≤ sizeLine ∧ Ψ (.tup (a ++ b)) st := ev_ifS
theorem ev_addL {a b : List D} : Ev (dAdd (.lst a) (.lst b) st) Ψ Y ↔ a.length + b.length ≤ sizeLine ∧ Ψ (.lst (a ++ b)) st := ev_ifS
theorem ev_sub : Ev (dSub (.int i) (.int j) st) Ψ Y ↔ Ψ (.int (i - j)) st := Iff.rfl
theorem ev_mul : Ev (dMul (.int i) (.int j) st) Ψ Y ↔ MulOk i j ∧ Ψ (.int (i * j)) st := ev_ifS
theorem ev_div : Ev (dDiv (.int i) (.int j) st) Ψ Y ↔ DivOk i j ∧ Ψ (.int (i.fdiv j)) st := ev_ifS
theorem ev_mod : Ev (dMod (.int i) (.int j) st) Ψ Y ↔ j ≠ 0 ∧ Ψ (.int (i.fmod j)) st := ev_ifS
theorem ev_pow : Ev (dPow (.int i) (.int j) st) Ψ Y ↔ (0 ≤ j ∧ j ≤ 1000000 ∧ i.natAbs < 2 ^ 64) ∧ Ψ (.int (i ^ j.toNat)) st := ev_ifS
theorem ev_lt : Ev (dLt (.int i) (.int j) st) Ψ Y ↔ Ψ (.bl (decide (i < j))) st := Iff.rfl
theorem ev_le : Ev (dLe (.int i) (.int j) st) Ψ Y ↔ Ψ (.bl (decide (i ≤ j))) st := Iff.rfl
theorem ev_gt : Ev (dGt (.int i) (.int j) st) Ψ Y ↔ Ψ (.bl (decide (j < i))) st := Iff.rfl
theorem ev_ge : Ev (dGe (.int i) (.int j) st) Ψ Y ↔ Ψ (.bl (decide (j ≤ i))) st := Iff.rfl
theorem ev_is {n : Bool} {x y : D} : Ev (dIs n x y st) Ψ Y ↔ optK (isV x y) fun b => Ψ (.bl (if n = true then !b else b)) st := by unfold dIs; cases isV x y <;> exact Iff.rfl
theorem ev_eq {n : Bool} {x y : D} : Ev (dEqN n x y st) Ψ Y ↔ optK (eqD st x y) fun b => Ψ (.bl (if n = true then !b else b)) st := by unfold dEqN; cases eqD st x y <;> exact Iff.rfl
theorem ev_in {n : Bool} {x y : D} : Ev (dInN n x y st) Ψ Y ↔ optK (inD st x y) fun b => Ψ (.bl (if n = true then !b else b)) st := by unfold dInN; cases inD st x y <;> exact Iff.rfl
theorem ev_ix {x : D} : Ev (dIx x (.int i) st) Ψ Y ↔ optK (itemOf st x i) fun d => Ψ d st := by
  unfold dIx
  dsimp only
  cases itemOf st x i <;> exact Iff.rfl
theorem ev_un {g : D → Store → RE D} : Ev (dUn g fa r st) Ψ Y ↔ Ev (fa r st) (fun x st1 => Ev (g x st1) Ψ NoX) Y := by
  unfold dUn
  rw [ev_bind]
  refine Ev.congr fun x st1 => ?_
  cases g x st1 <;> exact Iff.rfl
theorem ev_neg : Ev (dNeg (.int i) st) Ψ Y ↔ Ψ (.int (-i)) st := Iff.rfl
theorem tru_bl {b : Bool} : Ev (truD (.bl b) st) Θ Y ↔ Θ b st := Iff.rfl
theorem tru_int : Ev (truD (.int i) st) Θ Y ↔ Θ (i != 0) st := Iff.rfl
theorem tru_non : Ev (truD .non st) Θ Y ↔ Θ false st := Iff.rfl
theorem tru_lst {a : List D} : Ev (truD (.lst a) st) Θ Y ↔ Θ (!a.isEmpty) st := Iff.rfl
theorem tru_tup {a : List D} : Ev (truD (.tup a) st) Θ Y ↔ Θ (!a.isEmpty) st := Iff.rfl
theorem ev_andV : Ev (dAndV fa fb r st) Ψ Y ↔ Ev (fa r st) (fun x st1 => Ev (truD x st1) (fun k st2 => if k = true then Ev (fb r st2) Ψ Y else Ψ x st2) Y) Y := by
  unfold dAndV
  simp only [ev_bind, ev_if, ev_ok]
theorem ev_orV : Ev (dOrV fa fb r st) Ψ Y ↔ Ev (fa r st) (fun x st1 => Ev (truD x st1) (fun k st2 => if k = true then Ψ x st2 else Ev (fb r st2) Ψ Y) Y) Y := by
  unfold dOrV
  simp only [ev_bind, ev_if, ev_ok]
theorem ev_notV : Ev (dNotV fa r st) Ψ Y ↔ Ev (fa r st) (fun x st1 => Ev (truD x st1) (fun k st2 => Ψ (.bl (!k)) st2) Y) Y := by
  unfold dNotV
  simp only [ev_bind, ev_ok]
theorem ev_ifE : Ev (dIfE ta fa fb r st) Ψ Y ↔ Ev (ta r st) (fun k st1 => if k = true then Ev (fa r st1) Ψ Y else Ev (fb r st1) Ψ Y) Y := by
  unfold dIfE
  simp only [ev_bind, ev_if]
theorem ev_nil : Ev (dNil r st) Λ Y ↔ Λ [] st := Iff.rfl
theorem ev_cons : Ev (dCons fa ga r st) Λ Y ↔ Ev (fa r st) (fun x st1 => Ev (ga r st1) (fun xs st2 => Λ (x :: xs) st2) Y) Y := by
  unfold dCons
  simp only [ev_bind, ev_ok]
theorem ev_tup : Ev (dTup ga r st) Ψ Y ↔ Ev (ga r st) (fun xs st1 => xs.length ≤ sizeLine ∧ Ψ (.tup xs) st1) Y := by
  unfold dTup
  simp only [ev_bind, ev_ifS, ev_ok]
theorem ev_lst : Ev (dLst ga r st) Ψ Y ↔ Ev (ga r st) (fun xs st1 => xs.length ≤ sizeLine ∧ Ψ (.lst xs) st1) Y := by
  unfold dLst
  simp only [ev_bind, ev_ifS, ev_ok]
theorem ev_new : Ev (dNew ga r st) Ψ Y ↔ Ev (ga r st) (fun xs st1 => xs.length ≤ sizeLine ∧ Ψ (.loc st1.length) (st1 ++ [.lst xs])) Y := by
  unfold dNew
  simp only [ev_bind, ev_ifS, ev_ok]
theorem ev_callB {g : DOpN} : Ev (dCallB g ga r st) Ψ Y ↔ Ev (ga r st) (fun xs st1 => Ev (g xs st1) Ψ NoX) Y := by
  unfold dCallB
  rw [ev_bind]
  refine Ev.congr fun x st1 => ?_
  cases g x st1 <;> exact Iff.rfl
theorem ev_lenL {a : List D} : Ev (dLen [.lst a] st) Ψ Y ↔ Ψ (.int a.length) st := Iff.rfl
theorem ev_lenT {a : List D} : Ev (dLen [.tup a] st) Ψ Y ↔ Ψ (.int a.length) st := Iff.rfl
theorem ev_lenS {a : List Int} : Ev (dLen [.scr a] st) Ψ Y ↔ Ψ (.int (a.map D.int).length) st := Iff.rfl
theorem ev_lenC {n : Nat} : Ev (dLen [.loc n] st) Ψ Y ↔ optK (seqOf st (.loc n)) fun xs => Ψ (.int xs.length) st := by unfold dLen; dsimp only; cases seqOf st (.loc n) <;> exact Iff.rfl
theorem ev_abs : Ev (dAbs [.int i] st) Ψ Y ↔ Ψ (.int (i.natAbs : Int)) st := Iff.rfl
theorem ev_int : Ev (dInt [.int i] st) Ψ Y ↔ Ψ (.int i) st := Iff.rfl
theorem ev_intB {b : Bool} : Ev (dInt [.bl b] st) Ψ Y ↔ Ψ (.int (if b then 1 else 0)) st := Iff.rfl
theorem ev_strI : Ev (dStrI [.int i] st) Ψ Y ↔ i.natAbs.log2 < 1920 ∧ Ψ (.str (toString i)) st := ev_ifS
theorem ev_gcd : Ev (dGcd [.int i, .int j] st) Ψ Y ↔ Ψ (.int ((Nat.gcd i.natAbs j.natAbs : Nat) : Int)) st := Iff.rfl
theorem ev_tupOf {x : D} : Ev (dTupOf [x] st) Ψ Y ↔ optK (seqOf st x) fun xs => Ψ (.tup xs) st := by unfold dTupOf; dsimp only; cases seqOf st x <;> exact Iff.rfl
theorem ev_lstOf {x : D} : Ev (dLstOf [x] st) Ψ Y ↔ optK (seqOf st x) fun xs => Ψ (.lst xs) st := by unfold dLstOf; dsimp only; cases seqOf st x <;> exact Iff.rfl
theorem ev_isi {cs : List Nat} {sub : Nat → Nat → Bool} {x c : D} : Ev (dIsi cs sub [x, c] st) Ψ Y ↔ optK ((kdOf st x).bind fun k => isD cs sub k c) fun b => Ψ (.bl b) st := by unfold dIsi; dsimp only; cases ((kdOf st x).bind fun k => isD cs sub k c) <;> exact Iff.rfl
theorem ev_isTy2 {n1 n2 : String} : Ev (dIsTy2 n1 n2 f r st) Ψ Y ↔ Ev (f r st) (fun x st1 => optK (isTy2 st1 x n1 n2) fun b => Ψ (.bl b) st1) Y := by
  unfold dIsTy2
  rw [ev_bind]
  refine Ev.congr fun x st1 => ?_
  cases isTy2 st1 x n1 n2 <;> exact Iff.rfl
theorem ev_call {F : DFun} {dd : List D} : Ev (dCall F dd ga r st) Ψ Y ↔ Ev (ga r st) (fun xs st1 => Ev (F (xs ++ dd) st1) Ψ Y) Y := by
  unfold dCall
  rw [ev_bind]
theorem ev_callK {F : DFun} {dd : List D} {g : Perm3} : Ev (dCallK F dd g ga gb r st) Ψ Y ↔ Ev (ga r st) (fun xs st1 => Ev (gb r st1) (fun ys st2 => Ev (F (g D xs dd ys) st2) Ψ Y) Y) Y := by
  unfold dCallK
  simp only [ev_bind]
theorem ev_part : Ev (dPart f r st) Ψ Y ↔ Ev (f r st) (fun d st1 => intK d fun i => Ψ (.int i) st1) Y := by
  unfold dPart
  cases f r st with
  | ok d st1 => cases d <;> exact Iff.rfl
  | exc e st1 => exact Iff.rfl
  | stuck => exact Iff.rfl
theorem ev_sl : Ev (dSl fa fb fc r st) Ψ Y ↔ Ev (fa r st) (fun x st1 => Ev (fb r st1) (fun l st2 => optK (partD l) fun lo => Ev (fc r st2) (fun h st3 => optK (partD h) fun hi => Ev (slD st3 x lo hi) Ψ NoX) Y) Y) Y := by
  unfold dSl
  rw [ev_bind]
  refine Ev.congr fun x st1 => ?_
  rw [ev_bind]
  refine Ev.congr fun l st2 => ?_
  cases partD l with
  | none => exact Iff.rfl
  | some lo =>
    dsimp only
    rw [ev_bind]
    refine Ev.congr fun h st3 => ?_
    unfold slOut
    cases partD h with
    | none => exact Iff.rfl
    | some hi =>
      dsimp only
      simp only [optK_some]
      cases slD st3 x lo hi <;> exact Iff.rfl
theorem ev_join0 {acc : Str} : Ev (joinD [] acc r st) Ψ Y ↔ Ψ (.str acc) st := Iff.rfl
theorem ev_join1 {acc : Str} {fs : List DEx} : Ev (joinD (f :: fs) acc r st) Ψ Y ↔ Ev (f r st) (fun x st1 => strK x fun y => (acc ++ y).length ≤ sizeLine ∧ Ev (joinD fs (acc ++ y) r st1) Ψ Y) Y := by
  show Ev ((f r st).bind _) Ψ Y ↔ _
  rw [ev_bind]
  refine Ev.congr fun x st1 => ?_
  cases x with
  | str y => exact ev_ifS
  | _ => exact Iff.rfl
theorem ev_fmt : Ev (dFmt f r st) Ψ Y ↔ Ev (f r st) (fun x st1 => Ev (fmtD x st1) Ψ NoX) Y := by
  unfold dFmt
  rw [ev_bind]
  refine Ev.congr fun x st1 => ?_
  cases fmtD x st1 <;> exact Iff.rfl
theorem ev_fmtI : Ev (fmtD (.int i) st) Ψ Y ↔ i.natAbs.log2 < 1920 ∧ Ψ (.str (toString i)) st := ev_ifS
theorem ev_fmtS {x : Str} : Ev (fmtD (.str x) st) Ψ Y ↔ x.length ≤ sizeLine ∧ Ψ (.str x) st := ev_ifS
/-! ### tests -/
theorem ev_tb : Ev (dTB f r st) Θ Y ↔ Ev (f r st) (fun d st1 => blK d fun k => Θ k st1) Y := by
  unfold dTB
  cases f r st with
  | ok d st1 => cases d <;> exact Iff.rfl
  | exc e st1 => exact Iff.rfl
  | stuck => exact Iff.rfl
theorem ev_tr : Ev (dTr f r st) Θ Y ↔ Ev (f r st) (fun d st1 => Ev (truD d st1) Θ Y) Y := by
  unfold dTr
  rw [ev_bind]
theorem ev_tand : Ev (dAnd ta tb r st) Θ Y ↔ Ev (ta r st) (fun k st1 => if k = true then Ev (tb r st1) Θ Y else Θ false st1) Y := by
  unfold dAnd
  simp only [ev_bind, ev_if, ev_ok]
theorem ev_tor : Ev (dOr ta tb r st) Θ Y ↔ Ev (ta r st) (fun k st1 => if k = true then Θ true st1 else Ev (tb r st1) Θ Y) Y := by
  unfold dOr
  simp only [ev_bind, ev_if, ev_ok]
theorem ev_tnot : Ev (dNot ta r st) Θ Y ↔ Ev (ta r st) (fun k st1 => Θ (!k) st1) Y := by
  unfold dNot
  simp only [ev_bind, ev_ok]
theorem ev_yes : Ev (dYes r st) Θ Y ↔ Θ true st := Iff.rfl
end
/-! ### statements -/
section
variable {r : DEnv} {st : Store} {f g : DSt} {fa : DEx} {ta : DTs} {k : Kt} {d : D}
theorem es_nx : Es (.nx r st) k ↔ k.nx r st := Iff.rfl
theorem es_bind {α : Type} {x : RE α} {h : α → Store → RS} : Es (sBind x r h) k ↔ Ev x (fun a st1 => Es (h a st1) k) k.ex := by cases x <;> exact Iff.rfl
theorem es_next : Es (dNext r st) k ↔ k.nx r st := Iff.rfl
theorem es_brk : Es (dBrk r st) k ↔ k.bk r st := Iff.rfl
theorem es_cnt : Es (dCnt r st) k ↔ k.ct r st := Iff.rfl
theorem es_seq : Es (dSeq f g r st) k ↔ Es (f r st) { k with nx := fun r1 st1 => Es (g r1 st1) k } := by
  unfold dSeq
  cases f r st <;> exact Iff.rfl
theorem es_ret : Es (dRet fa r st) k ↔ Ev (fa r st) k.rt k.ex := by
  unfold dRet
  rw [es_bind]
  exact Iff.rfl
theorem es_retN : Es (dRetN r st) k ↔ k.rt .non st := Iff.rfl
theorem es_drop : Es (dDrop fa r st) k ↔ Ev (fa r st) (fun _ st1 => k.nx r st1) k.ex := by
  unfold dDrop
  rw [es_bind]
  exact Iff.rfl
theorem es_ite {c : Prop} [Decidable c] {x y : RS} : Es (if c then x else y) k ↔ if c then Es x k else Es y k := by by_cases h : c <;> simp [h]
theorem es_if : Es (dIf ta f g r st) k ↔ Ev (ta r st) (fun b st1 => if b = true then Es (f r st1) k else Es (g r st1) k) k.ex := by
  unfold dIf
  simp only [es_bind, es_ite]
theorem es_set {i : Nat} : Es (dSet i fa r st) k ↔ Ev (fa r st) (fun d st1 => k.nx (r.set i (.val d)) st1) k.ex := by
  unfold dSet
  rw [es_bind]
  exact Iff.rfl
theorem es_gset {i : Nat} : Es (gSet i d r st) k ↔ k.nx (r.set i (.val d)) st := Iff.rfl
theorem es_raise {f : DEnv → Store → RE Exn} : Es (dRaise f r st) k ↔ Ev (f r st) k.ex NoX := by
  unfold dRaise
  cases f r st <;> exact Iff.rfl
theorem ev_mk {c np : Nat} {ga : DAs} {Φ : Exn → Store → Prop} : Ev (dMk c np ga r st) Φ NoX ↔ Ev (ga r st) (fun ds st1 => ds.length = np ∧ Φ ⟨c, ds⟩ st1) NoX := by
  unfold dMk
  cases ga r st with
  | ok ds st1 => exact ev_ifS
  | exc e st1 => exact Iff.rfl
  | stuck => exact Iff.rfl
/-- a def -/
theorem ev_run {n : Nat} {ds : List D} {Φ : D → Store → Prop} {Y : Exn → Store → Prop} : Ev (runD n f ds st) Φ Y ↔ Es (f (env0 n ds) st) { nx := fun _ st1 => Φ .non st1, rt := Φ, ex := Y } := by
  unfold runD
  cases f (env0 n ds) st <;> exact Iff.rfl
/-! ### loops -/
theorem es_for {fi : DIt} {g : DTg} : Es (dFor fi g f r st) k ↔ Ev (fi r st) (fun a st1 => match a.o with
    | none => Es (forD g f a.ds r st1) k
    | some n => Es (forG (some n) a.ds g f a.ds r st1) k) k.ex := by
  unfold dFor
  rw [es_bind]
  refine Ev.congr fun a st1 => ?_
  obtain ⟨ds, o⟩ := a
  cases o <;> exact Iff.rfl
theorem forD_con {g : DTg} {ds : List D} : forD g f (d :: ds) r st = (match g d r st with
    | .nx r1 st1 => (match f r1 st1 with
      | .nx r2 st2 => forD g f ds r2 st2
      | .ct r2 st2 => forD g f ds r2 st2
      | .bk r2 st2 => .nx r2 st2
      | o => o)
    | _ => .stuck) := rfl
theorem es_for0 {g : DTg} : Es (forD g f [] r st) k ↔ k.nx r st := Iff.rfl
theorem es_for1 {g : DTg} {ds : List D} : Es (forD g f (d :: ds) r st) k ↔ ∃ r1 st1, g d r st = .nx r1 st1 ∧ Es (f r1 st1) { nx := fun r2 st2 => Es (forD g f ds r2 st2) k, ct := fun r2 st2 => Es (forD g f ds r2 st2) k, bk := k.nx, rt := k.rt, ex := k.ex } := by
  rw [forD_con]
  cases g d r st with
  | nx r1 st1 =>
    constructor
    · intro h
      refine ⟨r1, st1, rfl, ?_⟩
      dsimp only at h
      cases e : f r1 st1 <;> (rw [e] at h; exact h)
    · rintro ⟨r1', st1', e, h⟩
      cases e
      dsimp only
      cases e : f r1 st1 <;> (rw [e] at h; exact h)
  | _ =>
    constructor
    · intro h; exact h.elim
    · rintro ⟨_, _, e, _⟩; cases e
theorem es_while0 {t : DTs} : Es (whileD t f 0 r st) k ↔ False := Iff.rfl
theorem es_while1 {t : DTs} {n : Nat} : Es (whileD t f (n + 1) r st) k ↔ Ev (t r st) (fun b st1 => if b = true then Es (f r st1) { nx := fun r2 st2 => Es (whileD t f n r2 st2) k, ct := fun r2 st2 => Es (whileD t f n r2 st2) k, bk := k.nx, rt := k.rt, ex := k.ex } else k.nx r st1) k.ex := by
  show Es (sBind (t r st) r _) k ↔ _
  rw [es_bind]
  refine Ev.congr fun b st1 => ?_
  cases b with
  | false => exact Iff.rfl
  | true =>
    simp only [if_true]
    cases f r st1 <;> exact Iff.rfl
end
end Dl
namespace Dl
open PySem PySem.Spec PyProof.Rows L2

/-! ## cells, places -/
def cellL (st : Store) (n : Nat) : Option (List D) := match st[n]? with
  | some (.lst ds) => some ds
  | _ => none
theorem cellL_of {st : Store} {n : Nat} {ds : List D} (h : st[n]? = some (.lst ds)) : cellL st n = some ds := by unfold cellL; rw [h]
theorem seqC {st : Store} {n : Nat} : seqOf st (.loc n) = cellL st n := rfl
theorem seqL {st : Store} {ds : List D} : seqOf st (.lst ds) = some ds := rfl
theorem seqT {st : Store} {ds : List D} : seqOf st (.tup ds) = some ds := rfl
theorem seqS {st : Store} {ns : List Int} : seqOf st (.scr ns) = some (ns.map D.int) := rfl
theorem itC {st : Store} {n : Nat} {i : Int} : itemOf st (.loc n) i = (cellL st n).bind fun ds => atI ds i := rfl
theorem itL {st : Store} {ds : List D} {i : Int} : itemOf st (.lst ds) i = atI ds i := rfl
theorem itT {st : Store} {ds : List D} {i : Int} : itemOf st (.tup ds) i = atI ds i := rfl
theorem atNat {α : Type} {l : List α} {k : Nat} : atI l (k : Int) = l[k]? := by
  unfold atI ixN
  by_cases h : k < l.length
  · simp [h]
  · simp [h]
theorem at0 {α : Type} {a : α} {l : List α} : atI (a :: l) 0 = some a := atNat (k := 0)
theorem at1 {α : Type} {a b : α} {l : List α} : atI (a :: b :: l) 1 = some b := atNat (k := 1)
theorem at2 {α : Type} {a b c : α} {l : List α} : atI (a :: b :: c :: l) 2 = some c := atNat (k := 2)
theorem at3 {α : Type} {a b c d : α} {l : List α} : atI (a :: b :: c :: d :: l) 3 = some d := atNat (k := 3)
theorem at4 {α : Type} {a b c d e : α} {l : List α} : atI (a :: b :: c :: d :: e :: l) 4 = some e := atNat (k := 4)
theorem at5 {α : Type} {a b c d e f : α} {l : List α} : atI (a :: b :: c :: d :: e :: f :: l) 5 = some f := atNat (k := 5)
theorem ix0 {n : Nat} : ixN (n + 1) 0 = some 0 := by unfold ixN; simp
theorem ix1 {n : Nat} : ixN (n + 2) 1 = some 1 := by unfold ixN; simp; omega
theorem ix2 {n : Nat} : ixN (n + 3) 2 = some 2 := by unfold ixN; simp; omega
theorem ix3 {n : Nat} : ixN (n + 4) 3 = some 3 := by unfold ixN; simp; omega
def locK (d : D) (k : Nat → Prop) : Prop := match d with
  | .loc n => k n
  | _ => False
/-! ## targets -/
def gK (g : DTg) (d : D) (r : DEnv) (st : Store) (P : DEnv → Store → Prop) : Prop := ∃ r1 st1, g d r st = .nx r1 st1 ∧ P r1 st1
def gsK (g : DTgs) (d : List D) (r : DEnv) (st : Store) (P : DEnv → Store → Prop) : Prop := ∃ r1 st1, g d r st = .nx r1 st1 ∧ P r1 st1
section
variable {r : DEnv} {st : Store} {f : DSt} {fa fo fi : DEx} {k : Kt} {d : D} {g : DTg} {P : DEnv → Store → Prop}
theorem gk_set {i : Nat} : gK (gSet i) d r st P ↔ P (r.set i (.val d)) st := ⟨fun ⟨_, _, e, h⟩ => by cases e; exact h, fun h => ⟨_, _, rfl, h⟩⟩
theorem gsk_nil : gsK gNilD [] r st P ↔ P r st := ⟨fun ⟨_, _, e, h⟩ => by cases e; exact h, fun h => ⟨_, _, rfl, h⟩⟩
theorem gsk_cons {h : DTgs} {ds : List D} : gsK (gConsD g h) (d :: ds) r st P ↔ gK g d r st fun r1 st1 => gsK h ds r1 st1 P := by
  constructor
  · rintro ⟨r1, st1, e, p⟩
    unfold gConsD at e
    dsimp only at e
    cases eg : g d r st with
    | nx r2 st2 => rw [eg] at e; exact ⟨r2, st2, eg, r1, st1, e, p⟩
    | _ => rw [eg] at e; cases e
  · rintro ⟨r2, st2, eg, r1, st1, e, p⟩
    refine ⟨r1, st1, ?_, p⟩
    unfold gConsD
    dsimp only
    rw [eg]
    exact e
theorem gk_tup {n : Nat} {h : DTgs} {ds : List D} : gK (gTupD n h) (.tup ds) r st P ↔ ds.length = n ∧ gsK h ds r st P := by
  constructor
  · rintro ⟨r1, st1, e, p⟩
    unfold gTupD at e
    dsimp only at e
    split at e
    · rename_i q; exact ⟨q, r1, st1, e, p⟩
    · cases e
  · rintro ⟨q, r1, st1, e, p⟩
    exact ⟨r1, st1, by unfold gTupD; dsimp only; rw [if_pos q]; exact e, p⟩
theorem gk_sub : gK (gSubD fo fi) d r st P ↔ Ev (fo r st) (fun o st1 => locK o fun n => Ev (fi r st1) (fun i st2 => intK i fun i => optK (cellL st2 n) fun ds => optK (ixN ds.length i) fun j => P r (st2.set n (.lst (ds.set j d)))) NoX) NoX := by
  unfold gK gSubD
  cases fo r st with
  | exc e st1 => simp [Ev]
  | stuck => simp [Ev]
  | ok o st1 =>
    cases o with
    | loc n =>
      simp only [ev_ok, locK]
      cases fi r st1 with
      | exc e st1 => simp [Ev]
      | stuck => simp [Ev]
      | ok i st2 =>
        cases i with
        | int i =>
          simp only [ev_ok, intK]
          unfold cellL
          cases e : st2[n]? with
          | none => simp [optK]
          | some c =>
            cases c with
            | ins c os => simp [optK]
            | lst ds =>
              simp only [optK_some]
              cases e2 : ixN ds.length i with
              | none => simp [optK]
              | some j => exact ⟨fun ⟨_, _, e, h⟩ => by cases e; exact h, fun h => ⟨_, _, rfl, h⟩⟩
        | _ => simp [Ev, intK]
    | _ => simp [Ev, locK]
theorem es_asg : Es (dAsg fa g r st) k ↔ Ev (fa r st) (fun d st1 => gK g d r st1 k.nx) k.ex := by
  unfold dAsg
  rw [es_bind]
  refine Ev.congr fun d st1 => ?_
  unfold gK
  cases g d r st1 with
  | nx r1 st2 =>
    constructor
    · intro h; exact ⟨r1, st2, rfl, h⟩
    · rintro ⟨_, _, e, h⟩; cases e; exact h
  | _ =>
    constructor
    · intro h; exact h.elim
    · rintro ⟨_, _, e, _⟩; cases e
theorem es_forc {ds : List D} : Es (forD g f (d :: ds) r st) k ↔ gK g d r st fun r1 st1 => Es (f r1 st1) { nx := fun r2 st2 => Es (forD g f ds r2 st2) k, ct := fun r2 st2 => Es (forD g f ds r2 st2) k, bk := k.nx, rt := k.rt, ex := k.ex } := es_for1
theorem es_aug {i : Nat} : Es (dAug i (fun x y st => match x, y with | .int a, .int b => .ok (.int (a + b)) st | _, _ => .stuck) fa r st) k ↔ slotK r[i]? fun x => Ev (fa r st) (fun y st1 => intK x fun a => intK y fun b => k.nx (r.set i (.val (.int (a + b)))) st1) k.ex := by
  unfold dAug slotK
  cases r[i]? with
  | none => exact Iff.rfl
  | some s =>
    cases s with
    | val x =>
      dsimp only
      rw [es_bind]
      refine Ev.congr fun y st1 => ?_
      cases x <;> cases y <;> exact Iff.rfl
    | _ => exact Iff.rfl
theorem ev_app {fe : DEx} {Ψ : D → Store → Prop} {Y : Exn → Store → Prop} : Ev (dApp fo fe r st) Ψ Y ↔ Ev (fo r st) (fun x st1 => locK x fun n => optK (cellL st1 n) fun _ => Ev (fe r st1) (fun y st2 => optK (cellL st2 n) fun ds => ds.length < sizeLine ∧ Ψ .non (st2.set n (.lst (ds ++ [y])))) Y) Y := by
  unfold dApp
  rw [ev_bind]
  refine Ev.congr fun x st1 => ?_
  cases x with
  | loc n =>
    simp only [locK]
    unfold cellL
    cases e : st1[n]? with
    | none => exact Iff.rfl
    | some c =>
      cases c with
      | ins c os => exact Iff.rfl
      | lst ds0 =>
        simp only [optK_some]
        rw [ev_bind]
        refine Ev.congr fun y st2 => ?_
        cases e2 : st2[n]? with
        | none => exact Iff.rfl
        | some c =>
          cases c with
          | ins c os => exact Iff.rfl
          | lst ds => exact ev_ifS
  | _ => exact Iff.rfl
def exnK (o : Option Slot) (k : Exn → Prop) : Prop := match o with
  | some (.exn e) => k e
  | _ => False
theorem ev_exn {e : Exn} {k : Exn → Prop} : exnK (some (.exn e)) k ↔ k e := Iff.rfl
theorem ev_xf {i c j : Nat} {Ψ : D → Store → Prop} {Y : Exn → Store → Prop} : Ev (dXf i c j r st) Ψ Y ↔ exnK r[i]? fun e => e.c = c ∧ optK e.fs[j]? fun d => Ψ d st := by
  unfold dXf exnK
  cases r[i]? with
  | none => exact Iff.rfl
  | some s =>
    cases s with
    | exn e =>
      dsimp only
      by_cases hc : e.c = c
      · rw [if_pos hc]
        cases e.fs[j]? <;> simp [hc, optK, Ev]
      · rw [if_neg hc]
        simp [hc, Ev]
    | _ => exact Iff.rfl
end
/-! ## what loops walk -/
section
variable {r : DEnv} {st : Store} {Φ : Itm → Store → Prop} {Y : Exn → Store → Prop} {ga : DAs} {fa : DEx}
theorem it_of {d : D} : Ev (itmOf d st) Φ Y ↔ (match d with
    | .lst ds => Φ ⟨ds, none⟩ st
    | .tup ds => Φ ⟨ds, none⟩ st
    | .scr ns => Φ ⟨ns.map D.int, none⟩ st
    | .loc n => optK (cellL st n) fun ds => Φ ⟨ds, some n⟩ st
    | _ => False) := by
  cases d with
  | loc n =>
    unfold itmOf cellL
    dsimp only
    cases st[n]? with
    | none => exact Iff.rfl
    | some c => cases c <;> exact Iff.rfl
  | _ => exact Iff.rfl
theorem it_seq : Ev (dIter fa r st) Φ Y ↔ Ev (fa r st) (fun d st1 => Ev (itmOf d st1) Φ Y) Y := by
  unfold dIter
  rw [ev_bind]
theorem it_r1 : Ev (dRng1 ga r st) Φ Y ↔ Ev (ga r st) (fun xs st1 => ∃ j, xs = [.int j] ∧ (-(2 ^ 62) ≤ j ∧ j < 2 ^ 62) ∧ Φ ⟨rngD 0 j.toNat, none⟩ st1) Y := by
  unfold dRng1
  rw [ev_bind]
  refine Ev.congr fun xs st1 => ?_
  constructor
  · intro h
    split at h
    · rename_i j
      exact ⟨j, rfl, ev_ifS.mp h⟩
    · exact h.elim
  · rintro ⟨j, rfl, h⟩
    exact ev_ifS.mpr h
theorem it_r2 : Ev (dRng2 ga r st) Φ Y ↔ Ev (ga r st) (fun xs st1 => ∃ i j, xs = [.int i, .int j] ∧ (-(2 ^ 62) ≤ i ∧ i < 2 ^ 62 ∧ -(2 ^ 62) ≤ j ∧ j < 2 ^ 62) ∧ Φ ⟨rngD i (j - i).toNat, none⟩ st1) Y := by
  unfold dRng2
  rw [ev_bind]
  refine Ev.congr fun xs st1 => ?_
  constructor
  · intro h
    split at h
    · rename_i i j
      exact ⟨i, j, rfl, ev_ifS.mp h⟩
    · exact h.elim
  · rintro ⟨i, j, rfl, h⟩
    exact ev_ifS.mpr h
theorem it_en : Ev (dEnum ga r st) Φ Y ↔ Ev (ga r st) (fun xs st1 => ∃ d ds, xs = [d] ∧ frzOf d = some ds ∧ Φ ⟨enumD 0 ds, none⟩ st1) Y := by
  unfold dEnum
  rw [ev_bind]
  refine Ev.congr fun xs st1 => ?_
  constructor
  · intro h
    split at h
    · rename_i d
      cases e : frzOf d with
      | none => rw [e] at h; exact h.elim
      | some ds => rw [e] at h; exact ⟨d, ds, rfl, e, h⟩
    · exact h.elim
  · rintro ⟨d, ds, rfl, e, h⟩
    dsimp only
    rw [e]
    exact h
end
/-! ## comprehensions: each item's value -/
theorem compD_map {g : DTg} {t : DTs} {f : DEx} {vs : List Nat} {r : DEnv} {st : Store} (h : D → D) : ∀ (ds acc : List D), acc.length + ds.length ≤ sizeLine → (∀ d ∈ ds, ∃ r1 st1, g d (wipeD r vs) st = .nx r1 st1 ∧ t r1 st1 = .ok true st1 ∧ f r1 st1 = .ok (h d) st) → (∀ d ∈ ds, ∀ r1 st1, g d (wipeD r vs) st = .nx r1 st1 → st1 = st) →
    compD g t f vs r ds acc st = .ok (acc ++ ds.map h) st
  | [], acc, _, _, _ => by simp [compD]
  | d :: ds, acc, hl, hs, hg => by
    obtain ⟨r1, st1, e1, e2, e3⟩ := hs d (List.mem_cons_self ..)
    have e4 := hg d (List.mem_cons_self ..) r1 st1 e1
    subst e4
    rw [compD_cons, e1]
    dsimp only
    rw [e2]
    dsimp only
    rw [e3]
    dsimp only
    rw [List.length_cons] at hl
    rw [if_pos (by omega), compD_map h ds (acc ++ [h d]) (by rw [List.length_append]; simp; omega) (fun x hx => hs x (List.mem_cons_of_mem _ hx)) fun x hx => hg x (List.mem_cons_of_mem _ hx)]
    simp
theorem ev_comp {fin : List D → Store → RE D} {fi : DIt} {g : DTg} {t : DTs} {f : DEx} {vs : List Nat} {r : DEnv} {st : Store} {Ψ : D → Store → Prop} {Y : Exn → Store → Prop} :
    Ev (dCompG fin fi g t f vs r st) Ψ Y ↔ Ev (fi r st) (fun a st1 => a.o = none ∧ Ev (compD g t f vs r a.ds [] st1) (fun xs st2 => Ev (fin xs st2) Ψ Y) NoX) Y := by
  unfold dCompG
  rw [ev_bind]
  refine Ev.congr fun a st1 => ?_
  obtain ⟨ds, o⟩ := a
  cases o with
  | some n => simp [Ev]
  | none =>
    simp only [true_and]
    cases compD g t f vs r ds [] st1 <;> exact Iff.rfl
/-! ## == of known things -/
section
variable {st : Store}
theorem eqD_of {x y : D} {a b : PyData} (h1 : pyD st x = some a) (h2 : pyD st y = some b) (s1 : SeqAt.shaped a = true) (s2 : SeqAt.shaped b = true) : eqD st x y = some (PyData.eqv a b) := by
  unfold eqD
  rw [h1, h2]
  dsimp only
  rw [if_pos ⟨s1, s2⟩]
theorem sh_int {i : Int} : SeqAt.shaped (.int i) = true := by simp [SeqAt.shaped, PyData.canLay0, PyData.depth]
theorem eqD_int {i j : Int} : eqD st (.int i) (.int j) = some (i == j) := by
  rw [eqD_of (a := .int i) (b := .int j) rfl rfl sh_int sh_int]
  rfl
mutual
theorem eqv_refl : ∀ {a : PyData}, a.canLay0 = true → PyData.eqv a a = true
  | .none, _ => rfl
  | .bool b, _ => by simp [PyData.eqv]
  | .int i, _ => by simp [PyData.eqv]
  | .str x, _ => by simp [PyData.eqv]
  | .list xs, h => eqvAll_refl (by simpa [PyData.canLay0] using h)
  | .tuple xs, h => eqvAll_refl (by simpa [PyData.canLay0] using h)
  | .dict _, h => by simp [PyData.canLay0] at h
theorem eqvAll_refl : ∀ {a : List PyData}, PyData.canLayAll0 a = true → PyData.eqvAll a a = true
  | [], _ => rfl
  | x :: xs, h => by
    have h2 : (x.canLay0 && PyData.canLayAll0 xs) = true := by simpa [PyData.canLayAll0] using h
    obtain ⟨h3, h4⟩ := He.ba h2
    show (PyData.eqv x x && PyData.eqvAll xs xs) = true
    rw [eqv_refl h3, eqvAll_refl h4]
    rfl
end
theorem eqD_refl {x y : D} {a : PyData} (h1 : pyD st x = some a) (h2 : pyD st y = some a) (s1 : SeqAt.shaped a = true) : eqD st x y = some true := by
  rw [eqD_of h1 h2 s1 s1, eqv_refl (SeqAt.canLay_of_shaped s1)]
end

/-! ## try -/
section
variable {r r1 : DEnv} {st st1 : Store} {fb fs : DSt} {k : Kt} {i : Nat} {cs : List Nat} {hit : Nat → Bool} {e : Exn}
theorem es_try_nx (h : fb r st = .nx r1 st1) : Es (dTry i cs hit fb fs r st) k ↔ k.nx r1 st1 := by
  unfold dTry
  rw [h]
  exact Iff.rfl
theorem es_try_ex (h : fb r st = .ex e r1 st1) (hc : e.c ∈ cs) (ht : hit e.c = true) : Es (dTry i cs hit fb fs r st) k ↔ Es (fs (r1.set i (.exn e)) st1) { nx := fun r st => envPlain (r.set i .no) = true ∧ k.nx (r.set i .no) st, rt := k.rt, bk := fun r st => envPlain (r.set i .no) = true ∧ k.bk (r.set i .no) st, ct := fun r st => envPlain (r.set i .no) = true ∧ k.ct (r.set i .no) st } := by
  unfold dTry
  rw [h]
  dsimp only
  rw [if_pos hc, if_pos ht]
  cases fs (r1.set i (.exn e)) st1 with
  | nx r2 st2 => unfold outT; dsimp only; by_cases q : envPlain (r2.set i .no) = true <;> simp [q, Es]
  | bk r2 st2 => unfold outT; dsimp only; by_cases q : envPlain (r2.set i .no) = true <;> simp [q, Es]
  | ct r2 st2 => unfold outT; dsimp only; by_cases q : envPlain (r2.set i .no) = true <;> simp [q, Es]
  | _ => exact Iff.rfl
theorem dSet_ex {fa : DEx} (h : fa r st = .exc e st1) : dSet i fa r st = .ex e r st1 := by unfold dSet sBind; rw [h]
theorem dSet_nx {fa : DEx} {d : D} (h : fa r st = .ok d st1) : dSet i fa r st = .nx (r.set i (.val d)) st1 := by unfold dSet sBind; rw [h]
/-- a loop by what stands at each turn -/
theorem es_for_inv {g : DTg} {f : DSt} (I : DEnv → Store → Prop) : ∀ {ds : List D} {r : DEnv} {st : Store}, I r st → (∀ d ∈ ds, ∀ r st, I r st → gK g d r st fun r1 st1 => Es (f r1 st1) { nx := I, ct := I, bk := k.nx, rt := k.rt, ex := k.ex }) → (∀ r st, I r st → k.nx r st) → Es (forD g f ds r st) k
  | [], r, st, h0, _, hE => hE r st h0
  | d :: ds, r, st, h0, hs, hE => by
    rw [es_forc]
    obtain ⟨r1, st1, e, h⟩ := hs d (List.mem_cons_self ..) r st h0
    refine ⟨r1, st1, e, ?_⟩
    have next : ∀ r2 st2, I r2 st2 → Es (forD g f ds r2 st2) k := fun r2 st2 h2 => es_for_inv I h2 (fun d hd => hs d (List.mem_cons_of_mem _ hd)) hE
    show Es (f r1 st1) _
    cases hf : f r1 st1 with
    | nx r2 st2 => rw [hf] at h; exact next r2 st2 h
    | ct r2 st2 => rw [hf] at h; exact next r2 st2 h
    | bk r2 st2 => rw [hf] at h; exact h
    | rt d2 st2 => rw [hf] at h; exact h
    | ex e2 r2 st2 => rw [hf] at h; exact h
    | stuck => rw [hf] at h; exact h
/-- .. the turns counted -/
theorem es_for_ix {g : DTg} {f : DSt} (I : Nat → DEnv → Store → Prop) : ∀ {ds : List D} {o : Nat} {r : DEnv} {st : Store}, I o r st → (∀ i d, ds[i]? = some d → ∀ r st, I (o + i) r st → gK g d r st fun r1 st1 => Es (f r1 st1) { nx := I (o + i + 1), ct := I (o + i + 1), bk := k.nx, rt := k.rt, ex := k.ex }) → (∀ r st, I (o + ds.length) r st → k.nx r st) → Es (forD g f ds r st) k
  | [], o, r, st, h0, _, hE => hE r st h0
  | d :: ds, o, r, st, h0, hs, hE => by
    rw [es_forc]
    obtain ⟨r1, st1, e, h⟩ := hs 0 d rfl r st h0
    refine ⟨r1, st1, e, ?_⟩
    have next : ∀ r2 st2, I (o + 1) r2 st2 → Es (forD g f ds r2 st2) k := fun r2 st2 h2 => es_for_ix I h2 (fun i d hd r st hi => by
      have z := hs (i + 1) d (by simpa using hd) r st (by rw [show o + (i + 1) = o + 1 + i by omega]; exact hi)
      rw [show o + (i + 1) + 1 = o + 1 + i + 1 by omega] at z
      exact z) fun r st h => hE r st (by rw [List.length_cons, show o + (ds.length + 1) = o + 1 + ds.length by omega]; exact h)
    show Es (f r1 st1) _
    cases hf : f r1 st1 with
    | nx r2 st2 => rw [hf] at h; exact next r2 st2 h
    | ct r2 st2 => rw [hf] at h; exact next r2 st2 h
    | bk r2 st2 => rw [hf] at h; exact h
    | rt d2 st2 => rw [hf] at h; exact h
    | ex e2 r2 st2 => rw [hf] at h; exact h
    | stuck => rw [hf] at h; exact h
/-- .. over a cell's list that stands through the loop -/
theorem es_forG_ix {g : DTg} {f : DSt} {n : Nat} {all : List D} (I : Nat → DEnv → Store → Prop) (hG : ∀ i r st, I i r st → cellL st n = some all) : ∀ {ds : List D} {o : Nat} {r : DEnv} {st : Store}, I o r st → (∀ i d, ds[i]? = some d → ∀ r st, I (o + i) r st → gK g d r st fun r1 st1 => Es (f r1 st1) { nx := I (o + i + 1), ct := I (o + i + 1), bk := k.nx, rt := k.rt, ex := k.ex }) → (∀ r st, I (o + ds.length) r st → k.nx r st) → Es (forG (some n) all g f ds r st) k
  | [], o, r, st, h0, _, hE => by
    have gd : gdOk (some n) all st := by
      have z := hG _ _ _ h0
      unfold cellL at z
      show st[n]? = _
      cases e : st[n]? with
      | none => rw [e] at z; cases z
      | some c => rw [e] at z; cases c with
        | ins c os => cases z
        | lst ds => cases z; rfl
    unfold forG
    rw [if_pos gd]
    exact hE r st h0
  | d :: ds, o, r, st, h0, hs, hE => by
    have gd : gdOk (some n) all st := by
      have z := hG _ _ _ h0
      unfold cellL at z
      show st[n]? = _
      cases e : st[n]? with
      | none => rw [e] at z; cases z
      | some c => rw [e] at z; cases c with
        | ins c os => cases z
        | lst ds => cases z; rfl
    unfold forG
    rw [if_pos gd]
    obtain ⟨r1, st1, e, h⟩ := hs 0 d rfl r st h0
    rw [e]
    dsimp only
    have next : ∀ r2 st2, I (o + 1) r2 st2 → Es (forG (some n) all g f ds r2 st2) k := fun r2 st2 h2 => es_forG_ix I hG h2 (fun i d hd r st hi => by
      have z := hs (i + 1) d (by simpa using hd) r st (by rw [show o + (i + 1) = o + 1 + i by omega]; exact hi)
      rw [show o + (i + 1) + 1 = o + 1 + i + 1 by omega] at z
      exact z) fun r st h => hE r st (by rw [List.length_cons, show o + (ds.length + 1) = o + 1 + ds.length by omega]; exact h)
    cases hf : f r1 st1 with
    | nx r2 st2 => rw [hf] at h; exact next r2 st2 h
    | ct r2 st2 => rw [hf] at h; exact next r2 st2 h
    | bk r2 st2 => rw [hf] at h; exact h
    | rt d2 st2 => rw [hf] at h; exact h
    | ex e2 r2 st2 => rw [hf] at h; exact h
    | stuck => rw [hf] at h; exact h
end
/-- a loop over a list, a tuple, a cell's list: the turns counted -/
theorem es_for_seq {x : D} {g : DTg} {f : DSt} {r : DEnv} {st : Store} {k : Kt} {all : List D} (hx : seqOf st x = some all) (I : Nat → DEnv → Store → Prop) (h0 : I 0 r st) (hG : ∀ n i r st, x = .loc n → I i r st → cellL st n = some all)
    (hs : ∀ i d, all[i]? = some d → ∀ r st, I i r st → gK g d r st fun r1 st1 => Es (f r1 st1) { nx := I (i + 1), ct := I (i + 1), bk := k.nx, rt := k.rt, ex := k.ex }) (hE : ∀ r st, I all.length r st → k.nx r st) {fa : DEx} (hf : fa r st = .ok x st) : Es (dFor (dIter fa) g f r st) k := by
  rw [es_for, it_seq]
  refine Ev.of hf ?_
  rw [it_of]
  have hs' : ∀ i d, all[i]? = some d → ∀ r st, I (0 + i) r st → gK g d r st fun r1 st1 => Es (f r1 st1) { nx := I (0 + i + 1), ct := I (0 + i + 1), bk := k.nx, rt := k.rt, ex := k.ex } := fun i d e r st h => by
    rw [Nat.zero_add] at h ⊢
    exact hs i d e r st h
  have hE' : ∀ r st, I (0 + all.length) r st → k.nx r st := fun r st h => hE r st (by rw [Nat.zero_add] at h; exact h)
  cases x with
  | lst ds => cases hx; exact es_for_ix I h0 hs' hE'
  | tup ds => cases hx; exact es_for_ix I h0 hs' hE'
  | scr ns =>
    have e := Option.some.inj hx
    show Es (forD g f (ns.map D.int) r st) k
    rw [e]
    exact es_for_ix I h0 hs' hE'
  | loc n =>
    have hc : cellL st n = some all := hx
    simp only [hc, optK_some]
    exact es_forG_ix I (fun i r st h => hG n i r st rfl h) h0 hs' hE'
  | _ => cases hx
end Dl
namespace Dl
open PySem PySem.Spec PyProof.Rows L2
theorem Es.mono {x : RS} {k k' : Kt} (h : Es x k) (h1 : ∀ r st, k.nx r st → k'.nx r st) (h2 : ∀ d st, k.rt d st → k'.rt d st := by intro _ _ z; exact z.elim) (h3 : ∀ e st, k.ex e st → k'.ex e st := by intro _ _ z; exact z.elim) (h4 : ∀ r st, k.bk r st → k'.bk r st := by intro _ _ z; exact z.elim) (h5 : ∀ r st, k.ct r st → k'.ct r st := by intro _ _ z; exact z.elim) : Es x k' := by
  cases x with
  | nx r st => exact h1 _ _ h
  | rt d st => exact h2 _ _ h
  | bk r st => exact h4 _ _ h
  | ct r st => exact h5 _ _ h
  | ex e r st => exact h3 _ _ h
  | stuck => exact h
/-- one statement, then the rest -/
theorem es_step {f g : DSt} {r : DEnv} {st : Store} {k : Kt} {Q : DEnv → Store → Prop} (h : Es (f r st) { nx := Q }) (h2 : ∀ r1 st1, Q r1 st1 → Es (g r1 st1) k) : Es (dSeq f g r st) k := es_seq.mpr (h.mono h2)
/-- a comprehension whose items change the store -/
theorem compD_inv {g : DTg} {t : DTs} {f : DEx} {vs : List Nat} {r : DEnv} (S : Store → Prop) (Q : D → Prop) (hs : ∀ d st, S st → ∃ r1 x st', g d (wipeD r vs) st = .nx r1 st ∧ t r1 st = .ok true st ∧ f r1 st = .ok x st' ∧ Q x ∧ S st') :
    ∀ (ds acc : List D) (st : Store), S st → acc.length + ds.length ≤ sizeLine → ∃ xs st', compD g t f vs r ds acc st = .ok (acc ++ xs) st' ∧ xs.length = ds.length ∧ (∀ x ∈ xs, Q x) ∧ S st'
  | [], acc, st, h, _ => ⟨[], st, by simp [compD], rfl, fun _ z => (by simp at z), h⟩
  | d :: ds, acc, st, h, hl => by
    obtain ⟨r1, x, st', e1, e2, e3, q, s⟩ := hs d st h
    rw [List.length_cons] at hl
    obtain ⟨xs, st2, e4, l, a, b⟩ := compD_inv S Q hs ds (acc ++ [x]) st' s (by rw [List.length_append]; simp; omega)
    refine ⟨x :: xs, st2, ?_, by rw [List.length_cons, List.length_cons, l], fun y hy => ?_, b⟩
    · rw [compD_cons, e1]
      dsimp only
      rw [e2]
      dsimp only
      rw [e3]
      dsimp only
      rw [if_pos (by omega), e4]
      simp
    · rcases List.mem_cons.mp hy with rfl | hy
      · exact q
      · exact a y hy
end Dl
namespace Dl
open PySem PySem.Spec PyProof.Rows L2
theorem ev_isE {i c : Nat} {b : Bool} {r : DEnv} {st : Store} {Ψ : D → Store → Prop} {Y : Exn → Store → Prop} : Ev (dIsE i c b r st) Ψ Y ↔ exnK r[i]? fun e => e.c = c ∧ e.fs.isEmpty = true ∧ Ψ (.bl b) st := by
  unfold dIsE exnK
  cases r[i]? with
  | none => exact Iff.rfl
  | some s =>
    cases s with
    | exn e =>
      dsimp only
      by_cases hc : e.c = c
      · rw [if_pos hc, ev_ifS]
        simp [hc, Ev]
      · rw [if_neg hc]
        simp [hc, Ev]
    | _ => exact Iff.rfl
end Dl
namespace L_k02
open PySem PySem.Spec PyProof.Rows L2 Dl
abbrev Pg : Program := PySem.Challenge.pw_firmstops_k02_whole_couples_reckoned
def top (i : Nat) : Stmt := Pg.main.body.getD i (.Pass ⟨0, 0, 0, 0⟩)
def xnames : List Str := ["StopError", "BadRatio", "BadPlace"]
def xfl : List (List Str) := [[], ["what"], []]
abbrev xcs : List Nat := [0, 1, 2]
abbrev gx (K : PySem.W.Frag) : Gx := gxOf K xnames xfl
abbrev CS : List Nat := []
abbrev SUB : Nat → Nat → Bool := fun _ _ => false
abbrev dAugI (i : Nat) (f : DEx) : DSt := dAug i (fun x y st => match x, y with | .int a, .int b => .ok (.int (a + b)) st | _, _ => .stuck) f
def hit_BadPlace : Nat → Bool := fun c => [false, false, true].getD c false
def k_ZERO : D := .tup [.int 0, .int 1]
structure Gls (K : PySem.W.Frag) (mg : Str → Option Value) : Prop where
  f_len : mg "len" = none
  f_abs : mg "abs" = none
  f_isinstance : mg "isinstance" = none
  f_int : mg "int" = none
  f_bool : mg "bool" = none
  f_tuple : mg "tuple" = none
  f_list : mg "list" = none
  f_range : mg "range" = none
  f_enumerate : mg "enumerate" = none
  f_super : mg "super" = none
  gcd : mg "gcd" = some (.builtin "math.gcd")
  k_ZERO : ConstAt (gx K) mg "ZERO" k_ZERO
  x_BadPlace : SupC (gx K) Pg mg "BadPlace" 2
  x_BadRatio : SupC (gx K) Pg mg "BadRatio" 1
  xf_BadRatio_what : XfK (gx K) 1 0 "what"
  ise_BadPlace_StopError : IsEK (gx K) 2 (.ref ((gx K).ca 0)) true
  g_StopError : mg "StopError" = some (.ref ((gx K).ca 0))
  hit_BadPlace : CatchOk (gx K) (.ref ((gx K).ca 2)) xcs hit_BadPlace
/-! ### is_whole -/
abbrev sN_is_whole : List Str := ["thing", "low", "high"]
abbrev q_is_whole : Str := "is_whole"
theorem sc_is_whole : FnScope sN_is_whole ["thing", "low", "high"] (defScope (top 7)) := ⟨rfl, rfl, rfl, by decide +kernel, rfl, by decide +kernel, by decide +kernel⟩
noncomputable def B_is_whole : DSt := (dSeq (dIf (dOr (dNot (dTr (dCallB (dIsi CS SUB) (dCons (dVar 0) (dCons (dC (.typ "int")) dNil))))) (dTr (dCallB (dIsi CS SUB) (dCons (dVar 0) (dCons (dC (.typ "bool")) dNil))))) (dRet (dC (.bl false))) dNext) (dSeq (dIf (dAnd (dTB (dBin (dIs true) (dVar 1) (dC .non))) (dTB (dBin dLt (dVar 0) (dVar 1)))) (dRet (dC (.bl false))) dNext) (dRet (dOrV (dBin (dIs false) (dVar 2) (dC .non)) (dBin dLe (dVar 0) (dVar 2))))))
noncomputable def F_is_whole : DFun := runD 3 B_is_whole
/-! ### lowered -/
abbrev sN_lowered : List Str := ["top", "bottom", "share"]
abbrev q_lowered : Str := "lowered"
theorem sc_lowered : FnScope sN_lowered ["top", "bottom"] (defScope (top 9)) := ⟨rfl, rfl, rfl, by decide +kernel, rfl, by decide +kernel, by decide +kernel⟩
noncomputable def B_lowered : DSt := (dSeq (dSet 2 (dCallB dGcd (dCons (dVar 0) (dCons (dVar 1) dNil)))) (dSeq (dIf (dTB (dBin dLt (dVar 1) (dC (.int 0)))) (dSet 2 (dUn dNeg (dVar 2))) dNext) (dRet (dTup (dCons (dBin dDiv (dVar 0) (dVar 2)) (dCons (dBin dDiv (dVar 1) (dVar 2)) dNil))))))
noncomputable def F_lowered : DFun := runD 3 B_lowered
/-! ### negative -/
abbrev sN_negative : List Str := ["one"]
abbrev q_negative : Str := "negative"
theorem sc_negative : FnScope sN_negative ["one"] (defScope (top 14)) := ⟨rfl, rfl, rfl, by decide +kernel, rfl, by decide +kernel, by decide +kernel⟩
noncomputable def B_negative : DSt := (dRet (dTup (dCons (dUn dNeg (dBin dIx (dVar 0) (dC (.int 0)))) (dCons (dBin dIx (dVar 0) (dC (.int 1))) dNil))))
noncomputable def F_negative : DFun := runD 1 B_negative
/-! ### compare -/
abbrev sN_compare : List Str := ["one", "other", "gap"]
abbrev q_compare : Str := "compare"
theorem sc_compare : FnScope sN_compare ["one", "other"] (defScope (top 15)) := ⟨rfl, rfl, rfl, by decide +kernel, rfl, by decide +kernel, by decide +kernel⟩
noncomputable def B_compare : DSt := (dSeq (dSet 2 (dBin dSub (dBin dMul (dBin dIx (dVar 0) (dC (.int 0))) (dBin dIx (dVar 1) (dC (.int 1)))) (dBin dMul (dBin dIx (dVar 1) (dC (.int 0))) (dBin dIx (dVar 0) (dC (.int 1)))))) (dSeq (dIf (dTB (dBin dEq (dVar 2) (dC (.int 0)))) (dRet (dC (.int 0))) dNext) (dRet (dIfE (dTB (dBin dGt (dVar 2) (dC (.int 0)))) (dC (.int 1)) (dUn dNeg (dC (.int 1)))))))
noncomputable def F_compare : DFun := runD 3 B_compare
/-! ### _law_mix -/
abbrev sN__law_mix : List Str := ["number", "turn", "once", "twice"]
abbrev q__law_mix : Str := "_law_mix"
theorem sc__law_mix : FnScope sN__law_mix ["number", "turn"] (defScope (top 28)) := ⟨rfl, rfl, rfl, by decide +kernel, rfl, by decide +kernel, by decide +kernel⟩
noncomputable def B__law_mix : DSt := (dSeq (dSet 2 (dBin dMod (dCallB (dInt) (dCons (dBin dAdd (dBin dAdd (dBin dMul (dVar 0) (dC (.int 48271))) (dBin dMul (dVar 1) (dC (.int 16807)))) (dC (.int 11))) dNil)) (dC (.int 2147483647)))) (dSeq (dSet 3 (dBin dMod (dCallB (dInt) (dCons (dBin dAdd (dBin dAdd (dBin dMul (dVar 2) (dVar 2)) (dBin dMul (dBin dDiv (dVar 2) (dC (.int 127))) (dC (.int 40692)))) (dBin dMul (dVar 1) (dC (.int 69621)))) dNil)) (dC (.int 2147483399)))) (dRet (dBin dDiv (dBin dMod (dCallB (dInt) (dCons (dBin dAdd (dBin dDiv (dBin dMul (dVar 3) (dVar 3)) (dC (.int 1009))) (dVar 2)) dNil)) (dC (.int 2147483563))) (dC (.int 16))))))
noncomputable def F__law_mix : DFun := runD 4 B__law_mix
/-! ### _law_hand -/
abbrev sN__law_hand : List Str := ["script", "total", "k", "cell"]
abbrev q__law_hand : Str := "_law_hand"
theorem sc__law_hand : FnScope sN__law_hand ["script"] (defScope (top 29)) := ⟨rfl, rfl, rfl, by decide +kernel, rfl, by decide +kernel, by decide +kernel⟩
noncomputable def B__law_hand : DSt := (dSeq (dSet 1 (dC (.int 0))) (dSeq (dFor (dEnum (dCons (dVar 0) dNil)) (gTupD 2 (gConsD (gSet 2) (gConsD (gSet 3) gNilD))) (dSet 1 (dBin dMod (dCallB (dInt) (dCons (dBin dAdd (dBin dMul (dVar 1) (dC (.int 31))) (dBin dMul (dCallB (dInt) (dCons (dVar 3) dNil)) (dBin dAdd (dVar 2) (dC (.int 7))))) dNil)) (dC (.int 2147483629))))) (dRet (dNew (dCons (dComp (dIter (dVar 0)) (gSet 3) dYes (dCallB (dAbs) (dCons (dCallB (dInt) (dCons (dVar 3) dNil)) dNil)) (([("cell", 3)] : List (Str × Nat)).map (·.2))) (dCons (dC (.int 0)) (dCons (dC (.int 0)) (dCons (dVar 1) dNil))))))))
noncomputable def F__law_hand : DFun := runD 4 B__law_hand
/-! ### _law_gcd -/
abbrev sN__law_gcd : List Str := ["one", "other", "rest"]
abbrev q__law_gcd : Str := "_law_gcd"
theorem sc__law_gcd : FnScope sN__law_gcd ["one", "other"] (defScope (top 31)) := ⟨rfl, rfl, rfl, by decide +kernel, rfl, by decide +kernel, by decide +kernel⟩
noncomputable def B__law_gcd : DSt := (dSeq (dSet 0 (dCallB (dAbs) (dCons (dVar 0) dNil))) (dSeq (dSet 1 (dCallB (dAbs) (dCons (dVar 1) dNil))) (dSeq (dWhile 1000000 (dTB (dBin dGt (dVar 1) (dC (.int 0)))) (dSeq (dSet 2 (dBin dMod (dCallB (dInt) (dCons (dVar 0) dNil)) (dVar 1))) (dSeq (dSet 0 (dVar 1)) (dSet 1 (dVar 2))))) (dRet (dVar 0)))))
noncomputable def F__law_gcd : DFun := runD 3 B__law_gcd
/-! ### _law_compare -/
abbrev sN__law_compare : List Str := ["one", "other", "left", "right"]
abbrev q__law_compare : Str := "_law_compare"
theorem sc__law_compare : FnScope sN__law_compare ["one", "other"] (defScope (top 36)) := ⟨rfl, rfl, rfl, by decide +kernel, rfl, by decide +kernel, by decide +kernel⟩
noncomputable def B__law_compare : DSt := (dSeq (dSet 2 (dBin dMul (dBin dIx (dVar 0) (dC (.int 0))) (dBin dIx (dVar 1) (dC (.int 1))))) (dSeq (dSet 3 (dBin dMul (dBin dIx (dVar 1) (dC (.int 0))) (dBin dIx (dVar 0) (dC (.int 1))))) (dRet (dIfE (dTB (dBin dLt (dVar 2) (dVar 3))) (dUn dNeg (dC (.int 1))) (dIfE (dTB (dBin dGt (dVar 2) (dVar 3))) (dC (.int 1)) (dC (.int 0)))))))
noncomputable def F__law_compare : DFun := runD 4 B__law_compare
/-! ### _law_is -/
abbrev sN__law_is : List Str := ["told", "due"]
abbrev q__law_is : Str := "_law_is"
theorem sc__law_is : FnScope sN__law_is ["told", "due"] (defScope (top 44)) := ⟨rfl, rfl, rfl, by decide +kernel, rfl, by decide +kernel, by decide +kernel⟩
noncomputable def B__law_is : DSt := (dSeq (dIf (dOr (dNot (dTr (dCallB (dIsi CS SUB) (dCons (dVar 0) (dCons (dC (.typ "tuple")) dNil))))) (dOr (dTB (dBin dNe (dCallB (dLen) (dCons (dVar 0) dNil)) (dC (.int 2)))) (dOr (dNot (dTr (dCallB (dIsi CS SUB) (dCons (dBin dIx (dVar 0) (dC (.int 0))) (dCons (dC (.typ "int")) dNil))))) (dNot (dTr (dCallB (dIsi CS SUB) (dCons (dBin dIx (dVar 0) (dC (.int 1))) (dCons (dC (.typ "int")) dNil)))))))) (dRet (dC (.bl false))) dNext) (dRet (dAndV (dBin dEq (dVar 0) (dVar 1)) (dAndV (dNotV (dCallB (dIsi CS SUB) (dCons (dBin dIx (dVar 0) (dC (.int 0))) (dCons (dC (.typ "bool")) dNil)))) (dNotV (dCallB (dIsi CS SUB) (dCons (dBin dIx (dVar 0) (dC (.int 1))) (dCons (dC (.typ "bool")) dNil))))))))
noncomputable def F__law_is : DFun := runD 2 B__law_is
/-! ### is_ratio -/
abbrev sN_is_ratio : List Str := ["thing"]
abbrev q_is_ratio : Str := "is_ratio"
theorem sc_is_ratio : FnScope sN_is_ratio ["thing"] (defScope (top 8)) := ⟨rfl, rfl, rfl, by decide +kernel, rfl, by decide +kernel, by decide +kernel⟩
noncomputable def B_is_ratio : DSt := (dSeq (dIf (dOr (dNot (dTr (dCallB (dIsi CS SUB) (dCons (dVar 0) (dCons (dC (.typ "tuple")) dNil))))) (dTB (dBin dNe (dCallB (dLen) (dCons (dVar 0) dNil)) (dC (.int 2))))) (dRet (dC (.bl false))) dNext) (dSeq (dIf (dOr (dNot (dTr (dCall F_is_whole [.non, .non] (dCons (dBin dIx (dVar 0) (dC (.int 0))) dNil)))) (dNot (dTr (dCall F_is_whole [.non] (dCons (dBin dIx (dVar 0) (dC (.int 1))) (dCons (dC (.int 1)) dNil)))))) (dRet (dC (.bl false))) dNext) (dRet (dBin dEq (dCallB dGcd (dCons (dBin dIx (dVar 0) (dC (.int 0))) (dCons (dBin dIx (dVar 0) (dC (.int 1))) dNil))) (dC (.int 1))))))
noncomputable def F_is_ratio : DFun := runD 1 B_is_ratio
/-! ### make_ratio -/
abbrev sN_make_ratio : List Str := ["top", "bottom"]
abbrev q_make_ratio : Str := "make_ratio"
theorem sc_make_ratio : FnScope sN_make_ratio ["top", "bottom"] (defScope (top 10)) := ⟨rfl, rfl, rfl, by decide +kernel, rfl, by decide +kernel, by decide +kernel⟩
noncomputable def B_make_ratio : DSt := (dSeq (dIf (dNot (dTr (dCall F_is_whole [.non, .non] (dCons (dVar 0) dNil)))) (dRaise (dMk 1 1 (dCons (dC (.str "top")) dNil))) dNext) (dSeq (dIf (dOr (dNot (dTr (dCall F_is_whole [.non, .non] (dCons (dVar 1) dNil)))) (dTB (dBin dEq (dVar 1) (dC (.int 0))))) (dRaise (dMk 1 1 (dCons (dC (.str "bottom")) dNil))) dNext) (dRet (dCall F_lowered [] (dCons (dVar 0) (dCons (dVar 1) dNil))))))
noncomputable def F_make_ratio : DFun := runD 2 B_make_ratio
/-! ### plus -/
abbrev sN_plus : List Str := ["one", "other"]
abbrev q_plus : Str := "plus"
theorem sc_plus : FnScope sN_plus ["one", "other"] (defScope (top 11)) := ⟨rfl, rfl, rfl, by decide +kernel, rfl, by decide +kernel, by decide +kernel⟩
noncomputable def B_plus : DSt := (dSeq (dIf (dAnd (dTB (dBin dEq (dBin dIx (dVar 0) (dC (.int 1))) (dC (.int 1)))) (dTB (dBin dEq (dBin dIx (dVar 1) (dC (.int 1))) (dC (.int 1))))) (dRet (dTup (dCons (dBin dAdd (dBin dIx (dVar 0) (dC (.int 0))) (dBin dIx (dVar 1) (dC (.int 0)))) (dCons (dC (.int 1)) dNil)))) dNext) (dRet (dCall F_lowered [] (dCons (dBin dAdd (dBin dMul (dBin dIx (dVar 0) (dC (.int 0))) (dBin dIx (dVar 1) (dC (.int 1)))) (dBin dMul (dBin dIx (dVar 1) (dC (.int 0))) (dBin dIx (dVar 0) (dC (.int 1))))) (dCons (dBin dMul (dBin dIx (dVar 0) (dC (.int 1))) (dBin dIx (dVar 1) (dC (.int 1)))) dNil)))))
noncomputable def F_plus : DFun := runD 2 B_plus
/-! ### minus -/
abbrev sN_minus : List Str := ["one", "other"]
abbrev q_minus : Str := "minus"
theorem sc_minus : FnScope sN_minus ["one", "other"] (defScope (top 12)) := ⟨rfl, rfl, rfl, by decide +kernel, rfl, by decide +kernel, by decide +kernel⟩
noncomputable def B_minus : DSt := (dSeq (dIf (dAnd (dTB (dBin dEq (dBin dIx (dVar 0) (dC (.int 1))) (dC (.int 1)))) (dTB (dBin dEq (dBin dIx (dVar 1) (dC (.int 1))) (dC (.int 1))))) (dRet (dTup (dCons (dBin dSub (dBin dIx (dVar 0) (dC (.int 0))) (dBin dIx (dVar 1) (dC (.int 0)))) (dCons (dC (.int 1)) dNil)))) dNext) (dRet (dCall F_lowered [] (dCons (dBin dSub (dBin dMul (dBin dIx (dVar 0) (dC (.int 0))) (dBin dIx (dVar 1) (dC (.int 1)))) (dBin dMul (dBin dIx (dVar 1) (dC (.int 0))) (dBin dIx (dVar 0) (dC (.int 1))))) (dCons (dBin dMul (dBin dIx (dVar 0) (dC (.int 1))) (dBin dIx (dVar 1) (dC (.int 1)))) dNil)))))
noncomputable def F_minus : DFun := runD 2 B_minus
/-! ### times -/
abbrev sN_times : List Str := ["one", "other"]
abbrev q_times : Str := "times"
theorem sc_times : FnScope sN_times ["one", "other"] (defScope (top 13)) := ⟨rfl, rfl, rfl, by decide +kernel, rfl, by decide +kernel, by decide +kernel⟩
noncomputable def B_times : DSt := (dSeq (dIf (dAnd (dTB (dBin dEq (dBin dIx (dVar 0) (dC (.int 1))) (dC (.int 1)))) (dTB (dBin dEq (dBin dIx (dVar 1) (dC (.int 1))) (dC (.int 1))))) (dRet (dTup (dCons (dBin dMul (dBin dIx (dVar 0) (dC (.int 0))) (dBin dIx (dVar 1) (dC (.int 0)))) (dCons (dC (.int 1)) dNil)))) dNext) (dRet (dCall F_lowered [] (dCons (dBin dMul (dBin dIx (dVar 0) (dC (.int 0))) (dBin dIx (dVar 1) (dC (.int 0)))) (dCons (dBin dMul (dBin dIx (dVar 0) (dC (.int 1))) (dBin dIx (dVar 1) (dC (.int 1)))) dNil)))))
noncomputable def F_times : DFun := runD 2 B_times
/-! ### quarter_left -/
abbrev sN_quarter_left : List Str := ["one"]
abbrev q_quarter_left : Str := "quarter_left"
theorem sc_quarter_left : FnScope sN_quarter_left ["one"] (defScope (top 24)) := ⟨rfl, rfl, rfl, by decide +kernel, rfl, by decide +kernel, by decide +kernel⟩
noncomputable def B_quarter_left : DSt := (dRet (dTup (dCons (dCall F_negative [] (dCons (dBin dIx (dVar 0) (dC (.int 1))) dNil)) (dCons (dBin dIx (dVar 0) (dC (.int 0))) dNil))))
noncomputable def F_quarter_left : DFun := runD 1 B_quarter_left
/-! ### compare_places -/
abbrev sN_compare_places : List Str := ["one", "other", "first"]
abbrev q_compare_places : Str := "compare_places"
theorem sc_compare_places : FnScope sN_compare_places ["one", "other"] (defScope (top 26)) := ⟨rfl, rfl, rfl, by decide +kernel, rfl, by decide +kernel, by decide +kernel⟩
noncomputable def B_compare_places : DSt := (dSeq (dSet 2 (dCall F_compare [] (dCons (dBin dIx (dVar 0) (dC (.int 0))) (dCons (dBin dIx (dVar 1) (dC (.int 0))) dNil)))) (dRet (dIfE (dTB (dBin dNe (dVar 2) (dC (.int 0)))) (dVar 2) (dCall F_compare [] (dCons (dBin dIx (dVar 0) (dC (.int 1))) (dCons (dBin dIx (dVar 1) (dC (.int 1))) dNil))))))
noncomputable def F_compare_places : DFun := runD 3 B_compare_places
/-! ### _law_draw -/
abbrev sN__law_draw : List Str := ["hand", "many", "cell", "rest"]
abbrev q__law_draw : Str := "_law_draw"
theorem sc__law_draw : FnScope sN__law_draw ["hand", "many"] (defScope (top 30)) := ⟨rfl, rfl, rfl, by decide +kernel, rfl, by decide +kernel, by decide +kernel⟩
noncomputable def B__law_draw : DSt := (dSeq (dIf (dAnd (dTB (dBin dEq (dBin dIx (dVar 0) (dC (.int 2))) (dC (.int 0)))) (dTB (dBin dLt (dBin dIx (dVar 0) (dC (.int 1))) (dCallB (dLen) (dCons (dBin dIx (dVar 0) (dC (.int 0))) dNil))))) (dSeq (dSet 2 (dBin dIx (dBin dIx (dVar 0) (dC (.int 0))) (dBin dIx (dVar 0) (dC (.int 1))))) (dSeq (dAsg (dBin dAdd (dBin dIx (dVar 0) (dC (.int 1))) (dC (.int 1))) (gSubD (dVar 0) (dC (.int 1)))) (dSeq (dIf (dTB (dBin dLt (dVar 2) (dBin dPow (dC (.int 10)) (dC (.int 18))))) (dRet (dBin dMod (dCallB (dInt) (dCons (dCall F__law_mix [] (dCons (dBin dMod (dCallB (dInt) (dCons (dVar 2) dNil)) (dC (.int 2147483647))) (dCons (dBin dIx (dVar 0) (dC (.int 1))) dNil))) dNil)) (dVar 1))) dNext) (dAsg (dVar 2) (gSubD (dVar 0) (dC (.int 2))))))) dNext) (dSeq (dIf (dTB (dBin dGt (dBin dIx (dVar 0) (dC (.int 2))) (dC (.int 0)))) (dSeq (dSet 3 (dBin dIx (dVar 0) (dC (.int 2)))) (dSeq (dAsg (dBin dDiv (dVar 3) (dVar 1)) (gSubD (dVar 0) (dC (.int 2)))) (dRet (dBin dMod (dCallB (dInt) (dCons (dVar 3) dNil)) (dVar 1))))) dNext) (dSeq (dAsg (dBin dMod (dCallB (dInt) (dCons (dBin dAdd (dBin dIx (dVar 0) (dC (.int 3))) (dC (.int 1))) dNil)) (dC (.int 2147483629))) (gSubD (dVar 0) (dC (.int 3)))) (dRet (dBin dMod (dCallB (dInt) (dCons (dCall F__law_mix [] (dCons (dBin dIx (dVar 0) (dC (.int 3))) (dCons (dBin dIx (dVar 0) (dC (.int 1))) dNil))) dNil)) (dVar 1))))))
noncomputable def F__law_draw : DFun := runD 4 B__law_draw
/-! ### _law_ratio -/
abbrev sN__law_ratio : List Str := ["top", "bottom", "share"]
abbrev q__law_ratio : Str := "_law_ratio"
theorem sc__law_ratio : FnScope sN__law_ratio ["top", "bottom"] (defScope (top 32)) := ⟨rfl, rfl, rfl, by decide +kernel, rfl, by decide +kernel, by decide +kernel⟩
noncomputable def B__law_ratio : DSt := (dSeq (dSet 2 (dCall F__law_gcd [] (dCons (dVar 0) (dCons (dVar 1) dNil)))) (dSeq (dIf (dTB (dBin dLt (dVar 1) (dC (.int 0)))) (dSet 2 (dUn dNeg (dVar 2))) dNext) (dRet (dTup (dCons (dBin dDiv (dVar 0) (dVar 2)) (dCons (dBin dDiv (dVar 1) (dVar 2)) dNil))))))
noncomputable def F__law_ratio : DFun := runD 3 B__law_ratio
/-! ### _law_both -/
abbrev sN__law_both : List Str := ["told", "due"]
abbrev q__law_both : Str := "_law_both"
theorem sc__law_both : FnScope sN__law_both ["told", "due"] (defScope (top 45)) := ⟨rfl, rfl, rfl, by decide +kernel, rfl, by decide +kernel, by decide +kernel⟩
noncomputable def B__law_both : DSt := (dRet (dAndV (dCallB (dIsi CS SUB) (dCons (dVar 0) (dCons (dC (.typ "tuple")) dNil))) (dAndV (dBin dEq (dCallB (dLen) (dCons (dVar 0) dNil)) (dC (.int 2))) (dAndV (dCall F__law_is [] (dCons (dBin dIx (dVar 0) (dC (.int 0))) (dCons (dBin dIx (dVar 1) (dC (.int 0))) dNil))) (dCall F__law_is [] (dCons (dBin dIx (dVar 0) (dC (.int 1))) (dCons (dBin dIx (dVar 1) (dC (.int 1))) dNil)))))))
noncomputable def F__law_both : DFun := runD 2 B__law_both
/-! ### _law_order -/
abbrev sN__law_order : List Str := ["one", "other", "first"]
abbrev q__law_order : Str := "_law_order"
theorem sc__law_order : FnScope sN__law_order ["one", "other"] (defScope (top 46)) := ⟨rfl, rfl, rfl, by decide +kernel, rfl, by decide +kernel, by decide +kernel⟩
noncomputable def B__law_order : DSt := (dSeq (dSet 2 (dCall F__law_compare [] (dCons (dBin dIx (dVar 0) (dC (.int 0))) (dCons (dBin dIx (dVar 1) (dC (.int 0))) dNil)))) (dRet (dIfE (dTB (dBin dNe (dVar 2) (dC (.int 0)))) (dVar 2) (dCall F__law_compare [] (dCons (dBin dIx (dVar 0) (dC (.int 1))) (dCons (dBin dIx (dVar 1) (dC (.int 1))) dNil))))))
noncomputable def F__law_order : DFun := runD 3 B__law_order
/-! ### is_couple -/
abbrev sN_is_couple : List Str := ["thing"]
abbrev q_is_couple : Str := "is_couple"
theorem sc_is_couple : FnScope sN_is_couple ["thing"] (defScope (top 17)) := ⟨rfl, rfl, rfl, by decide +kernel, rfl, by decide +kernel, by decide +kernel⟩
noncomputable def B_is_couple : DSt := (dSeq (dIf (dOr (dNot (dTr (dIsTy2 "list" "tuple" (dVar 0)))) (dTB (dBin dNe (dCallB (dLen) (dCons (dVar 0) dNil)) (dC (.int 2))))) (dRet (dC (.bl false))) dNext) (dRet (dAndV (dCall F_is_ratio [] (dCons (dBin dIx (dVar 0) (dC (.int 0))) dNil)) (dCall F_is_ratio [] (dCons (dBin dIx (dVar 0) (dC (.int 1))) dNil)))))
noncomputable def F_is_couple : DFun := runD 1 B_is_couple
/-! ### place_plus -/
abbrev sN_place_plus : List Str := ["one", "other"]
abbrev q_place_plus : Str := "place_plus"
theorem sc_place_plus : FnScope sN_place_plus ["one", "other"] (defScope (top 19)) := ⟨rfl, rfl, rfl, by decide +kernel, rfl, by decide +kernel, by decide +kernel⟩
noncomputable def B_place_plus : DSt := (dRet (dTup (dCons (dCall F_plus [] (dCons (dBin dIx (dVar 0) (dC (.int 0))) (dCons (dBin dIx (dVar 1) (dC (.int 0))) dNil))) (dCons (dCall F_plus [] (dCons (dBin dIx (dVar 0) (dC (.int 1))) (dCons (dBin dIx (dVar 1) (dC (.int 1))) dNil))) dNil))))
noncomputable def F_place_plus : DFun := runD 2 B_place_plus
/-! ### place_minus -/
abbrev sN_place_minus : List Str := ["one", "other"]
abbrev q_place_minus : Str := "place_minus"
theorem sc_place_minus : FnScope sN_place_minus ["one", "other"] (defScope (top 20)) := ⟨rfl, rfl, rfl, by decide +kernel, rfl, by decide +kernel, by decide +kernel⟩
noncomputable def B_place_minus : DSt := (dRet (dTup (dCons (dCall F_minus [] (dCons (dBin dIx (dVar 0) (dC (.int 0))) (dCons (dBin dIx (dVar 1) (dC (.int 0))) dNil))) (dCons (dCall F_minus [] (dCons (dBin dIx (dVar 0) (dC (.int 1))) (dCons (dBin dIx (dVar 1) (dC (.int 1))) dNil))) dNil))))
noncomputable def F_place_minus : DFun := runD 2 B_place_minus
/-! ### place_scaled -/
abbrev sN_place_scaled : List Str := ["one", "by"]
abbrev q_place_scaled : Str := "place_scaled"
theorem sc_place_scaled : FnScope sN_place_scaled ["one", "by"] (defScope (top 21)) := ⟨rfl, rfl, rfl, by decide +kernel, rfl, by decide +kernel, by decide +kernel⟩
noncomputable def B_place_scaled : DSt := (dRet (dTup (dCons (dCall F_times [] (dCons (dBin dIx (dVar 0) (dC (.int 0))) (dCons (dVar 1) dNil))) (dCons (dCall F_times [] (dCons (dBin dIx (dVar 0) (dC (.int 1))) (dCons (dVar 1) dNil))) dNil))))
noncomputable def F_place_scaled : DFun := runD 2 B_place_scaled
/-! ### dot_of -/
abbrev sN_dot_of : List Str := ["one", "other"]
abbrev q_dot_of : Str := "dot_of"
theorem sc_dot_of : FnScope sN_dot_of ["one", "other"] (defScope (top 22)) := ⟨rfl, rfl, rfl, by decide +kernel, rfl, by decide +kernel, by decide +kernel⟩
noncomputable def B_dot_of : DSt := (dRet (dCall F_plus [] (dCons (dCall F_times [] (dCons (dBin dIx (dVar 0) (dC (.int 0))) (dCons (dBin dIx (dVar 1) (dC (.int 0))) dNil))) (dCons (dCall F_times [] (dCons (dBin dIx (dVar 0) (dC (.int 1))) (dCons (dBin dIx (dVar 1) (dC (.int 1))) dNil))) dNil))))
noncomputable def F_dot_of : DFun := runD 2 B_dot_of
/-! ### cross_of -/
abbrev sN_cross_of : List Str := ["one", "other"]
abbrev q_cross_of : Str := "cross_of"
theorem sc_cross_of : FnScope sN_cross_of ["one", "other"] (defScope (top 23)) := ⟨rfl, rfl, rfl, by decide +kernel, rfl, by decide +kernel, by decide +kernel⟩
noncomputable def B_cross_of : DSt := (dRet (dCall F_minus [] (dCons (dCall F_times [] (dCons (dBin dIx (dVar 0) (dC (.int 0))) (dCons (dBin dIx (dVar 1) (dC (.int 1))) dNil))) (dCons (dCall F_times [] (dCons (dBin dIx (dVar 0) (dC (.int 1))) (dCons (dBin dIx (dVar 1) (dC (.int 0))) dNil))) dNil))))
noncomputable def F_cross_of : DFun := runD 2 B_cross_of
/-! ### _law_plus -/
abbrev sN__law_plus : List Str := ["one", "other"]
abbrev q__law_plus : Str := "_law_plus"
theorem sc__law_plus : FnScope sN__law_plus ["one", "other"] (defScope (top 33)) := ⟨rfl, rfl, rfl, by decide +kernel, rfl, by decide +kernel, by decide +kernel⟩
noncomputable def B__law_plus : DSt := (dRet (dCall F__law_ratio [] (dCons (dBin dAdd (dBin dMul (dBin dIx (dVar 0) (dC (.int 0))) (dBin dIx (dVar 1) (dC (.int 1)))) (dBin dMul (dBin dIx (dVar 1) (dC (.int 0))) (dBin dIx (dVar 0) (dC (.int 1))))) (dCons (dBin dMul (dBin dIx (dVar 0) (dC (.int 1))) (dBin dIx (dVar 1) (dC (.int 1)))) dNil))))
noncomputable def F__law_plus : DFun := runD 2 B__law_plus
/-! ### _law_minus -/
abbrev sN__law_minus : List Str := ["one", "other"]
abbrev q__law_minus : Str := "_law_minus"
theorem sc__law_minus : FnScope sN__law_minus ["one", "other"] (defScope (top 34)) := ⟨rfl, rfl, rfl, by decide +kernel, rfl, by decide +kernel, by decide +kernel⟩
noncomputable def B__law_minus : DSt := (dRet (dCall F__law_ratio [] (dCons (dBin dSub (dBin dMul (dBin dIx (dVar 0) (dC (.int 0))) (dBin dIx (dVar 1) (dC (.int 1)))) (dBin dMul (dBin dIx (dVar 1) (dC (.int 0))) (dBin dIx (dVar 0) (dC (.int 1))))) (dCons (dBin dMul (dBin dIx (dVar 0) (dC (.int 1))) (dBin dIx (dVar 1) (dC (.int 1)))) dNil))))
noncomputable def F__law_minus : DFun := runD 2 B__law_minus
/-! ### _law_times -/
abbrev sN__law_times : List Str := ["one", "other"]
abbrev q__law_times : Str := "_law_times"
theorem sc__law_times : FnScope sN__law_times ["one", "other"] (defScope (top 35)) := ⟨rfl, rfl, rfl, by decide +kernel, rfl, by decide +kernel, by decide +kernel⟩
noncomputable def B__law_times : DSt := (dRet (dCall F__law_ratio [] (dCons (dBin dMul (dBin dIx (dVar 0) (dC (.int 0))) (dBin dIx (dVar 1) (dC (.int 0)))) (dCons (dBin dMul (dBin dIx (dVar 0) (dC (.int 1))) (dBin dIx (dVar 1) (dC (.int 1)))) dNil))))
noncomputable def F__law_times : DFun := runD 2 B__law_times
/-! ### _law_couple -/
abbrev sN__law_couple : List Str := ["hand", "before", "top", "first"]
abbrev q__law_couple : Str := "_law_couple"
theorem sc__law_couple : FnScope sN__law_couple ["hand", "before"] (defScope (top 42)) := ⟨rfl, rfl, rfl, by decide +kernel, rfl, by decide +kernel, by decide +kernel⟩
noncomputable def B__law_couple : DSt := (dSeq (dIf (dAnd (dTr (dVar 1)) (dTB (dBin dEq (dCall F__law_draw [] (dCons (dVar 0) (dCons (dC (.int 4)) dNil))) (dC (.int 0))))) (dRet (dBin dIx (dVar 1) (dCall F__law_draw [] (dCons (dVar 0) (dCons (dCallB (dLen) (dCons (dVar 1) dNil)) dNil))))) dNext) (dSeq (dSet 2 (dCall F__law_draw [] (dCons (dVar 0) (dCons (dBin dIx (dLst (dCons (dC (.int 3)) (dCons (dC (.int 9)) (dCons (dBin dPow (dC (.int 10)) (dC (.int 9))) dNil)))) (dCall F__law_draw [] (dCons (dVar 0) (dCons (dC (.int 3)) dNil)))) dNil)))) (dSeq (dSet 3 (dCall F__law_ratio [] (dCons (dBin dMul (dVar 2) (dBin dSub (dC (.int 1)) (dBin dMul (dC (.int 2)) (dCall F__law_draw [] (dCons (dVar 0) (dCons (dC (.int 2)) dNil)))))) (dCons (dBin dAdd (dC (.int 1)) (dCall F__law_draw [] (dCons (dVar 0) (dCons (dC (.int 12)) dNil)))) dNil)))) (dSeq (dIf (dAnd (dTr (dVar 1)) (dTB (dBin dEq (dCall F__law_draw [] (dCons (dVar 0) (dCons (dC (.int 4)) dNil))) (dC (.int 0))))) (dSet 3 (dBin dIx (dBin dIx (dVar 1) (dCall F__law_draw [] (dCons (dVar 0) (dCons (dCallB (dLen) (dCons (dVar 1) dNil)) dNil)))) (dC (.int 0)))) dNext) (dSeq (dSet 2 (dCall F__law_draw [] (dCons (dVar 0) (dCons (dBin dIx (dLst (dCons (dC (.int 3)) (dCons (dC (.int 9)) (dCons (dBin dPow (dC (.int 10)) (dC (.int 9))) dNil)))) (dCall F__law_draw [] (dCons (dVar 0) (dCons (dC (.int 3)) dNil)))) dNil)))) (dRet (dTup (dCons (dVar 3) (dCons (dCall F__law_ratio [] (dCons (dBin dMul (dVar 2) (dBin dSub (dC (.int 1)) (dBin dMul (dC (.int 2)) (dCall F__law_draw [] (dCons (dVar 0) (dCons (dC (.int 2)) dNil)))))) (dCons (dBin dAdd (dC (.int 1)) (dCall F__law_draw [] (dCons (dVar 0) (dCons (dC (.int 12)) dNil)))) dNil))) dNil)))))))))
noncomputable def F__law_couple : DFun := runD 4 B__law_couple
/-! ### check_place -/
abbrev sN_check_place : List Str := ["place"]
abbrev q_check_place : Str := "check_place"
theorem sc_check_place : FnScope sN_check_place ["place"] (defScope (top 18)) := ⟨rfl, rfl, rfl, by decide +kernel, rfl, by decide +kernel, by decide +kernel⟩
noncomputable def B_check_place : DSt := (dSeq (dIf (dNot (dTr (dCall F_is_couple [] (dCons (dVar 0) dNil)))) (dRaise (dMk 2 0 dNil)) dNext) (dRet (dTup (dCons (dBin dIx (dVar 0) (dC (.int 0))) (dCons (dBin dIx (dVar 0) (dC (.int 1))) dNil)))))
noncomputable def F_check_place : DFun := runD 1 B_check_place
/-! ### mean_place -/
abbrev sN_mean_place : List Str := ["places", "total", "place"]
abbrev q_mean_place : Str := "mean_place"
theorem sc_mean_place : FnScope sN_mean_place ["places"] (defScope (top 25)) := ⟨rfl, rfl, rfl, by decide +kernel, rfl, by decide +kernel, by decide +kernel⟩
noncomputable def B_mean_place : DSt := (dSeq (dSet 1 (dTup (dCons (dC k_ZERO) (dCons (dC k_ZERO) dNil)))) (dSeq (dFor (dIter (dVar 0)) (gSet 2) (dSet 1 (dCall F_place_plus [] (dCons (dVar 1) (dCons (dVar 2) dNil))))) (dRet (dCall F_place_scaled [] (dCons (dVar 1) (dCons (dCall F_make_ratio [] (dCons (dC (.int 1)) (dCons (dCallB (dLen) (dCons (dVar 0) dNil)) dNil))) dNil))))))
noncomputable def F_mean_place : DFun := runD 3 B_mean_place
/-! ### _law_add -/
abbrev sN__law_add : List Str := ["one", "other"]
abbrev q__law_add : Str := "_law_add"
theorem sc__law_add : FnScope sN__law_add ["one", "other"] (defScope (top 37)) := ⟨rfl, rfl, rfl, by decide +kernel, rfl, by decide +kernel, by decide +kernel⟩
noncomputable def B__law_add : DSt := (dRet (dTup (dCons (dCall F__law_plus [] (dCons (dBin dIx (dVar 0) (dC (.int 0))) (dCons (dBin dIx (dVar 1) (dC (.int 0))) dNil))) (dCons (dCall F__law_plus [] (dCons (dBin dIx (dVar 0) (dC (.int 1))) (dCons (dBin dIx (dVar 1) (dC (.int 1))) dNil))) dNil))))
noncomputable def F__law_add : DFun := runD 2 B__law_add
/-! ### _law_less -/
abbrev sN__law_less : List Str := ["one", "other"]
abbrev q__law_less : Str := "_law_less"
theorem sc__law_less : FnScope sN__law_less ["one", "other"] (defScope (top 38)) := ⟨rfl, rfl, rfl, by decide +kernel, rfl, by decide +kernel, by decide +kernel⟩
noncomputable def B__law_less : DSt := (dRet (dTup (dCons (dCall F__law_minus [] (dCons (dBin dIx (dVar 0) (dC (.int 0))) (dCons (dBin dIx (dVar 1) (dC (.int 0))) dNil))) (dCons (dCall F__law_minus [] (dCons (dBin dIx (dVar 0) (dC (.int 1))) (dCons (dBin dIx (dVar 1) (dC (.int 1))) dNil))) dNil))))
noncomputable def F__law_less : DFun := runD 2 B__law_less
/-! ### _law_scaled -/
abbrev sN__law_scaled : List Str := ["one", "by"]
abbrev q__law_scaled : Str := "_law_scaled"
theorem sc__law_scaled : FnScope sN__law_scaled ["one", "by"] (defScope (top 39)) := ⟨rfl, rfl, rfl, by decide +kernel, rfl, by decide +kernel, by decide +kernel⟩
noncomputable def B__law_scaled : DSt := (dRet (dTup (dCons (dCall F__law_times [] (dCons (dBin dIx (dVar 0) (dC (.int 0))) (dCons (dVar 1) dNil))) (dCons (dCall F__law_times [] (dCons (dBin dIx (dVar 0) (dC (.int 1))) (dCons (dVar 1) dNil))) dNil))))
noncomputable def F__law_scaled : DFun := runD 2 B__law_scaled
/-! ### _law_dot -/
abbrev sN__law_dot : List Str := ["one", "other"]
abbrev q__law_dot : Str := "_law_dot"
theorem sc__law_dot : FnScope sN__law_dot ["one", "other"] (defScope (top 40)) := ⟨rfl, rfl, rfl, by decide +kernel, rfl, by decide +kernel, by decide +kernel⟩
noncomputable def B__law_dot : DSt := (dRet (dCall F__law_plus [] (dCons (dCall F__law_times [] (dCons (dBin dIx (dVar 0) (dC (.int 0))) (dCons (dBin dIx (dVar 1) (dC (.int 0))) dNil))) (dCons (dCall F__law_times [] (dCons (dBin dIx (dVar 0) (dC (.int 1))) (dCons (dBin dIx (dVar 1) (dC (.int 1))) dNil))) dNil))))
noncomputable def F__law_dot : DFun := runD 2 B__law_dot
/-! ### _law_cross -/
abbrev sN__law_cross : List Str := ["one", "other"]
abbrev q__law_cross : Str := "_law_cross"
theorem sc__law_cross : FnScope sN__law_cross ["one", "other"] (defScope (top 41)) := ⟨rfl, rfl, rfl, by decide +kernel, rfl, by decide +kernel, by decide +kernel⟩
noncomputable def B__law_cross : DSt := (dRet (dCall F__law_minus [] (dCons (dCall F__law_times [] (dCons (dBin dIx (dVar 0) (dC (.int 0))) (dCons (dBin dIx (dVar 1) (dC (.int 1))) dNil))) (dCons (dCall F__law_times [] (dCons (dBin dIx (dVar 0) (dC (.int 1))) (dCons (dBin dIx (dVar 1) (dC (.int 0))) dNil))) dNil))))
noncomputable def F__law_cross : DFun := runD 2 B__law_cross
/-! ### _law_place_of -/
abbrev sN__law_place_of : List Str := ["thing", "found", "e"]
abbrev q__law_place_of : Str := "_law_place_of"
theorem sc__law_place_of : FnScope sN__law_place_of ["thing"] (defScope (top 43)) := ⟨rfl, rfl, rfl, by decide +kernel, rfl, by decide +kernel, by decide +kernel⟩
noncomputable def B__law_place_of : DSt := (dSeq (dTry 2 xcs (hit_BadPlace) (dSet 1 (dCall F_check_place [] (dCons (dVar 0) dNil))) (dRet (dLst (dCons (dC (.str "refused")) (dCons (dIsE 2 2 true) dNil))))) (dRet (dIfE (dTr (dCallB (dIsi CS SUB) (dCons (dVar 1) (dCons (dC (.typ "tuple")) dNil)))) (dVar 1) (dC .non))))
noncomputable def F__law_place_of : DFun := runD 3 B__law_place_of
/-! ### _law_mean -/
abbrev sN__law_mean : List Str := ["places", "total", "place"]
abbrev q__law_mean : Str := "_law_mean"
theorem sc__law_mean : FnScope sN__law_mean ["places"] (defScope (top 47)) := ⟨rfl, rfl, rfl, by decide +kernel, rfl, by decide +kernel, by decide +kernel⟩
noncomputable def B__law_mean : DSt := (dSeq (dSet 1 (dTup (dCons (dTup (dCons (dC (.int 0)) (dCons (dC (.int 1)) dNil))) (dCons (dTup (dCons (dC (.int 0)) (dCons (dC (.int 1)) dNil))) dNil)))) (dSeq (dFor (dIter (dVar 0)) (gSet 2) (dSet 1 (dCall F__law_add [] (dCons (dVar 1) (dCons (dVar 2) dNil))))) (dRet (dCall F__law_scaled [] (dCons (dVar 1) (dCons (dTup (dCons (dC (.int 1)) (dCons (dCallB (dLen) (dCons (dVar 0) dNil)) dNil))) dNil))))))
noncomputable def F__law_mean : DFun := runD 3 B__law_mean
/-! ### _law_refusals -/
abbrev sN__law_refusals : List Str := ["one", "whole", "good", "thing", "told", "bad"]
abbrev q__law_refusals : Str := "_law_refusals"
theorem sc__law_refusals : FnScope sN__law_refusals ["one", "whole"] (defScope (top 48)) := ⟨rfl, rfl, rfl, by decide +kernel, rfl, by decide +kernel, by decide +kernel⟩
noncomputable def B__law_refusals : DSt := (dSeq (dSet 2 (dLst (dCons (dVar 0) (dCons (dLst (dCons (dBin dIx (dVar 0) (dC (.int 0))) (dCons (dBin dIx (dVar 0) (dC (.int 1))) dNil))) (dCons (dTup (dCons (dBin dIx (dVar 0) (dC (.int 1))) (dCons (dBin dIx (dVar 0) (dC (.int 0))) dNil))) (dCons (dTup (dCons (dTup (dCons (dVar 1) (dCons (dC (.int 1)) dNil))) (dCons (dTup (dCons (dC (.int 0)) (dCons (dC (.int 1)) dNil))) dNil))) dNil)))))) (dSeq (dFor (dIter (dVar 2)) (gSet 3) (dSeq (dSet 4 (dCall F__law_place_of [] (dCons (dVar 3) dNil))) (dIf (dOr (dTB (dBin (dIs true) (dCall F_is_couple [] (dCons (dVar 3) dNil)) (dC (.bl true)))) (dNot (dTr (dCall F__law_both [] (dCons (dVar 4) (dCons (dVar 3) dNil)))))) (dRet (dC (.bl false))) dNext))) (dSeq (dSet 5 (dLst (dCons (dTup (dCons (dBin dIx (dVar 0) (dC (.int 0))) dNil)) (dCons (dTup (dCons (dBin dIx (dVar 0) (dC (.int 0))) (dCons (dBin dIx (dVar 0) (dC (.int 1))) (dCons (dBin dIx (dVar 0) (dC (.int 0))) dNil)))) (dCons (dTup (dCons (dVar 1) (dCons (dBin dIx (dVar 0) (dC (.int 1))) dNil))) (dCons (dTup (dCons (dBin dIx (dVar 0) (dC (.int 0))) (dCons (dLst (dCons (dC (.int 1)) (dCons (dC (.int 2)) dNil))) dNil))) (dCons (dTup (dCons (dTup (dCons (dC (.int 2)) (dCons (dC (.int 4)) dNil))) (dCons (dBin dIx (dVar 0) (dC (.int 1))) dNil))) (dCons (dC .non) (dCons (dC (.str "ab")) (dCons (dTup (dCons (dBin dIx (dVar 0) (dC (.int 0))) (dCons (dC .non) dNil))) (dCons (dTup (dCons (dTup (dCons (dC (.int 1)) (dCons (dC (.int 0)) dNil))) (dCons (dBin dIx (dVar 0) (dC (.int 1))) dNil))) (dCons (dBin dIx (dVar 0) (dC (.int 0))) dNil)))))))))))) (dSeq (dFor (dIter (dVar 5)) (gSet 3) (dIf (dOr (dTB (dBin (dIs true) (dCall F_is_couple [] (dCons (dVar 3) dNil)) (dC (.bl false)))) (dTB (dBin dNe (dCall F__law_place_of [] (dCons (dVar 3) dNil)) (dLst (dCons (dC (.str "refused")) (dCons (dC (.bl true)) dNil)))))) (dRet (dC (.bl false))) dNext)) (dRet (dC (.bl true)))))))
noncomputable def F__law_refusals : DFun := runD 6 B__law_refusals
/-! ### law -/
abbrev sN_law : List Str := ["script", "hand", "places", "k", "by", "one", "other", "order", "turned", "row", "kept"]
abbrev q_law : Str := "law"
theorem sc_law : FnScope sN_law ["script"] (defScope (top 49)) := ⟨rfl, rfl, rfl, by decide +kernel, rfl, by decide +kernel, by decide +kernel⟩
noncomputable def S_law_0 : DSt := (dSet 1 (dCall F__law_hand [] (dCons (dVar 0) dNil)))
noncomputable def S_law_1 : DSt := (dSet 2 (dNew dNil))
noncomputable def S_law_2 : DSt := (dFor (dRng1 (dCons (dC (.int 4)) dNil)) (gSet 3) (dDrop (dApp (dVar 2) (dCall F__law_couple [] (dCons (dVar 1) (dCons (dVar 2) dNil))))))
noncomputable def S_law_3 : DSt := (dSet 4 (dCall F__law_ratio [] (dCons (dBin dSub (dCall F__law_draw [] (dCons (dVar 1) (dCons (dC (.int 41)) dNil))) (dC (.int 20))) (dCons (dBin dAdd (dC (.int 1)) (dCall F__law_draw [] (dCons (dVar 1) (dCons (dC (.int 9)) dNil)))) dNil))))
noncomputable def S_law_4 : DSt := (dFor (dIter (dVar 2)) (gSet 5) (dSeq (dFor (dIter (dVar 2)) (gSet 6) (dSeq (dIf (dOr (dNot (dTr (dCall F__law_both [] (dCons (dCall F_place_plus [] (dCons (dVar 5) (dCons (dVar 6) dNil))) (dCons (dCall F__law_add [] (dCons (dVar 5) (dCons (dVar 6) dNil))) dNil))))) (dNot (dTr (dCall F__law_both [] (dCons (dCall F_place_minus [] (dCons (dCallB (dLstOf) (dCons (dVar 5) dNil)) (dCons (dVar 6) dNil))) (dCons (dCall F__law_less [] (dCons (dVar 5) (dCons (dVar 6) dNil))) dNil)))))) (dRet (dC (.bl false))) dNext) (dSeq (dIf (dOr (dNot (dTr (dCall F__law_is [] (dCons (dCall F_dot_of [] (dCons (dVar 5) (dCons (dVar 6) dNil))) (dCons (dCall F__law_dot [] (dCons (dVar 5) (dCons (dVar 6) dNil))) dNil))))) (dNot (dTr (dCall F__law_is [] (dCons (dCall F_cross_of [] (dCons (dVar 5) (dCons (dVar 6) dNil))) (dCons (dCall F__law_cross [] (dCons (dVar 5) (dCons (dVar 6) dNil))) dNil)))))) (dRet (dC (.bl false))) dNext) (dSeq (dIf (dOr (dTB (dBin dNe (dCall F_dot_of [] (dCons (dCall F_quarter_left [] (dCons (dVar 5) dNil)) (dCons (dVar 6) dNil))) (dCall F_cross_of [] (dCons (dVar 5) (dCons (dVar 6) dNil))))) (dTB (dBin dNe (dCall F_dot_of [] (dCons (dVar 5) (dCons (dCall F_quarter_left [] (dCons (dVar 5) dNil)) dNil))) (dTup (dCons (dC (.int 0)) (dCons (dC (.int 1)) dNil)))))) (dRet (dC (.bl false))) dNext) (dSeq (dSet 7 (dCall F_compare_places [] (dCons (dVar 5) (dCons (dVar 6) dNil)))) (dSeq (dIf (dOr (dNot (dTr (dCallB (dIsi CS SUB) (dCons (dVar 7) (dCons (dC (.typ "int")) dNil))))) (dOr (dTr (dCallB (dIsi CS SUB) (dCons (dVar 7) (dCons (dC (.typ "bool")) dNil)))) (dTB (dBin dNe (dVar 7) (dCall F__law_order [] (dCons (dVar 5) (dCons (dVar 6) dNil))))))) (dRet (dC (.bl false))) dNext) (dIf (dTB (dBin dNe (dCall F_cross_of [] (dCons (dCall F_place_scaled [] (dCons (dVar 5) (dCons (dVar 4) dNil))) (dCons (dVar 6) dNil))) (dCall F__law_times [] (dCons (dVar 4) (dCons (dCall F__law_cross [] (dCons (dVar 5) (dCons (dVar 6) dNil))) dNil))))) (dRet (dC (.bl false))) dNext))))))) (dSeq (dSet 8 (dCall F_quarter_left [] (dCons (dVar 5) dNil))) (dSeq (dIf (dOr (dNot (dTr (dCall F__law_both [] (dCons (dVar 8) (dCons (dTup (dCons (dTup (dCons (dUn dNeg (dBin dIx (dBin dIx (dVar 5) (dC (.int 1))) (dC (.int 0)))) (dCons (dBin dIx (dBin dIx (dVar 5) (dC (.int 1))) (dC (.int 1))) dNil))) (dCons (dBin dIx (dVar 5) (dC (.int 0))) dNil))) dNil))))) (dNot (dTr (dCall F__law_both [] (dCons (dCall F_place_scaled [] (dCons (dVar 5) (dCons (dVar 4) dNil))) (dCons (dCall F__law_scaled [] (dCons (dVar 5) (dCons (dVar 4) dNil))) dNil)))))) (dRet (dC (.bl false))) dNext) (dIf (dOr (dNot (dTr (dCallB (dIsi CS SUB) (dCons (dVar 8) (dCons (dC (.typ "tuple")) dNil))))) (dNot (dTr (dCallB (dIsi CS SUB) (dCons (dCall F_place_plus [] (dCons (dVar 5) (dCons (dVar 5) dNil))) (dCons (dC (.typ "tuple")) dNil)))))) (dRet (dC (.bl false))) dNext)))))
noncomputable def S_law_5 : DSt := (dSet 9 (dComp (dRng1 (dCons (dBin dAdd (dC (.int 1)) (dCall F__law_draw [] (dCons (dVar 1) (dCons (dC (.int 5)) dNil)))) dNil)) (gSet 3) dYes (dBin dIx (dVar 2) (dCall F__law_draw [] (dCons (dVar 1) (dCons (dC (.int 4)) dNil)))) (([("k", 3)] : List (Str × Nat)).map (·.2))))
noncomputable def S_law_6 : DSt := (dSet 10 (dCallB (dLstOf) (dCons (dVar 9) dNil)))
noncomputable def S_law_7 : DSt := (dIf (dOr (dNot (dTr (dCall F__law_both [] (dCons (dCall F_mean_place [] (dCons (dVar 9) dNil)) (dCons (dCall F__law_mean [] (dCons (dVar 10) dNil)) dNil))))) (dOr (dNot (dTr (dCall F__law_both [] (dCons (dCall F_mean_place [] (dCons (dCallB (dTupOf) (dCons (dVar 9) dNil)) dNil)) (dCons (dCall F__law_mean [] (dCons (dVar 10) dNil)) dNil))))) (dTB (dBin dNe (dVar 9) (dVar 10))))) (dRet (dC (.bl false))) dNext)
noncomputable def S_law_8 : DSt := (dRet (dCall F__law_refusals [] (dCons (dBin dIx (dVar 2) (dCall F__law_draw [] (dCons (dVar 1) (dCons (dC (.int 4)) dNil)))) (dCons (dCall F__law_draw [] (dCons (dVar 1) (dCons (dBin dPow (dC (.int 10)) (dC (.int 12))) dNil))) dNil))))
noncomputable def B_law : DSt := (dSeq S_law_0 (dSeq S_law_1 (dSeq S_law_2 (dSeq S_law_3 (dSeq S_law_4 (dSeq S_law_5 (dSeq S_law_6 (dSeq S_law_7 S_law_8))))))))
noncomputable def F_law : DFun := runD 11 B_law
section
variable {w : World} {K : PySem.W.Frag} {mg : Str → Option Value} {base : Heap}
theorem b_is_whole (g : Gls K mg) (cdv : Value) (A : Around) (outer : List Env) (s : Shared) (H : Hp) (E : XK) (f : Addr) (hr : Room 1 (A.deeper (envOfC q_is_whole (defScope (top 7)) s.heap.objs.size f cdv))) (tk : Takes (cxD Pg w K mg base sN_is_whole q_is_whole (defScope (top 7)) f cdv A outer s H E) (WD E))
    (hp : PassesOwn (model Pg w) (cxD Pg w K mg base sN_is_whole q_is_whole (defScope (top 7)) f cdv A outer s H E).A (cxD Pg w K mg base sN_is_whole q_is_whole (defScope (top 7)) f cdv A outer s H E).env (cxD Pg w K mg base sN_is_whole q_is_whole (defScope (top 7)) f cdv A outer s H E).xe) :
    DB (gx K) none (WD E) (cxD Pg w K mg base sN_is_whole q_is_whole (defScope (top 7)) f cdv A outer s H E) (defBody (top 7)) B_is_whole := by
  have KO := kindNone (G := gx K)
  have hu := hr.units
  skip
  exact (db_cons (ds_if (DW.dt (dw_or (dt_not (dt_tr rfl (de_callB (cr_isD KO rfl) rfl g.f_isinstance PyProof.Rows.Boot.«isinstance» (da_cons (de_var 0 (pv 0)) (da_cons (de_ty rfl g.f_int PyProof.Rows.Boot.«int») da_nil))))) (dw_or1 (dt_tr rfl (de_callB (cr_isD KO rfl) rfl g.f_isinstance PyProof.Rows.Boot.«isinstance» (da_cons (de_var 0 (pv 0)) (da_cons (de_ty rfl g.f_bool PyProof.Rows.Boot.«bool») da_nil))))))) (db_one (ds_ret de_bl)) db_nil)
    (db_cons (ds_if (DW.dt (dw_and (dt_cmp op_isnotD (de_var 1 (pv 1)) de_non (nomark _)) (dw_and1 (dt_cmp op_ltD (de_var 0 (pv 0)) (de_var 1 (pv 1)) (nomark _))))) (db_one (ds_ret de_bl)) db_nil)
    (db_one (ds_ret (de_or rfl (de_cmp op_isD (de_var 2 (pv 2)) de_non (nomark _)) (de_one (de_cmp op_leD (de_var 0 (pv 0)) (de_var 2 (pv 2)) (nomark _))))))))
theorem b_lowered (g : Gls K mg) (cdv : Value) (A : Around) (outer : List Env) (s : Shared) (H : Hp) (E : XK) (f : Addr) (hr : Room 1 (A.deeper (envOfC q_lowered (defScope (top 9)) s.heap.objs.size f cdv))) (tk : Takes (cxD Pg w K mg base sN_lowered q_lowered (defScope (top 9)) f cdv A outer s H E) (WD E))
    (hp : PassesOwn (model Pg w) (cxD Pg w K mg base sN_lowered q_lowered (defScope (top 9)) f cdv A outer s H E).A (cxD Pg w K mg base sN_lowered q_lowered (defScope (top 9)) f cdv A outer s H E).env (cxD Pg w K mg base sN_lowered q_lowered (defScope (top 9)) f cdv A outer s H E).xe) :
    DB (gx K) none (WD E) (cxD Pg w K mg base sN_lowered q_lowered (defScope (top 9)) f cdv A outer s H E) (defBody (top 9)) B_lowered := by
  have KO := kindNone (G := gx K)
  have hu := hr.units
  skip
  exact (db_cons (ds_set sc_lowered.nd rfl (.inl rfl) (de_callG cr_gcdD rfl g.gcd (da_cons (de_var 0 (pv 0)) (da_cons (de_var 1 (pv 1)) da_nil))))
    (db_cons (ds_if (dt_cmp op_ltD (de_var 1 (pv 1)) de_int (nomark _)) (db_one (ds_set sc_lowered.nd rfl (.inl rfl) (de_un un_negD (de_var 2 (pv 2))))) db_nil)
    (db_one (ds_ret (de_tup (da_cons (de_bin (op_divD) (de_var 0 (pv 0)) (de_var 2 (pv 2))) (da_cons (de_bin (op_divD) (de_var 1 (pv 1)) (de_var 2 (pv 2))) da_nil)))))))
theorem b_negative (g : Gls K mg) (cdv : Value) (A : Around) (outer : List Env) (s : Shared) (H : Hp) (E : XK) (f : Addr) (hr : Room 1 (A.deeper (envOfC q_negative (defScope (top 14)) s.heap.objs.size f cdv))) (tk : Takes (cxD Pg w K mg base sN_negative q_negative (defScope (top 14)) f cdv A outer s H E) (WD E))
    (hp : PassesOwn (model Pg w) (cxD Pg w K mg base sN_negative q_negative (defScope (top 14)) f cdv A outer s H E).A (cxD Pg w K mg base sN_negative q_negative (defScope (top 14)) f cdv A outer s H E).env (cxD Pg w K mg base sN_negative q_negative (defScope (top 14)) f cdv A outer s H E).xe) :
    DB (gx K) none (WD E) (cxD Pg w K mg base sN_negative q_negative (defScope (top 14)) f cdv A outer s H E) (defBody (top 14)) B_negative := by
  have KO := kindNone (G := gx K)
  have hu := hr.units
  skip
  exact (db_one (ds_ret (de_tup (da_cons (de_un un_negD (de_ix rfl (de_var 0 (pv 0)) de_int (fun _ _ => rfl))) (da_cons (de_ix rfl (de_var 0 (pv 0)) de_int (fun _ _ => rfl)) da_nil)))))
theorem b_compare (g : Gls K mg) (cdv : Value) (A : Around) (outer : List Env) (s : Shared) (H : Hp) (E : XK) (f : Addr) (hr : Room 1 (A.deeper (envOfC q_compare (defScope (top 15)) s.heap.objs.size f cdv))) (tk : Takes (cxD Pg w K mg base sN_compare q_compare (defScope (top 15)) f cdv A outer s H E) (WD E))
    (hp : PassesOwn (model Pg w) (cxD Pg w K mg base sN_compare q_compare (defScope (top 15)) f cdv A outer s H E).A (cxD Pg w K mg base sN_compare q_compare (defScope (top 15)) f cdv A outer s H E).env (cxD Pg w K mg base sN_compare q_compare (defScope (top 15)) f cdv A outer s H E).xe) :
    DB (gx K) none (WD E) (cxD Pg w K mg base sN_compare q_compare (defScope (top 15)) f cdv A outer s H E) (defBody (top 15)) B_compare := by
  have KO := kindNone (G := gx K)
  have hu := hr.units
  skip
  exact (db_cons (ds_set sc_compare.nd rfl (.inl rfl) (de_bin (op_subD) (de_bin (op_mulD) (de_ix rfl (de_var 0 (pv 0)) de_int (fun _ _ => rfl)) (de_ix rfl (de_var 1 (pv 1)) de_int (fun _ _ => rfl))) (de_bin (op_mulD) (de_ix rfl (de_var 1 (pv 1)) de_int (fun _ _ => rfl)) (de_ix rfl (de_var 0 (pv 0)) de_int (fun _ _ => rfl)))))
    (db_cons (ds_if (dt_cmp (op_eqDD rfl hu) (de_var 2 (pv 2)) de_int (nomark _)) (db_one (ds_ret de_int)) db_nil)
    (db_one (ds_ret (de_ifE (dt_cmp op_gtD (de_var 2 (pv 2)) de_int (nomark _)) de_int (de_un un_negD de_int))))))
theorem b__law_mix (g : Gls K mg) (cdv : Value) (A : Around) (outer : List Env) (s : Shared) (H : Hp) (E : XK) (f : Addr) (hr : Room 1 (A.deeper (envOfC q__law_mix (defScope (top 28)) s.heap.objs.size f cdv))) (tk : Takes (cxD Pg w K mg base sN__law_mix q__law_mix (defScope (top 28)) f cdv A outer s H E) (WD E))
    (hp : PassesOwn (model Pg w) (cxD Pg w K mg base sN__law_mix q__law_mix (defScope (top 28)) f cdv A outer s H E).A (cxD Pg w K mg base sN__law_mix q__law_mix (defScope (top 28)) f cdv A outer s H E).env (cxD Pg w K mg base sN__law_mix q__law_mix (defScope (top 28)) f cdv A outer s H E).xe) :
    DB (gx K) none (WD E) (cxD Pg w K mg base sN__law_mix q__law_mix (defScope (top 28)) f cdv A outer s H E) (defBody (top 28)) B__law_mix := by
  have KO := kindNone (G := gx K)
  have hu := hr.units
  skip
  exact (db_cons (ds_set sc__law_mix.nd rfl (.inl rfl) (de_bin (op_modD) (de_callTy (cr_intD) rfl g.f_int PyProof.Rows.Boot.«int» (da_cons (de_bin (op_addD rfl) (de_bin (op_addD rfl) (de_bin (op_mulD) (de_var 0 (pv 0)) de_int) (de_bin (op_mulD) (de_var 1 (pv 1)) de_int)) de_int) da_nil)) de_int))
    (db_cons (ds_set sc__law_mix.nd rfl (.inl rfl) (de_bin (op_modD) (de_callTy (cr_intD) rfl g.f_int PyProof.Rows.Boot.«int» (da_cons (de_bin (op_addD rfl) (de_bin (op_addD rfl) (de_bin (op_mulD) (de_var 2 (pv 2)) (de_var 2 (pv 2))) (de_bin (op_mulD) (de_bin (op_divD) (de_var 2 (pv 2)) de_int) de_int)) (de_bin (op_mulD) (de_var 1 (pv 1)) de_int)) da_nil)) de_int))
    (db_one (ds_ret (de_bin (op_divD) (de_bin (op_modD) (de_callTy (cr_intD) rfl g.f_int PyProof.Rows.Boot.«int» (da_cons (de_bin (op_addD rfl) (de_bin (op_divD) (de_bin (op_mulD) (de_var 3 (pv 3)) (de_var 3 (pv 3))) de_int) (de_var 2 (pv 2))) da_nil)) de_int) de_int)))))
theorem b__law_hand (g : Gls K mg) (cdv : Value) (A : Around) (outer : List Env) (s : Shared) (H : Hp) (E : XK) (f : Addr) (hr : Room 1 (A.deeper (envOfC q__law_hand (defScope (top 29)) s.heap.objs.size f cdv))) (tk : Takes (cxD Pg w K mg base sN__law_hand q__law_hand (defScope (top 29)) f cdv A outer s H E) (WD E))
    (hp : PassesOwn (model Pg w) (cxD Pg w K mg base sN__law_hand q__law_hand (defScope (top 29)) f cdv A outer s H E).A (cxD Pg w K mg base sN__law_hand q__law_hand (defScope (top 29)) f cdv A outer s H E).env (cxD Pg w K mg base sN__law_hand q__law_hand (defScope (top 29)) f cdv A outer s H E).xe) :
    DB (gx K) none (WD E) (cxD Pg w K mg base sN__law_hand q__law_hand (defScope (top 29)) f cdv A outer s H E) (defBody (top 29)) B__law_hand := by
  have KO := kindNone (G := gx K)
  have hu := hr.units
  skip
  exact (db_cons (ds_set sc__law_hand.nd rfl (.inl rfl) de_int)
    (db_cons (ds_for hp rfl (di_enum rfl rfl g.f_enumerate (da_cons (de_var 0 (pv 0)) da_nil)) (dg_tup rfl rfl (dgs_cons (dg_name (pg_name sc__law_hand.nd rfl (.inl rfl))) (dgs_cons (dg_name (pg_name sc__law_hand.nd rfl (.inl rfl))) dgs_nil))) (db_one (ds_set sc__law_hand.nd rfl (.inl rfl) (de_bin (op_modD) (de_callTy (cr_intD) rfl g.f_int PyProof.Rows.Boot.«int» (da_cons (de_bin (op_addD rfl) (de_bin (op_mulD) (de_var 1 (pv 1)) de_int) (de_bin (op_mulD) (de_callTy (cr_intD) rfl g.f_int PyProof.Rows.Boot.«int» (da_cons (de_var 3 (pv 3)) da_nil)) (de_bin (op_addD rfl) (de_var 2 (pv 2)) de_int))) da_nil)) de_int))))
    (db_one (ds_ret (de_new (da_cons (de_lc (own := [("cell", 3)]) (.inl rfl) rfl sc__law_hand.nd (di_seq rfl (de_var 0 (pv 0))) (show BlkOk sN__law_hand (defScope (top 29)) _ [("cell", 3)] from ⟨rfl, by decide +kernel, by decide +kernel, by decide +kernel, by decide +kernel⟩) (dgc_name (by decide) fun _ _ _ _ _ => pg_name sc__law_hand.nd rfl (.inl rfl)) (fun _ _ _ _ _ => pts0) (fun _ _ _ _ _ => (de_callB (cr_absD) rfl g.f_abs PyProof.Rows.Boot.«abs» (da_cons (de_callTy (cr_intD) rfl g.f_int PyProof.Rows.Boot.«int» (da_cons (de_var 3 (pv 3)) da_nil)) da_nil)))) (da_cons de_int (da_cons de_int (da_cons (de_var 1 (pv 1)) da_nil)))))))))
theorem b__law_gcd (g : Gls K mg) (cdv : Value) (A : Around) (outer : List Env) (s : Shared) (H : Hp) (E : XK) (f : Addr) (hr : Room 1 (A.deeper (envOfC q__law_gcd (defScope (top 31)) s.heap.objs.size f cdv))) (tk : Takes (cxD Pg w K mg base sN__law_gcd q__law_gcd (defScope (top 31)) f cdv A outer s H E) (WD E))
    (hp : PassesOwn (model Pg w) (cxD Pg w K mg base sN__law_gcd q__law_gcd (defScope (top 31)) f cdv A outer s H E).A (cxD Pg w K mg base sN__law_gcd q__law_gcd (defScope (top 31)) f cdv A outer s H E).env (cxD Pg w K mg base sN__law_gcd q__law_gcd (defScope (top 31)) f cdv A outer s H E).xe) :
    DB (gx K) none (WD E) (cxD Pg w K mg base sN__law_gcd q__law_gcd (defScope (top 31)) f cdv A outer s H E) (defBody (top 31)) B__law_gcd := by
  have KO := kindNone (G := gx K)
  have hu := hr.units
  skip
  exact (db_cons (ds_set sc__law_gcd.nd rfl (.inl rfl) (de_callB (cr_absD) rfl g.f_abs PyProof.Rows.Boot.«abs» (da_cons (de_var 0 (pv 0)) da_nil)))
    (db_cons (ds_set sc__law_gcd.nd rfl (.inl rfl) (de_callB (cr_absD) rfl g.f_abs PyProof.Rows.Boot.«abs» (da_cons (de_var 1 (pv 1)) da_nil)))
    (db_cons (ds_while hp (dt_cmp op_gtD (de_var 1 (pv 1)) de_int (nomark _)) (db_cons (ds_set sc__law_gcd.nd rfl (.inl rfl) (de_bin (op_modD) (de_callTy (cr_intD) rfl g.f_int PyProof.Rows.Boot.«int» (da_cons (de_var 0 (pv 0)) da_nil)) (de_var 1 (pv 1))))
    (db_cons (ds_set sc__law_gcd.nd rfl (.inl rfl) (de_var 1 (pv 1)))
    (db_one (ds_set sc__law_gcd.nd rfl (.inl rfl) (de_var 2 (pv 2)))))))
    (db_one (ds_ret (de_var 0 (pv 0)))))))
theorem b__law_compare (g : Gls K mg) (cdv : Value) (A : Around) (outer : List Env) (s : Shared) (H : Hp) (E : XK) (f : Addr) (hr : Room 1 (A.deeper (envOfC q__law_compare (defScope (top 36)) s.heap.objs.size f cdv))) (tk : Takes (cxD Pg w K mg base sN__law_compare q__law_compare (defScope (top 36)) f cdv A outer s H E) (WD E))
    (hp : PassesOwn (model Pg w) (cxD Pg w K mg base sN__law_compare q__law_compare (defScope (top 36)) f cdv A outer s H E).A (cxD Pg w K mg base sN__law_compare q__law_compare (defScope (top 36)) f cdv A outer s H E).env (cxD Pg w K mg base sN__law_compare q__law_compare (defScope (top 36)) f cdv A outer s H E).xe) :
    DB (gx K) none (WD E) (cxD Pg w K mg base sN__law_compare q__law_compare (defScope (top 36)) f cdv A outer s H E) (defBody (top 36)) B__law_compare := by
  have KO := kindNone (G := gx K)
  have hu := hr.units
  skip
  exact (db_cons (ds_set sc__law_compare.nd rfl (.inl rfl) (de_bin (op_mulD) (de_ix rfl (de_var 0 (pv 0)) de_int (fun _ _ => rfl)) (de_ix rfl (de_var 1 (pv 1)) de_int (fun _ _ => rfl))))
    (db_cons (ds_set sc__law_compare.nd rfl (.inl rfl) (de_bin (op_mulD) (de_ix rfl (de_var 1 (pv 1)) de_int (fun _ _ => rfl)) (de_ix rfl (de_var 0 (pv 0)) de_int (fun _ _ => rfl))))
    (db_one (ds_ret (de_ifE (dt_cmp op_ltD (de_var 2 (pv 2)) (de_var 3 (pv 3)) (nomark _)) (de_un un_negD de_int) (de_ifE (dt_cmp op_gtD (de_var 2 (pv 2)) (de_var 3 (pv 3)) (nomark _)) de_int de_int))))))
theorem b__law_is (g : Gls K mg) (cdv : Value) (A : Around) (outer : List Env) (s : Shared) (H : Hp) (E : XK) (f : Addr) (hr : Room 1 (A.deeper (envOfC q__law_is (defScope (top 44)) s.heap.objs.size f cdv))) (tk : Takes (cxD Pg w K mg base sN__law_is q__law_is (defScope (top 44)) f cdv A outer s H E) (WD E))
    (hp : PassesOwn (model Pg w) (cxD Pg w K mg base sN__law_is q__law_is (defScope (top 44)) f cdv A outer s H E).A (cxD Pg w K mg base sN__law_is q__law_is (defScope (top 44)) f cdv A outer s H E).env (cxD Pg w K mg base sN__law_is q__law_is (defScope (top 44)) f cdv A outer s H E).xe) :
    DB (gx K) none (WD E) (cxD Pg w K mg base sN__law_is q__law_is (defScope (top 44)) f cdv A outer s H E) (defBody (top 44)) B__law_is := by
  have KO := kindNone (G := gx K)
  have hu := hr.units
  skip
  exact (db_cons (ds_if (DW.dt (dw_or (dt_not (dt_tr rfl (de_callB (cr_isD KO rfl) rfl g.f_isinstance PyProof.Rows.Boot.«isinstance» (da_cons (de_var 0 (pv 0)) (da_cons (de_ty rfl g.f_tuple PyProof.Rows.Boot.«tuple») da_nil))))) (dw_or (dt_cmp (op_neDD rfl hu) (de_callB (cr_lenD rfl) rfl g.f_len PyProof.Rows.Boot.«len» (da_cons (de_var 0 (pv 0)) da_nil)) de_int (nomark _)) (dw_or (dt_not (dt_tr rfl (de_callB (cr_isD KO rfl) rfl g.f_isinstance PyProof.Rows.Boot.«isinstance» (da_cons (de_ix rfl (de_var 0 (pv 0)) de_int (fun _ _ => rfl)) (da_cons (de_ty rfl g.f_int PyProof.Rows.Boot.«int») da_nil))))) (dw_or1 (dt_not (dt_tr rfl (de_callB (cr_isD KO rfl) rfl g.f_isinstance PyProof.Rows.Boot.«isinstance» (da_cons (de_ix rfl (de_var 0 (pv 0)) de_int (fun _ _ => rfl)) (da_cons (de_ty rfl g.f_int PyProof.Rows.Boot.«int») da_nil)))))))))) (db_one (ds_ret de_bl)) db_nil)
    (db_one (ds_ret (de_and rfl (de_cmp (op_eqDD rfl hu) (de_var 0 (pv 0)) (de_var 1 (pv 1)) (nomark _)) (de_and rfl (de_not rfl (de_callB (cr_isD KO rfl) rfl g.f_isinstance PyProof.Rows.Boot.«isinstance» (da_cons (de_ix rfl (de_var 0 (pv 0)) de_int (fun _ _ => rfl)) (da_cons (de_ty rfl g.f_bool PyProof.Rows.Boot.«bool») da_nil)))) (de_one (de_not rfl (de_callB (cr_isD KO rfl) rfl g.f_isinstance PyProof.Rows.Boot.«isinstance» (da_cons (de_ix rfl (de_var 0 (pv 0)) de_int (fun _ _ => rfl)) (da_cons (de_ty rfl g.f_bool PyProof.Rows.Boot.«bool») da_nil))))))))))
theorem b_is_ratio (g : Gls K mg) (c_is_whole_1 : Callee (gx K) Pg w mg base "is_whole" 2 3 [.non] F_is_whole) (c_is_whole_2 : Callee (gx K) Pg w mg base "is_whole" 2 3 [.non, .non] F_is_whole) (cdv : Value) (A : Around) (outer : List Env) (s : Shared) (H : Hp) (E : XK) (f : Addr) (hr : Room 2 (A.deeper (envOfC q_is_ratio (defScope (top 8)) s.heap.objs.size f cdv))) (tk : Takes (cxD Pg w K mg base sN_is_ratio q_is_ratio (defScope (top 8)) f cdv A outer s H E) (WD E))
    (hp : PassesOwn (model Pg w) (cxD Pg w K mg base sN_is_ratio q_is_ratio (defScope (top 8)) f cdv A outer s H E).A (cxD Pg w K mg base sN_is_ratio q_is_ratio (defScope (top 8)) f cdv A outer s H E).env (cxD Pg w K mg base sN_is_ratio q_is_ratio (defScope (top 8)) f cdv A outer s H E).xe) :
    DB (gx K) none (WD E) (cxD Pg w K mg base sN_is_ratio q_is_ratio (defScope (top 8)) f cdv A outer s H E) (defBody (top 8)) B_is_ratio := by
  have KO := kindNone (G := gx K)
  have hu := hr.units
  skip
  exact (db_cons (ds_if (DW.dt (dw_or (dt_not (dt_tr rfl (de_callB (cr_isD KO rfl) rfl g.f_isinstance PyProof.Rows.Boot.«isinstance» (da_cons (de_var 0 (pv 0)) (da_cons (de_ty rfl g.f_tuple PyProof.Rows.Boot.«tuple») da_nil))))) (dw_or1 (dt_cmp (op_neDD rfl hu) (de_callB (cr_lenD rfl) rfl g.f_len PyProof.Rows.Boot.«len» (da_cons (de_var 0 (pv 0)) da_nil)) de_int (nomark _))))) (db_one (ds_ret de_bl)) db_nil)
    (db_cons (ds_if (DW.dt (dw_or (dt_not (dt_tr rfl (de_call (c_is_whole_2.mono (by decide)) rfl tk hr rfl (da_cons (de_ix rfl (de_var 0 (pv 0)) de_int (fun _ _ => rfl)) da_nil) rfl))) (dw_or1 (dt_not (dt_tr rfl (de_call (c_is_whole_1.mono (by decide)) rfl tk hr rfl (da_cons (de_ix rfl (de_var 0 (pv 0)) de_int (fun _ _ => rfl)) (da_cons de_int da_nil)) rfl)))))) (db_one (ds_ret de_bl)) db_nil)
    (db_one (ds_ret (de_cmp (op_eqDD rfl hu) (de_callG cr_gcdD rfl g.gcd (da_cons (de_ix rfl (de_var 0 (pv 0)) de_int (fun _ _ => rfl)) (da_cons (de_ix rfl (de_var 0 (pv 0)) de_int (fun _ _ => rfl)) da_nil))) de_int (nomark _))))))
theorem b_make_ratio (g : Gls K mg) (c_is_whole_1 : Callee (gx K) Pg w mg base "is_whole" 2 3 [.non] F_is_whole) (c_is_whole_2 : Callee (gx K) Pg w mg base "is_whole" 2 3 [.non, .non] F_is_whole) (c_lowered : Callee (gx K) Pg w mg base "lowered" 2 2 [] F_lowered) (cdv : Value) (A : Around) (outer : List Env) (s : Shared) (H : Hp) (E : XK) (f : Addr) (hr : Room 2 (A.deeper (envOfC q_make_ratio (defScope (top 10)) s.heap.objs.size f cdv))) (tk : Takes (cxD Pg w K mg base sN_make_ratio q_make_ratio (defScope (top 10)) f cdv A outer s H E) (WD E))
    (hp : PassesOwn (model Pg w) (cxD Pg w K mg base sN_make_ratio q_make_ratio (defScope (top 10)) f cdv A outer s H E).A (cxD Pg w K mg base sN_make_ratio q_make_ratio (defScope (top 10)) f cdv A outer s H E).env (cxD Pg w K mg base sN_make_ratio q_make_ratio (defScope (top 10)) f cdv A outer s H E).xe) :
    DB (gx K) none (WD E) (cxD Pg w K mg base sN_make_ratio q_make_ratio (defScope (top 10)) f cdv A outer s H E) (defBody (top 10)) B_make_ratio := by
  have KO := kindNone (G := gx K)
  have hu := hr.units
  skip
  exact (db_cons (ds_if (dt_not (dt_tr rfl (de_call (c_is_whole_2.mono (by decide)) rfl tk hr rfl (da_cons (de_var 0 (pv 0)) da_nil) rfl))) (db_one (ds_raise rfl tk (mk_sup g.x_BadRatio rfl hr rfl (da_cons de_str da_nil) rfl))) db_nil)
    (db_cons (ds_if (DW.dt (dw_or (dt_not (dt_tr rfl (de_call (c_is_whole_2.mono (by decide)) rfl tk hr rfl (da_cons (de_var 1 (pv 1)) da_nil) rfl))) (dw_or1 (dt_cmp (op_eqDD rfl hu) (de_var 1 (pv 1)) de_int (nomark _))))) (db_one (ds_raise rfl tk (mk_sup g.x_BadRatio rfl hr rfl (da_cons de_str da_nil) rfl))) db_nil)
    (db_one (ds_ret (de_call (c_lowered.mono (by decide)) rfl tk hr rfl (da_cons (de_var 0 (pv 0)) (da_cons (de_var 1 (pv 1)) da_nil)) rfl)))))
theorem b_plus (g : Gls K mg) (c_lowered : Callee (gx K) Pg w mg base "lowered" 2 2 [] F_lowered) (cdv : Value) (A : Around) (outer : List Env) (s : Shared) (H : Hp) (E : XK) (f : Addr) (hr : Room 2 (A.deeper (envOfC q_plus (defScope (top 11)) s.heap.objs.size f cdv))) (tk : Takes (cxD Pg w K mg base sN_plus q_plus (defScope (top 11)) f cdv A outer s H E) (WD E))
    (hp : PassesOwn (model Pg w) (cxD Pg w K mg base sN_plus q_plus (defScope (top 11)) f cdv A outer s H E).A (cxD Pg w K mg base sN_plus q_plus (defScope (top 11)) f cdv A outer s H E).env (cxD Pg w K mg base sN_plus q_plus (defScope (top 11)) f cdv A outer s H E).xe) :
    DB (gx K) none (WD E) (cxD Pg w K mg base sN_plus q_plus (defScope (top 11)) f cdv A outer s H E) (defBody (top 11)) B_plus := by
  have KO := kindNone (G := gx K)
  have hu := hr.units
  skip
  exact (db_cons (ds_if (DW.dt (dw_and (dt_cmp (op_eqDD rfl hu) (de_ix rfl (de_var 0 (pv 0)) de_int (fun _ _ => rfl)) de_int (nomark _)) (dw_and1 (dt_cmp (op_eqDD rfl hu) (de_ix rfl (de_var 1 (pv 1)) de_int (fun _ _ => rfl)) de_int (nomark _))))) (db_one (ds_ret (de_tup (da_cons (de_bin (op_addD rfl) (de_ix rfl (de_var 0 (pv 0)) de_int (fun _ _ => rfl)) (de_ix rfl (de_var 1 (pv 1)) de_int (fun _ _ => rfl))) (da_cons de_int da_nil))))) db_nil)
    (db_one (ds_ret (de_call (c_lowered.mono (by decide)) rfl tk hr rfl (da_cons (de_bin (op_addD rfl) (de_bin (op_mulD) (de_ix rfl (de_var 0 (pv 0)) de_int (fun _ _ => rfl)) (de_ix rfl (de_var 1 (pv 1)) de_int (fun _ _ => rfl))) (de_bin (op_mulD) (de_ix rfl (de_var 1 (pv 1)) de_int (fun _ _ => rfl)) (de_ix rfl (de_var 0 (pv 0)) de_int (fun _ _ => rfl)))) (da_cons (de_bin (op_mulD) (de_ix rfl (de_var 0 (pv 0)) de_int (fun _ _ => rfl)) (de_ix rfl (de_var 1 (pv 1)) de_int (fun _ _ => rfl))) da_nil)) rfl))))
theorem b_minus (g : Gls K mg) (c_lowered : Callee (gx K) Pg w mg base "lowered" 2 2 [] F_lowered) (cdv : Value) (A : Around) (outer : List Env) (s : Shared) (H : Hp) (E : XK) (f : Addr) (hr : Room 2 (A.deeper (envOfC q_minus (defScope (top 12)) s.heap.objs.size f cdv))) (tk : Takes (cxD Pg w K mg base sN_minus q_minus (defScope (top 12)) f cdv A outer s H E) (WD E))
    (hp : PassesOwn (model Pg w) (cxD Pg w K mg base sN_minus q_minus (defScope (top 12)) f cdv A outer s H E).A (cxD Pg w K mg base sN_minus q_minus (defScope (top 12)) f cdv A outer s H E).env (cxD Pg w K mg base sN_minus q_minus (defScope (top 12)) f cdv A outer s H E).xe) :
    DB (gx K) none (WD E) (cxD Pg w K mg base sN_minus q_minus (defScope (top 12)) f cdv A outer s H E) (defBody (top 12)) B_minus := by
  have KO := kindNone (G := gx K)
  have hu := hr.units
  skip
  exact (db_cons (ds_if (DW.dt (dw_and (dt_cmp (op_eqDD rfl hu) (de_ix rfl (de_var 0 (pv 0)) de_int (fun _ _ => rfl)) de_int (nomark _)) (dw_and1 (dt_cmp (op_eqDD rfl hu) (de_ix rfl (de_var 1 (pv 1)) de_int (fun _ _ => rfl)) de_int (nomark _))))) (db_one (ds_ret (de_tup (da_cons (de_bin (op_subD) (de_ix rfl (de_var 0 (pv 0)) de_int (fun _ _ => rfl)) (de_ix rfl (de_var 1 (pv 1)) de_int (fun _ _ => rfl))) (da_cons de_int da_nil))))) db_nil)
    (db_one (ds_ret (de_call (c_lowered.mono (by decide)) rfl tk hr rfl (da_cons (de_bin (op_subD) (de_bin (op_mulD) (de_ix rfl (de_var 0 (pv 0)) de_int (fun _ _ => rfl)) (de_ix rfl (de_var 1 (pv 1)) de_int (fun _ _ => rfl))) (de_bin (op_mulD) (de_ix rfl (de_var 1 (pv 1)) de_int (fun _ _ => rfl)) (de_ix rfl (de_var 0 (pv 0)) de_int (fun _ _ => rfl)))) (da_cons (de_bin (op_mulD) (de_ix rfl (de_var 0 (pv 0)) de_int (fun _ _ => rfl)) (de_ix rfl (de_var 1 (pv 1)) de_int (fun _ _ => rfl))) da_nil)) rfl))))
theorem b_times (g : Gls K mg) (c_lowered : Callee (gx K) Pg w mg base "lowered" 2 2 [] F_lowered) (cdv : Value) (A : Around) (outer : List Env) (s : Shared) (H : Hp) (E : XK) (f : Addr) (hr : Room 2 (A.deeper (envOfC q_times (defScope (top 13)) s.heap.objs.size f cdv))) (tk : Takes (cxD Pg w K mg base sN_times q_times (defScope (top 13)) f cdv A outer s H E) (WD E))
    (hp : PassesOwn (model Pg w) (cxD Pg w K mg base sN_times q_times (defScope (top 13)) f cdv A outer s H E).A (cxD Pg w K mg base sN_times q_times (defScope (top 13)) f cdv A outer s H E).env (cxD Pg w K mg base sN_times q_times (defScope (top 13)) f cdv A outer s H E).xe) :
    DB (gx K) none (WD E) (cxD Pg w K mg base sN_times q_times (defScope (top 13)) f cdv A outer s H E) (defBody (top 13)) B_times := by
  have KO := kindNone (G := gx K)
  have hu := hr.units
  skip
  exact (db_cons (ds_if (DW.dt (dw_and (dt_cmp (op_eqDD rfl hu) (de_ix rfl (de_var 0 (pv 0)) de_int (fun _ _ => rfl)) de_int (nomark _)) (dw_and1 (dt_cmp (op_eqDD rfl hu) (de_ix rfl (de_var 1 (pv 1)) de_int (fun _ _ => rfl)) de_int (nomark _))))) (db_one (ds_ret (de_tup (da_cons (de_bin (op_mulD) (de_ix rfl (de_var 0 (pv 0)) de_int (fun _ _ => rfl)) (de_ix rfl (de_var 1 (pv 1)) de_int (fun _ _ => rfl))) (da_cons de_int da_nil))))) db_nil)
    (db_one (ds_ret (de_call (c_lowered.mono (by decide)) rfl tk hr rfl (da_cons (de_bin (op_mulD) (de_ix rfl (de_var 0 (pv 0)) de_int (fun _ _ => rfl)) (de_ix rfl (de_var 1 (pv 1)) de_int (fun _ _ => rfl))) (da_cons (de_bin (op_mulD) (de_ix rfl (de_var 0 (pv 0)) de_int (fun _ _ => rfl)) (de_ix rfl (de_var 1 (pv 1)) de_int (fun _ _ => rfl))) da_nil)) rfl))))
theorem b_quarter_left (g : Gls K mg) (c_negative : Callee (gx K) Pg w mg base "negative" 2 1 [] F_negative) (cdv : Value) (A : Around) (outer : List Env) (s : Shared) (H : Hp) (E : XK) (f : Addr) (hr : Room 2 (A.deeper (envOfC q_quarter_left (defScope (top 24)) s.heap.objs.size f cdv))) (tk : Takes (cxD Pg w K mg base sN_quarter_left q_quarter_left (defScope (top 24)) f cdv A outer s H E) (WD E))
    (hp : PassesOwn (model Pg w) (cxD Pg w K mg base sN_quarter_left q_quarter_left (defScope (top 24)) f cdv A outer s H E).A (cxD Pg w K mg base sN_quarter_left q_quarter_left (defScope (top 24)) f cdv A outer s H E).env (cxD Pg w K mg base sN_quarter_left q_quarter_left (defScope (top 24)) f cdv A outer s H E).xe) :
    DB (gx K) none (WD E) (cxD Pg w K mg base sN_quarter_left q_quarter_left (defScope (top 24)) f cdv A outer s H E) (defBody (top 24)) B_quarter_left := by
  have KO := kindNone (G := gx K)
  have hu := hr.units
  skip
  exact (db_one (ds_ret (de_tup (da_cons (de_call (c_negative.mono (by decide)) rfl tk hr rfl (da_cons (de_ix rfl (de_var 0 (pv 0)) de_int (fun _ _ => rfl)) da_nil) rfl) (da_cons (de_ix rfl (de_var 0 (pv 0)) de_int (fun _ _ => rfl)) da_nil)))))
theorem b_compare_places (g : Gls K mg) (c_compare : Callee (gx K) Pg w mg base "compare" 2 2 [] F_compare) (cdv : Value) (A : Around) (outer : List Env) (s : Shared) (H : Hp) (E : XK) (f : Addr) (hr : Room 2 (A.deeper (envOfC q_compare_places (defScope (top 26)) s.heap.objs.size f cdv))) (tk : Takes (cxD Pg w K mg base sN_compare_places q_compare_places (defScope (top 26)) f cdv A outer s H E) (WD E))
    (hp : PassesOwn (model Pg w) (cxD Pg w K mg base sN_compare_places q_compare_places (defScope (top 26)) f cdv A outer s H E).A (cxD Pg w K mg base sN_compare_places q_compare_places (defScope (top 26)) f cdv A outer s H E).env (cxD Pg w K mg base sN_compare_places q_compare_places (defScope (top 26)) f cdv A outer s H E).xe) :
    DB (gx K) none (WD E) (cxD Pg w K mg base sN_compare_places q_compare_places (defScope (top 26)) f cdv A outer s H E) (defBody (top 26)) B_compare_places := by
  have KO := kindNone (G := gx K)
  have hu := hr.units
  skip
  exact (db_cons (ds_set sc_compare_places.nd rfl (.inl rfl) (de_call (c_compare.mono (by decide)) rfl tk hr rfl (da_cons (de_ix rfl (de_var 0 (pv 0)) de_int (fun _ _ => rfl)) (da_cons (de_ix rfl (de_var 1 (pv 1)) de_int (fun _ _ => rfl)) da_nil)) rfl))
    (db_one (ds_ret (de_ifE (dt_cmp (op_neDD rfl hu) (de_var 2 (pv 2)) de_int (nomark _)) (de_var 2 (pv 2)) (de_call (c_compare.mono (by decide)) rfl tk hr rfl (da_cons (de_ix rfl (de_var 0 (pv 0)) de_int (fun _ _ => rfl)) (da_cons (de_ix rfl (de_var 1 (pv 1)) de_int (fun _ _ => rfl)) da_nil)) rfl)))))
theorem b__law_draw (g : Gls K mg) (c__law_mix : Callee (gx K) Pg w mg base "_law_mix" 2 2 [] F__law_mix) (cdv : Value) (A : Around) (outer : List Env) (s : Shared) (H : Hp) (E : XK) (f : Addr) (hr : Room 2 (A.deeper (envOfC q__law_draw (defScope (top 30)) s.heap.objs.size f cdv))) (tk : Takes (cxD Pg w K mg base sN__law_draw q__law_draw (defScope (top 30)) f cdv A outer s H E) (WD E))
    (hp : PassesOwn (model Pg w) (cxD Pg w K mg base sN__law_draw q__law_draw (defScope (top 30)) f cdv A outer s H E).A (cxD Pg w K mg base sN__law_draw q__law_draw (defScope (top 30)) f cdv A outer s H E).env (cxD Pg w K mg base sN__law_draw q__law_draw (defScope (top 30)) f cdv A outer s H E).xe) :
    DB (gx K) none (WD E) (cxD Pg w K mg base sN__law_draw q__law_draw (defScope (top 30)) f cdv A outer s H E) (defBody (top 30)) B__law_draw := by
  have KO := kindNone (G := gx K)
  have hu := hr.units
  skip
  exact (db_cons (ds_if (DW.dt (dw_and (dt_cmp (op_eqDD rfl hu) (de_ix rfl (de_var 0 (pv 0)) de_int (fun _ _ => rfl)) de_int (nomark _)) (dw_and1 (dt_cmp op_ltD (de_ix rfl (de_var 0 (pv 0)) de_int (fun _ _ => rfl)) (de_callB (cr_lenD rfl) rfl g.f_len PyProof.Rows.Boot.«len» (da_cons (de_ix rfl (de_var 0 (pv 0)) de_int (fun _ _ => rfl)) da_nil)) (nomark _))))) (db_cons (ds_set sc__law_draw.nd rfl (.inl rfl) (de_ix rfl (de_ix rfl (de_var 0 (pv 0)) de_int (fun _ _ => rfl)) (de_ix rfl (de_var 0 (pv 0)) de_int (fun _ _ => rfl)) (fun _ _ => rfl)))
    (db_cons (ds_asg (de_bin (op_addD rfl) (de_ix rfl (de_var 0 (pv 0)) de_int (fun _ _ => rfl)) de_int) (dg_sub (de_var 0 (pv 0)) de_int))
    (db_cons (ds_if (dt_cmp op_ltD (de_var 2 (pv 2)) (de_bin (op_powD) de_int de_int) (nomark _)) (db_one (ds_ret (de_bin (op_modD) (de_callTy (cr_intD) rfl g.f_int PyProof.Rows.Boot.«int» (da_cons (de_call (c__law_mix.mono (by decide)) rfl tk hr rfl (da_cons (de_bin (op_modD) (de_callTy (cr_intD) rfl g.f_int PyProof.Rows.Boot.«int» (da_cons (de_var 2 (pv 2)) da_nil)) de_int) (da_cons (de_ix rfl (de_var 0 (pv 0)) de_int (fun _ _ => rfl)) da_nil)) rfl) da_nil)) (de_var 1 (pv 1))))) db_nil)
    (db_one (ds_asg (de_var 2 (pv 2)) (dg_sub (de_var 0 (pv 0)) de_int)))))) db_nil)
    (db_cons (ds_if (dt_cmp op_gtD (de_ix rfl (de_var 0 (pv 0)) de_int (fun _ _ => rfl)) de_int (nomark _)) (db_cons (ds_set sc__law_draw.nd rfl (.inl rfl) (de_ix rfl (de_var 0 (pv 0)) de_int (fun _ _ => rfl)))
    (db_cons (ds_asg (de_bin (op_divD) (de_var 3 (pv 3)) (de_var 1 (pv 1))) (dg_sub (de_var 0 (pv 0)) de_int))
    (db_one (ds_ret (de_bin (op_modD) (de_callTy (cr_intD) rfl g.f_int PyProof.Rows.Boot.«int» (da_cons (de_var 3 (pv 3)) da_nil)) (de_var 1 (pv 1))))))) db_nil)
    (db_cons (ds_asg (de_bin (op_modD) (de_callTy (cr_intD) rfl g.f_int PyProof.Rows.Boot.«int» (da_cons (de_bin (op_addD rfl) (de_ix rfl (de_var 0 (pv 0)) de_int (fun _ _ => rfl)) de_int) da_nil)) de_int) (dg_sub (de_var 0 (pv 0)) de_int))
    (db_one (ds_ret (de_bin (op_modD) (de_callTy (cr_intD) rfl g.f_int PyProof.Rows.Boot.«int» (da_cons (de_call (c__law_mix.mono (by decide)) rfl tk hr rfl (da_cons (de_ix rfl (de_var 0 (pv 0)) de_int (fun _ _ => rfl)) (da_cons (de_ix rfl (de_var 0 (pv 0)) de_int (fun _ _ => rfl)) da_nil)) rfl) da_nil)) (de_var 1 (pv 1))))))))
theorem b__law_ratio (g : Gls K mg) (c__law_gcd : Callee (gx K) Pg w mg base "_law_gcd" 2 2 [] F__law_gcd) (cdv : Value) (A : Around) (outer : List Env) (s : Shared) (H : Hp) (E : XK) (f : Addr) (hr : Room 2 (A.deeper (envOfC q__law_ratio (defScope (top 32)) s.heap.objs.size f cdv))) (tk : Takes (cxD Pg w K mg base sN__law_ratio q__law_ratio (defScope (top 32)) f cdv A outer s H E) (WD E))
    (hp : PassesOwn (model Pg w) (cxD Pg w K mg base sN__law_ratio q__law_ratio (defScope (top 32)) f cdv A outer s H E).A (cxD Pg w K mg base sN__law_ratio q__law_ratio (defScope (top 32)) f cdv A outer s H E).env (cxD Pg w K mg base sN__law_ratio q__law_ratio (defScope (top 32)) f cdv A outer s H E).xe) :
    DB (gx K) none (WD E) (cxD Pg w K mg base sN__law_ratio q__law_ratio (defScope (top 32)) f cdv A outer s H E) (defBody (top 32)) B__law_ratio := by
  have KO := kindNone (G := gx K)
  have hu := hr.units
  skip
  exact (db_cons (ds_set sc__law_ratio.nd rfl (.inl rfl) (de_call (c__law_gcd.mono (by decide)) rfl tk hr rfl (da_cons (de_var 0 (pv 0)) (da_cons (de_var 1 (pv 1)) da_nil)) rfl))
    (db_cons (ds_if (dt_cmp op_ltD (de_var 1 (pv 1)) de_int (nomark _)) (db_one (ds_set sc__law_ratio.nd rfl (.inl rfl) (de_un un_negD (de_var 2 (pv 2))))) db_nil)
    (db_one (ds_ret (de_tup (da_cons (de_bin (op_divD) (de_var 0 (pv 0)) (de_var 2 (pv 2))) (da_cons (de_bin (op_divD) (de_var 1 (pv 1)) (de_var 2 (pv 2))) da_nil)))))))
theorem b__law_both (g : Gls K mg) (c__law_is : Callee (gx K) Pg w mg base "_law_is" 2 2 [] F__law_is) (cdv : Value) (A : Around) (outer : List Env) (s : Shared) (H : Hp) (E : XK) (f : Addr) (hr : Room 2 (A.deeper (envOfC q__law_both (defScope (top 45)) s.heap.objs.size f cdv))) (tk : Takes (cxD Pg w K mg base sN__law_both q__law_both (defScope (top 45)) f cdv A outer s H E) (WD E))
    (hp : PassesOwn (model Pg w) (cxD Pg w K mg base sN__law_both q__law_both (defScope (top 45)) f cdv A outer s H E).A (cxD Pg w K mg base sN__law_both q__law_both (defScope (top 45)) f cdv A outer s H E).env (cxD Pg w K mg base sN__law_both q__law_both (defScope (top 45)) f cdv A outer s H E).xe) :
    DB (gx K) none (WD E) (cxD Pg w K mg base sN__law_both q__law_both (defScope (top 45)) f cdv A outer s H E) (defBody (top 45)) B__law_both := by
  have KO := kindNone (G := gx K)
  have hu := hr.units
  skip
  exact (db_one (ds_ret (de_and rfl (de_callB (cr_isD KO rfl) rfl g.f_isinstance PyProof.Rows.Boot.«isinstance» (da_cons (de_var 0 (pv 0)) (da_cons (de_ty rfl g.f_tuple PyProof.Rows.Boot.«tuple») da_nil))) (de_and rfl (de_cmp (op_eqDD rfl hu) (de_callB (cr_lenD rfl) rfl g.f_len PyProof.Rows.Boot.«len» (da_cons (de_var 0 (pv 0)) da_nil)) de_int (nomark _)) (de_and rfl (de_call (c__law_is.mono (by decide)) rfl tk hr rfl (da_cons (de_ix rfl (de_var 0 (pv 0)) de_int (fun _ _ => rfl)) (da_cons (de_ix rfl (de_var 1 (pv 1)) de_int (fun _ _ => rfl)) da_nil)) rfl) (de_one (de_call (c__law_is.mono (by decide)) rfl tk hr rfl (da_cons (de_ix rfl (de_var 0 (pv 0)) de_int (fun _ _ => rfl)) (da_cons (de_ix rfl (de_var 1 (pv 1)) de_int (fun _ _ => rfl)) da_nil)) rfl)))))))
theorem b__law_order (g : Gls K mg) (c__law_compare : Callee (gx K) Pg w mg base "_law_compare" 2 2 [] F__law_compare) (cdv : Value) (A : Around) (outer : List Env) (s : Shared) (H : Hp) (E : XK) (f : Addr) (hr : Room 2 (A.deeper (envOfC q__law_order (defScope (top 46)) s.heap.objs.size f cdv))) (tk : Takes (cxD Pg w K mg base sN__law_order q__law_order (defScope (top 46)) f cdv A outer s H E) (WD E))
    (hp : PassesOwn (model Pg w) (cxD Pg w K mg base sN__law_order q__law_order (defScope (top 46)) f cdv A outer s H E).A (cxD Pg w K mg base sN__law_order q__law_order (defScope (top 46)) f cdv A outer s H E).env (cxD Pg w K mg base sN__law_order q__law_order (defScope (top 46)) f cdv A outer s H E).xe) :
    DB (gx K) none (WD E) (cxD Pg w K mg base sN__law_order q__law_order (defScope (top 46)) f cdv A outer s H E) (defBody (top 46)) B__law_order := by
  have KO := kindNone (G := gx K)
  have hu := hr.units
  skip
  exact (db_cons (ds_set sc__law_order.nd rfl (.inl rfl) (de_call (c__law_compare.mono (by decide)) rfl tk hr rfl (da_cons (de_ix rfl (de_var 0 (pv 0)) de_int (fun _ _ => rfl)) (da_cons (de_ix rfl (de_var 1 (pv 1)) de_int (fun _ _ => rfl)) da_nil)) rfl))
    (db_one (ds_ret (de_ifE (dt_cmp (op_neDD rfl hu) (de_var 2 (pv 2)) de_int (nomark _)) (de_var 2 (pv 2)) (de_call (c__law_compare.mono (by decide)) rfl tk hr rfl (da_cons (de_ix rfl (de_var 0 (pv 0)) de_int (fun _ _ => rfl)) (da_cons (de_ix rfl (de_var 1 (pv 1)) de_int (fun _ _ => rfl)) da_nil)) rfl)))))
theorem b_is_couple (g : Gls K mg) (c_is_ratio : Callee (gx K) Pg w mg base "is_ratio" 3 1 [] F_is_ratio) (cdv : Value) (A : Around) (outer : List Env) (s : Shared) (H : Hp) (E : XK) (f : Addr) (hr : Room 3 (A.deeper (envOfC q_is_couple (defScope (top 17)) s.heap.objs.size f cdv))) (tk : Takes (cxD Pg w K mg base sN_is_couple q_is_couple (defScope (top 17)) f cdv A outer s H E) (WD E))
    (hp : PassesOwn (model Pg w) (cxD Pg w K mg base sN_is_couple q_is_couple (defScope (top 17)) f cdv A outer s H E).A (cxD Pg w K mg base sN_is_couple q_is_couple (defScope (top 17)) f cdv A outer s H E).env (cxD Pg w K mg base sN_is_couple q_is_couple (defScope (top 17)) f cdv A outer s H E).xe) :
    DB (gx K) none (WD E) (cxD Pg w K mg base sN_is_couple q_is_couple (defScope (top 17)) f cdv A outer s H E) (defBody (top 17)) B_is_couple := by
  have KO := kindNone (G := gx K)
  have hu := hr.units
  skip
  exact (db_cons (ds_if (DW.dt (dw_or (dt_not (dt_tr rfl (de_is2 rfl rfl g.f_isinstance (de_var 0 (pv 0)) rfl g.f_list PyProof.Rows.Boot.«list» rfl g.f_tuple PyProof.Rows.Boot.«tuple»))) (dw_or1 (dt_cmp (op_neDD rfl hu) (de_callB (cr_lenD rfl) rfl g.f_len PyProof.Rows.Boot.«len» (da_cons (de_var 0 (pv 0)) da_nil)) de_int (nomark _))))) (db_one (ds_ret de_bl)) db_nil)
    (db_one (ds_ret (de_and rfl (de_call (c_is_ratio.mono (by decide)) rfl tk hr rfl (da_cons (de_ix rfl (de_var 0 (pv 0)) de_int (fun _ _ => rfl)) da_nil) rfl) (de_one (de_call (c_is_ratio.mono (by decide)) rfl tk hr rfl (da_cons (de_ix rfl (de_var 0 (pv 0)) de_int (fun _ _ => rfl)) da_nil) rfl))))))
theorem b_place_plus (g : Gls K mg) (c_plus : Callee (gx K) Pg w mg base "plus" 3 2 [] F_plus) (cdv : Value) (A : Around) (outer : List Env) (s : Shared) (H : Hp) (E : XK) (f : Addr) (hr : Room 3 (A.deeper (envOfC q_place_plus (defScope (top 19)) s.heap.objs.size f cdv))) (tk : Takes (cxD Pg w K mg base sN_place_plus q_place_plus (defScope (top 19)) f cdv A outer s H E) (WD E))
    (hp : PassesOwn (model Pg w) (cxD Pg w K mg base sN_place_plus q_place_plus (defScope (top 19)) f cdv A outer s H E).A (cxD Pg w K mg base sN_place_plus q_place_plus (defScope (top 19)) f cdv A outer s H E).env (cxD Pg w K mg base sN_place_plus q_place_plus (defScope (top 19)) f cdv A outer s H E).xe) :
    DB (gx K) none (WD E) (cxD Pg w K mg base sN_place_plus q_place_plus (defScope (top 19)) f cdv A outer s H E) (defBody (top 19)) B_place_plus := by
  have KO := kindNone (G := gx K)
  have hu := hr.units
  skip
  exact (db_one (ds_ret (de_tup (da_cons (de_call (c_plus.mono (by decide)) rfl tk hr rfl (da_cons (de_ix rfl (de_var 0 (pv 0)) de_int (fun _ _ => rfl)) (da_cons (de_ix rfl (de_var 1 (pv 1)) de_int (fun _ _ => rfl)) da_nil)) rfl) (da_cons (de_call (c_plus.mono (by decide)) rfl tk hr rfl (da_cons (de_ix rfl (de_var 0 (pv 0)) de_int (fun _ _ => rfl)) (da_cons (de_ix rfl (de_var 1 (pv 1)) de_int (fun _ _ => rfl)) da_nil)) rfl) da_nil)))))
theorem b_place_minus (g : Gls K mg) (c_minus : Callee (gx K) Pg w mg base "minus" 3 2 [] F_minus) (cdv : Value) (A : Around) (outer : List Env) (s : Shared) (H : Hp) (E : XK) (f : Addr) (hr : Room 3 (A.deeper (envOfC q_place_minus (defScope (top 20)) s.heap.objs.size f cdv))) (tk : Takes (cxD Pg w K mg base sN_place_minus q_place_minus (defScope (top 20)) f cdv A outer s H E) (WD E))
    (hp : PassesOwn (model Pg w) (cxD Pg w K mg base sN_place_minus q_place_minus (defScope (top 20)) f cdv A outer s H E).A (cxD Pg w K mg base sN_place_minus q_place_minus (defScope (top 20)) f cdv A outer s H E).env (cxD Pg w K mg base sN_place_minus q_place_minus (defScope (top 20)) f cdv A outer s H E).xe) :
    DB (gx K) none (WD E) (cxD Pg w K mg base sN_place_minus q_place_minus (defScope (top 20)) f cdv A outer s H E) (defBody (top 20)) B_place_minus := by
  have KO := kindNone (G := gx K)
  have hu := hr.units
  skip
  exact (db_one (ds_ret (de_tup (da_cons (de_call (c_minus.mono (by decide)) rfl tk hr rfl (da_cons (de_ix rfl (de_var 0 (pv 0)) de_int (fun _ _ => rfl)) (da_cons (de_ix rfl (de_var 1 (pv 1)) de_int (fun _ _ => rfl)) da_nil)) rfl) (da_cons (de_call (c_minus.mono (by decide)) rfl tk hr rfl (da_cons (de_ix rfl (de_var 0 (pv 0)) de_int (fun _ _ => rfl)) (da_cons (de_ix rfl (de_var 1 (pv 1)) de_int (fun _ _ => rfl)) da_nil)) rfl) da_nil)))))
theorem b_place_scaled (g : Gls K mg) (c_times : Callee (gx K) Pg w mg base "times" 3 2 [] F_times) (cdv : Value) (A : Around) (outer : List Env) (s : Shared) (H : Hp) (E : XK) (f : Addr) (hr : Room 3 (A.deeper (envOfC q_place_scaled (defScope (top 21)) s.heap.objs.size f cdv))) (tk : Takes (cxD Pg w K mg base sN_place_scaled q_place_scaled (defScope (top 21)) f cdv A outer s H E) (WD E))
    (hp : PassesOwn (model Pg w) (cxD Pg w K mg base sN_place_scaled q_place_scaled (defScope (top 21)) f cdv A outer s H E).A (cxD Pg w K mg base sN_place_scaled q_place_scaled (defScope (top 21)) f cdv A outer s H E).env (cxD Pg w K mg base sN_place_scaled q_place_scaled (defScope (top 21)) f cdv A outer s H E).xe) :
    DB (gx K) none (WD E) (cxD Pg w K mg base sN_place_scaled q_place_scaled (defScope (top 21)) f cdv A outer s H E) (defBody (top 21)) B_place_scaled := by
  have KO := kindNone (G := gx K)
  have hu := hr.units
  skip
  exact (db_one (ds_ret (de_tup (da_cons (de_call (c_times.mono (by decide)) rfl tk hr rfl (da_cons (de_ix rfl (de_var 0 (pv 0)) de_int (fun _ _ => rfl)) (da_cons (de_var 1 (pv 1)) da_nil)) rfl) (da_cons (de_call (c_times.mono (by decide)) rfl tk hr rfl (da_cons (de_ix rfl (de_var 0 (pv 0)) de_int (fun _ _ => rfl)) (da_cons (de_var 1 (pv 1)) da_nil)) rfl) da_nil)))))
theorem b_dot_of (g : Gls K mg) (c_plus : Callee (gx K) Pg w mg base "plus" 3 2 [] F_plus) (c_times : Callee (gx K) Pg w mg base "times" 3 2 [] F_times) (cdv : Value) (A : Around) (outer : List Env) (s : Shared) (H : Hp) (E : XK) (f : Addr) (hr : Room 3 (A.deeper (envOfC q_dot_of (defScope (top 22)) s.heap.objs.size f cdv))) (tk : Takes (cxD Pg w K mg base sN_dot_of q_dot_of (defScope (top 22)) f cdv A outer s H E) (WD E))
    (hp : PassesOwn (model Pg w) (cxD Pg w K mg base sN_dot_of q_dot_of (defScope (top 22)) f cdv A outer s H E).A (cxD Pg w K mg base sN_dot_of q_dot_of (defScope (top 22)) f cdv A outer s H E).env (cxD Pg w K mg base sN_dot_of q_dot_of (defScope (top 22)) f cdv A outer s H E).xe) :
    DB (gx K) none (WD E) (cxD Pg w K mg base sN_dot_of q_dot_of (defScope (top 22)) f cdv A outer s H E) (defBody (top 22)) B_dot_of := by
  have KO := kindNone (G := gx K)
  have hu := hr.units
  skip
  exact (db_one (ds_ret (de_call (c_plus.mono (by decide)) rfl tk hr rfl (da_cons (de_call (c_times.mono (by decide)) rfl tk hr rfl (da_cons (de_ix rfl (de_var 0 (pv 0)) de_int (fun _ _ => rfl)) (da_cons (de_ix rfl (de_var 1 (pv 1)) de_int (fun _ _ => rfl)) da_nil)) rfl) (da_cons (de_call (c_times.mono (by decide)) rfl tk hr rfl (da_cons (de_ix rfl (de_var 0 (pv 0)) de_int (fun _ _ => rfl)) (da_cons (de_ix rfl (de_var 1 (pv 1)) de_int (fun _ _ => rfl)) da_nil)) rfl) da_nil)) rfl)))
theorem b_cross_of (g : Gls K mg) (c_minus : Callee (gx K) Pg w mg base "minus" 3 2 [] F_minus) (c_times : Callee (gx K) Pg w mg base "times" 3 2 [] F_times) (cdv : Value) (A : Around) (outer : List Env) (s : Shared) (H : Hp) (E : XK) (f : Addr) (hr : Room 3 (A.deeper (envOfC q_cross_of (defScope (top 23)) s.heap.objs.size f cdv))) (tk : Takes (cxD Pg w K mg base sN_cross_of q_cross_of (defScope (top 23)) f cdv A outer s H E) (WD E))
    (hp : PassesOwn (model Pg w) (cxD Pg w K mg base sN_cross_of q_cross_of (defScope (top 23)) f cdv A outer s H E).A (cxD Pg w K mg base sN_cross_of q_cross_of (defScope (top 23)) f cdv A outer s H E).env (cxD Pg w K mg base sN_cross_of q_cross_of (defScope (top 23)) f cdv A outer s H E).xe) :
    DB (gx K) none (WD E) (cxD Pg w K mg base sN_cross_of q_cross_of (defScope (top 23)) f cdv A outer s H E) (defBody (top 23)) B_cross_of := by
  have KO := kindNone (G := gx K)
  have hu := hr.units
  skip
  exact (db_one (ds_ret (de_call (c_minus.mono (by decide)) rfl tk hr rfl (da_cons (de_call (c_times.mono (by decide)) rfl tk hr rfl (da_cons (de_ix rfl (de_var 0 (pv 0)) de_int (fun _ _ => rfl)) (da_cons (de_ix rfl (de_var 1 (pv 1)) de_int (fun _ _ => rfl)) da_nil)) rfl) (da_cons (de_call (c_times.mono (by decide)) rfl tk hr rfl (da_cons (de_ix rfl (de_var 0 (pv 0)) de_int (fun _ _ => rfl)) (da_cons (de_ix rfl (de_var 1 (pv 1)) de_int (fun _ _ => rfl)) da_nil)) rfl) da_nil)) rfl)))
theorem b__law_plus (g : Gls K mg) (c__law_ratio : Callee (gx K) Pg w mg base "_law_ratio" 3 2 [] F__law_ratio) (cdv : Value) (A : Around) (outer : List Env) (s : Shared) (H : Hp) (E : XK) (f : Addr) (hr : Room 3 (A.deeper (envOfC q__law_plus (defScope (top 33)) s.heap.objs.size f cdv))) (tk : Takes (cxD Pg w K mg base sN__law_plus q__law_plus (defScope (top 33)) f cdv A outer s H E) (WD E))
    (hp : PassesOwn (model Pg w) (cxD Pg w K mg base sN__law_plus q__law_plus (defScope (top 33)) f cdv A outer s H E).A (cxD Pg w K mg base sN__law_plus q__law_plus (defScope (top 33)) f cdv A outer s H E).env (cxD Pg w K mg base sN__law_plus q__law_plus (defScope (top 33)) f cdv A outer s H E).xe) :
    DB (gx K) none (WD E) (cxD Pg w K mg base sN__law_plus q__law_plus (defScope (top 33)) f cdv A outer s H E) (defBody (top 33)) B__law_plus := by
  have KO := kindNone (G := gx K)
  have hu := hr.units
  skip
  exact (db_one (ds_ret (de_call (c__law_ratio.mono (by decide)) rfl tk hr rfl (da_cons (de_bin (op_addD rfl) (de_bin (op_mulD) (de_ix rfl (de_var 0 (pv 0)) de_int (fun _ _ => rfl)) (de_ix rfl (de_var 1 (pv 1)) de_int (fun _ _ => rfl))) (de_bin (op_mulD) (de_ix rfl (de_var 1 (pv 1)) de_int (fun _ _ => rfl)) (de_ix rfl (de_var 0 (pv 0)) de_int (fun _ _ => rfl)))) (da_cons (de_bin (op_mulD) (de_ix rfl (de_var 0 (pv 0)) de_int (fun _ _ => rfl)) (de_ix rfl (de_var 1 (pv 1)) de_int (fun _ _ => rfl))) da_nil)) rfl)))
theorem b__law_minus (g : Gls K mg) (c__law_ratio : Callee (gx K) Pg w mg base "_law_ratio" 3 2 [] F__law_ratio) (cdv : Value) (A : Around) (outer : List Env) (s : Shared) (H : Hp) (E : XK) (f : Addr) (hr : Room 3 (A.deeper (envOfC q__law_minus (defScope (top 34)) s.heap.objs.size f cdv))) (tk : Takes (cxD Pg w K mg base sN__law_minus q__law_minus (defScope (top 34)) f cdv A outer s H E) (WD E))
    (hp : PassesOwn (model Pg w) (cxD Pg w K mg base sN__law_minus q__law_minus (defScope (top 34)) f cdv A outer s H E).A (cxD Pg w K mg base sN__law_minus q__law_minus (defScope (top 34)) f cdv A outer s H E).env (cxD Pg w K mg base sN__law_minus q__law_minus (defScope (top 34)) f cdv A outer s H E).xe) :
    DB (gx K) none (WD E) (cxD Pg w K mg base sN__law_minus q__law_minus (defScope (top 34)) f cdv A outer s H E) (defBody (top 34)) B__law_minus := by
  have KO := kindNone (G := gx K)
  have hu := hr.units
  skip
  exact (db_one (ds_ret (de_call (c__law_ratio.mono (by decide)) rfl tk hr rfl (da_cons (de_bin (op_subD) (de_bin (op_mulD) (de_ix rfl (de_var 0 (pv 0)) de_int (fun _ _ => rfl)) (de_ix rfl (de_var 1 (pv 1)) de_int (fun _ _ => rfl))) (de_bin (op_mulD) (de_ix rfl (de_var 1 (pv 1)) de_int (fun _ _ => rfl)) (de_ix rfl (de_var 0 (pv 0)) de_int (fun _ _ => rfl)))) (da_cons (de_bin (op_mulD) (de_ix rfl (de_var 0 (pv 0)) de_int (fun _ _ => rfl)) (de_ix rfl (de_var 1 (pv 1)) de_int (fun _ _ => rfl))) da_nil)) rfl)))
theorem b__law_times (g : Gls K mg) (c__law_ratio : Callee (gx K) Pg w mg base "_law_ratio" 3 2 [] F__law_ratio) (cdv : Value) (A : Around) (outer : List Env) (s : Shared) (H : Hp) (E : XK) (f : Addr) (hr : Room 3 (A.deeper (envOfC q__law_times (defScope (top 35)) s.heap.objs.size f cdv))) (tk : Takes (cxD Pg w K mg base sN__law_times q__law_times (defScope (top 35)) f cdv A outer s H E) (WD E))
    (hp : PassesOwn (model Pg w) (cxD Pg w K mg base sN__law_times q__law_times (defScope (top 35)) f cdv A outer s H E).A (cxD Pg w K mg base sN__law_times q__law_times (defScope (top 35)) f cdv A outer s H E).env (cxD Pg w K mg base sN__law_times q__law_times (defScope (top 35)) f cdv A outer s H E).xe) :
    DB (gx K) none (WD E) (cxD Pg w K mg base sN__law_times q__law_times (defScope (top 35)) f cdv A outer s H E) (defBody (top 35)) B__law_times := by
  have KO := kindNone (G := gx K)
  have hu := hr.units
  skip
  exact (db_one (ds_ret (de_call (c__law_ratio.mono (by decide)) rfl tk hr rfl (da_cons (de_bin (op_mulD) (de_ix rfl (de_var 0 (pv 0)) de_int (fun _ _ => rfl)) (de_ix rfl (de_var 1 (pv 1)) de_int (fun _ _ => rfl))) (da_cons (de_bin (op_mulD) (de_ix rfl (de_var 0 (pv 0)) de_int (fun _ _ => rfl)) (de_ix rfl (de_var 1 (pv 1)) de_int (fun _ _ => rfl))) da_nil)) rfl)))
theorem b__law_couple (g : Gls K mg) (c__law_draw : Callee (gx K) Pg w mg base "_law_draw" 3 2 [] F__law_draw) (c__law_ratio : Callee (gx K) Pg w mg base "_law_ratio" 3 2 [] F__law_ratio) (cdv : Value) (A : Around) (outer : List Env) (s : Shared) (H : Hp) (E : XK) (f : Addr) (hr : Room 3 (A.deeper (envOfC q__law_couple (defScope (top 42)) s.heap.objs.size f cdv))) (tk : Takes (cxD Pg w K mg base sN__law_couple q__law_couple (defScope (top 42)) f cdv A outer s H E) (WD E))
    (hp : PassesOwn (model Pg w) (cxD Pg w K mg base sN__law_couple q__law_couple (defScope (top 42)) f cdv A outer s H E).A (cxD Pg w K mg base sN__law_couple q__law_couple (defScope (top 42)) f cdv A outer s H E).env (cxD Pg w K mg base sN__law_couple q__law_couple (defScope (top 42)) f cdv A outer s H E).xe) :
    DB (gx K) none (WD E) (cxD Pg w K mg base sN__law_couple q__law_couple (defScope (top 42)) f cdv A outer s H E) (defBody (top 42)) B__law_couple := by
  have KO := kindNone (G := gx K)
  have hu := hr.units
  skip
  exact (db_cons (ds_if (DW.dt (dw_and (dt_tr rfl (de_var 1 (pv 1))) (dw_and1 (dt_cmp (op_eqDD rfl hu) (de_call (c__law_draw.mono (by decide)) rfl tk hr rfl (da_cons (de_var 0 (pv 0)) (da_cons de_int da_nil)) rfl) de_int (nomark _))))) (db_one (ds_ret (de_ix rfl (de_var 1 (pv 1)) (de_call (c__law_draw.mono (by decide)) rfl tk hr rfl (da_cons (de_var 0 (pv 0)) (da_cons (de_callB (cr_lenD rfl) rfl g.f_len PyProof.Rows.Boot.«len» (da_cons (de_var 1 (pv 1)) da_nil)) da_nil)) rfl) (fun _ _ => rfl)))) db_nil)
    (db_cons (ds_set sc__law_couple.nd rfl (.inl rfl) (de_call (c__law_draw.mono (by decide)) rfl tk hr rfl (da_cons (de_var 0 (pv 0)) (da_cons (de_ix rfl (de_lst (da_cons de_int (da_cons de_int (da_cons (de_bin (op_powD) de_int de_int) da_nil)))) (de_call (c__law_draw.mono (by decide)) rfl tk hr rfl (da_cons (de_var 0 (pv 0)) (da_cons de_int da_nil)) rfl) (fun _ _ => rfl)) da_nil)) rfl))
    (db_cons (ds_set sc__law_couple.nd rfl (.inl rfl) (de_call (c__law_ratio.mono (by decide)) rfl tk hr rfl (da_cons (de_bin (op_mulD) (de_var 2 (pv 2)) (de_bin (op_subD) de_int (de_bin (op_mulD) de_int (de_call (c__law_draw.mono (by decide)) rfl tk hr rfl (da_cons (de_var 0 (pv 0)) (da_cons de_int da_nil)) rfl)))) (da_cons (de_bin (op_addD rfl) de_int (de_call (c__law_draw.mono (by decide)) rfl tk hr rfl (da_cons (de_var 0 (pv 0)) (da_cons de_int da_nil)) rfl)) da_nil)) rfl))
    (db_cons (ds_if (DW.dt (dw_and (dt_tr rfl (de_var 1 (pv 1))) (dw_and1 (dt_cmp (op_eqDD rfl hu) (de_call (c__law_draw.mono (by decide)) rfl tk hr rfl (da_cons (de_var 0 (pv 0)) (da_cons de_int da_nil)) rfl) de_int (nomark _))))) (db_one (ds_set sc__law_couple.nd rfl (.inl rfl) (de_ix rfl (de_ix rfl (de_var 1 (pv 1)) (de_call (c__law_draw.mono (by decide)) rfl tk hr rfl (da_cons (de_var 0 (pv 0)) (da_cons (de_callB (cr_lenD rfl) rfl g.f_len PyProof.Rows.Boot.«len» (da_cons (de_var 1 (pv 1)) da_nil)) da_nil)) rfl) (fun _ _ => rfl)) de_int (fun _ _ => rfl)))) db_nil)
    (db_cons (ds_set sc__law_couple.nd rfl (.inl rfl) (de_call (c__law_draw.mono (by decide)) rfl tk hr rfl (da_cons (de_var 0 (pv 0)) (da_cons (de_ix rfl (de_lst (da_cons de_int (da_cons de_int (da_cons (de_bin (op_powD) de_int de_int) da_nil)))) (de_call (c__law_draw.mono (by decide)) rfl tk hr rfl (da_cons (de_var 0 (pv 0)) (da_cons de_int da_nil)) rfl) (fun _ _ => rfl)) da_nil)) rfl))
    (db_one (ds_ret (de_tup (da_cons (de_var 3 (pv 3)) (da_cons (de_call (c__law_ratio.mono (by decide)) rfl tk hr rfl (da_cons (de_bin (op_mulD) (de_var 2 (pv 2)) (de_bin (op_subD) de_int (de_bin (op_mulD) de_int (de_call (c__law_draw.mono (by decide)) rfl tk hr rfl (da_cons (de_var 0 (pv 0)) (da_cons de_int da_nil)) rfl)))) (da_cons (de_bin (op_addD rfl) de_int (de_call (c__law_draw.mono (by decide)) rfl tk hr rfl (da_cons (de_var 0 (pv 0)) (da_cons de_int da_nil)) rfl)) da_nil)) rfl) da_nil))))))))))
theorem b_check_place (g : Gls K mg) (c_is_couple : Callee (gx K) Pg w mg base "is_couple" 4 1 [] F_is_couple) (cdv : Value) (A : Around) (outer : List Env) (s : Shared) (H : Hp) (E : XK) (f : Addr) (hr : Room 4 (A.deeper (envOfC q_check_place (defScope (top 18)) s.heap.objs.size f cdv))) (tk : Takes (cxD Pg w K mg base sN_check_place q_check_place (defScope (top 18)) f cdv A outer s H E) (WD E))
    (hp : PassesOwn (model Pg w) (cxD Pg w K mg base sN_check_place q_check_place (defScope (top 18)) f cdv A outer s H E).A (cxD Pg w K mg base sN_check_place q_check_place (defScope (top 18)) f cdv A outer s H E).env (cxD Pg w K mg base sN_check_place q_check_place (defScope (top 18)) f cdv A outer s H E).xe) :
    DB (gx K) none (WD E) (cxD Pg w K mg base sN_check_place q_check_place (defScope (top 18)) f cdv A outer s H E) (defBody (top 18)) B_check_place := by
  have KO := kindNone (G := gx K)
  have hu := hr.units
  skip
  exact (db_cons (ds_if (dt_not (dt_tr rfl (de_call (c_is_couple.mono (by decide)) rfl tk hr rfl (da_cons (de_var 0 (pv 0)) da_nil) rfl))) (db_one (ds_raise rfl tk (mk_sup0 g.x_BadPlace rfl hr rfl rfl))) db_nil)
    (db_one (ds_ret (de_tup (da_cons (de_ix rfl (de_var 0 (pv 0)) de_int (fun _ _ => rfl)) (da_cons (de_ix rfl (de_var 0 (pv 0)) de_int (fun _ _ => rfl)) da_nil))))))
theorem b_mean_place (g : Gls K mg) (c_make_ratio : Callee (gx K) Pg w mg base "make_ratio" 3 2 [] F_make_ratio) (c_place_plus : Callee (gx K) Pg w mg base "place_plus" 4 2 [] F_place_plus) (c_place_scaled : Callee (gx K) Pg w mg base "place_scaled" 4 2 [] F_place_scaled) (cdv : Value) (A : Around) (outer : List Env) (s : Shared) (H : Hp) (E : XK) (f : Addr) (hr : Room 4 (A.deeper (envOfC q_mean_place (defScope (top 25)) s.heap.objs.size f cdv))) (tk : Takes (cxD Pg w K mg base sN_mean_place q_mean_place (defScope (top 25)) f cdv A outer s H E) (WD E))
    (hp : PassesOwn (model Pg w) (cxD Pg w K mg base sN_mean_place q_mean_place (defScope (top 25)) f cdv A outer s H E).A (cxD Pg w K mg base sN_mean_place q_mean_place (defScope (top 25)) f cdv A outer s H E).env (cxD Pg w K mg base sN_mean_place q_mean_place (defScope (top 25)) f cdv A outer s H E).xe) :
    DB (gx K) none (WD E) (cxD Pg w K mg base sN_mean_place q_mean_place (defScope (top 25)) f cdv A outer s H E) (defBody (top 25)) B_mean_place := by
  have KO := kindNone (G := gx K)
  have hu := hr.units
  skip
  exact (db_cons (ds_set sc_mean_place.nd rfl (.inl rfl) (de_tup (da_cons (de_k g.k_ZERO rfl) (da_cons (de_k g.k_ZERO rfl) da_nil))))
    (db_cons (ds_for hp rfl (di_seq rfl (de_var 0 (pv 0))) (dg_name (pg_name sc_mean_place.nd rfl (.inl rfl))) (db_one (ds_set sc_mean_place.nd rfl (.inl rfl) (de_call (c_place_plus.mono (by decide)) rfl tk hr rfl (da_cons (de_var 1 (pv 1)) (da_cons (de_var 2 (pv 2)) da_nil)) rfl))))
    (db_one (ds_ret (de_call (c_place_scaled.mono (by decide)) rfl tk hr rfl (da_cons (de_var 1 (pv 1)) (da_cons (de_call (c_make_ratio.mono (by decide)) rfl tk hr rfl (da_cons de_int (da_cons (de_callB (cr_lenD rfl) rfl g.f_len PyProof.Rows.Boot.«len» (da_cons (de_var 0 (pv 0)) da_nil)) da_nil)) rfl) da_nil)) rfl)))))
theorem b__law_add (g : Gls K mg) (c__law_plus : Callee (gx K) Pg w mg base "_law_plus" 4 2 [] F__law_plus) (cdv : Value) (A : Around) (outer : List Env) (s : Shared) (H : Hp) (E : XK) (f : Addr) (hr : Room 4 (A.deeper (envOfC q__law_add (defScope (top 37)) s.heap.objs.size f cdv))) (tk : Takes (cxD Pg w K mg base sN__law_add q__law_add (defScope (top 37)) f cdv A outer s H E) (WD E))
    (hp : PassesOwn (model Pg w) (cxD Pg w K mg base sN__law_add q__law_add (defScope (top 37)) f cdv A outer s H E).A (cxD Pg w K mg base sN__law_add q__law_add (defScope (top 37)) f cdv A outer s H E).env (cxD Pg w K mg base sN__law_add q__law_add (defScope (top 37)) f cdv A outer s H E).xe) :
    DB (gx K) none (WD E) (cxD Pg w K mg base sN__law_add q__law_add (defScope (top 37)) f cdv A outer s H E) (defBody (top 37)) B__law_add := by
  have KO := kindNone (G := gx K)
  have hu := hr.units
  skip
  exact (db_one (ds_ret (de_tup (da_cons (de_call (c__law_plus.mono (by decide)) rfl tk hr rfl (da_cons (de_ix rfl (de_var 0 (pv 0)) de_int (fun _ _ => rfl)) (da_cons (de_ix rfl (de_var 1 (pv 1)) de_int (fun _ _ => rfl)) da_nil)) rfl) (da_cons (de_call (c__law_plus.mono (by decide)) rfl tk hr rfl (da_cons (de_ix rfl (de_var 0 (pv 0)) de_int (fun _ _ => rfl)) (da_cons (de_ix rfl (de_var 1 (pv 1)) de_int (fun _ _ => rfl)) da_nil)) rfl) da_nil)))))
theorem b__law_less (g : Gls K mg) (c__law_minus : Callee (gx K) Pg w mg base "_law_minus" 4 2 [] F__law_minus) (cdv : Value) (A : Around) (outer : List Env) (s : Shared) (H : Hp) (E : XK) (f : Addr) (hr : Room 4 (A.deeper (envOfC q__law_less (defScope (top 38)) s.heap.objs.size f cdv))) (tk : Takes (cxD Pg w K mg base sN__law_less q__law_less (defScope (top 38)) f cdv A outer s H E) (WD E))
    (hp : PassesOwn (model Pg w) (cxD Pg w K mg base sN__law_less q__law_less (defScope (top 38)) f cdv A outer s H E).A (cxD Pg w K mg base sN__law_less q__law_less (defScope (top 38)) f cdv A outer s H E).env (cxD Pg w K mg base sN__law_less q__law_less (defScope (top 38)) f cdv A outer s H E).xe) :
    DB (gx K) none (WD E) (cxD Pg w K mg base sN__law_less q__law_less (defScope (top 38)) f cdv A outer s H E) (defBody (top 38)) B__law_less := by
  have KO := kindNone (G := gx K)
  have hu := hr.units
  skip
  exact (db_one (ds_ret (de_tup (da_cons (de_call (c__law_minus.mono (by decide)) rfl tk hr rfl (da_cons (de_ix rfl (de_var 0 (pv 0)) de_int (fun _ _ => rfl)) (da_cons (de_ix rfl (de_var 1 (pv 1)) de_int (fun _ _ => rfl)) da_nil)) rfl) (da_cons (de_call (c__law_minus.mono (by decide)) rfl tk hr rfl (da_cons (de_ix rfl (de_var 0 (pv 0)) de_int (fun _ _ => rfl)) (da_cons (de_ix rfl (de_var 1 (pv 1)) de_int (fun _ _ => rfl)) da_nil)) rfl) da_nil)))))
theorem b__law_scaled (g : Gls K mg) (c__law_times : Callee (gx K) Pg w mg base "_law_times" 4 2 [] F__law_times) (cdv : Value) (A : Around) (outer : List Env) (s : Shared) (H : Hp) (E : XK) (f : Addr) (hr : Room 4 (A.deeper (envOfC q__law_scaled (defScope (top 39)) s.heap.objs.size f cdv))) (tk : Takes (cxD Pg w K mg base sN__law_scaled q__law_scaled (defScope (top 39)) f cdv A outer s H E) (WD E))
    (hp : PassesOwn (model Pg w) (cxD Pg w K mg base sN__law_scaled q__law_scaled (defScope (top 39)) f cdv A outer s H E).A (cxD Pg w K mg base sN__law_scaled q__law_scaled (defScope (top 39)) f cdv A outer s H E).env (cxD Pg w K mg base sN__law_scaled q__law_scaled (defScope (top 39)) f cdv A outer s H E).xe) :
    DB (gx K) none (WD E) (cxD Pg w K mg base sN__law_scaled q__law_scaled (defScope (top 39)) f cdv A outer s H E) (defBody (top 39)) B__law_scaled := by
  have KO := kindNone (G := gx K)
  have hu := hr.units
  skip
  exact (db_one (ds_ret (de_tup (da_cons (de_call (c__law_times.mono (by decide)) rfl tk hr rfl (da_cons (de_ix rfl (de_var 0 (pv 0)) de_int (fun _ _ => rfl)) (da_cons (de_var 1 (pv 1)) da_nil)) rfl) (da_cons (de_call (c__law_times.mono (by decide)) rfl tk hr rfl (da_cons (de_ix rfl (de_var 0 (pv 0)) de_int (fun _ _ => rfl)) (da_cons (de_var 1 (pv 1)) da_nil)) rfl) da_nil)))))
theorem b__law_dot (g : Gls K mg) (c__law_plus : Callee (gx K) Pg w mg base "_law_plus" 4 2 [] F__law_plus) (c__law_times : Callee (gx K) Pg w mg base "_law_times" 4 2 [] F__law_times) (cdv : Value) (A : Around) (outer : List Env) (s : Shared) (H : Hp) (E : XK) (f : Addr) (hr : Room 4 (A.deeper (envOfC q__law_dot (defScope (top 40)) s.heap.objs.size f cdv))) (tk : Takes (cxD Pg w K mg base sN__law_dot q__law_dot (defScope (top 40)) f cdv A outer s H E) (WD E))
    (hp : PassesOwn (model Pg w) (cxD Pg w K mg base sN__law_dot q__law_dot (defScope (top 40)) f cdv A outer s H E).A (cxD Pg w K mg base sN__law_dot q__law_dot (defScope (top 40)) f cdv A outer s H E).env (cxD Pg w K mg base sN__law_dot q__law_dot (defScope (top 40)) f cdv A outer s H E).xe) :
    DB (gx K) none (WD E) (cxD Pg w K mg base sN__law_dot q__law_dot (defScope (top 40)) f cdv A outer s H E) (defBody (top 40)) B__law_dot := by
  have KO := kindNone (G := gx K)
  have hu := hr.units
  skip
  exact (db_one (ds_ret (de_call (c__law_plus.mono (by decide)) rfl tk hr rfl (da_cons (de_call (c__law_times.mono (by decide)) rfl tk hr rfl (da_cons (de_ix rfl (de_var 0 (pv 0)) de_int (fun _ _ => rfl)) (da_cons (de_ix rfl (de_var 1 (pv 1)) de_int (fun _ _ => rfl)) da_nil)) rfl) (da_cons (de_call (c__law_times.mono (by decide)) rfl tk hr rfl (da_cons (de_ix rfl (de_var 0 (pv 0)) de_int (fun _ _ => rfl)) (da_cons (de_ix rfl (de_var 1 (pv 1)) de_int (fun _ _ => rfl)) da_nil)) rfl) da_nil)) rfl)))
theorem b__law_cross (g : Gls K mg) (c__law_minus : Callee (gx K) Pg w mg base "_law_minus" 4 2 [] F__law_minus) (c__law_times : Callee (gx K) Pg w mg base "_law_times" 4 2 [] F__law_times) (cdv : Value) (A : Around) (outer : List Env) (s : Shared) (H : Hp) (E : XK) (f : Addr) (hr : Room 4 (A.deeper (envOfC q__law_cross (defScope (top 41)) s.heap.objs.size f cdv))) (tk : Takes (cxD Pg w K mg base sN__law_cross q__law_cross (defScope (top 41)) f cdv A outer s H E) (WD E))
    (hp : PassesOwn (model Pg w) (cxD Pg w K mg base sN__law_cross q__law_cross (defScope (top 41)) f cdv A outer s H E).A (cxD Pg w K mg base sN__law_cross q__law_cross (defScope (top 41)) f cdv A outer s H E).env (cxD Pg w K mg base sN__law_cross q__law_cross (defScope (top 41)) f cdv A outer s H E).xe) :
    DB (gx K) none (WD E) (cxD Pg w K mg base sN__law_cross q__law_cross (defScope (top 41)) f cdv A outer s H E) (defBody (top 41)) B__law_cross := by
  have KO := kindNone (G := gx K)
  have hu := hr.units
  skip
  exact (db_one (ds_ret (de_call (c__law_minus.mono (by decide)) rfl tk hr rfl (da_cons (de_call (c__law_times.mono (by decide)) rfl tk hr rfl (da_cons (de_ix rfl (de_var 0 (pv 0)) de_int (fun _ _ => rfl)) (da_cons (de_ix rfl (de_var 1 (pv 1)) de_int (fun _ _ => rfl)) da_nil)) rfl) (da_cons (de_call (c__law_times.mono (by decide)) rfl tk hr rfl (da_cons (de_ix rfl (de_var 0 (pv 0)) de_int (fun _ _ => rfl)) (da_cons (de_ix rfl (de_var 1 (pv 1)) de_int (fun _ _ => rfl)) da_nil)) rfl) da_nil)) rfl)))
theorem b__law_place_of (g : Gls K mg) (c_check_place : Callee (gx K) Pg w mg base "check_place" 5 1 [] F_check_place) (cdv : Value) (A : Around) (outer : List Env) (s : Shared) (H : Hp) (E : XK) (f : Addr) (hr : Room 5 (A.deeper (envOfC q__law_place_of (defScope (top 43)) s.heap.objs.size f cdv))) (tk : Takes (cxD Pg w K mg base sN__law_place_of q__law_place_of (defScope (top 43)) f cdv A outer s H E) (WD E))
    (hp : PassesOwn (model Pg w) (cxD Pg w K mg base sN__law_place_of q__law_place_of (defScope (top 43)) f cdv A outer s H E).A (cxD Pg w K mg base sN__law_place_of q__law_place_of (defScope (top 43)) f cdv A outer s H E).env (cxD Pg w K mg base sN__law_place_of q__law_place_of (defScope (top 43)) f cdv A outer s H E).xe) :
    DB (gx K) none (WD E) (cxD Pg w K mg base sN__law_place_of q__law_place_of (defScope (top 43)) f cdv A outer s H E) (defBody (top 43)) B__law_place_of := by
  have KO := kindNone (G := gx K)
  have hu := hr.units
  skip
  exact (db_cons (ds_try rfl rfl sc__law_place_of.nd rfl rfl ⟨rfl, by decide, .inl g.x_BadPlace.name⟩ tk rfl g.hit_BadPlace (fun W pn xe tk hp => (db_one (ds_set sc__law_place_of.nd rfl (.inl rfl) (de_call (c_check_place.mono (by decide)) rfl tk hr rfl (da_cons (de_var 0 (pv 0)) da_nil) rfl)))) (fun a oe cl d pn hz hfl => (db_one (ds_ret (de_lst (da_cons de_str (da_cons (de_isE rfl g.ise_BadPlace_StopError hz hfl rfl g.f_isinstance rfl g.g_StopError (pv 2)) da_nil)))))))
    (db_one (ds_ret (de_ifE (dt_tr rfl (de_callB (cr_isD KO rfl) rfl g.f_isinstance PyProof.Rows.Boot.«isinstance» (da_cons (de_var 1 (pv 1)) (da_cons (de_ty rfl g.f_tuple PyProof.Rows.Boot.«tuple») da_nil)))) (de_var 1 (pv 1)) de_non))))
theorem b__law_mean (g : Gls K mg) (c__law_add : Callee (gx K) Pg w mg base "_law_add" 5 2 [] F__law_add) (c__law_scaled : Callee (gx K) Pg w mg base "_law_scaled" 5 2 [] F__law_scaled) (cdv : Value) (A : Around) (outer : List Env) (s : Shared) (H : Hp) (E : XK) (f : Addr) (hr : Room 5 (A.deeper (envOfC q__law_mean (defScope (top 47)) s.heap.objs.size f cdv))) (tk : Takes (cxD Pg w K mg base sN__law_mean q__law_mean (defScope (top 47)) f cdv A outer s H E) (WD E))
    (hp : PassesOwn (model Pg w) (cxD Pg w K mg base sN__law_mean q__law_mean (defScope (top 47)) f cdv A outer s H E).A (cxD Pg w K mg base sN__law_mean q__law_mean (defScope (top 47)) f cdv A outer s H E).env (cxD Pg w K mg base sN__law_mean q__law_mean (defScope (top 47)) f cdv A outer s H E).xe) :
    DB (gx K) none (WD E) (cxD Pg w K mg base sN__law_mean q__law_mean (defScope (top 47)) f cdv A outer s H E) (defBody (top 47)) B__law_mean := by
  have KO := kindNone (G := gx K)
  have hu := hr.units
  skip
  exact (db_cons (ds_set sc__law_mean.nd rfl (.inl rfl) (de_tup (da_cons (de_tup (da_cons de_int (da_cons de_int da_nil))) (da_cons (de_tup (da_cons de_int (da_cons de_int da_nil))) da_nil))))
    (db_cons (ds_for hp rfl (di_seq rfl (de_var 0 (pv 0))) (dg_name (pg_name sc__law_mean.nd rfl (.inl rfl))) (db_one (ds_set sc__law_mean.nd rfl (.inl rfl) (de_call (c__law_add.mono (by decide)) rfl tk hr rfl (da_cons (de_var 1 (pv 1)) (da_cons (de_var 2 (pv 2)) da_nil)) rfl))))
    (db_one (ds_ret (de_call (c__law_scaled.mono (by decide)) rfl tk hr rfl (da_cons (de_var 1 (pv 1)) (da_cons (de_tup (da_cons de_int (da_cons (de_callB (cr_lenD rfl) rfl g.f_len PyProof.Rows.Boot.«len» (da_cons (de_var 0 (pv 0)) da_nil)) da_nil))) da_nil)) rfl)))))
theorem b__law_refusals (g : Gls K mg) (c__law_both : Callee (gx K) Pg w mg base "_law_both" 3 2 [] F__law_both) (c_is_couple : Callee (gx K) Pg w mg base "is_couple" 4 1 [] F_is_couple) (c__law_place_of : Callee (gx K) Pg w mg base "_law_place_of" 6 1 [] F__law_place_of) (cdv : Value) (A : Around) (outer : List Env) (s : Shared) (H : Hp) (E : XK) (f : Addr) (hr : Room 6 (A.deeper (envOfC q__law_refusals (defScope (top 48)) s.heap.objs.size f cdv))) (tk : Takes (cxD Pg w K mg base sN__law_refusals q__law_refusals (defScope (top 48)) f cdv A outer s H E) (WD E))
    (hp : PassesOwn (model Pg w) (cxD Pg w K mg base sN__law_refusals q__law_refusals (defScope (top 48)) f cdv A outer s H E).A (cxD Pg w K mg base sN__law_refusals q__law_refusals (defScope (top 48)) f cdv A outer s H E).env (cxD Pg w K mg base sN__law_refusals q__law_refusals (defScope (top 48)) f cdv A outer s H E).xe) :
    DB (gx K) none (WD E) (cxD Pg w K mg base sN__law_refusals q__law_refusals (defScope (top 48)) f cdv A outer s H E) (defBody (top 48)) B__law_refusals := by
  have KO := kindNone (G := gx K)
  have hu := hr.units
  skip
  exact (db_cons (ds_set sc__law_refusals.nd rfl (.inl rfl) (de_lst (da_cons (de_var 0 (pv 0)) (da_cons (de_lst (da_cons (de_ix rfl (de_var 0 (pv 0)) de_int (fun _ _ => rfl)) (da_cons (de_ix rfl (de_var 0 (pv 0)) de_int (fun _ _ => rfl)) da_nil))) (da_cons (de_tup (da_cons (de_ix rfl (de_var 0 (pv 0)) de_int (fun _ _ => rfl)) (da_cons (de_ix rfl (de_var 0 (pv 0)) de_int (fun _ _ => rfl)) da_nil))) (da_cons (de_tup (da_cons (de_tup (da_cons (de_var 1 (pv 1)) (da_cons de_int da_nil))) (da_cons (de_tup (da_cons de_int (da_cons de_int da_nil))) da_nil))) da_nil))))))
    (db_cons (ds_for hp rfl (di_seq rfl (de_var 2 (pv 2))) (dg_name (pg_name sc__law_refusals.nd rfl (.inl rfl))) (db_cons (ds_set sc__law_refusals.nd rfl (.inl rfl) (de_call (c__law_place_of.mono (by decide)) rfl tk hr rfl (da_cons (de_var 3 (pv 3)) da_nil) rfl))
    (db_one (ds_if (DW.dt (dw_or (dt_cmp op_isnotD (de_call (c_is_couple.mono (by decide)) rfl tk hr rfl (da_cons (de_var 3 (pv 3)) da_nil) rfl) de_bl (nomark _)) (dw_or1 (dt_not (dt_tr rfl (de_call (c__law_both.mono (by decide)) rfl tk hr rfl (da_cons (de_var 4 (pv 4)) (da_cons (de_var 3 (pv 3)) da_nil)) rfl)))))) (db_one (ds_ret de_bl)) db_nil))))
    (db_cons (ds_set sc__law_refusals.nd rfl (.inl rfl) (de_lst (da_cons (de_tup (da_cons (de_ix rfl (de_var 0 (pv 0)) de_int (fun _ _ => rfl)) da_nil)) (da_cons (de_tup (da_cons (de_ix rfl (de_var 0 (pv 0)) de_int (fun _ _ => rfl)) (da_cons (de_ix rfl (de_var 0 (pv 0)) de_int (fun _ _ => rfl)) (da_cons (de_ix rfl (de_var 0 (pv 0)) de_int (fun _ _ => rfl)) da_nil)))) (da_cons (de_tup (da_cons (de_var 1 (pv 1)) (da_cons (de_ix rfl (de_var 0 (pv 0)) de_int (fun _ _ => rfl)) da_nil))) (da_cons (de_tup (da_cons (de_ix rfl (de_var 0 (pv 0)) de_int (fun _ _ => rfl)) (da_cons (de_lst (da_cons de_int (da_cons de_int da_nil))) da_nil))) (da_cons (de_tup (da_cons (de_tup (da_cons de_int (da_cons de_int da_nil))) (da_cons (de_ix rfl (de_var 0 (pv 0)) de_int (fun _ _ => rfl)) da_nil))) (da_cons de_non (da_cons de_str (da_cons (de_tup (da_cons (de_ix rfl (de_var 0 (pv 0)) de_int (fun _ _ => rfl)) (da_cons de_non da_nil))) (da_cons (de_tup (da_cons (de_tup (da_cons de_int (da_cons de_int da_nil))) (da_cons (de_ix rfl (de_var 0 (pv 0)) de_int (fun _ _ => rfl)) da_nil))) (da_cons (de_ix rfl (de_var 0 (pv 0)) de_int (fun _ _ => rfl)) da_nil))))))))))))
    (db_cons (ds_for hp rfl (di_seq rfl (de_var 5 (pv 5))) (dg_name (pg_name sc__law_refusals.nd rfl (.inl rfl))) (db_one (ds_if (DW.dt (dw_or (dt_cmp op_isnotD (de_call (c_is_couple.mono (by decide)) rfl tk hr rfl (da_cons (de_var 3 (pv 3)) da_nil) rfl) de_bl (nomark _)) (dw_or1 (dt_cmp (op_neDD rfl hu) (de_call (c__law_place_of.mono (by decide)) rfl tk hr rfl (da_cons (de_var 3 (pv 3)) da_nil) rfl) (de_lst (da_cons de_str (da_cons de_bl da_nil))) (nomark _))))) (db_one (ds_ret de_bl)) db_nil)))
    (db_one (ds_ret de_bl))))))
theorem b_law (g : Gls K mg) (c__law_hand : Callee (gx K) Pg w mg base "_law_hand" 2 1 [] F__law_hand) (c__law_is : Callee (gx K) Pg w mg base "_law_is" 2 2 [] F__law_is) (c_quarter_left : Callee (gx K) Pg w mg base "quarter_left" 3 1 [] F_quarter_left) (c_compare_places : Callee (gx K) Pg w mg base "compare_places" 3 2 [] F_compare_places) (c__law_draw : Callee (gx K) Pg w mg base "_law_draw" 3 2 [] F__law_draw) (c__law_ratio : Callee (gx K) Pg w mg base "_law_ratio" 3 2 [] F__law_ratio) (c__law_both : Callee (gx K) Pg w mg base "_law_both" 3 2 [] F__law_both) (c__law_order : Callee (gx K) Pg w mg base "_law_order" 3 2 [] F__law_order) (c_place_plus : Callee (gx K) Pg w mg base "place_plus" 4 2 [] F_place_plus) (c_place_minus : Callee (gx K) Pg w mg base "place_minus" 4 2 [] F_place_minus) (c_place_scaled : Callee (gx K) Pg w mg base "place_scaled" 4 2 [] F_place_scaled) (c_dot_of : Callee (gx K) Pg w mg base "dot_of" 4 2 [] F_dot_of) (c_cross_of : Callee (gx K) Pg w mg base "cross_of" 4 2 [] F_cross_of) (c__law_times : Callee (gx K) Pg w mg base "_law_times" 4 2 [] F__law_times) (c__law_couple : Callee (gx K) Pg w mg base "_law_couple" 4 2 [] F__law_couple) (c_mean_place : Callee (gx K) Pg w mg base "mean_place" 5 1 [] F_mean_place) (c__law_add : Callee (gx K) Pg w mg base "_law_add" 5 2 [] F__law_add) (c__law_less : Callee (gx K) Pg w mg base "_law_less" 5 2 [] F__law_less) (c__law_scaled : Callee (gx K) Pg w mg base "_law_scaled" 5 2 [] F__law_scaled) (c__law_dot : Callee (gx K) Pg w mg base "_law_dot" 5 2 [] F__law_dot) (c__law_cross : Callee (gx K) Pg w mg base "_law_cross" 5 2 [] F__law_cross) (c__law_mean : Callee (gx K) Pg w mg base "_law_mean" 6 1 [] F__law_mean) (c__law_refusals : Callee (gx K) Pg w mg base "_law_refusals" 7 2 [] F__law_refusals) (cdv : Value) (A : Around) (outer : List Env) (s : Shared) (H : Hp) (E : XK) (f : Addr) (hr : Room 7 (A.deeper (envOfC q_law (defScope (top 49)) s.heap.objs.size f cdv))) (tk : Takes (cxD Pg w K mg base sN_law q_law (defScope (top 49)) f cdv A outer s H E) (WD E))
    (hp : PassesOwn (model Pg w) (cxD Pg w K mg base sN_law q_law (defScope (top 49)) f cdv A outer s H E).A (cxD Pg w K mg base sN_law q_law (defScope (top 49)) f cdv A outer s H E).env (cxD Pg w K mg base sN_law q_law (defScope (top 49)) f cdv A outer s H E).xe) :
    DB (gx K) none (WD E) (cxD Pg w K mg base sN_law q_law (defScope (top 49)) f cdv A outer s H E) (defBody (top 49)) B_law := by
  have KO := kindNone (G := gx K)
  have hu := hr.units
  skip
  exact (db_cons (ds_set sc_law.nd rfl (.inr rfl) (de_call (c__law_hand.mono (by decide)) rfl tk hr rfl (da_cons (de_var 0 (pv 0)) da_nil) rfl))
    (db_cons (ds_set sc_law.nd rfl (.inr rfl) (de_new da_nil))
    (db_cons (ds_for hp rfl (di_rng1 rfl g.f_range (da_cons de_int da_nil)) (dg_name (pg_name sc_law.nd rfl (.inl rfl))) (db_one (ds_expr (de_app rfl (de_var 2 (pv 2)) (de_call (c__law_couple.mono (by decide)) rfl tk hr rfl (da_cons (de_var 1 (pv 1)) (da_cons (de_var 2 (pv 2)) da_nil)) rfl) (fun _ _ x y => pe_bm PySem.F.plainAttrs_list PySem.F.slot_list_append PySem.F.type_list_append mt_append x (pa_cons y pa_nil))))))
    (db_cons (ds_set sc_law.nd rfl (.inl rfl) (de_call (c__law_ratio.mono (by decide)) rfl tk hr rfl (da_cons (de_bin (op_subD) (de_call (c__law_draw.mono (by decide)) rfl tk hr rfl (da_cons (de_var 1 (pv 1)) (da_cons de_int da_nil)) rfl) de_int) (da_cons (de_bin (op_addD rfl) de_int (de_call (c__law_draw.mono (by decide)) rfl tk hr rfl (da_cons (de_var 1 (pv 1)) (da_cons de_int da_nil)) rfl)) da_nil)) rfl))
    (db_cons (ds_for hp rfl (di_seq rfl (de_var 2 (pv 2))) (dg_name (pg_name sc_law.nd rfl (.inl rfl))) (db_cons (ds_for hp rfl (di_seq rfl (de_var 2 (pv 2))) (dg_name (pg_name sc_law.nd rfl (.inl rfl))) (db_cons (ds_if (DW.dt (dw_or (dt_not (dt_tr rfl (de_call (c__law_both.mono (by decide)) rfl tk hr rfl (da_cons (de_call (c_place_plus.mono (by decide)) rfl tk hr rfl (da_cons (de_var 5 (pv 5)) (da_cons (de_var 6 (pv 6)) da_nil)) rfl) (da_cons (de_call (c__law_add.mono (by decide)) rfl tk hr rfl (da_cons (de_var 5 (pv 5)) (da_cons (de_var 6 (pv 6)) da_nil)) rfl) da_nil)) rfl))) (dw_or1 (dt_not (dt_tr rfl (de_call (c__law_both.mono (by decide)) rfl tk hr rfl (da_cons (de_call (c_place_minus.mono (by decide)) rfl tk hr rfl (da_cons (de_callTy (cr_listD rfl) rfl g.f_list PyProof.Rows.Boot.«list» (da_cons (de_var 5 (pv 5)) da_nil)) (da_cons (de_var 6 (pv 6)) da_nil)) rfl) (da_cons (de_call (c__law_less.mono (by decide)) rfl tk hr rfl (da_cons (de_var 5 (pv 5)) (da_cons (de_var 6 (pv 6)) da_nil)) rfl) da_nil)) rfl)))))) (db_one (ds_ret de_bl)) db_nil)
    (db_cons (ds_if (DW.dt (dw_or (dt_not (dt_tr rfl (de_call (c__law_is.mono (by decide)) rfl tk hr rfl (da_cons (de_call (c_dot_of.mono (by decide)) rfl tk hr rfl (da_cons (de_var 5 (pv 5)) (da_cons (de_var 6 (pv 6)) da_nil)) rfl) (da_cons (de_call (c__law_dot.mono (by decide)) rfl tk hr rfl (da_cons (de_var 5 (pv 5)) (da_cons (de_var 6 (pv 6)) da_nil)) rfl) da_nil)) rfl))) (dw_or1 (dt_not (dt_tr rfl (de_call (c__law_is.mono (by decide)) rfl tk hr rfl (da_cons (de_call (c_cross_of.mono (by decide)) rfl tk hr rfl (da_cons (de_var 5 (pv 5)) (da_cons (de_var 6 (pv 6)) da_nil)) rfl) (da_cons (de_call (c__law_cross.mono (by decide)) rfl tk hr rfl (da_cons (de_var 5 (pv 5)) (da_cons (de_var 6 (pv 6)) da_nil)) rfl) da_nil)) rfl)))))) (db_one (ds_ret de_bl)) db_nil)
    (db_cons (ds_if (DW.dt (dw_or (dt_cmp (op_neDD rfl hu) (de_call (c_dot_of.mono (by decide)) rfl tk hr rfl (da_cons (de_call (c_quarter_left.mono (by decide)) rfl tk hr rfl (da_cons (de_var 5 (pv 5)) da_nil) rfl) (da_cons (de_var 6 (pv 6)) da_nil)) rfl) (de_call (c_cross_of.mono (by decide)) rfl tk hr rfl (da_cons (de_var 5 (pv 5)) (da_cons (de_var 6 (pv 6)) da_nil)) rfl) (nomark _)) (dw_or1 (dt_cmp (op_neDD rfl hu) (de_call (c_dot_of.mono (by decide)) rfl tk hr rfl (da_cons (de_var 5 (pv 5)) (da_cons (de_call (c_quarter_left.mono (by decide)) rfl tk hr rfl (da_cons (de_var 5 (pv 5)) da_nil) rfl) da_nil)) rfl) (de_tup (da_cons de_int (da_cons de_int da_nil))) (nomark _))))) (db_one (ds_ret de_bl)) db_nil)
    (db_cons (ds_set sc_law.nd rfl (.inl rfl) (de_call (c_compare_places.mono (by decide)) rfl tk hr rfl (da_cons (de_var 5 (pv 5)) (da_cons (de_var 6 (pv 6)) da_nil)) rfl))
    (db_cons (ds_if (DW.dt (dw_or (dt_not (dt_tr rfl (de_callB (cr_isD KO rfl) rfl g.f_isinstance PyProof.Rows.Boot.«isinstance» (da_cons (de_var 7 (pv 7)) (da_cons (de_ty rfl g.f_int PyProof.Rows.Boot.«int») da_nil))))) (dw_or (dt_tr rfl (de_callB (cr_isD KO rfl) rfl g.f_isinstance PyProof.Rows.Boot.«isinstance» (da_cons (de_var 7 (pv 7)) (da_cons (de_ty rfl g.f_bool PyProof.Rows.Boot.«bool») da_nil)))) (dw_or1 (dt_cmp (op_neDD rfl hu) (de_var 7 (pv 7)) (de_call (c__law_order.mono (by decide)) rfl tk hr rfl (da_cons (de_var 5 (pv 5)) (da_cons (de_var 6 (pv 6)) da_nil)) rfl) (nomark _)))))) (db_one (ds_ret de_bl)) db_nil)
    (db_one (ds_if (dt_cmp (op_neDD rfl hu) (de_call (c_cross_of.mono (by decide)) rfl tk hr rfl (da_cons (de_call (c_place_scaled.mono (by decide)) rfl tk hr rfl (da_cons (de_var 5 (pv 5)) (da_cons (de_var 4 (pv 4)) da_nil)) rfl) (da_cons (de_var 6 (pv 6)) da_nil)) rfl) (de_call (c__law_times.mono (by decide)) rfl tk hr rfl (da_cons (de_var 4 (pv 4)) (da_cons (de_call (c__law_cross.mono (by decide)) rfl tk hr rfl (da_cons (de_var 5 (pv 5)) (da_cons (de_var 6 (pv 6)) da_nil)) rfl) da_nil)) rfl) (nomark _)) (db_one (ds_ret de_bl)) db_nil))))))))
    (db_cons (ds_set sc_law.nd rfl (.inl rfl) (de_call (c_quarter_left.mono (by decide)) rfl tk hr rfl (da_cons (de_var 5 (pv 5)) da_nil) rfl))
    (db_cons (ds_if (DW.dt (dw_or (dt_not (dt_tr rfl (de_call (c__law_both.mono (by decide)) rfl tk hr rfl (da_cons (de_var 8 (pv 8)) (da_cons (de_tup (da_cons (de_tup (da_cons (de_un un_negD (de_ix rfl (de_ix rfl (de_var 5 (pv 5)) de_int (fun _ _ => rfl)) de_int (fun _ _ => rfl))) (da_cons (de_ix rfl (de_ix rfl (de_var 5 (pv 5)) de_int (fun _ _ => rfl)) de_int (fun _ _ => rfl)) da_nil))) (da_cons (de_ix rfl (de_var 5 (pv 5)) de_int (fun _ _ => rfl)) da_nil))) da_nil)) rfl))) (dw_or1 (dt_not (dt_tr rfl (de_call (c__law_both.mono (by decide)) rfl tk hr rfl (da_cons (de_call (c_place_scaled.mono (by decide)) rfl tk hr rfl (da_cons (de_var 5 (pv 5)) (da_cons (de_var 4 (pv 4)) da_nil)) rfl) (da_cons (de_call (c__law_scaled.mono (by decide)) rfl tk hr rfl (da_cons (de_var 5 (pv 5)) (da_cons (de_var 4 (pv 4)) da_nil)) rfl) da_nil)) rfl)))))) (db_one (ds_ret de_bl)) db_nil)
    (db_one (ds_if (DW.dt (dw_or (dt_not (dt_tr rfl (de_callB (cr_isD KO rfl) rfl g.f_isinstance PyProof.Rows.Boot.«isinstance» (da_cons (de_var 8 (pv 8)) (da_cons (de_ty rfl g.f_tuple PyProof.Rows.Boot.«tuple») da_nil))))) (dw_or1 (dt_not (dt_tr rfl (de_callB (cr_isD KO rfl) rfl g.f_isinstance PyProof.Rows.Boot.«isinstance» (da_cons (de_call (c_place_plus.mono (by decide)) rfl tk hr rfl (da_cons (de_var 5 (pv 5)) (da_cons (de_var 5 (pv 5)) da_nil)) rfl) (da_cons (de_ty rfl g.f_tuple PyProof.Rows.Boot.«tuple») da_nil)))))))) (db_one (ds_ret de_bl)) db_nil))))))
    (db_cons (ds_setLc (own := [("k", 3)]) (.inl rfl) rfl sc_law.nd rfl rfl rfl (di_rng1 rfl g.f_range (da_cons (de_bin (op_addD rfl) de_int (de_call (c__law_draw.mono (by decide)) rfl tk hr rfl (da_cons (de_var 1 (pv 1)) (da_cons de_int da_nil)) rfl)) da_nil)) (show BlkOk sN_law (defScope (top 49)) _ [("k", 3)] from ⟨rfl, by decide +kernel, by decide +kernel, by decide +kernel, by decide +kernel⟩) (dgc_name (by decide) fun _ _ _ _ _ => pg_name sc_law.nd rfl (.inl rfl)) (fun _ _ _ _ _ => pts0) (fun _ _ _ _ _ => (de_ix rfl (de_var 2 (pv 2)) (de_call (c__law_draw.mono (by decide)) rfl tk0 hr rfl (da_cons (de_var 1 (pv 1)) (da_cons de_int da_nil)) rfl) (fun _ _ => rfl))))
    (db_cons (ds_set sc_law.nd rfl (.inl rfl) (de_callTy (cr_listD rfl) rfl g.f_list PyProof.Rows.Boot.«list» (da_cons (de_var 9 (pv 9)) da_nil)))
    (db_cons (ds_if (DW.dt (dw_or (dt_not (dt_tr rfl (de_call (c__law_both.mono (by decide)) rfl tk hr rfl (da_cons (de_call (c_mean_place.mono (by decide)) rfl tk hr rfl (da_cons (de_var 9 (pv 9)) da_nil) rfl) (da_cons (de_call (c__law_mean.mono (by decide)) rfl tk hr rfl (da_cons (de_var 10 (pv 10)) da_nil) rfl) da_nil)) rfl))) (dw_or (dt_not (dt_tr rfl (de_call (c__law_both.mono (by decide)) rfl tk hr rfl (da_cons (de_call (c_mean_place.mono (by decide)) rfl tk hr rfl (da_cons (de_callTy (cr_tupleD rfl) rfl g.f_tuple PyProof.Rows.Boot.«tuple» (da_cons (de_var 9 (pv 9)) da_nil)) da_nil) rfl) (da_cons (de_call (c__law_mean.mono (by decide)) rfl tk hr rfl (da_cons (de_var 10 (pv 10)) da_nil) rfl) da_nil)) rfl))) (dw_or1 (dt_cmp (op_neDD rfl hu) (de_var 9 (pv 9)) (de_var 10 (pv 10)) (nomark _)))))) (db_one (ds_ret de_bl)) db_nil)
    (db_one (ds_ret (de_call (c__law_refusals.mono (by decide)) rfl tk hr rfl (da_cons (de_ix rfl (de_var 2 (pv 2)) (de_call (c__law_draw.mono (by decide)) rfl tk hr rfl (da_cons (de_var 1 (pv 1)) (da_cons de_int da_nil)) rfl) (fun _ _ => rfl)) (da_cons (de_call (c__law_draw.mono (by decide)) rfl tk hr rfl (da_cons (de_var 1 (pv 1)) (da_cons (de_bin (op_powD) de_int de_int) da_nil)) rfl) da_nil)) rfl)))))))))))
end
end L_k02
namespace L_k02
open PySem PySem.Spec PyProof.Rows L2 Dl
theorem mulOk {i j : Int} (a b : Nat) (ha : i.natAbs < 2 ^ a) (hb : j.natAbs < 2 ^ b) (h : a + b ≤ 999990 := by decide) : MulOk i j := MulOk.of_bits ha hb h
theorem mulR {i j : Int} (h : j.natAbs < 2 ^ 60) : MulOk i j := .inl (by unfold CMul; omega)
theorem mulL {i j : Int} (h : i.natAbs < 2 ^ 60) : MulOk i j := .inl (by unfold CMul; omega)
theorem divOk {i j : Int} (b : Nat) (h0 : j ≠ 0) (hb : j.natAbs < 2 ^ b) (h : b ≤ 8990 := by decide) : DivOk i j := DivOk.of_bits h0 hb h
theorem divR {i j : Int} (h0 : j ≠ 0) (hb : j.natAbs < 2 ^ 62) : DivOk i j := DivOk.of_bits h0 hb (by decide)
theorem fmodE (a : Int) {b : Int} (h : 0 ≤ b) : a.fmod b = a % b := Int.fmod_eq_emod_of_nonneg a h
theorem fdivE (a : Int) {b : Int} (h : 0 ≤ b) : a.fdiv b = a / b := Int.fdiv_eq_ediv_of_nonneg a h
theorem mix_ok (n t : Int) (st : Store) : ∃ v, F__law_mix [.int n, .int t] st = .ok (.int v) st ∧ 0 ≤ v ∧ v < 2147483563 := by
  have key : Ev (F__law_mix [.int n, .int t] st) (fun d st1 => ∃ v, d = .int v ∧ st1 = st ∧ 0 ≤ v ∧ v < 2147483563) NoX := by
    unfold F__law_mix B__law_mix
    rw [ev_run]
    simp only [optK_some, slotK_val, blK_bl, ev_ok, ev_var, ev_c, ev_bin, ev_add, ev_addS, ev_addT, ev_addL, ev_sub, ev_mul, ev_div, ev_mod, ev_pow, ev_lt, ev_le, ev_gt, ev_ge, ev_is, ev_eq, ev_in, ev_ix, ev_un, ev_neg, tru_bl, tru_int, tru_non, tru_lst, tru_tup, ev_andV, ev_orV, ev_notV, ev_ifE, ev_nil, ev_cons, ev_tup, ev_lst, ev_new, ev_callB, ev_lenL, ev_lenT, ev_lenS, ev_lenC, ev_abs, ev_int, ev_intB, ev_strI, ev_gcd, ev_tupOf, ev_lstOf, ev_isi, ev_isTy2, ev_call, ev_callK, ev_part, ev_sl, ev_join0, ev_join1, ev_fmt, ev_fmtI, ev_fmtS, ev_tb, ev_tr, ev_tand, ev_tor, ev_tnot, ev_yes, es_nx, es_next, es_brk, es_cnt, es_seq, es_ret, es_retN, es_drop, es_if, es_set, es_gset, es_raise, ev_run, es_for, seqC, seqL, seqT, seqS, itC, itL, itT, at0, at1, at2, at3, at4, at5, ix0, ix1, ix2, ix3, gk_set, gsk_nil, gsk_cons, gk_tup, gk_sub, es_asg, es_aug, ev_app, ev_exn, ev_xf, it_of, it_seq, it_r1, it_r2, it_en, es_step, env0, List.map_cons, List.map_nil, List.length_cons, List.length_nil, List.cons_append, List.nil_append, List.replicate, List.getElem?_cons_zero, List.getElem?_cons_succ, List.set_cons_zero, List.set_cons_succ, Nat.zero_add, Nat.reduceAdd, Nat.reduceSub, if_true, Bool.not_true, Bool.not_false, Bool.false_eq_true, if_false, ev_mk, intK, strK, locK, Option.bind_some]
    rw [fmodE _ (by decide : (0 : Int) ≤ 2147483647)]
    have a1 := Int.emod_nonneg (n * 48271 + t * 16807 + 11) (by decide : (2147483647 : Int) ≠ 0)
    have a2 := Int.emod_lt_of_pos (n * 48271 + t * 16807 + 11) (by decide : (0 : Int) < 2147483647)
    generalize (n * 48271 + t * 16807 + 11) % 2147483647 = a at *
    rw [fdivE _ (by decide : (0 : Int) ≤ 127), fmodE _ (by decide : (0 : Int) ≤ 2147483399)]
    have b1 := Int.emod_nonneg (a * a + a / 127 * 40692 + t * 69621) (by decide : (2147483399 : Int) ≠ 0)
    have b2 := Int.emod_lt_of_pos (a * a + a / 127 * 40692 + t * 69621) (by decide : (0 : Int) < 2147483399)
    generalize (a * a + a / 127 * 40692 + t * 69621) % 2147483399 = b at *
    rw [fdivE _ (by decide : (0 : Int) ≤ 1009), fmodE _ (by decide : (0 : Int) ≤ 2147483563)]
    have c1 := Int.emod_nonneg (b * b / 1009 + a) (by decide : (2147483563 : Int) ≠ 0)
    have c2 := Int.emod_lt_of_pos (b * b / 1009 + a) (by decide : (0 : Int) < 2147483563)
    generalize (b * b / 1009 + a) % 2147483563 = c at *
    rw [fdivE _ (by decide : (0 : Int) ≤ 16)]
    exact ⟨mulR (by decide), mulR (by decide), by decide, mulR (by omega), divR (by decide) (by decide), mulR (by decide), mulR (by decide), by decide, mulR (by omega), divR (by decide) (by decide), by decide, divR (by decide) (by decide), _, rfl, trivial, by omega, by omega⟩
  obtain ⟨d, st1, e, v, rfl, rfl, a, b⟩ := key.get
  exact ⟨v, e, a, b⟩
/-! the hand: what is still to come, the place, the rest, the sum -/
structure Hd where
  cs : List Int
  i : Nat
  rest : Int
  tot : Int
def Hd.cell (h : Hd) : Cell := .lst [.lst (h.cs.map D.int), .int h.i, .int h.rest, .int h.tot]
def HdOk (st : Store) : Prop := ∃ h : Hd, st[0]? = some h.cell ∧ (∀ c ∈ h.cs, 0 ≤ c) ∧ 0 ≤ h.rest
/-- what a draw leaves: the store as it was, but for the hand -/
def HdTo (st st' : Store) : Prop := HdOk st' ∧ st'.length = st.length ∧ ∀ n, n ≠ 0 → st'[n]? = st[n]?
theorem HdTo.trans {a b c : Store} (h : HdTo a b) (k : HdTo b c) : HdTo a c := ⟨k.1, k.2.1.trans h.2.1, fun n hn => (k.2.2 n hn).trans (h.2.2 n hn)⟩
theorem hd_set {st : Store} {h h' : Hd} (e : st[0]? = some h.cell) (hc : ∀ c ∈ h'.cs, 0 ≤ c) (hr : 0 ≤ h'.rest) : HdTo st (st.set 0 h'.cell) := by
  obtain ⟨hl, _⟩ := List.getElem?_eq_some_iff.mp e
  exact ⟨⟨h', List.getElem?_set_self hl, hc, hr⟩, List.length_set, fun n hn => List.getElem?_set_ne (Ne.symm hn)⟩
theorem modOk {m x : Int} {st st' : Store} (h1 : 0 < m) (h : HdTo st st') : m ≠ 0 ∧ ∃ v, D.int (x.fmod m) = D.int v ∧ 0 ≤ v ∧ v < m ∧ HdTo st st' := by
  refine ⟨by omega, _, rfl, ?_, ?_, h⟩
  · rw [fmodE _ (by omega)]; exact Int.emod_nonneg _ (by omega)
  · rw [fmodE _ (by omega)]; exact Int.emod_lt_of_pos _ h1
theorem draw_ok (m : Int) (st : Store) (h : HdOk st) (h1 : 0 < m) (h2 : m < 2 ^ 60) : ∃ v st', F__law_draw [.loc 0, .int m] st = .ok (.int v) st' ∧ 0 ≤ v ∧ v < m ∧ HdTo st st' := by
  have key : Ev (F__law_draw [.loc 0, .int m] st) (fun d st1 => ∃ v, d = .int v ∧ 0 ≤ v ∧ v < m ∧ HdTo st st1) NoX := by
    obtain ⟨⟨cs, i, rest, tot⟩, e, hc, hr⟩ := h
    have hl : 0 < st.length := (List.getElem?_eq_some_iff.mp e).1
    have e1 : cellL st 0 = some [.lst (cs.map D.int), .int i, .int rest, .int tot] := cellL_of e
    have c0 : ∀ ds, cellL (st.set 0 (.lst ds)) 0 = some ds := fun ds => cellL_of (List.getElem?_set_self hl)
    have set_ : ∀ (cs' : List Int) (i' : Nat) (r' t' : Int), (∀ c ∈ cs', 0 ≤ c) → 0 ≤ r' → HdTo st (st.set 0 (Cell.lst [D.lst (cs'.map D.int), D.int (i' : Int), D.int r', D.int t'])) := fun cs' i' r' t' a b => hd_set (h := ⟨cs, i, rest, tot⟩) (h' := ⟨cs', i', r', t'⟩) e a b
    have mx : ∀ (a b : Int) (s : Store), HdTo st s → Ev (F__law_mix [.int a, .int b] s) (fun x st1 => Ev (dInt [x] st1) (fun x st1 => Ev (dMod x (D.int m) st1) (fun d st1 => ∃ v, d = D.int v ∧ 0 ≤ v ∧ v < m ∧ HdTo st st1) NoX) NoX) NoX := fun a b s hs => by
      obtain ⟨v, ev, _, _⟩ := mix_ok a b s
      refine Ev.of ev ?_
      simp only [optK_some, slotK_val, blK_bl, ev_ok, ev_var, ev_c, ev_bin, ev_add, ev_addS, ev_addT, ev_addL, ev_sub, ev_mul, ev_div, ev_mod, ev_pow, ev_lt, ev_le, ev_gt, ev_ge, ev_is, ev_eq, ev_in, ev_ix, ev_un, ev_neg, tru_bl, tru_int, tru_non, tru_lst, tru_tup, ev_andV, ev_orV, ev_notV, ev_ifE, ev_nil, ev_cons, ev_tup, ev_lst, ev_new, ev_callB, ev_lenL, ev_lenT, ev_lenS, ev_lenC, ev_abs, ev_int, ev_intB, ev_strI, ev_gcd, ev_tupOf, ev_lstOf, ev_isi, ev_isTy2, ev_call, ev_callK, ev_part, ev_sl, ev_join0, ev_join1, ev_fmt, ev_fmtI, ev_fmtS, ev_tb, ev_tr, ev_tand, ev_tor, ev_tnot, ev_yes, es_nx, es_next, es_brk, es_cnt, es_seq, es_ret, es_retN, es_drop, es_if, es_set, es_gset, es_raise, ev_run, es_for, seqC, seqL, seqT, seqS, itC, itL, itT, at0, at1, at2, at3, at4, at5, ix0, ix1, ix2, ix3, gk_set, gsk_nil, gsk_cons, gk_tup, gk_sub, es_asg, es_aug, ev_app, ev_exn, ev_xf, it_of, it_seq, it_r1, it_r2, it_en, es_step, env0, List.map_cons, List.map_nil, List.length_cons, List.length_nil, List.cons_append, List.nil_append, List.replicate, List.getElem?_cons_zero, List.getElem?_cons_succ, List.set_cons_zero, List.set_cons_succ, Nat.zero_add, Nat.reduceAdd, Nat.reduceSub, if_true, Bool.not_true, Bool.not_false, Bool.false_eq_true, if_false, ev_mk, intK, strK, locK, Option.bind_some]
      exact modOk h1 hs
    have tail : (if decide (0 < rest) = true then
        DivOk rest m ∧ m ≠ 0 ∧ ∃ v, D.int (rest.fmod m) = D.int v ∧ 0 ≤ v ∧ v < m ∧ HdTo st (List.set st 0 (Cell.lst [D.lst (List.map D.int cs), D.int ↑i, D.int (rest.fdiv m), D.int tot]))
      else (2147483629 : Int) ≠ 0 ∧ Ev (F__law_mix [D.int ((tot + 1).fmod 2147483629), D.int i] (List.set st 0 (Cell.lst [D.lst (List.map D.int cs), D.int ↑i, D.int rest, D.int ((tot + 1).fmod 2147483629)])))
        (fun x st1 => Ev (dInt [x] st1) (fun x st1 => Ev (dMod x (D.int m) st1) (fun d st1 => ∃ v, d = D.int v ∧ 0 ≤ v ∧ v < m ∧ HdTo st st1) NoX) NoX) NoX) := by
      split
      · refine ⟨divR (by omega) (by omega), modOk h1 (set_ _ _ _ _ hc ?_)⟩
        rw [fdivE _ (by omega)]
        exact Int.ediv_nonneg hr (by omega)
      · exact ⟨by decide, mx _ _ _ (set_ _ _ _ _ hc hr)⟩
    unfold F__law_draw B__law_draw
    rw [ev_run]
    simp only [optK_some, slotK_val, blK_bl, ev_ok, ev_var, ev_c, ev_bin, ev_add, ev_addS, ev_addT, ev_addL, ev_sub, ev_mul, ev_div, ev_mod, ev_pow, ev_lt, ev_le, ev_gt, ev_ge, ev_is, ev_eq, ev_in, ev_ix, ev_un, ev_neg, tru_bl, tru_int, tru_non, tru_lst, tru_tup, ev_andV, ev_orV, ev_notV, ev_ifE, ev_nil, ev_cons, ev_tup, ev_lst, ev_new, ev_callB, ev_lenL, ev_lenT, ev_lenS, ev_lenC, ev_abs, ev_int, ev_intB, ev_strI, ev_gcd, ev_tupOf, ev_lstOf, ev_isi, ev_isTy2, ev_call, ev_callK, ev_part, ev_sl, ev_join0, ev_join1, ev_fmt, ev_fmtI, ev_fmtS, ev_tb, ev_tr, ev_tand, ev_tor, ev_tnot, ev_yes, es_nx, es_next, es_brk, es_cnt, es_seq, es_ret, es_retN, es_drop, es_if, es_set, es_gset, es_raise, ev_run, es_for, seqC, seqL, seqT, seqS, itC, itL, itT, at0, at1, at2, at3, at4, at5, ix0, ix1, ix2, ix3, gk_set, gsk_nil, gsk_cons, gk_tup, gk_sub, es_asg, es_aug, ev_app, ev_exn, ev_xf, it_of, it_seq, it_r1, it_r2, it_en, es_step, env0, List.map_cons, List.map_nil, List.length_cons, List.length_nil, List.cons_append, List.nil_append, List.replicate, List.getElem?_cons_zero, List.getElem?_cons_succ, List.set_cons_zero, List.set_cons_succ, Nat.zero_add, Nat.reduceAdd, Nat.reduceSub, if_true, Bool.not_true, Bool.not_false, Bool.false_eq_true, if_false, ev_mk, intK, strK, locK, Option.bind_some]
    simp only [e1, eqD_int, c0, List.set_set, optK_some, slotK_val, blK_bl, ev_ok, ev_var, ev_c, ev_bin, ev_add, ev_addS, ev_addT, ev_addL, ev_sub, ev_mul, ev_div, ev_mod, ev_pow, ev_lt, ev_le, ev_gt, ev_ge, ev_is, ev_eq, ev_in, ev_ix, ev_un, ev_neg, tru_bl, tru_int, tru_non, tru_lst, tru_tup, ev_andV, ev_orV, ev_notV, ev_ifE, ev_nil, ev_cons, ev_tup, ev_lst, ev_new, ev_callB, ev_lenL, ev_lenT, ev_lenS, ev_lenC, ev_abs, ev_int, ev_intB, ev_strI, ev_gcd, ev_tupOf, ev_lstOf, ev_isi, ev_isTy2, ev_call, ev_callK, ev_part, ev_sl, ev_join0, ev_join1, ev_fmt, ev_fmtI, ev_fmtS, ev_tb, ev_tr, ev_tand, ev_tor, ev_tnot, ev_yes, es_nx, es_next, es_brk, es_cnt, es_seq, es_ret, es_retN, es_drop, es_if, es_set, es_gset, es_raise, ev_run, es_for, seqC, seqL, seqT, seqS, itC, itL, itT, at0, at1, at2, at3, at4, at5, ix0, ix1, ix2, ix3, gk_set, gsk_nil, gsk_cons, gk_tup, gk_sub, es_asg, es_aug, ev_app, ev_exn, ev_xf, it_of, it_seq, it_r1, it_r2, it_en, es_step, env0, List.map_cons, List.map_nil, List.length_cons, List.length_nil, List.cons_append, List.nil_append, List.replicate, List.getElem?_cons_zero, List.getElem?_cons_succ, List.set_cons_zero, List.set_cons_succ, Nat.zero_add, Nat.reduceAdd, Nat.reduceSub, if_true, Bool.not_true, Bool.not_false, Bool.false_eq_true, if_false, ev_mk, intK, strK, locK, Option.bind_some]
    split
    · split
      · rename_i hlt
        have hi : i < cs.length := by simpa using hlt
        have ea : atI (List.map D.int cs) (i : Int) = some (.int cs[i]) := by
          rw [atNat, List.getElem?_map, List.getElem?_eq_getElem hi]
          rfl
        have c0' : 0 ≤ cs[i] := hc _ (List.getElem_mem hi)
        simp only [ea, optK_some, slotK_val, blK_bl, ev_ok, ev_var, ev_c, ev_bin, ev_add, ev_addS, ev_addT, ev_addL, ev_sub, ev_mul, ev_div, ev_mod, ev_pow, ev_lt, ev_le, ev_gt, ev_ge, ev_is, ev_eq, ev_in, ev_ix, ev_un, ev_neg, tru_bl, tru_int, tru_non, tru_lst, tru_tup, ev_andV, ev_orV, ev_notV, ev_ifE, ev_nil, ev_cons, ev_tup, ev_lst, ev_new, ev_callB, ev_lenL, ev_lenT, ev_lenS, ev_lenC, ev_abs, ev_int, ev_intB, ev_strI, ev_gcd, ev_tupOf, ev_lstOf, ev_isi, ev_isTy2, ev_call, ev_callK, ev_part, ev_sl, ev_join0, ev_join1, ev_fmt, ev_fmtI, ev_fmtS, ev_tb, ev_tr, ev_tand, ev_tor, ev_tnot, ev_yes, es_nx, es_next, es_brk, es_cnt, es_seq, es_ret, es_retN, es_drop, es_if, es_set, es_gset, es_raise, ev_run, es_for, seqC, seqL, seqT, seqS, itC, itL, itT, at0, at1, at2, at3, at4, at5, ix0, ix1, ix2, ix3, gk_set, gsk_nil, gsk_cons, gk_tup, gk_sub, es_asg, es_aug, ev_app, ev_exn, ev_xf, it_of, it_seq, it_r1, it_r2, it_en, es_step, env0, List.map_cons, List.map_nil, List.length_cons, List.length_nil, List.cons_append, List.nil_append, List.replicate, List.getElem?_cons_zero, List.getElem?_cons_succ, List.set_cons_zero, List.set_cons_succ, Nat.zero_add, Nat.reduceAdd, Nat.reduceSub, if_true, Bool.not_true, Bool.not_false, Bool.false_eq_true, if_false, ev_mk, intK, strK, locK, Option.bind_some]
        refine ⟨by decide, ?_⟩
        simp only [c0, List.set_set, optK_some, slotK_val, blK_bl, ev_ok, ev_var, ev_c, ev_bin, ev_add, ev_addS, ev_addT, ev_addL, ev_sub, ev_mul, ev_div, ev_mod, ev_pow, ev_lt, ev_le, ev_gt, ev_ge, ev_is, ev_eq, ev_in, ev_ix, ev_un, ev_neg, tru_bl, tru_int, tru_non, tru_lst, tru_tup, ev_andV, ev_orV, ev_notV, ev_ifE, ev_nil, ev_cons, ev_tup, ev_lst, ev_new, ev_callB, ev_lenL, ev_lenT, ev_lenS, ev_lenC, ev_abs, ev_int, ev_intB, ev_strI, ev_gcd, ev_tupOf, ev_lstOf, ev_isi, ev_isTy2, ev_call, ev_callK, ev_part, ev_sl, ev_join0, ev_join1, ev_fmt, ev_fmtI, ev_fmtS, ev_tb, ev_tr, ev_tand, ev_tor, ev_tnot, ev_yes, es_nx, es_next, es_brk, es_cnt, es_seq, es_ret, es_retN, es_drop, es_if, es_set, es_gset, es_raise, ev_run, es_for, seqC, seqL, seqT, seqS, itC, itL, itT, at0, at1, at2, at3, at4, at5, ix0, ix1, ix2, ix3, gk_set, gsk_nil, gsk_cons, gk_tup, gk_sub, es_asg, es_aug, ev_app, ev_exn, ev_xf, it_of, it_seq, it_r1, it_r2, it_en, es_step, env0, List.map_cons, List.map_nil, List.length_cons, List.length_nil, List.cons_append, List.nil_append, List.replicate, List.getElem?_cons_zero, List.getElem?_cons_succ, List.set_cons_zero, List.set_cons_succ, Nat.zero_add, Nat.reduceAdd, Nat.reduceSub, if_true, Bool.not_true, Bool.not_false, Bool.false_eq_true, if_false, ev_mk, intK, strK, locK, Option.bind_some]
        have ei : ((i : Int) + 1) = ((i + 1 : Nat) : Int) := by omega
        rw [ei]
        split
        · exact ⟨by decide, mx _ _ _ (set_ _ _ _ _ hc hr)⟩
        · rename_i hbig
          have hpos : 0 < cs[i] := by
            have := of_decide_eq_false (by simpa using hbig : decide (cs[i] < 10 ^ Int.toNat 18) = false)
            have e18 : (10 : Int) ^ Int.toNat 18 = 1000000000000000000 := by decide
            omega
          simp only [hpos, decide_true, if_true]
          refine ⟨divR (by omega) (by omega), modOk h1 (set_ _ _ _ _ hc ?_)⟩
          rw [fdivE _ (by omega)]
          exact Int.ediv_nonneg c0' (by omega)
      · exact tail
    · exact tail
  obtain ⟨d, st1, e, v, rfl, a, b, c⟩ := key.get
  exact ⟨v, st1, e, a, b, c⟩

/-! ### gcd, lowest terms -/
def gS (a b : Int) : Int := (Nat.gcd a.natAbs b.natAbs : Nat)
def gB : DSt := dSeq (dSet 2 (dBin dMod (dCallB (dInt) (dCons (dVar 0) dNil)) (dVar 1))) (dSeq (dSet 0 (dVar 1)) (dSet 1 (dVar 2)))
abbrev gT : DTs := dTB (dBin dGt (dVar 1) (dC (.int 0)))
theorem gcd_step {a b : Nat} {x : Slot} {st : Store} {k : Kt} {n : Nat} (hb : 0 < b) (h : Es (whileD gT gB n [.val (.int b), .val (.int (a % b : Nat)), .val (.int (a % b : Nat))] st) k) : Es (whileD gT gB (n + 1) [.val (.int a), .val (.int b), x] st) k := by
  rw [es_while1]
  have hb2 : (0 : Int) < (b : Int) := by omega
  have e : (a : Int).fmod (b : Int) = ((a % b : Nat) : Int) := by rw [fmodE _ (by omega)]; rfl
  unfold gT
  simp only [optK_some, slotK_val, blK_bl, ev_ok, ev_var, ev_c, ev_bin, ev_add, ev_addS, ev_addT, ev_addL, ev_sub, ev_mul, ev_div, ev_mod, ev_pow, ev_lt, ev_le, ev_gt, ev_ge, ev_is, ev_eq, ev_in, ev_ix, ev_un, ev_neg, tru_bl, tru_int, tru_non, tru_lst, tru_tup, ev_andV, ev_orV, ev_notV, ev_ifE, ev_nil, ev_cons, ev_tup, ev_lst, ev_new, ev_callB, ev_lenL, ev_lenT, ev_lenS, ev_lenC, ev_abs, ev_int, ev_intB, ev_strI, ev_gcd, ev_tupOf, ev_lstOf, ev_isi, ev_isTy2, ev_call, ev_callK, ev_part, ev_sl, ev_join0, ev_join1, ev_fmt, ev_fmtI, ev_fmtS, ev_tb, ev_tr, ev_tand, ev_tor, ev_tnot, ev_yes, es_nx, es_next, es_brk, es_cnt, es_seq, es_ret, es_retN, es_drop, es_if, es_set, es_gset, es_raise, ev_run, es_for, seqC, seqL, seqT, seqS, itC, itL, itT, at0, at1, at2, at3, at4, at5, ix0, ix1, ix2, ix3, gk_set, gsk_nil, gsk_cons, gk_tup, gk_sub, es_asg, es_aug, ev_app, ev_exn, ev_xf, it_of, it_seq, it_r1, it_r2, it_en, es_step, env0, List.map_cons, List.map_nil, List.length_cons, List.length_nil, List.cons_append, List.nil_append, List.replicate, List.getElem?_cons_zero, List.getElem?_cons_succ, List.set_cons_zero, List.set_cons_succ, Nat.zero_add, Nat.reduceAdd, Nat.reduceSub, if_true, Bool.not_true, Bool.not_false, Bool.false_eq_true, if_false, ev_mk, intK, strK, locK, Option.bind_some, hb2, decide_true]
  unfold gB
  simp only [optK_some, slotK_val, blK_bl, ev_ok, ev_var, ev_c, ev_bin, ev_add, ev_addS, ev_addT, ev_addL, ev_sub, ev_mul, ev_div, ev_mod, ev_pow, ev_lt, ev_le, ev_gt, ev_ge, ev_is, ev_eq, ev_in, ev_ix, ev_un, ev_neg, tru_bl, tru_int, tru_non, tru_lst, tru_tup, ev_andV, ev_orV, ev_notV, ev_ifE, ev_nil, ev_cons, ev_tup, ev_lst, ev_new, ev_callB, ev_lenL, ev_lenT, ev_lenS, ev_lenC, ev_abs, ev_int, ev_intB, ev_strI, ev_gcd, ev_tupOf, ev_lstOf, ev_isi, ev_isTy2, ev_call, ev_callK, ev_part, ev_sl, ev_join0, ev_join1, ev_fmt, ev_fmtI, ev_fmtS, ev_tb, ev_tr, ev_tand, ev_tor, ev_tnot, ev_yes, es_nx, es_next, es_brk, es_cnt, es_seq, es_ret, es_retN, es_drop, es_if, es_set, es_gset, es_raise, ev_run, es_for, seqC, seqL, seqT, seqS, itC, itL, itT, at0, at1, at2, at3, at4, at5, ix0, ix1, ix2, ix3, gk_set, gsk_nil, gsk_cons, gk_tup, gk_sub, es_asg, es_aug, ev_app, ev_exn, ev_xf, it_of, it_seq, it_r1, it_r2, it_en, es_step, env0, List.map_cons, List.map_nil, List.length_cons, List.length_nil, List.cons_append, List.nil_append, List.replicate, List.getElem?_cons_zero, List.getElem?_cons_succ, List.set_cons_zero, List.set_cons_succ, Nat.zero_add, Nat.reduceAdd, Nat.reduceSub, if_true, Bool.not_true, Bool.not_false, Bool.false_eq_true, if_false, ev_mk, intK, strK, locK, Option.bind_some, e]
  exact ⟨by omega, h⟩
theorem gcd_end {a : Nat} {x : Slot} {st : Store} {k : Kt} {n : Nat} (h : k.nx [.val (.int a), .val (.int (0 : Nat)), x] st) : Es (whileD gT gB (n + 1) [.val (.int a), .val (.int (0 : Nat)), x] st) k := by
  rw [es_while1]
  unfold gT
  simp only [optK_some, slotK_val, blK_bl, ev_ok, ev_var, ev_c, ev_bin, ev_add, ev_addS, ev_addT, ev_addL, ev_sub, ev_mul, ev_div, ev_mod, ev_pow, ev_lt, ev_le, ev_gt, ev_ge, ev_is, ev_eq, ev_in, ev_ix, ev_un, ev_neg, tru_bl, tru_int, tru_non, tru_lst, tru_tup, ev_andV, ev_orV, ev_notV, ev_ifE, ev_nil, ev_cons, ev_tup, ev_lst, ev_new, ev_callB, ev_lenL, ev_lenT, ev_lenS, ev_lenC, ev_abs, ev_int, ev_intB, ev_strI, ev_gcd, ev_tupOf, ev_lstOf, ev_isi, ev_isTy2, ev_call, ev_callK, ev_part, ev_sl, ev_join0, ev_join1, ev_fmt, ev_fmtI, ev_fmtS, ev_tb, ev_tr, ev_tand, ev_tor, ev_tnot, ev_yes, es_nx, es_next, es_brk, es_cnt, es_seq, es_ret, es_retN, es_drop, es_if, es_set, es_gset, es_raise, ev_run, es_for, seqC, seqL, seqT, seqS, itC, itL, itT, at0, at1, at2, at3, at4, at5, ix0, ix1, ix2, ix3, gk_set, gsk_nil, gsk_cons, gk_tup, gk_sub, es_asg, es_aug, ev_app, ev_exn, ev_xf, it_of, it_seq, it_r1, it_r2, it_en, es_step, env0, List.map_cons, List.map_nil, List.length_cons, List.length_nil, List.cons_append, List.nil_append, List.replicate, List.getElem?_cons_zero, List.getElem?_cons_succ, List.set_cons_zero, List.set_cons_succ, Nat.zero_add, Nat.reduceAdd, Nat.reduceSub, if_true, Bool.not_true, Bool.not_false, Bool.false_eq_true, if_false, ev_mk, intK, strK, locK, Option.bind_some]
  have e : decide ((0 : Int) < ((0 : Nat) : Int)) = false := by decide
  simp only [e, optK_some, slotK_val, blK_bl, ev_ok, ev_var, ev_c, ev_bin, ev_add, ev_addS, ev_addT, ev_addL, ev_sub, ev_mul, ev_div, ev_mod, ev_pow, ev_lt, ev_le, ev_gt, ev_ge, ev_is, ev_eq, ev_in, ev_ix, ev_un, ev_neg, tru_bl, tru_int, tru_non, tru_lst, tru_tup, ev_andV, ev_orV, ev_notV, ev_ifE, ev_nil, ev_cons, ev_tup, ev_lst, ev_new, ev_callB, ev_lenL, ev_lenT, ev_lenS, ev_lenC, ev_abs, ev_int, ev_intB, ev_strI, ev_gcd, ev_tupOf, ev_lstOf, ev_isi, ev_isTy2, ev_call, ev_callK, ev_part, ev_sl, ev_join0, ev_join1, ev_fmt, ev_fmtI, ev_fmtS, ev_tb, ev_tr, ev_tand, ev_tor, ev_tnot, ev_yes, es_nx, es_next, es_brk, es_cnt, es_seq, es_ret, es_retN, es_drop, es_if, es_set, es_gset, es_raise, ev_run, es_for, seqC, seqL, seqT, seqS, itC, itL, itT, at0, at1, at2, at3, at4, at5, ix0, ix1, ix2, ix3, gk_set, gsk_nil, gsk_cons, gk_tup, gk_sub, es_asg, es_aug, ev_app, ev_exn, ev_xf, it_of, it_seq, it_r1, it_r2, it_en, es_step, env0, List.map_cons, List.map_nil, List.length_cons, List.length_nil, List.cons_append, List.nil_append, List.replicate, List.getElem?_cons_zero, List.getElem?_cons_succ, List.set_cons_zero, List.set_cons_succ, Nat.zero_add, Nat.reduceAdd, Nat.reduceSub, if_true, Bool.not_true, Bool.not_false, Bool.false_eq_true, if_false, ev_mk, intK, strK, locK, Option.bind_some]
  exact h
theorem gcd_loop {st : Store} {k : Kt} : ∀ (j a b n : Nat) (x : Slot), b < 2 ^ j → 2 * j + 2 ≤ n → (∀ y, k.nx [.val (.int (Nat.gcd a b)), .val (.int (0 : Nat)), y] st) → Es (whileD gT gB n [.val (.int a), .val (.int b), x] st) k
  | 0, a, b, n, x, hb, hn, h => by
    have e : b = 0 := by simpa using hb
    subst e
    obtain ⟨n, rfl⟩ : ∃ m, n = m + 1 := ⟨n - 1, by omega⟩
    exact gcd_end (by have := h x; rwa [Nat.gcd_zero_right] at this)
  | j + 1, a, b, n, x, hb, hn, h => by
    obtain ⟨n, rfl⟩ : ∃ m, n = m + 2 := ⟨n - 2, by omega⟩
    by_cases h0 : b = 0
    · subst h0
      exact gcd_end (by have := h x; rwa [Nat.gcd_zero_right] at this)
    · refine gcd_step (by omega) ?_
      by_cases h1 : a % b = 0
      · rw [h1]
        refine gcd_end ?_
        have := h (.val (.int (0 : Nat)))
        rwa [Nat.gcd_comm, Nat.gcd_rec, h1, Nat.gcd_zero_left] at this
      · refine gcd_step (by omega) ?_
        have lt1 : a % b < b := Nat.mod_lt _ (by omega)
        have lt2 : b % (a % b) < 2 ^ j := by
          have z : b % (a % b) < a % b := Nat.mod_lt _ (by omega)
          have d := Nat.div_add_mod b (a % b)
          have q : 1 ≤ b / (a % b) := Nat.div_pos (by omega) (by omega)
          have m1 : a % b * 1 ≤ a % b * (b / (a % b)) := Nat.mul_le_mul_left _ q
          have : b < 2 ^ j * 2 := by rw [← Nat.pow_succ]; exact hb
          omega
        refine gcd_loop j (a % b) (b % (a % b)) n _ lt2 (by omega) fun y => ?_
        have := h y
        have e1 : Nat.gcd (a % b) (b % (a % b)) = Nat.gcd a b := by
          rw [Nat.gcd_comm, ← Nat.gcd_rec, Nat.gcd_comm a b, Nat.gcd_rec b a]
        rwa [e1]
theorem lgcd_ok (a b : Int) (st : Store) (hb : b.natAbs < 2 ^ 8000) : F__law_gcd [.int a, .int b] st = .ok (.int (gS a b)) st := by
  have key : Ev (F__law_gcd [.int a, .int b] st) (fun d st1 => d = .int (gS a b) ∧ st1 = st) NoX := by
    unfold F__law_gcd B__law_gcd
    rw [ev_run]
    simp only [optK_some, slotK_val, blK_bl, ev_ok, ev_var, ev_c, ev_bin, ev_add, ev_addS, ev_addT, ev_addL, ev_sub, ev_mul, ev_div, ev_mod, ev_pow, ev_lt, ev_le, ev_gt, ev_ge, ev_is, ev_eq, ev_in, ev_ix, ev_un, ev_neg, tru_bl, tru_int, tru_non, tru_lst, tru_tup, ev_andV, ev_orV, ev_notV, ev_ifE, ev_nil, ev_cons, ev_tup, ev_lst, ev_new, ev_callB, ev_lenL, ev_lenT, ev_lenS, ev_lenC, ev_abs, ev_int, ev_intB, ev_strI, ev_gcd, ev_tupOf, ev_lstOf, ev_isi, ev_isTy2, ev_call, ev_callK, ev_part, ev_sl, ev_join0, ev_join1, ev_fmt, ev_fmtI, ev_fmtS, ev_tb, ev_tr, ev_tand, ev_tor, ev_tnot, ev_yes, es_nx, es_next, es_brk, es_cnt, es_seq, es_ret, es_retN, es_drop, es_if, es_set, es_gset, es_raise, ev_run, es_for, seqC, seqL, seqT, seqS, itC, itL, itT, at0, at1, at2, at3, at4, at5, ix0, ix1, ix2, ix3, gk_set, gsk_nil, gsk_cons, gk_tup, gk_sub, es_asg, es_aug, ev_app, ev_exn, ev_xf, it_of, it_seq, it_r1, it_r2, it_en, es_step, env0, List.map_cons, List.map_nil, List.length_cons, List.length_nil, List.cons_append, List.nil_append, List.replicate, List.getElem?_cons_zero, List.getElem?_cons_succ, List.set_cons_zero, List.set_cons_succ, Nat.zero_add, Nat.reduceAdd, Nat.reduceSub, if_true, Bool.not_true, Bool.not_false, Bool.false_eq_true, if_false, ev_mk, intK, strK, locK, Option.bind_some]
    unfold dWhile
    refine gcd_loop 8000 a.natAbs b.natAbs 1000000 .no hb (by decide) fun y => ?_
    simp only [optK_some, slotK_val, blK_bl, ev_ok, ev_var, ev_c, ev_bin, ev_add, ev_addS, ev_addT, ev_addL, ev_sub, ev_mul, ev_div, ev_mod, ev_pow, ev_lt, ev_le, ev_gt, ev_ge, ev_is, ev_eq, ev_in, ev_ix, ev_un, ev_neg, tru_bl, tru_int, tru_non, tru_lst, tru_tup, ev_andV, ev_orV, ev_notV, ev_ifE, ev_nil, ev_cons, ev_tup, ev_lst, ev_new, ev_callB, ev_lenL, ev_lenT, ev_lenS, ev_lenC, ev_abs, ev_int, ev_intB, ev_strI, ev_gcd, ev_tupOf, ev_lstOf, ev_isi, ev_isTy2, ev_call, ev_callK, ev_part, ev_sl, ev_join0, ev_join1, ev_fmt, ev_fmtI, ev_fmtS, ev_tb, ev_tr, ev_tand, ev_tor, ev_tnot, ev_yes, es_nx, es_next, es_brk, es_cnt, es_seq, es_ret, es_retN, es_drop, es_if, es_set, es_gset, es_raise, ev_run, es_for, seqC, seqL, seqT, seqS, itC, itL, itT, at0, at1, at2, at3, at4, at5, ix0, ix1, ix2, ix3, gk_set, gsk_nil, gsk_cons, gk_tup, gk_sub, es_asg, es_aug, ev_app, ev_exn, ev_xf, it_of, it_seq, it_r1, it_r2, it_en, es_step, env0, List.map_cons, List.map_nil, List.length_cons, List.length_nil, List.cons_append, List.nil_append, List.replicate, List.getElem?_cons_zero, List.getElem?_cons_succ, List.set_cons_zero, List.set_cons_succ, Nat.zero_add, Nat.reduceAdd, Nat.reduceSub, if_true, Bool.not_true, Bool.not_false, Bool.false_eq_true, if_false, ev_mk, intK, strK, locK, Option.bind_some]
    exact ⟨rfl, trivial⟩
  obtain ⟨d, st1, e, rfl, rfl⟩ := key.get
  exact e
/-- the share, with the bottom's sign -/
def shr (a b : Int) : Int := if b < 0 then -gS a b else gS a b
def lw (a b : Int) : D := .tup [.int (a.fdiv (shr a b)), .int (b.fdiv (shr a b))]
theorem gS_pos {a b : Int} (h : b ≠ 0) : 0 < gS a b := by
  have : 0 < Nat.gcd a.natAbs b.natAbs := Nat.gcd_pos_of_pos_right _ (by omega)
  unfold gS
  omega
theorem gS_le {a b : Int} (h : b ≠ 0) : gS a b ≤ b.natAbs := by
  have : Nat.gcd a.natAbs b.natAbs ≤ b.natAbs := Nat.gcd_le_right _ (by omega)
  unfold gS
  omega
theorem shr_ok {a b x : Int} (h : b ≠ 0) (hb : b.natAbs < 2 ^ 8000) : DivOk x (shr a b) := by
  have h1 := gS_pos (a := a) h
  have h2 := gS_le (a := a) h
  refine divOk 8000 ?_ ?_
  · unfold shr; split <;> omega
  · have : (shr a b).natAbs = (gS a b).natAbs := by unfold shr; split <;> omega
    rw [this]
    exact Nat.lt_of_le_of_lt (by omega) hb
theorem low_ok (a b : Int) (st : Store) (h : b ≠ 0) (hb : b.natAbs < 2 ^ 8000) : F_lowered [.int a, .int b] st = .ok (lw a b) st := by
  have key : Ev (F_lowered [.int a, .int b] st) (fun d st1 => d = lw a b ∧ st1 = st) NoX := by
    unfold F_lowered B_lowered
    rw [ev_run]
    simp only [optK_some, slotK_val, blK_bl, ev_ok, ev_var, ev_c, ev_bin, ev_add, ev_addS, ev_addT, ev_addL, ev_sub, ev_mul, ev_div, ev_mod, ev_pow, ev_lt, ev_le, ev_gt, ev_ge, ev_is, ev_eq, ev_in, ev_ix, ev_un, ev_neg, tru_bl, tru_int, tru_non, tru_lst, tru_tup, ev_andV, ev_orV, ev_notV, ev_ifE, ev_nil, ev_cons, ev_tup, ev_lst, ev_new, ev_callB, ev_lenL, ev_lenT, ev_lenS, ev_lenC, ev_abs, ev_int, ev_intB, ev_strI, ev_gcd, ev_tupOf, ev_lstOf, ev_isi, ev_isTy2, ev_call, ev_callK, ev_part, ev_sl, ev_join0, ev_join1, ev_fmt, ev_fmtI, ev_fmtS, ev_tb, ev_tr, ev_tand, ev_tor, ev_tnot, ev_yes, es_nx, es_next, es_brk, es_cnt, es_seq, es_ret, es_retN, es_drop, es_if, es_set, es_gset, es_raise, ev_run, es_for, seqC, seqL, seqT, seqS, itC, itL, itT, at0, at1, at2, at3, at4, at5, ix0, ix1, ix2, ix3, gk_set, gsk_nil, gsk_cons, gk_tup, gk_sub, es_asg, es_aug, ev_app, ev_exn, ev_xf, it_of, it_seq, it_r1, it_r2, it_en, es_step, env0, List.map_cons, List.map_nil, List.length_cons, List.length_nil, List.cons_append, List.nil_append, List.replicate, List.getElem?_cons_zero, List.getElem?_cons_succ, List.set_cons_zero, List.set_cons_succ, Nat.zero_add, Nat.reduceAdd, Nat.reduceSub, if_true, Bool.not_true, Bool.not_false, Bool.false_eq_true, if_false, ev_mk, intK, strK, locK, Option.bind_some]
    show (if decide (b < 0) = true then _ else _)
    by_cases hn : b < 0
    · simp only [hn, decide_true, optK_some, slotK_val, blK_bl, ev_ok, ev_var, ev_c, ev_bin, ev_add, ev_addS, ev_addT, ev_addL, ev_sub, ev_mul, ev_div, ev_mod, ev_pow, ev_lt, ev_le, ev_gt, ev_ge, ev_is, ev_eq, ev_in, ev_ix, ev_un, ev_neg, tru_bl, tru_int, tru_non, tru_lst, tru_tup, ev_andV, ev_orV, ev_notV, ev_ifE, ev_nil, ev_cons, ev_tup, ev_lst, ev_new, ev_callB, ev_lenL, ev_lenT, ev_lenS, ev_lenC, ev_abs, ev_int, ev_intB, ev_strI, ev_gcd, ev_tupOf, ev_lstOf, ev_isi, ev_isTy2, ev_call, ev_callK, ev_part, ev_sl, ev_join0, ev_join1, ev_fmt, ev_fmtI, ev_fmtS, ev_tb, ev_tr, ev_tand, ev_tor, ev_tnot, ev_yes, es_nx, es_next, es_brk, es_cnt, es_seq, es_ret, es_retN, es_drop, es_if, es_set, es_gset, es_raise, ev_run, es_for, seqC, seqL, seqT, seqS, itC, itL, itT, at0, at1, at2, at3, at4, at5, ix0, ix1, ix2, ix3, gk_set, gsk_nil, gsk_cons, gk_tup, gk_sub, es_asg, es_aug, ev_app, ev_exn, ev_xf, it_of, it_seq, it_r1, it_r2, it_en, es_step, env0, List.map_cons, List.map_nil, List.length_cons, List.length_nil, List.cons_append, List.nil_append, List.replicate, List.getElem?_cons_zero, List.getElem?_cons_succ, List.set_cons_zero, List.set_cons_succ, Nat.zero_add, Nat.reduceAdd, Nat.reduceSub, if_true, Bool.not_true, Bool.not_false, Bool.false_eq_true, if_false, ev_mk, intK, strK, locK, Option.bind_some]
      have e : -gS a b = shr a b := by unfold shr; rw [if_pos hn]
      show DivOk a (-gS a b) ∧ DivOk b (-gS a b) ∧ _ ∧ D.tup [.int (a.fdiv (-gS a b)), .int (b.fdiv (-gS a b))] = _ ∧ _
      rw [e]
      exact ⟨shr_ok h hb, shr_ok h hb, by decide, rfl, trivial⟩
    · simp only [hn, decide_false, optK_some, slotK_val, blK_bl, ev_ok, ev_var, ev_c, ev_bin, ev_add, ev_addS, ev_addT, ev_addL, ev_sub, ev_mul, ev_div, ev_mod, ev_pow, ev_lt, ev_le, ev_gt, ev_ge, ev_is, ev_eq, ev_in, ev_ix, ev_un, ev_neg, tru_bl, tru_int, tru_non, tru_lst, tru_tup, ev_andV, ev_orV, ev_notV, ev_ifE, ev_nil, ev_cons, ev_tup, ev_lst, ev_new, ev_callB, ev_lenL, ev_lenT, ev_lenS, ev_lenC, ev_abs, ev_int, ev_intB, ev_strI, ev_gcd, ev_tupOf, ev_lstOf, ev_isi, ev_isTy2, ev_call, ev_callK, ev_part, ev_sl, ev_join0, ev_join1, ev_fmt, ev_fmtI, ev_fmtS, ev_tb, ev_tr, ev_tand, ev_tor, ev_tnot, ev_yes, es_nx, es_next, es_brk, es_cnt, es_seq, es_ret, es_retN, es_drop, es_if, es_set, es_gset, es_raise, ev_run, es_for, seqC, seqL, seqT, seqS, itC, itL, itT, at0, at1, at2, at3, at4, at5, ix0, ix1, ix2, ix3, gk_set, gsk_nil, gsk_cons, gk_tup, gk_sub, es_asg, es_aug, ev_app, ev_exn, ev_xf, it_of, it_seq, it_r1, it_r2, it_en, es_step, env0, List.map_cons, List.map_nil, List.length_cons, List.length_nil, List.cons_append, List.nil_append, List.replicate, List.getElem?_cons_zero, List.getElem?_cons_succ, List.set_cons_zero, List.set_cons_succ, Nat.zero_add, Nat.reduceAdd, Nat.reduceSub, if_true, Bool.not_true, Bool.not_false, Bool.false_eq_true, if_false, ev_mk, intK, strK, locK, Option.bind_some]
      have e : gS a b = shr a b := by unfold shr; rw [if_neg hn]
      show DivOk a (gS a b) ∧ DivOk b (gS a b) ∧ _ ∧ D.tup [.int (a.fdiv (gS a b)), .int (b.fdiv (gS a b))] = _ ∧ _
      rw [e]
      exact ⟨shr_ok h hb, shr_ok h hb, by decide, rfl, trivial⟩
  obtain ⟨d, st1, e, rfl, rfl⟩ := key.get
  exact e
theorem lratio_ok (a b : Int) (st : Store) (h : b ≠ 0) (hb : b.natAbs < 2 ^ 8000) : F__law_ratio [.int a, .int b] st = .ok (lw a b) st := by
  have key : Ev (F__law_ratio [.int a, .int b] st) (fun d st1 => d = lw a b ∧ st1 = st) NoX := by
    unfold F__law_ratio B__law_ratio
    rw [ev_run]
    simp only [optK_some, slotK_val, blK_bl, ev_ok, ev_var, ev_c, ev_bin, ev_add, ev_addS, ev_addT, ev_addL, ev_sub, ev_mul, ev_div, ev_mod, ev_pow, ev_lt, ev_le, ev_gt, ev_ge, ev_is, ev_eq, ev_in, ev_ix, ev_un, ev_neg, tru_bl, tru_int, tru_non, tru_lst, tru_tup, ev_andV, ev_orV, ev_notV, ev_ifE, ev_nil, ev_cons, ev_tup, ev_lst, ev_new, ev_callB, ev_lenL, ev_lenT, ev_lenS, ev_lenC, ev_abs, ev_int, ev_intB, ev_strI, ev_gcd, ev_tupOf, ev_lstOf, ev_isi, ev_isTy2, ev_call, ev_callK, ev_part, ev_sl, ev_join0, ev_join1, ev_fmt, ev_fmtI, ev_fmtS, ev_tb, ev_tr, ev_tand, ev_tor, ev_tnot, ev_yes, es_nx, es_next, es_brk, es_cnt, es_seq, es_ret, es_retN, es_drop, es_if, es_set, es_gset, es_raise, ev_run, es_for, seqC, seqL, seqT, seqS, itC, itL, itT, at0, at1, at2, at3, at4, at5, ix0, ix1, ix2, ix3, gk_set, gsk_nil, gsk_cons, gk_tup, gk_sub, es_asg, es_aug, ev_app, ev_exn, ev_xf, it_of, it_seq, it_r1, it_r2, it_en, es_step, env0, List.map_cons, List.map_nil, List.length_cons, List.length_nil, List.cons_append, List.nil_append, List.replicate, List.getElem?_cons_zero, List.getElem?_cons_succ, List.set_cons_zero, List.set_cons_succ, Nat.zero_add, Nat.reduceAdd, Nat.reduceSub, if_true, Bool.not_true, Bool.not_false, Bool.false_eq_true, if_false, ev_mk, intK, strK, locK, Option.bind_some]
    refine Ev.of (lgcd_ok a b st hb) ?_
    simp only [optK_some, slotK_val, blK_bl, ev_ok, ev_var, ev_c, ev_bin, ev_add, ev_addS, ev_addT, ev_addL, ev_sub, ev_mul, ev_div, ev_mod, ev_pow, ev_lt, ev_le, ev_gt, ev_ge, ev_is, ev_eq, ev_in, ev_ix, ev_un, ev_neg, tru_bl, tru_int, tru_non, tru_lst, tru_tup, ev_andV, ev_orV, ev_notV, ev_ifE, ev_nil, ev_cons, ev_tup, ev_lst, ev_new, ev_callB, ev_lenL, ev_lenT, ev_lenS, ev_lenC, ev_abs, ev_int, ev_intB, ev_strI, ev_gcd, ev_tupOf, ev_lstOf, ev_isi, ev_isTy2, ev_call, ev_callK, ev_part, ev_sl, ev_join0, ev_join1, ev_fmt, ev_fmtI, ev_fmtS, ev_tb, ev_tr, ev_tand, ev_tor, ev_tnot, ev_yes, es_nx, es_next, es_brk, es_cnt, es_seq, es_ret, es_retN, es_drop, es_if, es_set, es_gset, es_raise, ev_run, es_for, seqC, seqL, seqT, seqS, itC, itL, itT, at0, at1, at2, at3, at4, at5, ix0, ix1, ix2, ix3, gk_set, gsk_nil, gsk_cons, gk_tup, gk_sub, es_asg, es_aug, ev_app, ev_exn, ev_xf, it_of, it_seq, it_r1, it_r2, it_en, es_step, env0, List.map_cons, List.map_nil, List.length_cons, List.length_nil, List.cons_append, List.nil_append, List.replicate, List.getElem?_cons_zero, List.getElem?_cons_succ, List.set_cons_zero, List.set_cons_succ, Nat.zero_add, Nat.reduceAdd, Nat.reduceSub, if_true, Bool.not_true, Bool.not_false, Bool.false_eq_true, if_false, ev_mk, intK, strK, locK, Option.bind_some]
    by_cases hn : b < 0
    · simp only [hn, decide_true, optK_some, slotK_val, blK_bl, ev_ok, ev_var, ev_c, ev_bin, ev_add, ev_addS, ev_addT, ev_addL, ev_sub, ev_mul, ev_div, ev_mod, ev_pow, ev_lt, ev_le, ev_gt, ev_ge, ev_is, ev_eq, ev_in, ev_ix, ev_un, ev_neg, tru_bl, tru_int, tru_non, tru_lst, tru_tup, ev_andV, ev_orV, ev_notV, ev_ifE, ev_nil, ev_cons, ev_tup, ev_lst, ev_new, ev_callB, ev_lenL, ev_lenT, ev_lenS, ev_lenC, ev_abs, ev_int, ev_intB, ev_strI, ev_gcd, ev_tupOf, ev_lstOf, ev_isi, ev_isTy2, ev_call, ev_callK, ev_part, ev_sl, ev_join0, ev_join1, ev_fmt, ev_fmtI, ev_fmtS, ev_tb, ev_tr, ev_tand, ev_tor, ev_tnot, ev_yes, es_nx, es_next, es_brk, es_cnt, es_seq, es_ret, es_retN, es_drop, es_if, es_set, es_gset, es_raise, ev_run, es_for, seqC, seqL, seqT, seqS, itC, itL, itT, at0, at1, at2, at3, at4, at5, ix0, ix1, ix2, ix3, gk_set, gsk_nil, gsk_cons, gk_tup, gk_sub, es_asg, es_aug, ev_app, ev_exn, ev_xf, it_of, it_seq, it_r1, it_r2, it_en, es_step, env0, List.map_cons, List.map_nil, List.length_cons, List.length_nil, List.cons_append, List.nil_append, List.replicate, List.getElem?_cons_zero, List.getElem?_cons_succ, List.set_cons_zero, List.set_cons_succ, Nat.zero_add, Nat.reduceAdd, Nat.reduceSub, if_true, Bool.not_true, Bool.not_false, Bool.false_eq_true, if_false, ev_mk, intK, strK, locK, Option.bind_some]
      have e : -gS a b = shr a b := by unfold shr; rw [if_pos hn]
      rw [e]
      exact ⟨shr_ok h hb, shr_ok h hb, by decide, rfl, trivial⟩
    · simp only [hn, decide_false, optK_some, slotK_val, blK_bl, ev_ok, ev_var, ev_c, ev_bin, ev_add, ev_addS, ev_addT, ev_addL, ev_sub, ev_mul, ev_div, ev_mod, ev_pow, ev_lt, ev_le, ev_gt, ev_ge, ev_is, ev_eq, ev_in, ev_ix, ev_un, ev_neg, tru_bl, tru_int, tru_non, tru_lst, tru_tup, ev_andV, ev_orV, ev_notV, ev_ifE, ev_nil, ev_cons, ev_tup, ev_lst, ev_new, ev_callB, ev_lenL, ev_lenT, ev_lenS, ev_lenC, ev_abs, ev_int, ev_intB, ev_strI, ev_gcd, ev_tupOf, ev_lstOf, ev_isi, ev_isTy2, ev_call, ev_callK, ev_part, ev_sl, ev_join0, ev_join1, ev_fmt, ev_fmtI, ev_fmtS, ev_tb, ev_tr, ev_tand, ev_tor, ev_tnot, ev_yes, es_nx, es_next, es_brk, es_cnt, es_seq, es_ret, es_retN, es_drop, es_if, es_set, es_gset, es_raise, ev_run, es_for, seqC, seqL, seqT, seqS, itC, itL, itT, at0, at1, at2, at3, at4, at5, ix0, ix1, ix2, ix3, gk_set, gsk_nil, gsk_cons, gk_tup, gk_sub, es_asg, es_aug, ev_app, ev_exn, ev_xf, it_of, it_seq, it_r1, it_r2, it_en, es_step, env0, List.map_cons, List.map_nil, List.length_cons, List.length_nil, List.cons_append, List.nil_append, List.replicate, List.getElem?_cons_zero, List.getElem?_cons_succ, List.set_cons_zero, List.set_cons_succ, Nat.zero_add, Nat.reduceAdd, Nat.reduceSub, if_true, Bool.not_true, Bool.not_false, Bool.false_eq_true, if_false, ev_mk, intK, strK, locK, Option.bind_some]
      have e : gS a b = shr a b := by unfold shr; rw [if_neg hn]
      rw [e]
      exact ⟨shr_ok h hb, shr_ok h hb, by decide, rfl, trivial⟩
  obtain ⟨d, st1, e, rfl, rfl⟩ := key.get
  exact e

/-! ### ratios -/
abbrev rt (a b : Int) : D := .tup [.int a, .int b]
structure Ok (a b : Int) (n : Nat) : Prop where
  pos : 1 ≤ b
  low : Nat.gcd a.natAbs b.natAbs = 1
  sa : a.natAbs < 2 ^ n
  sb : b.natAbs < 2 ^ n
theorem lw_at (a b : Int) (n : Nat) (h : b ≠ 0) (ha : a.natAbs < 2 ^ n) (hb : b.natAbs < 2 ^ n) : ∃ x y, lw a b = rt x y ∧ Ok x y n := by
  have g0 : 0 < Nat.gcd a.natAbs b.natAbs := Nat.gcd_pos_of_pos_right _ (by omega)
  obtain ⟨a', ea⟩ : ((Nat.gcd a.natAbs b.natAbs : Nat) : Int) ∣ a := Int.ofNat_dvd_left.mpr (Nat.gcd_dvd_left _ _)
  obtain ⟨b', eb⟩ : ((Nat.gcd a.natAbs b.natAbs : Nat) : Int) ∣ b := Int.ofNat_dvd_left.mpr (Nat.gcd_dvd_right _ _)
  have na : a.natAbs = Nat.gcd a.natAbs b.natAbs * a'.natAbs := by
    conv => lhs; rw [ea]
    rw [Int.natAbs_mul, Int.natAbs_natCast]
  have nb : b.natAbs = Nat.gcd a.natAbs b.natAbs * b'.natAbs := by
    conv => lhs; rw [eb]
    rw [Int.natAbs_mul, Int.natAbs_natCast]
  have hg : Nat.gcd a'.natAbs b'.natAbs = 1 := by
    have e : Nat.gcd a.natAbs b.natAbs = Nat.gcd a.natAbs b.natAbs * Nat.gcd a'.natAbs b'.natAbs := by
      rw [← Nat.gcd_mul_left, ← na, ← nb]
    exact Nat.eq_of_mul_eq_mul_left g0 (by rw [Nat.mul_one]; exact e.symm)
  have la : a'.natAbs ≤ a.natAbs := by rw [na]; exact Nat.le_mul_of_pos_left _ g0
  have lb : b'.natAbs ≤ b.natAbs := by rw [nb]; exact Nat.le_mul_of_pos_left _ g0
  generalize hG : Nat.gcd a.natAbs b.natAbs = G at *
  have gG : gS a b = (G : Int) := by unfold gS; rw [hG]
  have gz : (G : Int) ≠ 0 := by omega
  have fa : a.fdiv (G : Int) = a' := by rw [ea]; exact Int.mul_fdiv_cancel_left _ gz
  have fb : b.fdiv (G : Int) = b' := by rw [eb]; exact Int.mul_fdiv_cancel_left _ gz
  have fa' : a.fdiv (-(G : Int)) = -a' := by rw [ea, show (G : Int) * a' = -(G : Int) * -a' by rw [Int.neg_mul_neg]]; exact Int.mul_fdiv_cancel_left _ (by omega)
  have fb' : b.fdiv (-(G : Int)) = -b' := by rw [eb, show (G : Int) * b' = -(G : Int) * -b' by rw [Int.neg_mul_neg]]; exact Int.mul_fdiv_cancel_left _ (by omega)
  by_cases hn : b < 0
  · refine ⟨-a', -b', ?_, ?_, ?_, ?_, ?_⟩
    · unfold lw shr
      rw [if_pos hn, gG, fa', fb']
    · have : b' < 0 := by
        rcases Int.lt_trichotomy b' 0 with z | z | z
        · exact z
        · rw [z] at eb; omega
        · have := Int.mul_pos (show (0 : Int) < G by omega) z; omega
      omega
    · rw [Int.natAbs_neg, Int.natAbs_neg]; exact hg
    · rw [Int.natAbs_neg]; omega
    · rw [Int.natAbs_neg]; omega
  · refine ⟨a', b', ?_, ?_, hg, by omega, by omega⟩
    · unfold lw shr
      rw [if_neg hn, gG, fa, fb]
    · have hp : 0 < b := by omega
      rcases Int.lt_trichotomy b' 0 with z | z | z
      · have := Int.mul_neg_of_pos_of_neg (show (0 : Int) < G by omega) z; omega
      · rw [z] at eb; omega
      · omega
theorem lw_one (n : Int) : lw n 1 = rt n 1 := by
  have e : shr n 1 = 1 := by unfold shr gS; simp
  unfold lw
  rw [e]
  simp [Int.fdiv_one]
theorem nz_mul {b d : Int} (h1 : 1 ≤ b) (h2 : 1 ≤ d) : b * d ≠ 0 := by
  have := Int.mul_pos (show (0 : Int) < b by omega) (show (0 : Int) < d by omega)
  omega
theorem sz_mul {a b : Int} {n m k : Nat} (h1 : a.natAbs < 2 ^ n) (h2 : b.natAbs < 2 ^ m) (h : n + m ≤ k) : (a * b).natAbs < 2 ^ k := by
  rw [Int.natAbs_mul]
  refine Nat.lt_of_lt_of_le ?_ (Nat.pow_le_pow_right (by decide) h)
  rw [Nat.pow_add]
  exact Nat.mul_lt_mul'' h1 h2
theorem sz_add {a b : Int} {n k : Nat} (h1 : a.natAbs < 2 ^ n) (h2 : b.natAbs < 2 ^ n) (h : n + 1 ≤ k) : (a + b).natAbs < 2 ^ k := by
  refine Nat.lt_of_lt_of_le ?_ (Nat.pow_le_pow_right (by decide) h)
  rw [Nat.pow_succ]
  have := Int.natAbs_add_le a b
  omega
theorem sz_sub {a b : Int} {n k : Nat} (h1 : a.natAbs < 2 ^ n) (h2 : b.natAbs < 2 ^ n) (h : n + 1 ≤ k) : (a - b).natAbs < 2 ^ k := by
  have := sz_add (a := a) (b := -b) h1 (by rw [Int.natAbs_neg]; exact h2) h
  rwa [← Int.sub_eq_add_neg] at this
theorem mul_sz {a b : Int} {n m : Nat} (h1 : a.natAbs < 2 ^ n) (h2 : b.natAbs < 2 ^ m) (h : n + m ≤ 999990) : MulOk a b := MulOk.of_bits h1 h2 h
section
variable {a b c d : Int} {n m : Nat} {st : Store}
theorem plus_ok (h1 : Ok a b n) (h2 : Ok c d m) (h : n + m ≤ 7000) : F_plus [rt a b, rt c d] st = .ok (lw (a * d + c * b) (b * d)) st := by
  have key : Ev (F_plus [rt a b, rt c d] st) (fun x st1 => x = lw (a * d + c * b) (b * d) ∧ st1 = st) NoX := by
    unfold F_plus B_plus
    rw [ev_run]
    simp only [optK_some, slotK_val, blK_bl, ev_ok, ev_var, ev_c, ev_bin, ev_add, ev_addS, ev_addT, ev_addL, ev_sub, ev_mul, ev_div, ev_mod, ev_pow, ev_lt, ev_le, ev_gt, ev_ge, ev_is, ev_eq, ev_in, ev_ix, ev_un, ev_neg, tru_bl, tru_int, tru_non, tru_lst, tru_tup, ev_andV, ev_orV, ev_notV, ev_ifE, ev_nil, ev_cons, ev_tup, ev_lst, ev_new, ev_callB, ev_lenL, ev_lenT, ev_lenS, ev_lenC, ev_abs, ev_int, ev_intB, ev_strI, ev_gcd, ev_tupOf, ev_lstOf, ev_isi, ev_isTy2, ev_call, ev_callK, ev_part, ev_sl, ev_join0, ev_join1, ev_fmt, ev_fmtI, ev_fmtS, ev_tb, ev_tr, ev_tand, ev_tor, ev_tnot, ev_yes, es_nx, es_next, es_brk, es_cnt, es_seq, es_ret, es_retN, es_drop, es_if, es_set, es_gset, es_raise, ev_run, es_for, seqC, seqL, seqT, seqS, itC, itL, itT, at0, at1, at2, at3, at4, at5, ix0, ix1, ix2, ix3, gk_set, gsk_nil, gsk_cons, gk_tup, gk_sub, es_asg, es_aug, ev_app, ev_exn, ev_xf, it_of, it_seq, it_r1, it_r2, it_en, es_step, env0, List.map_cons, List.map_nil, List.length_cons, List.length_nil, List.cons_append, List.nil_append, List.replicate, List.getElem?_cons_zero, List.getElem?_cons_succ, List.set_cons_zero, List.set_cons_succ, Nat.zero_add, Nat.reduceAdd, Nat.reduceSub, if_true, Bool.not_true, Bool.not_false, Bool.false_eq_true, if_false, ev_mk, intK, strK, locK, Option.bind_some, eqD_int]
    have fin : MulOk a d ∧ MulOk c b ∧ MulOk b d ∧ Ev (F_lowered [.int (a * d + c * b), .int (b * d)] st) (fun x st1 => x = lw (a * d + c * b) (b * d) ∧ st1 = st) NoX := ⟨mul_sz h1.sa h2.sb (by omega), mul_sz h2.sa h1.sb (by omega), mul_sz h1.sb h2.sb (by omega), Ev.of (low_ok _ _ st (nz_mul h1.pos h2.pos) (sz_mul h1.sb h2.sb (by omega))) ⟨rfl, rfl⟩⟩
    by_cases q1 : b = 1
    · by_cases q2 : d = 1
      · subst q1 q2
        simp only [beq_self_eq_true, optK_some, slotK_val, blK_bl, ev_ok, ev_var, ev_c, ev_bin, ev_add, ev_addS, ev_addT, ev_addL, ev_sub, ev_mul, ev_div, ev_mod, ev_pow, ev_lt, ev_le, ev_gt, ev_ge, ev_is, ev_eq, ev_in, ev_ix, ev_un, ev_neg, tru_bl, tru_int, tru_non, tru_lst, tru_tup, ev_andV, ev_orV, ev_notV, ev_ifE, ev_nil, ev_cons, ev_tup, ev_lst, ev_new, ev_callB, ev_lenL, ev_lenT, ev_lenS, ev_lenC, ev_abs, ev_int, ev_intB, ev_strI, ev_gcd, ev_tupOf, ev_lstOf, ev_isi, ev_isTy2, ev_call, ev_callK, ev_part, ev_sl, ev_join0, ev_join1, ev_fmt, ev_fmtI, ev_fmtS, ev_tb, ev_tr, ev_tand, ev_tor, ev_tnot, ev_yes, es_nx, es_next, es_brk, es_cnt, es_seq, es_ret, es_retN, es_drop, es_if, es_set, es_gset, es_raise, ev_run, es_for, seqC, seqL, seqT, seqS, itC, itL, itT, at0, at1, at2, at3, at4, at5, ix0, ix1, ix2, ix3, gk_set, gsk_nil, gsk_cons, gk_tup, gk_sub, es_asg, es_aug, ev_app, ev_exn, ev_xf, it_of, it_seq, it_r1, it_r2, it_en, es_step, env0, List.map_cons, List.map_nil, List.length_cons, List.length_nil, List.cons_append, List.nil_append, List.replicate, List.getElem?_cons_zero, List.getElem?_cons_succ, List.set_cons_zero, List.set_cons_succ, Nat.zero_add, Nat.reduceAdd, Nat.reduceSub, if_true, Bool.not_true, Bool.not_false, Bool.false_eq_true, if_false, ev_mk, intK, strK, locK, Option.bind_some]
        refine ⟨by decide, ?_, trivial⟩
        rw [Int.mul_one, Int.mul_one, Int.mul_one, lw_one]
      · have e2 : (d == 1) = false := by simpa using q2
        subst q1
        simp only [beq_self_eq_true, e2, optK_some, slotK_val, blK_bl, ev_ok, ev_var, ev_c, ev_bin, ev_add, ev_addS, ev_addT, ev_addL, ev_sub, ev_mul, ev_div, ev_mod, ev_pow, ev_lt, ev_le, ev_gt, ev_ge, ev_is, ev_eq, ev_in, ev_ix, ev_un, ev_neg, tru_bl, tru_int, tru_non, tru_lst, tru_tup, ev_andV, ev_orV, ev_notV, ev_ifE, ev_nil, ev_cons, ev_tup, ev_lst, ev_new, ev_callB, ev_lenL, ev_lenT, ev_lenS, ev_lenC, ev_abs, ev_int, ev_intB, ev_strI, ev_gcd, ev_tupOf, ev_lstOf, ev_isi, ev_isTy2, ev_call, ev_callK, ev_part, ev_sl, ev_join0, ev_join1, ev_fmt, ev_fmtI, ev_fmtS, ev_tb, ev_tr, ev_tand, ev_tor, ev_tnot, ev_yes, es_nx, es_next, es_brk, es_cnt, es_seq, es_ret, es_retN, es_drop, es_if, es_set, es_gset, es_raise, ev_run, es_for, seqC, seqL, seqT, seqS, itC, itL, itT, at0, at1, at2, at3, at4, at5, ix0, ix1, ix2, ix3, gk_set, gsk_nil, gsk_cons, gk_tup, gk_sub, es_asg, es_aug, ev_app, ev_exn, ev_xf, it_of, it_seq, it_r1, it_r2, it_en, es_step, env0, List.map_cons, List.map_nil, List.length_cons, List.length_nil, List.cons_append, List.nil_append, List.replicate, List.getElem?_cons_zero, List.getElem?_cons_succ, List.set_cons_zero, List.set_cons_succ, Nat.zero_add, Nat.reduceAdd, Nat.reduceSub, if_true, Bool.not_true, Bool.not_false, Bool.false_eq_true, if_false, ev_mk, intK, strK, locK, Option.bind_some]
        exact fin
    · have e1 : (b == 1) = false := by simpa using q1
      simp only [e1, optK_some, slotK_val, blK_bl, ev_ok, ev_var, ev_c, ev_bin, ev_add, ev_addS, ev_addT, ev_addL, ev_sub, ev_mul, ev_div, ev_mod, ev_pow, ev_lt, ev_le, ev_gt, ev_ge, ev_is, ev_eq, ev_in, ev_ix, ev_un, ev_neg, tru_bl, tru_int, tru_non, tru_lst, tru_tup, ev_andV, ev_orV, ev_notV, ev_ifE, ev_nil, ev_cons, ev_tup, ev_lst, ev_new, ev_callB, ev_lenL, ev_lenT, ev_lenS, ev_lenC, ev_abs, ev_int, ev_intB, ev_strI, ev_gcd, ev_tupOf, ev_lstOf, ev_isi, ev_isTy2, ev_call, ev_callK, ev_part, ev_sl, ev_join0, ev_join1, ev_fmt, ev_fmtI, ev_fmtS, ev_tb, ev_tr, ev_tand, ev_tor, ev_tnot, ev_yes, es_nx, es_next, es_brk, es_cnt, es_seq, es_ret, es_retN, es_drop, es_if, es_set, es_gset, es_raise, ev_run, es_for, seqC, seqL, seqT, seqS, itC, itL, itT, at0, at1, at2, at3, at4, at5, ix0, ix1, ix2, ix3, gk_set, gsk_nil, gsk_cons, gk_tup, gk_sub, es_asg, es_aug, ev_app, ev_exn, ev_xf, it_of, it_seq, it_r1, it_r2, it_en, es_step, env0, List.map_cons, List.map_nil, List.length_cons, List.length_nil, List.cons_append, List.nil_append, List.replicate, List.getElem?_cons_zero, List.getElem?_cons_succ, List.set_cons_zero, List.set_cons_succ, Nat.zero_add, Nat.reduceAdd, Nat.reduceSub, if_true, Bool.not_true, Bool.not_false, Bool.false_eq_true, if_false, ev_mk, intK, strK, locK, Option.bind_some]
      exact fin
  obtain ⟨x, st1, e, rfl, rfl⟩ := key.get
  exact e
theorem lplus_ok (h1 : Ok a b n) (h2 : Ok c d m) (h : n + m ≤ 7000) : F__law_plus [rt a b, rt c d] st = .ok (lw (a * d + c * b) (b * d)) st := by
  have key : Ev (F__law_plus [rt a b, rt c d] st) (fun x st1 => x = lw (a * d + c * b) (b * d) ∧ st1 = st) NoX := by
    unfold F__law_plus B__law_plus
    rw [ev_run]
    simp only [optK_some, slotK_val, blK_bl, ev_ok, ev_var, ev_c, ev_bin, ev_add, ev_addS, ev_addT, ev_addL, ev_sub, ev_mul, ev_div, ev_mod, ev_pow, ev_lt, ev_le, ev_gt, ev_ge, ev_is, ev_eq, ev_in, ev_ix, ev_un, ev_neg, tru_bl, tru_int, tru_non, tru_lst, tru_tup, ev_andV, ev_orV, ev_notV, ev_ifE, ev_nil, ev_cons, ev_tup, ev_lst, ev_new, ev_callB, ev_lenL, ev_lenT, ev_lenS, ev_lenC, ev_abs, ev_int, ev_intB, ev_strI, ev_gcd, ev_tupOf, ev_lstOf, ev_isi, ev_isTy2, ev_call, ev_callK, ev_part, ev_sl, ev_join0, ev_join1, ev_fmt, ev_fmtI, ev_fmtS, ev_tb, ev_tr, ev_tand, ev_tor, ev_tnot, ev_yes, es_nx, es_next, es_brk, es_cnt, es_seq, es_ret, es_retN, es_drop, es_if, es_set, es_gset, es_raise, ev_run, es_for, seqC, seqL, seqT, seqS, itC, itL, itT, at0, at1, at2, at3, at4, at5, ix0, ix1, ix2, ix3, gk_set, gsk_nil, gsk_cons, gk_tup, gk_sub, es_asg, es_aug, ev_app, ev_exn, ev_xf, it_of, it_seq, it_r1, it_r2, it_en, es_step, env0, List.map_cons, List.map_nil, List.length_cons, List.length_nil, List.cons_append, List.nil_append, List.replicate, List.getElem?_cons_zero, List.getElem?_cons_succ, List.set_cons_zero, List.set_cons_succ, Nat.zero_add, Nat.reduceAdd, Nat.reduceSub, if_true, Bool.not_true, Bool.not_false, Bool.false_eq_true, if_false, ev_mk, intK, strK, locK, Option.bind_some]
    exact ⟨mul_sz h1.sa h2.sb (by omega), mul_sz h2.sa h1.sb (by omega), mul_sz h1.sb h2.sb (by omega), Ev.of (lratio_ok _ _ st (nz_mul h1.pos h2.pos) (sz_mul h1.sb h2.sb (by omega))) ⟨rfl, rfl⟩⟩
  obtain ⟨x, st1, e, rfl, rfl⟩ := key.get
  exact e
theorem minus_ok (h1 : Ok a b n) (h2 : Ok c d m) (h : n + m ≤ 7000) : F_minus [rt a b, rt c d] st = .ok (lw (a * d - c * b) (b * d)) st := by
  have key : Ev (F_minus [rt a b, rt c d] st) (fun x st1 => x = lw (a * d - c * b) (b * d) ∧ st1 = st) NoX := by
    unfold F_minus B_minus
    rw [ev_run]
    simp only [optK_some, slotK_val, blK_bl, ev_ok, ev_var, ev_c, ev_bin, ev_add, ev_addS, ev_addT, ev_addL, ev_sub, ev_mul, ev_div, ev_mod, ev_pow, ev_lt, ev_le, ev_gt, ev_ge, ev_is, ev_eq, ev_in, ev_ix, ev_un, ev_neg, tru_bl, tru_int, tru_non, tru_lst, tru_tup, ev_andV, ev_orV, ev_notV, ev_ifE, ev_nil, ev_cons, ev_tup, ev_lst, ev_new, ev_callB, ev_lenL, ev_lenT, ev_lenS, ev_lenC, ev_abs, ev_int, ev_intB, ev_strI, ev_gcd, ev_tupOf, ev_lstOf, ev_isi, ev_isTy2, ev_call, ev_callK, ev_part, ev_sl, ev_join0, ev_join1, ev_fmt, ev_fmtI, ev_fmtS, ev_tb, ev_tr, ev_tand, ev_tor, ev_tnot, ev_yes, es_nx, es_next, es_brk, es_cnt, es_seq, es_ret, es_retN, es_drop, es_if, es_set, es_gset, es_raise, ev_run, es_for, seqC, seqL, seqT, seqS, itC, itL, itT, at0, at1, at2, at3, at4, at5, ix0, ix1, ix2, ix3, gk_set, gsk_nil, gsk_cons, gk_tup, gk_sub, es_asg, es_aug, ev_app, ev_exn, ev_xf, it_of, it_seq, it_r1, it_r2, it_en, es_step, env0, List.map_cons, List.map_nil, List.length_cons, List.length_nil, List.cons_append, List.nil_append, List.replicate, List.getElem?_cons_zero, List.getElem?_cons_succ, List.set_cons_zero, List.set_cons_succ, Nat.zero_add, Nat.reduceAdd, Nat.reduceSub, if_true, Bool.not_true, Bool.not_false, Bool.false_eq_true, if_false, ev_mk, intK, strK, locK, Option.bind_some, eqD_int]
    have fin : MulOk a d ∧ MulOk c b ∧ MulOk b d ∧ Ev (F_lowered [.int (a * d - c * b), .int (b * d)] st) (fun x st1 => x = lw (a * d - c * b) (b * d) ∧ st1 = st) NoX := ⟨mul_sz h1.sa h2.sb (by omega), mul_sz h2.sa h1.sb (by omega), mul_sz h1.sb h2.sb (by omega), Ev.of (low_ok _ _ st (nz_mul h1.pos h2.pos) (sz_mul h1.sb h2.sb (by omega))) ⟨rfl, rfl⟩⟩
    by_cases q1 : b = 1
    · by_cases q2 : d = 1
      · subst q1 q2
        simp only [beq_self_eq_true, optK_some, slotK_val, blK_bl, ev_ok, ev_var, ev_c, ev_bin, ev_add, ev_addS, ev_addT, ev_addL, ev_sub, ev_mul, ev_div, ev_mod, ev_pow, ev_lt, ev_le, ev_gt, ev_ge, ev_is, ev_eq, ev_in, ev_ix, ev_un, ev_neg, tru_bl, tru_int, tru_non, tru_lst, tru_tup, ev_andV, ev_orV, ev_notV, ev_ifE, ev_nil, ev_cons, ev_tup, ev_lst, ev_new, ev_callB, ev_lenL, ev_lenT, ev_lenS, ev_lenC, ev_abs, ev_int, ev_intB, ev_strI, ev_gcd, ev_tupOf, ev_lstOf, ev_isi, ev_isTy2, ev_call, ev_callK, ev_part, ev_sl, ev_join0, ev_join1, ev_fmt, ev_fmtI, ev_fmtS, ev_tb, ev_tr, ev_tand, ev_tor, ev_tnot, ev_yes, es_nx, es_next, es_brk, es_cnt, es_seq, es_ret, es_retN, es_drop, es_if, es_set, es_gset, es_raise, ev_run, es_for, seqC, seqL, seqT, seqS, itC, itL, itT, at0, at1, at2, at3, at4, at5, ix0, ix1, ix2, ix3, gk_set, gsk_nil, gsk_cons, gk_tup, gk_sub, es_asg, es_aug, ev_app, ev_exn, ev_xf, it_of, it_seq, it_r1, it_r2, it_en, es_step, env0, List.map_cons, List.map_nil, List.length_cons, List.length_nil, List.cons_append, List.nil_append, List.replicate, List.getElem?_cons_zero, List.getElem?_cons_succ, List.set_cons_zero, List.set_cons_succ, Nat.zero_add, Nat.reduceAdd, Nat.reduceSub, if_true, Bool.not_true, Bool.not_false, Bool.false_eq_true, if_false, ev_mk, intK, strK, locK, Option.bind_some]
        refine ⟨by decide, ?_, trivial⟩
        rw [Int.mul_one, Int.mul_one, Int.mul_one, lw_one]
      · have e2 : (d == 1) = false := by simpa using q2
        subst q1
        simp only [beq_self_eq_true, e2, optK_some, slotK_val, blK_bl, ev_ok, ev_var, ev_c, ev_bin, ev_add, ev_addS, ev_addT, ev_addL, ev_sub, ev_mul, ev_div, ev_mod, ev_pow, ev_lt, ev_le, ev_gt, ev_ge, ev_is, ev_eq, ev_in, ev_ix, ev_un, ev_neg, tru_bl, tru_int, tru_non, tru_lst, tru_tup, ev_andV, ev_orV, ev_notV, ev_ifE, ev_nil, ev_cons, ev_tup, ev_lst, ev_new, ev_callB, ev_lenL, ev_lenT, ev_lenS, ev_lenC, ev_abs, ev_int, ev_intB, ev_strI, ev_gcd, ev_tupOf, ev_lstOf, ev_isi, ev_isTy2, ev_call, ev_callK, ev_part, ev_sl, ev_join0, ev_join1, ev_fmt, ev_fmtI, ev_fmtS, ev_tb, ev_tr, ev_tand, ev_tor, ev_tnot, ev_yes, es_nx, es_next, es_brk, es_cnt, es_seq, es_ret, es_retN, es_drop, es_if, es_set, es_gset, es_raise, ev_run, es_for, seqC, seqL, seqT, seqS, itC, itL, itT, at0, at1, at2, at3, at4, at5, ix0, ix1, ix2, ix3, gk_set, gsk_nil, gsk_cons, gk_tup, gk_sub, es_asg, es_aug, ev_app, ev_exn, ev_xf, it_of, it_seq, it_r1, it_r2, it_en, es_step, env0, List.map_cons, List.map_nil, List.length_cons, List.length_nil, List.cons_append, List.nil_append, List.replicate, List.getElem?_cons_zero, List.getElem?_cons_succ, List.set_cons_zero, List.set_cons_succ, Nat.zero_add, Nat.reduceAdd, Nat.reduceSub, if_true, Bool.not_true, Bool.not_false, Bool.false_eq_true, if_false, ev_mk, intK, strK, locK, Option.bind_some]
        exact fin
    · have e1 : (b == 1) = false := by simpa using q1
      simp only [e1, optK_some, slotK_val, blK_bl, ev_ok, ev_var, ev_c, ev_bin, ev_add, ev_addS, ev_addT, ev_addL, ev_sub, ev_mul, ev_div, ev_mod, ev_pow, ev_lt, ev_le, ev_gt, ev_ge, ev_is, ev_eq, ev_in, ev_ix, ev_un, ev_neg, tru_bl, tru_int, tru_non, tru_lst, tru_tup, ev_andV, ev_orV, ev_notV, ev_ifE, ev_nil, ev_cons, ev_tup, ev_lst, ev_new, ev_callB, ev_lenL, ev_lenT, ev_lenS, ev_lenC, ev_abs, ev_int, ev_intB, ev_strI, ev_gcd, ev_tupOf, ev_lstOf, ev_isi, ev_isTy2, ev_call, ev_callK, ev_part, ev_sl, ev_join0, ev_join1, ev_fmt, ev_fmtI, ev_fmtS, ev_tb, ev_tr, ev_tand, ev_tor, ev_tnot, ev_yes, es_nx, es_next, es_brk, es_cnt, es_seq, es_ret, es_retN, es_drop, es_if, es_set, es_gset, es_raise, ev_run, es_for, seqC, seqL, seqT, seqS, itC, itL, itT, at0, at1, at2, at3, at4, at5, ix0, ix1, ix2, ix3, gk_set, gsk_nil, gsk_cons, gk_tup, gk_sub, es_asg, es_aug, ev_app, ev_exn, ev_xf, it_of, it_seq, it_r1, it_r2, it_en, es_step, env0, List.map_cons, List.map_nil, List.length_cons, List.length_nil, List.cons_append, List.nil_append, List.replicate, List.getElem?_cons_zero, List.getElem?_cons_succ, List.set_cons_zero, List.set_cons_succ, Nat.zero_add, Nat.reduceAdd, Nat.reduceSub, if_true, Bool.not_true, Bool.not_false, Bool.false_eq_true, if_false, ev_mk, intK, strK, locK, Option.bind_some]
      exact fin
  obtain ⟨x, st1, e, rfl, rfl⟩ := key.get
  exact e
theorem lminus_ok (h1 : Ok a b n) (h2 : Ok c d m) (h : n + m ≤ 7000) : F__law_minus [rt a b, rt c d] st = .ok (lw (a * d - c * b) (b * d)) st := by
  have key : Ev (F__law_minus [rt a b, rt c d] st) (fun x st1 => x = lw (a * d - c * b) (b * d) ∧ st1 = st) NoX := by
    unfold F__law_minus B__law_minus
    rw [ev_run]
    simp only [optK_some, slotK_val, blK_bl, ev_ok, ev_var, ev_c, ev_bin, ev_add, ev_addS, ev_addT, ev_addL, ev_sub, ev_mul, ev_div, ev_mod, ev_pow, ev_lt, ev_le, ev_gt, ev_ge, ev_is, ev_eq, ev_in, ev_ix, ev_un, ev_neg, tru_bl, tru_int, tru_non, tru_lst, tru_tup, ev_andV, ev_orV, ev_notV, ev_ifE, ev_nil, ev_cons, ev_tup, ev_lst, ev_new, ev_callB, ev_lenL, ev_lenT, ev_lenS, ev_lenC, ev_abs, ev_int, ev_intB, ev_strI, ev_gcd, ev_tupOf, ev_lstOf, ev_isi, ev_isTy2, ev_call, ev_callK, ev_part, ev_sl, ev_join0, ev_join1, ev_fmt, ev_fmtI, ev_fmtS, ev_tb, ev_tr, ev_tand, ev_tor, ev_tnot, ev_yes, es_nx, es_next, es_brk, es_cnt, es_seq, es_ret, es_retN, es_drop, es_if, es_set, es_gset, es_raise, ev_run, es_for, seqC, seqL, seqT, seqS, itC, itL, itT, at0, at1, at2, at3, at4, at5, ix0, ix1, ix2, ix3, gk_set, gsk_nil, gsk_cons, gk_tup, gk_sub, es_asg, es_aug, ev_app, ev_exn, ev_xf, it_of, it_seq, it_r1, it_r2, it_en, es_step, env0, List.map_cons, List.map_nil, List.length_cons, List.length_nil, List.cons_append, List.nil_append, List.replicate, List.getElem?_cons_zero, List.getElem?_cons_succ, List.set_cons_zero, List.set_cons_succ, Nat.zero_add, Nat.reduceAdd, Nat.reduceSub, if_true, Bool.not_true, Bool.not_false, Bool.false_eq_true, if_false, ev_mk, intK, strK, locK, Option.bind_some]
    exact ⟨mul_sz h1.sa h2.sb (by omega), mul_sz h2.sa h1.sb (by omega), mul_sz h1.sb h2.sb (by omega), Ev.of (lratio_ok _ _ st (nz_mul h1.pos h2.pos) (sz_mul h1.sb h2.sb (by omega))) ⟨rfl, rfl⟩⟩
  obtain ⟨x, st1, e, rfl, rfl⟩ := key.get
  exact e
theorem times_ok (h1 : Ok a b n) (h2 : Ok c d m) (h : n + m ≤ 7000) : F_times [rt a b, rt c d] st = .ok (lw (a * c) (b * d)) st := by
  have key : Ev (F_times [rt a b, rt c d] st) (fun x st1 => x = lw (a * c) (b * d) ∧ st1 = st) NoX := by
    unfold F_times B_times
    rw [ev_run]
    simp only [optK_some, slotK_val, blK_bl, ev_ok, ev_var, ev_c, ev_bin, ev_add, ev_addS, ev_addT, ev_addL, ev_sub, ev_mul, ev_div, ev_mod, ev_pow, ev_lt, ev_le, ev_gt, ev_ge, ev_is, ev_eq, ev_in, ev_ix, ev_un, ev_neg, tru_bl, tru_int, tru_non, tru_lst, tru_tup, ev_andV, ev_orV, ev_notV, ev_ifE, ev_nil, ev_cons, ev_tup, ev_lst, ev_new, ev_callB, ev_lenL, ev_lenT, ev_lenS, ev_lenC, ev_abs, ev_int, ev_intB, ev_strI, ev_gcd, ev_tupOf, ev_lstOf, ev_isi, ev_isTy2, ev_call, ev_callK, ev_part, ev_sl, ev_join0, ev_join1, ev_fmt, ev_fmtI, ev_fmtS, ev_tb, ev_tr, ev_tand, ev_tor, ev_tnot, ev_yes, es_nx, es_next, es_brk, es_cnt, es_seq, es_ret, es_retN, es_drop, es_if, es_set, es_gset, es_raise, ev_run, es_for, seqC, seqL, seqT, seqS, itC, itL, itT, at0, at1, at2, at3, at4, at5, ix0, ix1, ix2, ix3, gk_set, gsk_nil, gsk_cons, gk_tup, gk_sub, es_asg, es_aug, ev_app, ev_exn, ev_xf, it_of, it_seq, it_r1, it_r2, it_en, es_step, env0, List.map_cons, List.map_nil, List.length_cons, List.length_nil, List.cons_append, List.nil_append, List.replicate, List.getElem?_cons_zero, List.getElem?_cons_succ, List.set_cons_zero, List.set_cons_succ, Nat.zero_add, Nat.reduceAdd, Nat.reduceSub, if_true, Bool.not_true, Bool.not_false, Bool.false_eq_true, if_false, ev_mk, intK, strK, locK, Option.bind_some, eqD_int]
    have mac : MulOk a c := mul_sz h1.sa h2.sa (by omega)
    have fin : MulOk a c ∧ MulOk b d ∧ Ev (F_lowered [.int (a * c), .int (b * d)] st) (fun x st1 => x = lw (a * c) (b * d) ∧ st1 = st) NoX := ⟨mac, mul_sz h1.sb h2.sb (by omega), Ev.of (low_ok _ _ st (nz_mul h1.pos h2.pos) (sz_mul h1.sb h2.sb (by omega))) ⟨rfl, rfl⟩⟩
    by_cases q1 : b = 1
    · by_cases q2 : d = 1
      · subst q1 q2
        simp only [beq_self_eq_true, optK_some, slotK_val, blK_bl, ev_ok, ev_var, ev_c, ev_bin, ev_add, ev_addS, ev_addT, ev_addL, ev_sub, ev_mul, ev_div, ev_mod, ev_pow, ev_lt, ev_le, ev_gt, ev_ge, ev_is, ev_eq, ev_in, ev_ix, ev_un, ev_neg, tru_bl, tru_int, tru_non, tru_lst, tru_tup, ev_andV, ev_orV, ev_notV, ev_ifE, ev_nil, ev_cons, ev_tup, ev_lst, ev_new, ev_callB, ev_lenL, ev_lenT, ev_lenS, ev_lenC, ev_abs, ev_int, ev_intB, ev_strI, ev_gcd, ev_tupOf, ev_lstOf, ev_isi, ev_isTy2, ev_call, ev_callK, ev_part, ev_sl, ev_join0, ev_join1, ev_fmt, ev_fmtI, ev_fmtS, ev_tb, ev_tr, ev_tand, ev_tor, ev_tnot, ev_yes, es_nx, es_next, es_brk, es_cnt, es_seq, es_ret, es_retN, es_drop, es_if, es_set, es_gset, es_raise, ev_run, es_for, seqC, seqL, seqT, seqS, itC, itL, itT, at0, at1, at2, at3, at4, at5, ix0, ix1, ix2, ix3, gk_set, gsk_nil, gsk_cons, gk_tup, gk_sub, es_asg, es_aug, ev_app, ev_exn, ev_xf, it_of, it_seq, it_r1, it_r2, it_en, es_step, env0, List.map_cons, List.map_nil, List.length_cons, List.length_nil, List.cons_append, List.nil_append, List.replicate, List.getElem?_cons_zero, List.getElem?_cons_succ, List.set_cons_zero, List.set_cons_succ, Nat.zero_add, Nat.reduceAdd, Nat.reduceSub, if_true, Bool.not_true, Bool.not_false, Bool.false_eq_true, if_false, ev_mk, intK, strK, locK, Option.bind_some]
        refine ⟨mac, by decide, ?_, trivial⟩
        rw [Int.mul_one, lw_one]
      · have e2 : (d == 1) = false := by simpa using q2
        subst q1
        simp only [beq_self_eq_true, e2, optK_some, slotK_val, blK_bl, ev_ok, ev_var, ev_c, ev_bin, ev_add, ev_addS, ev_addT, ev_addL, ev_sub, ev_mul, ev_div, ev_mod, ev_pow, ev_lt, ev_le, ev_gt, ev_ge, ev_is, ev_eq, ev_in, ev_ix, ev_un, ev_neg, tru_bl, tru_int, tru_non, tru_lst, tru_tup, ev_andV, ev_orV, ev_notV, ev_ifE, ev_nil, ev_cons, ev_tup, ev_lst, ev_new, ev_callB, ev_lenL, ev_lenT, ev_lenS, ev_lenC, ev_abs, ev_int, ev_intB, ev_strI, ev_gcd, ev_tupOf, ev_lstOf, ev_isi, ev_isTy2, ev_call, ev_callK, ev_part, ev_sl, ev_join0, ev_join1, ev_fmt, ev_fmtI, ev_fmtS, ev_tb, ev_tr, ev_tand, ev_tor, ev_tnot, ev_yes, es_nx, es_next, es_brk, es_cnt, es_seq, es_ret, es_retN, es_drop, es_if, es_set, es_gset, es_raise, ev_run, es_for, seqC, seqL, seqT, seqS, itC, itL, itT, at0, at1, at2, at3, at4, at5, ix0, ix1, ix2, ix3, gk_set, gsk_nil, gsk_cons, gk_tup, gk_sub, es_asg, es_aug, ev_app, ev_exn, ev_xf, it_of, it_seq, it_r1, it_r2, it_en, es_step, env0, List.map_cons, List.map_nil, List.length_cons, List.length_nil, List.cons_append, List.nil_append, List.replicate, List.getElem?_cons_zero, List.getElem?_cons_succ, List.set_cons_zero, List.set_cons_succ, Nat.zero_add, Nat.reduceAdd, Nat.reduceSub, if_true, Bool.not_true, Bool.not_false, Bool.false_eq_true, if_false, ev_mk, intK, strK, locK, Option.bind_some]
        exact fin
    · have e1 : (b == 1) = false := by simpa using q1
      simp only [e1, optK_some, slotK_val, blK_bl, ev_ok, ev_var, ev_c, ev_bin, ev_add, ev_addS, ev_addT, ev_addL, ev_sub, ev_mul, ev_div, ev_mod, ev_pow, ev_lt, ev_le, ev_gt, ev_ge, ev_is, ev_eq, ev_in, ev_ix, ev_un, ev_neg, tru_bl, tru_int, tru_non, tru_lst, tru_tup, ev_andV, ev_orV, ev_notV, ev_ifE, ev_nil, ev_cons, ev_tup, ev_lst, ev_new, ev_callB, ev_lenL, ev_lenT, ev_lenS, ev_lenC, ev_abs, ev_int, ev_intB, ev_strI, ev_gcd, ev_tupOf, ev_lstOf, ev_isi, ev_isTy2, ev_call, ev_callK, ev_part, ev_sl, ev_join0, ev_join1, ev_fmt, ev_fmtI, ev_fmtS, ev_tb, ev_tr, ev_tand, ev_tor, ev_tnot, ev_yes, es_nx, es_next, es_brk, es_cnt, es_seq, es_ret, es_retN, es_drop, es_if, es_set, es_gset, es_raise, ev_run, es_for, seqC, seqL, seqT, seqS, itC, itL, itT, at0, at1, at2, at3, at4, at5, ix0, ix1, ix2, ix3, gk_set, gsk_nil, gsk_cons, gk_tup, gk_sub, es_asg, es_aug, ev_app, ev_exn, ev_xf, it_of, it_seq, it_r1, it_r2, it_en, es_step, env0, List.map_cons, List.map_nil, List.length_cons, List.length_nil, List.cons_append, List.nil_append, List.replicate, List.getElem?_cons_zero, List.getElem?_cons_succ, List.set_cons_zero, List.set_cons_succ, Nat.zero_add, Nat.reduceAdd, Nat.reduceSub, if_true, Bool.not_true, Bool.not_false, Bool.false_eq_true, if_false, ev_mk, intK, strK, locK, Option.bind_some]
      exact fin
  obtain ⟨x, st1, e, rfl, rfl⟩ := key.get
  exact e
theorem ltimes_ok (h1 : Ok a b n) (h2 : Ok c d m) (h : n + m ≤ 7000) : F__law_times [rt a b, rt c d] st = .ok (lw (a * c) (b * d)) st := by
  have key : Ev (F__law_times [rt a b, rt c d] st) (fun x st1 => x = lw (a * c) (b * d) ∧ st1 = st) NoX := by
    unfold F__law_times B__law_times
    rw [ev_run]
    simp only [optK_some, slotK_val, blK_bl, ev_ok, ev_var, ev_c, ev_bin, ev_add, ev_addS, ev_addT, ev_addL, ev_sub, ev_mul, ev_div, ev_mod, ev_pow, ev_lt, ev_le, ev_gt, ev_ge, ev_is, ev_eq, ev_in, ev_ix, ev_un, ev_neg, tru_bl, tru_int, tru_non, tru_lst, tru_tup, ev_andV, ev_orV, ev_notV, ev_ifE, ev_nil, ev_cons, ev_tup, ev_lst, ev_new, ev_callB, ev_lenL, ev_lenT, ev_lenS, ev_lenC, ev_abs, ev_int, ev_intB, ev_strI, ev_gcd, ev_tupOf, ev_lstOf, ev_isi, ev_isTy2, ev_call, ev_callK, ev_part, ev_sl, ev_join0, ev_join1, ev_fmt, ev_fmtI, ev_fmtS, ev_tb, ev_tr, ev_tand, ev_tor, ev_tnot, ev_yes, es_nx, es_next, es_brk, es_cnt, es_seq, es_ret, es_retN, es_drop, es_if, es_set, es_gset, es_raise, ev_run, es_for, seqC, seqL, seqT, seqS, itC, itL, itT, at0, at1, at2, at3, at4, at5, ix0, ix1, ix2, ix3, gk_set, gsk_nil, gsk_cons, gk_tup, gk_sub, es_asg, es_aug, ev_app, ev_exn, ev_xf, it_of, it_seq, it_r1, it_r2, it_en, es_step, env0, List.map_cons, List.map_nil, List.length_cons, List.length_nil, List.cons_append, List.nil_append, List.replicate, List.getElem?_cons_zero, List.getElem?_cons_succ, List.set_cons_zero, List.set_cons_succ, Nat.zero_add, Nat.reduceAdd, Nat.reduceSub, if_true, Bool.not_true, Bool.not_false, Bool.false_eq_true, if_false, ev_mk, intK, strK, locK, Option.bind_some]
    exact ⟨mul_sz h1.sa h2.sa (by omega), mul_sz h1.sb h2.sb (by omega), Ev.of (lratio_ok _ _ st (nz_mul h1.pos h2.pos) (sz_mul h1.sb h2.sb (by omega))) ⟨rfl, rfl⟩⟩
  obtain ⟨x, st1, e, rfl, rfl⟩ := key.get
  exact e
theorem nz_mul' {b c : Int} (h1 : 1 ≤ b) (h2 : c ≠ 0) : b * c ≠ 0 := Int.mul_ne_zero (by omega) h2
def xB (w : Str) : Exn := ⟨1, [.str w]⟩
theorem negative_ok : F_negative [rt a b] st = .ok (rt (-a) b) st := by
  have key : Ev (F_negative [rt a b] st) (fun x st1 => x = rt (-a) b ∧ st1 = st) NoX := by
    unfold F_negative B_negative
    rw [ev_run]
    simp only [optK_some, slotK_val, blK_bl, ev_ok, ev_var, ev_c, ev_bin, ev_add, ev_addS, ev_addT, ev_addL, ev_sub, ev_mul, ev_div, ev_mod, ev_pow, ev_lt, ev_le, ev_gt, ev_ge, ev_is, ev_eq, ev_in, ev_ix, ev_un, ev_neg, tru_bl, tru_int, tru_non, tru_lst, tru_tup, ev_andV, ev_orV, ev_notV, ev_ifE, ev_nil, ev_cons, ev_tup, ev_lst, ev_new, ev_callB, ev_lenL, ev_lenT, ev_lenS, ev_lenC, ev_abs, ev_int, ev_intB, ev_strI, ev_gcd, ev_tupOf, ev_lstOf, ev_isi, ev_isTy2, ev_call, ev_callK, ev_part, ev_sl, ev_join0, ev_join1, ev_fmt, ev_fmtI, ev_fmtS, ev_tb, ev_tr, ev_tand, ev_tor, ev_tnot, ev_yes, es_nx, es_next, es_brk, es_cnt, es_seq, es_ret, es_retN, es_drop, es_if, es_set, es_gset, es_raise, ev_run, es_for, seqC, seqL, seqT, seqS, itC, itL, itT, at0, at1, at2, at3, at4, at5, ix0, ix1, ix2, ix3, gk_set, gsk_nil, gsk_cons, gk_tup, gk_sub, es_asg, es_aug, ev_app, ev_exn, ev_xf, it_of, it_seq, it_r1, it_r2, it_en, es_step, env0, List.map_cons, List.map_nil, List.length_cons, List.length_nil, List.cons_append, List.nil_append, List.replicate, List.getElem?_cons_zero, List.getElem?_cons_succ, List.set_cons_zero, List.set_cons_succ, Nat.zero_add, Nat.reduceAdd, Nat.reduceSub, if_true, Bool.not_true, Bool.not_false, Bool.false_eq_true, if_false, ev_mk, intK, strK, locK, Option.bind_some]
    exact ⟨by decide, trivial, trivial⟩
  obtain ⟨x, st1, e, rfl, rfl⟩ := key.get
  exact e
def cp (a b c d : Int) : Int := if a * d - c * b = 0 then 0 else if 0 < a * d - c * b then 1 else -1
theorem compare_ok (h1 : Ok a b n) (h2 : Ok c d m) (h : n + m ≤ 7000) : F_compare [rt a b, rt c d] st = .ok (.int (cp a b c d)) st := by
  have key : Ev (F_compare [rt a b, rt c d] st) (fun x st1 => x = .int (cp a b c d) ∧ st1 = st) NoX := by
    unfold F_compare B_compare
    rw [ev_run]
    simp only [optK_some, slotK_val, blK_bl, ev_ok, ev_var, ev_c, ev_bin, ev_add, ev_addS, ev_addT, ev_addL, ev_sub, ev_mul, ev_div, ev_mod, ev_pow, ev_lt, ev_le, ev_gt, ev_ge, ev_is, ev_eq, ev_in, ev_ix, ev_un, ev_neg, tru_bl, tru_int, tru_non, tru_lst, tru_tup, ev_andV, ev_orV, ev_notV, ev_ifE, ev_nil, ev_cons, ev_tup, ev_lst, ev_new, ev_callB, ev_lenL, ev_lenT, ev_lenS, ev_lenC, ev_abs, ev_int, ev_intB, ev_strI, ev_gcd, ev_tupOf, ev_lstOf, ev_isi, ev_isTy2, ev_call, ev_callK, ev_part, ev_sl, ev_join0, ev_join1, ev_fmt, ev_fmtI, ev_fmtS, ev_tb, ev_tr, ev_tand, ev_tor, ev_tnot, ev_yes, es_nx, es_next, es_brk, es_cnt, es_seq, es_ret, es_retN, es_drop, es_if, es_set, es_gset, es_raise, ev_run, es_for, seqC, seqL, seqT, seqS, itC, itL, itT, at0, at1, at2, at3, at4, at5, ix0, ix1, ix2, ix3, gk_set, gsk_nil, gsk_cons, gk_tup, gk_sub, es_asg, es_aug, ev_app, ev_exn, ev_xf, it_of, it_seq, it_r1, it_r2, it_en, es_step, env0, List.map_cons, List.map_nil, List.length_cons, List.length_nil, List.cons_append, List.nil_append, List.replicate, List.getElem?_cons_zero, List.getElem?_cons_succ, List.set_cons_zero, List.set_cons_succ, Nat.zero_add, Nat.reduceAdd, Nat.reduceSub, if_true, Bool.not_true, Bool.not_false, Bool.false_eq_true, if_false, ev_mk, intK, strK, locK, Option.bind_some, eqD_int]
    refine ⟨mul_sz h1.sa h2.sb (by omega), mul_sz h2.sa h1.sb (by omega), ?_⟩
    unfold cp
    by_cases q : a * d - c * b = 0
    · simp [q]
    · by_cases q2 : 0 < a * d - c * b <;> simp [q, q2]
  obtain ⟨x, st1, e, rfl, rfl⟩ := key.get
  exact e
theorem lcompare_ok (h1 : Ok a b n) (h2 : Ok c d m) (h : n + m ≤ 7000) : F__law_compare [rt a b, rt c d] st = .ok (.int (cp a b c d)) st := by
  have key : Ev (F__law_compare [rt a b, rt c d] st) (fun x st1 => x = .int (cp a b c d) ∧ st1 = st) NoX := by
    unfold F__law_compare B__law_compare
    rw [ev_run]
    simp only [optK_some, slotK_val, blK_bl, ev_ok, ev_var, ev_c, ev_bin, ev_add, ev_addS, ev_addT, ev_addL, ev_sub, ev_mul, ev_div, ev_mod, ev_pow, ev_lt, ev_le, ev_gt, ev_ge, ev_is, ev_eq, ev_in, ev_ix, ev_un, ev_neg, tru_bl, tru_int, tru_non, tru_lst, tru_tup, ev_andV, ev_orV, ev_notV, ev_ifE, ev_nil, ev_cons, ev_tup, ev_lst, ev_new, ev_callB, ev_lenL, ev_lenT, ev_lenS, ev_lenC, ev_abs, ev_int, ev_intB, ev_strI, ev_gcd, ev_tupOf, ev_lstOf, ev_isi, ev_isTy2, ev_call, ev_callK, ev_part, ev_sl, ev_join0, ev_join1, ev_fmt, ev_fmtI, ev_fmtS, ev_tb, ev_tr, ev_tand, ev_tor, ev_tnot, ev_yes, es_nx, es_next, es_brk, es_cnt, es_seq, es_ret, es_retN, es_drop, es_if, es_set, es_gset, es_raise, ev_run, es_for, seqC, seqL, seqT, seqS, itC, itL, itT, at0, at1, at2, at3, at4, at5, ix0, ix1, ix2, ix3, gk_set, gsk_nil, gsk_cons, gk_tup, gk_sub, es_asg, es_aug, ev_app, ev_exn, ev_xf, it_of, it_seq, it_r1, it_r2, it_en, es_step, env0, List.map_cons, List.map_nil, List.length_cons, List.length_nil, List.cons_append, List.nil_append, List.replicate, List.getElem?_cons_zero, List.getElem?_cons_succ, List.set_cons_zero, List.set_cons_succ, Nat.zero_add, Nat.reduceAdd, Nat.reduceSub, if_true, Bool.not_true, Bool.not_false, Bool.false_eq_true, if_false, ev_mk, intK, strK, locK, Option.bind_some]
    refine ⟨mul_sz h1.sa h2.sb (by omega), mul_sz h2.sa h1.sb (by omega), ?_⟩
    unfold cp
    generalize a * d = u
    generalize c * b = v
    by_cases q : u < v
    · simp only [q, decide_true, if_true]
      refine ⟨?_, trivial⟩
      rw [if_neg (by omega), if_neg (by omega)]
    · by_cases q2 : v < u
      · simp only [q, q2, decide_true, decide_false, if_true, Bool.false_eq_true, if_false]
        refine ⟨?_, trivial⟩
        rw [if_neg (by omega), if_pos (by omega)]
      · simp only [q, q2, decide_false, Bool.false_eq_true, if_false]
        refine ⟨?_, trivial⟩
        rw [if_pos (by omega)]
  obtain ⟨x, st1, e, rfl, rfl⟩ := key.get
  exact e
end

end L_k02
namespace L_k02
open PySem PySem.Spec PyProof.Rows L2 Dl
/-! ### kinds -/
def oD : Option Int → D
  | none => .non
  | some i => .int i
def loB (o : Option Int) (i : Int) : Bool := match o with
  | none => true
  | some l => decide (l ≤ i)
def hiB (o : Option Int) (i : Int) : Bool := match o with
  | none => true
  | some l => decide (i ≤ l)
theorem whole_int (i : Int) (lo hi : Option Int) (st : Store) : F_is_whole [.int i, oD lo, oD hi] st = .ok (.bl (loB lo i && hiB hi i)) st := by
  have key : Ev (F_is_whole [.int i, oD lo, oD hi] st) (fun x st1 => x = .bl (loB lo i && hiB hi i) ∧ st1 = st) NoX := by
    unfold F_is_whole B_is_whole
    rw [ev_run]
    simp only [optK_some, slotK_val, blK_bl, ev_ok, ev_var, ev_c, ev_bin, ev_add, ev_addS, ev_addT, ev_addL, ev_sub, ev_mul, ev_div, ev_mod, ev_pow, ev_lt, ev_le, ev_gt, ev_ge, ev_is, ev_eq, ev_in, ev_ix, ev_un, ev_neg, tru_bl, tru_int, tru_non, tru_lst, tru_tup, ev_andV, ev_orV, ev_notV, ev_ifE, ev_nil, ev_cons, ev_tup, ev_lst, ev_new, ev_callB, ev_lenL, ev_lenT, ev_lenS, ev_lenC, ev_abs, ev_int, ev_intB, ev_strI, ev_gcd, ev_tupOf, ev_lstOf, ev_isi, ev_isTy2, ev_call, ev_callK, ev_part, ev_sl, ev_join0, ev_join1, ev_fmt, ev_fmtI, ev_fmtS, ev_tb, ev_tr, ev_tand, ev_tor, ev_tnot, ev_yes, es_nx, es_next, es_brk, es_cnt, es_seq, es_ret, es_retN, es_drop, es_if, es_set, es_gset, es_raise, ev_run, es_for, seqC, seqL, seqT, seqS, itC, itL, itT, at0, at1, at2, at3, at4, at5, ix0, ix1, ix2, ix3, gk_set, gsk_nil, gsk_cons, gk_tup, gk_sub, es_asg, es_aug, ev_app, ev_exn, ev_xf, it_of, it_seq, it_r1, it_r2, it_en, es_step, env0, List.map_cons, List.map_nil, List.length_cons, List.length_nil, List.cons_append, List.nil_append, List.replicate, List.getElem?_cons_zero, List.getElem?_cons_succ, List.set_cons_zero, List.set_cons_succ, Nat.zero_add, Nat.reduceAdd, Nat.reduceSub, if_true, Bool.not_true, Bool.not_false, Bool.false_eq_true, if_false, ev_mk, intK, strK, locK, Option.bind_some, kdOf, isD, tyOf, Ty.sub, if_true, Option.map_some]
    cases lo with
    | none =>
      cases hi with
      | none => simp [oD, isV, Ev, optK, loB, hiB, Ty.sub]
      | some h => simp [oD, isV, Ev, optK, loB, hiB, Ty.sub, dCmpI]
    | some l =>
      by_cases q : l ≤ i
      · cases hi with
        | none => simp [oD, isV, Ev, optK, loB, hiB, Ty.sub, dCmpI, blK, q, show ¬ i < l by omega]
        | some h => simp [oD, isV, Ev, optK, loB, hiB, Ty.sub, dCmpI, blK, q, show ¬ i < l by omega]
      · cases hi with
        | none => simp [oD, isV, Ev, optK, loB, hiB, Ty.sub, dCmpI, blK, q, show i < l by omega]
        | some h => simp [oD, isV, Ev, optK, loB, hiB, Ty.sub, dCmpI, blK, q, show i < l by omega]
  obtain ⟨x, st1, e, rfl, rfl⟩ := key.get
  exact e

theorem whole_no {d : D} {t : Ty} {lo hi : D} {st : Store} (h : kdOf st d = some (.ty t)) (ht : t ≠ .int) : F_is_whole [d, lo, hi] st = .ok (.bl false) st := by
  have key : Ev (F_is_whole [d, lo, hi] st) (fun x st1 => x = .bl false ∧ st1 = st) NoX := by
    unfold F_is_whole B_is_whole
    rw [ev_run]
    simp only [optK_some, slotK_val, blK_bl, ev_ok, ev_var, ev_c, ev_bin, ev_add, ev_addS, ev_addT, ev_addL, ev_sub, ev_mul, ev_div, ev_mod, ev_pow, ev_lt, ev_le, ev_gt, ev_ge, ev_is, ev_eq, ev_in, ev_ix, ev_un, ev_neg, tru_bl, tru_int, tru_non, tru_lst, tru_tup, ev_andV, ev_orV, ev_notV, ev_ifE, ev_nil, ev_cons, ev_tup, ev_lst, ev_new, ev_callB, ev_lenL, ev_lenT, ev_lenS, ev_lenC, ev_abs, ev_int, ev_intB, ev_strI, ev_gcd, ev_tupOf, ev_lstOf, ev_isi, ev_isTy2, ev_call, ev_callK, ev_part, ev_sl, ev_join0, ev_join1, ev_fmt, ev_fmtI, ev_fmtS, ev_tb, ev_tr, ev_tand, ev_tor, ev_tnot, ev_yes, es_nx, es_next, es_brk, es_cnt, es_seq, es_ret, es_retN, es_drop, es_if, es_set, es_gset, es_raise, ev_run, es_for, seqC, seqL, seqT, seqS, itC, itL, itT, at0, at1, at2, at3, at4, at5, ix0, ix1, ix2, ix3, gk_set, gsk_nil, gsk_cons, gk_tup, gk_sub, es_asg, es_aug, ev_app, ev_exn, ev_xf, it_of, it_seq, it_r1, it_r2, it_en, es_step, env0, List.map_cons, List.map_nil, List.length_cons, List.length_nil, List.cons_append, List.nil_append, List.replicate, List.getElem?_cons_zero, List.getElem?_cons_succ, List.set_cons_zero, List.set_cons_succ, Nat.zero_add, Nat.reduceAdd, Nat.reduceSub, if_true, Bool.not_true, Bool.not_false, Bool.false_eq_true, if_false, ev_mk, intK, strK, locK, Option.bind_some, h, isD, tyOf, if_true, Option.map_some]
    cases t with
    | int => exact absurd rfl ht
    | _ => simp [Ty.sub, Es, Ev, optK]
  obtain ⟨x, st1, e, rfl, rfl⟩ := key.get
  exact e
/-- the things that are asked -/
theorem isr2 {x y : D} {wx : Bool} {st : Store} {Q : D → Store → Prop} (hx : F_is_whole [x, .non, .non] st = .ok (.bl wx) st) (h0 : wx = false → Q (.bl false) st)
    (h1 : wx = true → ∃ wy, F_is_whole [y, .int 1, .non] st = .ok (.bl wy) st ∧ (wy = false → Q (.bl false) st) ∧ (wy = true → ∃ a b, x = .int a ∧ y = .int b ∧ Q (.bl ((Nat.gcd a.natAbs b.natAbs : Int) == 1)) st)) : Ev (F_is_ratio [.tup [x, y]] st) Q NoX := by
  unfold F_is_ratio B_is_ratio
  rw [ev_run]
  simp only [optK_some, slotK_val, blK_bl, ev_ok, ev_var, ev_c, ev_bin, ev_add, ev_addS, ev_addT, ev_addL, ev_sub, ev_mul, ev_div, ev_mod, ev_pow, ev_lt, ev_le, ev_gt, ev_ge, ev_is, ev_eq, ev_in, ev_ix, ev_un, ev_neg, tru_bl, tru_int, tru_non, tru_lst, tru_tup, ev_andV, ev_orV, ev_notV, ev_ifE, ev_nil, ev_cons, ev_tup, ev_lst, ev_new, ev_callB, ev_lenL, ev_lenT, ev_lenS, ev_lenC, ev_abs, ev_int, ev_intB, ev_strI, ev_gcd, ev_tupOf, ev_lstOf, ev_isi, ev_isTy2, ev_call, ev_callK, ev_part, ev_sl, ev_join0, ev_join1, ev_fmt, ev_fmtI, ev_fmtS, ev_tb, ev_tr, ev_tand, ev_tor, ev_tnot, ev_yes, es_nx, es_next, es_brk, es_cnt, es_seq, es_ret, es_retN, es_drop, es_if, es_set, es_gset, es_raise, ev_run, es_for, seqC, seqL, seqT, seqS, itC, itL, itT, at0, at1, at2, at3, at4, at5, ix0, ix1, ix2, ix3, gk_set, gsk_nil, gsk_cons, gk_tup, gk_sub, es_asg, es_aug, ev_app, ev_exn, ev_xf, it_of, it_seq, it_r1, it_r2, it_en, es_step, env0, List.map_cons, List.map_nil, List.length_cons, List.length_nil, List.cons_append, List.nil_append, List.replicate, List.getElem?_cons_zero, List.getElem?_cons_succ, List.set_cons_zero, List.set_cons_succ, Nat.zero_add, Nat.reduceAdd, Nat.reduceSub, if_true, Bool.not_true, Bool.not_false, Bool.false_eq_true, if_false, ev_mk, intK, strK, locK, Option.bind_some, kdOf, isD, tyOf, if_true, Option.map_some, eqD_int]
  simp only [Ty.sub, decide_true, optK_some, slotK_val, blK_bl, ev_ok, ev_var, ev_c, ev_bin, ev_add, ev_addS, ev_addT, ev_addL, ev_sub, ev_mul, ev_div, ev_mod, ev_pow, ev_lt, ev_le, ev_gt, ev_ge, ev_is, ev_eq, ev_in, ev_ix, ev_un, ev_neg, tru_bl, tru_int, tru_non, tru_lst, tru_tup, ev_andV, ev_orV, ev_notV, ev_ifE, ev_nil, ev_cons, ev_tup, ev_lst, ev_new, ev_callB, ev_lenL, ev_lenT, ev_lenS, ev_lenC, ev_abs, ev_int, ev_intB, ev_strI, ev_gcd, ev_tupOf, ev_lstOf, ev_isi, ev_isTy2, ev_call, ev_callK, ev_part, ev_sl, ev_join0, ev_join1, ev_fmt, ev_fmtI, ev_fmtS, ev_tb, ev_tr, ev_tand, ev_tor, ev_tnot, ev_yes, es_nx, es_next, es_brk, es_cnt, es_seq, es_ret, es_retN, es_drop, es_if, es_set, es_gset, es_raise, ev_run, es_for, seqC, seqL, seqT, seqS, itC, itL, itT, at0, at1, at2, at3, at4, at5, ix0, ix1, ix2, ix3, gk_set, gsk_nil, gsk_cons, gk_tup, gk_sub, es_asg, es_aug, ev_app, ev_exn, ev_xf, it_of, it_seq, it_r1, it_r2, it_en, es_step, env0, List.map_cons, List.map_nil, List.length_cons, List.length_nil, List.cons_append, List.nil_append, List.replicate, List.getElem?_cons_zero, List.getElem?_cons_succ, List.set_cons_zero, List.set_cons_succ, Nat.zero_add, Nat.reduceAdd, Nat.reduceSub, if_true, Bool.not_true, Bool.not_false, Bool.false_eq_true, if_false, ev_mk, intK, strK, locK, Option.bind_some, show ("tuple" : String) ≠ "int" by decide, show ("tuple" : String) ≠ "bool" by decide, show ("tuple" : String) ≠ "str" by decide, if_false, if_true, Option.map_some]
  rw [if_neg (by decide)]
  refine Ev.of hx ?_
  simp only [optK_some, slotK_val, blK_bl, ev_ok, ev_var, ev_c, ev_bin, ev_add, ev_addS, ev_addT, ev_addL, ev_sub, ev_mul, ev_div, ev_mod, ev_pow, ev_lt, ev_le, ev_gt, ev_ge, ev_is, ev_eq, ev_in, ev_ix, ev_un, ev_neg, tru_bl, tru_int, tru_non, tru_lst, tru_tup, ev_andV, ev_orV, ev_notV, ev_ifE, ev_nil, ev_cons, ev_tup, ev_lst, ev_new, ev_callB, ev_lenL, ev_lenT, ev_lenS, ev_lenC, ev_abs, ev_int, ev_intB, ev_strI, ev_gcd, ev_tupOf, ev_lstOf, ev_isi, ev_isTy2, ev_call, ev_callK, ev_part, ev_sl, ev_join0, ev_join1, ev_fmt, ev_fmtI, ev_fmtS, ev_tb, ev_tr, ev_tand, ev_tor, ev_tnot, ev_yes, es_nx, es_next, es_brk, es_cnt, es_seq, es_ret, es_retN, es_drop, es_if, es_set, es_gset, es_raise, ev_run, es_for, seqC, seqL, seqT, seqS, itC, itL, itT, at0, at1, at2, at3, at4, at5, ix0, ix1, ix2, ix3, gk_set, gsk_nil, gsk_cons, gk_tup, gk_sub, es_asg, es_aug, ev_app, ev_exn, ev_xf, it_of, it_seq, it_r1, it_r2, it_en, es_step, env0, List.map_cons, List.map_nil, List.length_cons, List.length_nil, List.cons_append, List.nil_append, List.replicate, List.getElem?_cons_zero, List.getElem?_cons_succ, List.set_cons_zero, List.set_cons_succ, Nat.zero_add, Nat.reduceAdd, Nat.reduceSub, if_true, Bool.not_true, Bool.not_false, Bool.false_eq_true, if_false, ev_mk, intK, strK, locK, Option.bind_some]
  cases wx with
  | false => exact h0 rfl
  | true =>
    obtain ⟨wy, e, h2, h3⟩ := h1 rfl
    simp only [optK_some, slotK_val, blK_bl, ev_ok, ev_var, ev_c, ev_bin, ev_add, ev_addS, ev_addT, ev_addL, ev_sub, ev_mul, ev_div, ev_mod, ev_pow, ev_lt, ev_le, ev_gt, ev_ge, ev_is, ev_eq, ev_in, ev_ix, ev_un, ev_neg, tru_bl, tru_int, tru_non, tru_lst, tru_tup, ev_andV, ev_orV, ev_notV, ev_ifE, ev_nil, ev_cons, ev_tup, ev_lst, ev_new, ev_callB, ev_lenL, ev_lenT, ev_lenS, ev_lenC, ev_abs, ev_int, ev_intB, ev_strI, ev_gcd, ev_tupOf, ev_lstOf, ev_isi, ev_isTy2, ev_call, ev_callK, ev_part, ev_sl, ev_join0, ev_join1, ev_fmt, ev_fmtI, ev_fmtS, ev_tb, ev_tr, ev_tand, ev_tor, ev_tnot, ev_yes, es_nx, es_next, es_brk, es_cnt, es_seq, es_ret, es_retN, es_drop, es_if, es_set, es_gset, es_raise, ev_run, es_for, seqC, seqL, seqT, seqS, itC, itL, itT, at0, at1, at2, at3, at4, at5, ix0, ix1, ix2, ix3, gk_set, gsk_nil, gsk_cons, gk_tup, gk_sub, es_asg, es_aug, ev_app, ev_exn, ev_xf, it_of, it_seq, it_r1, it_r2, it_en, es_step, env0, List.map_cons, List.map_nil, List.length_cons, List.length_nil, List.cons_append, List.nil_append, List.replicate, List.getElem?_cons_zero, List.getElem?_cons_succ, List.set_cons_zero, List.set_cons_succ, Nat.zero_add, Nat.reduceAdd, Nat.reduceSub, if_true, Bool.not_true, Bool.not_false, Bool.false_eq_true, if_false, ev_mk, intK, strK, locK, Option.bind_some]
    refine Ev.of e ?_
    simp only [optK_some, slotK_val, blK_bl, ev_ok, ev_var, ev_c, ev_bin, ev_add, ev_addS, ev_addT, ev_addL, ev_sub, ev_mul, ev_div, ev_mod, ev_pow, ev_lt, ev_le, ev_gt, ev_ge, ev_is, ev_eq, ev_in, ev_ix, ev_un, ev_neg, tru_bl, tru_int, tru_non, tru_lst, tru_tup, ev_andV, ev_orV, ev_notV, ev_ifE, ev_nil, ev_cons, ev_tup, ev_lst, ev_new, ev_callB, ev_lenL, ev_lenT, ev_lenS, ev_lenC, ev_abs, ev_int, ev_intB, ev_strI, ev_gcd, ev_tupOf, ev_lstOf, ev_isi, ev_isTy2, ev_call, ev_callK, ev_part, ev_sl, ev_join0, ev_join1, ev_fmt, ev_fmtI, ev_fmtS, ev_tb, ev_tr, ev_tand, ev_tor, ev_tnot, ev_yes, es_nx, es_next, es_brk, es_cnt, es_seq, es_ret, es_retN, es_drop, es_if, es_set, es_gset, es_raise, ev_run, es_for, seqC, seqL, seqT, seqS, itC, itL, itT, at0, at1, at2, at3, at4, at5, ix0, ix1, ix2, ix3, gk_set, gsk_nil, gsk_cons, gk_tup, gk_sub, es_asg, es_aug, ev_app, ev_exn, ev_xf, it_of, it_seq, it_r1, it_r2, it_en, es_step, env0, List.map_cons, List.map_nil, List.length_cons, List.length_nil, List.cons_append, List.nil_append, List.replicate, List.getElem?_cons_zero, List.getElem?_cons_succ, List.set_cons_zero, List.set_cons_succ, Nat.zero_add, Nat.reduceAdd, Nat.reduceSub, if_true, Bool.not_true, Bool.not_false, Bool.false_eq_true, if_false, ev_mk, intK, strK, locK, Option.bind_some]
    cases wy with
    | false => exact h2 rfl
    | true =>
      obtain ⟨a, b, rfl, rfl, h⟩ := h3 rfl
      simp only [optK_some, slotK_val, blK_bl, ev_ok, ev_var, ev_c, ev_bin, ev_add, ev_addS, ev_addT, ev_addL, ev_sub, ev_mul, ev_div, ev_mod, ev_pow, ev_lt, ev_le, ev_gt, ev_ge, ev_is, ev_eq, ev_in, ev_ix, ev_un, ev_neg, tru_bl, tru_int, tru_non, tru_lst, tru_tup, ev_andV, ev_orV, ev_notV, ev_ifE, ev_nil, ev_cons, ev_tup, ev_lst, ev_new, ev_callB, ev_lenL, ev_lenT, ev_lenS, ev_lenC, ev_abs, ev_int, ev_intB, ev_strI, ev_gcd, ev_tupOf, ev_lstOf, ev_isi, ev_isTy2, ev_call, ev_callK, ev_part, ev_sl, ev_join0, ev_join1, ev_fmt, ev_fmtI, ev_fmtS, ev_tb, ev_tr, ev_tand, ev_tor, ev_tnot, ev_yes, es_nx, es_next, es_brk, es_cnt, es_seq, es_ret, es_retN, es_drop, es_if, es_set, es_gset, es_raise, ev_run, es_for, seqC, seqL, seqT, seqS, itC, itL, itT, at0, at1, at2, at3, at4, at5, ix0, ix1, ix2, ix3, gk_set, gsk_nil, gsk_cons, gk_tup, gk_sub, es_asg, es_aug, ev_app, ev_exn, ev_xf, it_of, it_seq, it_r1, it_r2, it_en, es_step, env0, List.map_cons, List.map_nil, List.length_cons, List.length_nil, List.cons_append, List.nil_append, List.replicate, List.getElem?_cons_zero, List.getElem?_cons_succ, List.set_cons_zero, List.set_cons_succ, Nat.zero_add, Nat.reduceAdd, Nat.reduceSub, if_true, Bool.not_true, Bool.not_false, Bool.false_eq_true, if_false, ev_mk, intK, strK, locK, Option.bind_some, eqD_int]
      exact h
theorem isr_int (a b : Int) (st : Store) : F_is_ratio [rt a b] st = .ok (.bl (decide (1 ≤ b) && ((Nat.gcd a.natAbs b.natAbs : Int) == 1))) st := by
  have key : Ev (F_is_ratio [rt a b] st) (fun x st1 => x = .bl (decide (1 ≤ b) && ((Nat.gcd a.natAbs b.natAbs : Int) == 1)) ∧ st1 = st) NoX := by
    refine isr2 (whole_int a none none st) (fun z => by cases z) fun _ => ⟨_, whole_int b (some 1) none st, fun z => ?_, fun z => ⟨a, b, rfl, rfl, ?_⟩⟩
    · have e : decide (1 ≤ b) = false := by simpa [loB, hiB] using z
      rw [e]
      exact ⟨rfl, rfl⟩
    · have e : decide (1 ≤ b) = true := by simpa [loB, hiB] using z
      rw [e]
      exact ⟨rfl, rfl⟩
  obtain ⟨x, st1, e, rfl, rfl⟩ := key.get
  exact e
theorem isr_bl1 (b : Bool) (y : D) (st : Store) : F_is_ratio [.tup [.bl b, y]] st = .ok (.bl false) st := by
  have key : Ev (F_is_ratio [.tup [.bl b, y]] st) (fun x st1 => x = .bl false ∧ st1 = st) NoX :=
    isr2 (whole_no (t := .bl) rfl (by decide)) (fun _ => ⟨rfl, rfl⟩) fun z => by cases z
  obtain ⟨x, st1, e, rfl, rfl⟩ := key.get
  exact e
theorem isr_bl2 (a : Int) (b : Bool) (st : Store) : F_is_ratio [.tup [.int a, .bl b]] st = .ok (.bl false) st := by
  have key : Ev (F_is_ratio [.tup [.int a, .bl b]] st) (fun x st1 => x = .bl false ∧ st1 = st) NoX :=
    isr2 (whole_int a none none st) (fun z => by cases z) fun _ => ⟨_, whole_no (t := .bl) rfl (by decide), fun _ => ⟨rfl, rfl⟩, fun z => by cases z⟩
  obtain ⟨x, st1, e, rfl, rfl⟩ := key.get
  exact e
theorem isr_kind {d : D} {t : Ty} {st : Store} (h : kdOf st d = some (.ty t)) (ht : t ≠ .tup) : F_is_ratio [d] st = .ok (.bl false) st := by
  have key : Ev (F_is_ratio [d] st) (fun x st1 => x = .bl false ∧ st1 = st) NoX := by
    unfold F_is_ratio B_is_ratio
    rw [ev_run]
    simp only [optK_some, slotK_val, blK_bl, ev_ok, ev_var, ev_c, ev_bin, ev_add, ev_addS, ev_addT, ev_addL, ev_sub, ev_mul, ev_div, ev_mod, ev_pow, ev_lt, ev_le, ev_gt, ev_ge, ev_is, ev_eq, ev_in, ev_ix, ev_un, ev_neg, tru_bl, tru_int, tru_non, tru_lst, tru_tup, ev_andV, ev_orV, ev_notV, ev_ifE, ev_nil, ev_cons, ev_tup, ev_lst, ev_new, ev_callB, ev_lenL, ev_lenT, ev_lenS, ev_lenC, ev_abs, ev_int, ev_intB, ev_strI, ev_gcd, ev_tupOf, ev_lstOf, ev_isi, ev_isTy2, ev_call, ev_callK, ev_part, ev_sl, ev_join0, ev_join1, ev_fmt, ev_fmtI, ev_fmtS, ev_tb, ev_tr, ev_tand, ev_tor, ev_tnot, ev_yes, es_nx, es_next, es_brk, es_cnt, es_seq, es_ret, es_retN, es_drop, es_if, es_set, es_gset, es_raise, ev_run, es_for, seqC, seqL, seqT, seqS, itC, itL, itT, at0, at1, at2, at3, at4, at5, ix0, ix1, ix2, ix3, gk_set, gsk_nil, gsk_cons, gk_tup, gk_sub, es_asg, es_aug, ev_app, ev_exn, ev_xf, it_of, it_seq, it_r1, it_r2, it_en, es_step, env0, List.map_cons, List.map_nil, List.length_cons, List.length_nil, List.cons_append, List.nil_append, List.replicate, List.getElem?_cons_zero, List.getElem?_cons_succ, List.set_cons_zero, List.set_cons_succ, Nat.zero_add, Nat.reduceAdd, Nat.reduceSub, if_true, Bool.not_true, Bool.not_false, Bool.false_eq_true, if_false, ev_mk, intK, strK, locK, Option.bind_some, h, isD, tyOf]
    simp only [optK_some, slotK_val, blK_bl, ev_ok, ev_var, ev_c, ev_bin, ev_add, ev_addS, ev_addT, ev_addL, ev_sub, ev_mul, ev_div, ev_mod, ev_pow, ev_lt, ev_le, ev_gt, ev_ge, ev_is, ev_eq, ev_in, ev_ix, ev_un, ev_neg, tru_bl, tru_int, tru_non, tru_lst, tru_tup, ev_andV, ev_orV, ev_notV, ev_ifE, ev_nil, ev_cons, ev_tup, ev_lst, ev_new, ev_callB, ev_lenL, ev_lenT, ev_lenS, ev_lenC, ev_abs, ev_int, ev_intB, ev_strI, ev_gcd, ev_tupOf, ev_lstOf, ev_isi, ev_isTy2, ev_call, ev_callK, ev_part, ev_sl, ev_join0, ev_join1, ev_fmt, ev_fmtI, ev_fmtS, ev_tb, ev_tr, ev_tand, ev_tor, ev_tnot, ev_yes, es_nx, es_next, es_brk, es_cnt, es_seq, es_ret, es_retN, es_drop, es_if, es_set, es_gset, es_raise, ev_run, es_for, seqC, seqL, seqT, seqS, itC, itL, itT, at0, at1, at2, at3, at4, at5, ix0, ix1, ix2, ix3, gk_set, gsk_nil, gsk_cons, gk_tup, gk_sub, es_asg, es_aug, ev_app, ev_exn, ev_xf, it_of, it_seq, it_r1, it_r2, it_en, es_step, env0, List.map_cons, List.map_nil, List.length_cons, List.length_nil, List.cons_append, List.nil_append, List.replicate, List.getElem?_cons_zero, List.getElem?_cons_succ, List.set_cons_zero, List.set_cons_succ, Nat.zero_add, Nat.reduceAdd, Nat.reduceSub, if_true, Bool.not_true, Bool.not_false, Bool.false_eq_true, if_false, ev_mk, intK, strK, locK, Option.bind_some, show ("tuple" : String) ≠ "int" by decide, show ("tuple" : String) ≠ "bool" by decide, show ("tuple" : String) ≠ "str" by decide, if_false, if_true, Option.map_some]
    have e : t.sub .tup = false := by
      cases t with
      | tup => exact absurd rfl ht
      | _ => rfl
    simp only [e, optK_some, slotK_val, blK_bl, ev_ok, ev_var, ev_c, ev_bin, ev_add, ev_addS, ev_addT, ev_addL, ev_sub, ev_mul, ev_div, ev_mod, ev_pow, ev_lt, ev_le, ev_gt, ev_ge, ev_is, ev_eq, ev_in, ev_ix, ev_un, ev_neg, tru_bl, tru_int, tru_non, tru_lst, tru_tup, ev_andV, ev_orV, ev_notV, ev_ifE, ev_nil, ev_cons, ev_tup, ev_lst, ev_new, ev_callB, ev_lenL, ev_lenT, ev_lenS, ev_lenC, ev_abs, ev_int, ev_intB, ev_strI, ev_gcd, ev_tupOf, ev_lstOf, ev_isi, ev_isTy2, ev_call, ev_callK, ev_part, ev_sl, ev_join0, ev_join1, ev_fmt, ev_fmtI, ev_fmtS, ev_tb, ev_tr, ev_tand, ev_tor, ev_tnot, ev_yes, es_nx, es_next, es_brk, es_cnt, es_seq, es_ret, es_retN, es_drop, es_if, es_set, es_gset, es_raise, ev_run, es_for, seqC, seqL, seqT, seqS, itC, itL, itT, at0, at1, at2, at3, at4, at5, ix0, ix1, ix2, ix3, gk_set, gsk_nil, gsk_cons, gk_tup, gk_sub, es_asg, es_aug, ev_app, ev_exn, ev_xf, it_of, it_seq, it_r1, it_r2, it_en, es_step, env0, List.map_cons, List.map_nil, List.length_cons, List.length_nil, List.cons_append, List.nil_append, List.replicate, List.getElem?_cons_zero, List.getElem?_cons_succ, List.set_cons_zero, List.set_cons_succ, Nat.zero_add, Nat.reduceAdd, Nat.reduceSub, if_true, Bool.not_true, Bool.not_false, Bool.false_eq_true, if_false, ev_mk, intK, strK, locK, Option.bind_some]
    exact ⟨trivial, trivial⟩
  obtain ⟨x, st1, e, rfl, rfl⟩ := key.get
  exact e
theorem isr_len {ds : List D} {st : Store} (h : ds.length ≠ 2) : F_is_ratio [.tup ds] st = .ok (.bl false) st := by
  have key : Ev (F_is_ratio [.tup ds] st) (fun x st1 => x = .bl false ∧ st1 = st) NoX := by
    unfold F_is_ratio B_is_ratio
    rw [ev_run]
    simp only [optK_some, slotK_val, blK_bl, ev_ok, ev_var, ev_c, ev_bin, ev_add, ev_addS, ev_addT, ev_addL, ev_sub, ev_mul, ev_div, ev_mod, ev_pow, ev_lt, ev_le, ev_gt, ev_ge, ev_is, ev_eq, ev_in, ev_ix, ev_un, ev_neg, tru_bl, tru_int, tru_non, tru_lst, tru_tup, ev_andV, ev_orV, ev_notV, ev_ifE, ev_nil, ev_cons, ev_tup, ev_lst, ev_new, ev_callB, ev_lenL, ev_lenT, ev_lenS, ev_lenC, ev_abs, ev_int, ev_intB, ev_strI, ev_gcd, ev_tupOf, ev_lstOf, ev_isi, ev_isTy2, ev_call, ev_callK, ev_part, ev_sl, ev_join0, ev_join1, ev_fmt, ev_fmtI, ev_fmtS, ev_tb, ev_tr, ev_tand, ev_tor, ev_tnot, ev_yes, es_nx, es_next, es_brk, es_cnt, es_seq, es_ret, es_retN, es_drop, es_if, es_set, es_gset, es_raise, ev_run, es_for, seqC, seqL, seqT, seqS, itC, itL, itT, at0, at1, at2, at3, at4, at5, ix0, ix1, ix2, ix3, gk_set, gsk_nil, gsk_cons, gk_tup, gk_sub, es_asg, es_aug, ev_app, ev_exn, ev_xf, it_of, it_seq, it_r1, it_r2, it_en, es_step, env0, List.map_cons, List.map_nil, List.length_cons, List.length_nil, List.cons_append, List.nil_append, List.replicate, List.getElem?_cons_zero, List.getElem?_cons_succ, List.set_cons_zero, List.set_cons_succ, Nat.zero_add, Nat.reduceAdd, Nat.reduceSub, if_true, Bool.not_true, Bool.not_false, Bool.false_eq_true, if_false, ev_mk, intK, strK, locK, Option.bind_some, kdOf, isD, tyOf, if_true, Option.map_some, eqD_int]
    simp only [Ty.sub, decide_true, optK_some, slotK_val, blK_bl, ev_ok, ev_var, ev_c, ev_bin, ev_add, ev_addS, ev_addT, ev_addL, ev_sub, ev_mul, ev_div, ev_mod, ev_pow, ev_lt, ev_le, ev_gt, ev_ge, ev_is, ev_eq, ev_in, ev_ix, ev_un, ev_neg, tru_bl, tru_int, tru_non, tru_lst, tru_tup, ev_andV, ev_orV, ev_notV, ev_ifE, ev_nil, ev_cons, ev_tup, ev_lst, ev_new, ev_callB, ev_lenL, ev_lenT, ev_lenS, ev_lenC, ev_abs, ev_int, ev_intB, ev_strI, ev_gcd, ev_tupOf, ev_lstOf, ev_isi, ev_isTy2, ev_call, ev_callK, ev_part, ev_sl, ev_join0, ev_join1, ev_fmt, ev_fmtI, ev_fmtS, ev_tb, ev_tr, ev_tand, ev_tor, ev_tnot, ev_yes, es_nx, es_next, es_brk, es_cnt, es_seq, es_ret, es_retN, es_drop, es_if, es_set, es_gset, es_raise, ev_run, es_for, seqC, seqL, seqT, seqS, itC, itL, itT, at0, at1, at2, at3, at4, at5, ix0, ix1, ix2, ix3, gk_set, gsk_nil, gsk_cons, gk_tup, gk_sub, es_asg, es_aug, ev_app, ev_exn, ev_xf, it_of, it_seq, it_r1, it_r2, it_en, es_step, env0, List.map_cons, List.map_nil, List.length_cons, List.length_nil, List.cons_append, List.nil_append, List.replicate, List.getElem?_cons_zero, List.getElem?_cons_succ, List.set_cons_zero, List.set_cons_succ, Nat.zero_add, Nat.reduceAdd, Nat.reduceSub, if_true, Bool.not_true, Bool.not_false, Bool.false_eq_true, if_false, ev_mk, intK, strK, locK, Option.bind_some, show ("tuple" : String) ≠ "int" by decide, show ("tuple" : String) ≠ "bool" by decide, show ("tuple" : String) ≠ "str" by decide, if_false, if_true, Option.map_some]
    have e : ((ds.length : Int) == 2) = false := by
      have : (ds.length : Int) ≠ 2 := by omega
      simpa using this
    simp only [e, optK_some, slotK_val, blK_bl, ev_ok, ev_var, ev_c, ev_bin, ev_add, ev_addS, ev_addT, ev_addL, ev_sub, ev_mul, ev_div, ev_mod, ev_pow, ev_lt, ev_le, ev_gt, ev_ge, ev_is, ev_eq, ev_in, ev_ix, ev_un, ev_neg, tru_bl, tru_int, tru_non, tru_lst, tru_tup, ev_andV, ev_orV, ev_notV, ev_ifE, ev_nil, ev_cons, ev_tup, ev_lst, ev_new, ev_callB, ev_lenL, ev_lenT, ev_lenS, ev_lenC, ev_abs, ev_int, ev_intB, ev_strI, ev_gcd, ev_tupOf, ev_lstOf, ev_isi, ev_isTy2, ev_call, ev_callK, ev_part, ev_sl, ev_join0, ev_join1, ev_fmt, ev_fmtI, ev_fmtS, ev_tb, ev_tr, ev_tand, ev_tor, ev_tnot, ev_yes, es_nx, es_next, es_brk, es_cnt, es_seq, es_ret, es_retN, es_drop, es_if, es_set, es_gset, es_raise, ev_run, es_for, seqC, seqL, seqT, seqS, itC, itL, itT, at0, at1, at2, at3, at4, at5, ix0, ix1, ix2, ix3, gk_set, gsk_nil, gsk_cons, gk_tup, gk_sub, es_asg, es_aug, ev_app, ev_exn, ev_xf, it_of, it_seq, it_r1, it_r2, it_en, es_step, env0, List.map_cons, List.map_nil, List.length_cons, List.length_nil, List.cons_append, List.nil_append, List.replicate, List.getElem?_cons_zero, List.getElem?_cons_succ, List.set_cons_zero, List.set_cons_succ, Nat.zero_add, Nat.reduceAdd, Nat.reduceSub, if_true, Bool.not_true, Bool.not_false, Bool.false_eq_true, if_false, ev_mk, intK, strK, locK, Option.bind_some]
    exact ⟨trivial, trivial⟩
  obtain ⟨x, st1, e, rfl, rfl⟩ := key.get
  exact e
/-! ### told rightly -/
theorem sh_rt {a b : Int} : SeqAt.shaped (.tuple [.int a, .int b]) = true := by simp [SeqAt.shaped, PyData.canLay0, PyData.canLayAll0, PyData.depth, PyData.depthAll]
theorem eqD_rt {a b : Int} {st : Store} : eqD st (rt a b) (rt a b) = some true := eqD_refl (a := .tuple [.int a, .int b]) rfl rfl sh_rt
theorem sh_str {x : Str} (h : PyData.strOk x = true) : SeqAt.shaped (.str x) = true := by simp [SeqAt.shaped, PyData.canLay0, PyData.depth, h]
/-! ### make_ratio -/
theorem make_ok (a b : Int) (st : Store) (h : b ≠ 0) (hb : b.natAbs < 2 ^ 8000) : F_make_ratio [.int a, .int b] st = .ok (lw a b) st := by
  have key : Ev (F_make_ratio [.int a, .int b] st) (fun x st1 => x = lw a b ∧ st1 = st) NoX := by
    unfold F_make_ratio B_make_ratio
    rw [ev_run]
    have e1 : (b == 0) = false := by simpa using h
    simp only [optK_some, slotK_val, blK_bl, ev_ok, ev_var, ev_c, ev_bin, ev_add, ev_addS, ev_addT, ev_addL, ev_sub, ev_mul, ev_div, ev_mod, ev_pow, ev_lt, ev_le, ev_gt, ev_ge, ev_is, ev_eq, ev_in, ev_ix, ev_un, ev_neg, tru_bl, tru_int, tru_non, tru_lst, tru_tup, ev_andV, ev_orV, ev_notV, ev_ifE, ev_nil, ev_cons, ev_tup, ev_lst, ev_new, ev_callB, ev_lenL, ev_lenT, ev_lenS, ev_lenC, ev_abs, ev_int, ev_intB, ev_strI, ev_gcd, ev_tupOf, ev_lstOf, ev_isi, ev_isTy2, ev_call, ev_callK, ev_part, ev_sl, ev_join0, ev_join1, ev_fmt, ev_fmtI, ev_fmtS, ev_tb, ev_tr, ev_tand, ev_tor, ev_tnot, ev_yes, es_nx, es_next, es_brk, es_cnt, es_seq, es_ret, es_retN, es_drop, es_if, es_set, es_gset, es_raise, ev_run, es_for, seqC, seqL, seqT, seqS, itC, itL, itT, at0, at1, at2, at3, at4, at5, ix0, ix1, ix2, ix3, gk_set, gsk_nil, gsk_cons, gk_tup, gk_sub, es_asg, es_aug, ev_app, ev_exn, ev_xf, it_of, it_seq, it_r1, it_r2, it_en, es_step, env0, List.map_cons, List.map_nil, List.length_cons, List.length_nil, List.cons_append, List.nil_append, List.replicate, List.getElem?_cons_zero, List.getElem?_cons_succ, List.set_cons_zero, List.set_cons_succ, Nat.zero_add, Nat.reduceAdd, Nat.reduceSub, if_true, Bool.not_true, Bool.not_false, Bool.false_eq_true, if_false, ev_mk, intK, strK, locK, Option.bind_some, eqD_int, e1]
    refine Ev.of (whole_int a none none st) ?_
    simp only [optK_some, slotK_val, blK_bl, ev_ok, ev_var, ev_c, ev_bin, ev_add, ev_addS, ev_addT, ev_addL, ev_sub, ev_mul, ev_div, ev_mod, ev_pow, ev_lt, ev_le, ev_gt, ev_ge, ev_is, ev_eq, ev_in, ev_ix, ev_un, ev_neg, tru_bl, tru_int, tru_non, tru_lst, tru_tup, ev_andV, ev_orV, ev_notV, ev_ifE, ev_nil, ev_cons, ev_tup, ev_lst, ev_new, ev_callB, ev_lenL, ev_lenT, ev_lenS, ev_lenC, ev_abs, ev_int, ev_intB, ev_strI, ev_gcd, ev_tupOf, ev_lstOf, ev_isi, ev_isTy2, ev_call, ev_callK, ev_part, ev_sl, ev_join0, ev_join1, ev_fmt, ev_fmtI, ev_fmtS, ev_tb, ev_tr, ev_tand, ev_tor, ev_tnot, ev_yes, es_nx, es_next, es_brk, es_cnt, es_seq, es_ret, es_retN, es_drop, es_if, es_set, es_gset, es_raise, ev_run, es_for, seqC, seqL, seqT, seqS, itC, itL, itT, at0, at1, at2, at3, at4, at5, ix0, ix1, ix2, ix3, gk_set, gsk_nil, gsk_cons, gk_tup, gk_sub, es_asg, es_aug, ev_app, ev_exn, ev_xf, it_of, it_seq, it_r1, it_r2, it_en, es_step, env0, List.map_cons, List.map_nil, List.length_cons, List.length_nil, List.cons_append, List.nil_append, List.replicate, List.getElem?_cons_zero, List.getElem?_cons_succ, List.set_cons_zero, List.set_cons_succ, Nat.zero_add, Nat.reduceAdd, Nat.reduceSub, if_true, Bool.not_true, Bool.not_false, Bool.false_eq_true, if_false, ev_mk, intK, strK, locK, Option.bind_some, loB, hiB, Bool.and_self]
    refine Ev.of (whole_int b none none st) ?_
    simp only [optK_some, slotK_val, blK_bl, ev_ok, ev_var, ev_c, ev_bin, ev_add, ev_addS, ev_addT, ev_addL, ev_sub, ev_mul, ev_div, ev_mod, ev_pow, ev_lt, ev_le, ev_gt, ev_ge, ev_is, ev_eq, ev_in, ev_ix, ev_un, ev_neg, tru_bl, tru_int, tru_non, tru_lst, tru_tup, ev_andV, ev_orV, ev_notV, ev_ifE, ev_nil, ev_cons, ev_tup, ev_lst, ev_new, ev_callB, ev_lenL, ev_lenT, ev_lenS, ev_lenC, ev_abs, ev_int, ev_intB, ev_strI, ev_gcd, ev_tupOf, ev_lstOf, ev_isi, ev_isTy2, ev_call, ev_callK, ev_part, ev_sl, ev_join0, ev_join1, ev_fmt, ev_fmtI, ev_fmtS, ev_tb, ev_tr, ev_tand, ev_tor, ev_tnot, ev_yes, es_nx, es_next, es_brk, es_cnt, es_seq, es_ret, es_retN, es_drop, es_if, es_set, es_gset, es_raise, ev_run, es_for, seqC, seqL, seqT, seqS, itC, itL, itT, at0, at1, at2, at3, at4, at5, ix0, ix1, ix2, ix3, gk_set, gsk_nil, gsk_cons, gk_tup, gk_sub, es_asg, es_aug, ev_app, ev_exn, ev_xf, it_of, it_seq, it_r1, it_r2, it_en, es_step, env0, List.map_cons, List.map_nil, List.length_cons, List.length_nil, List.cons_append, List.nil_append, List.replicate, List.getElem?_cons_zero, List.getElem?_cons_succ, List.set_cons_zero, List.set_cons_succ, Nat.zero_add, Nat.reduceAdd, Nat.reduceSub, if_true, Bool.not_true, Bool.not_false, Bool.false_eq_true, if_false, ev_mk, intK, strK, locK, Option.bind_some, loB, hiB, Bool.and_self]
    exact Ev.of (low_ok a b st h hb) ⟨rfl, rfl⟩
  obtain ⟨x, st1, e, rfl, rfl⟩ := key.get
  exact e
theorem exc_of {F : DFun} {ds : List D} {st : Store} {x : Exn} (h : Ev (F ds st) (fun _ _ => False) fun e st1 => e = x ∧ st1 = st) : F ds st = .exc x st := by
  cases e : F ds st with
  | ok d s => rw [e] at h; exact h.elim
  | stuck => rw [e] at h; exact h.elim
  | exc y s => rw [e] at h; obtain ⟨rfl, rfl⟩ := h; rfl
theorem Ev.at {α : Type} {x : RE α} {a : α} {st : Store} {Φ : α → Store → Prop} {Y : Exn → Store → Prop} (e : x = .ok a st) (h : Φ a st) : Ev x Φ Y := by rw [e]; exact h
theorem make_top {d y : D} {t : Ty} {st : Store} (h : kdOf st d = some (.ty t)) (ht : t ≠ .int) : F_make_ratio [d, y] st = .exc (xB "top") st := by
  refine exc_of ?_
  unfold F_make_ratio B_make_ratio
  rw [ev_run]
  simp only [optK_some, slotK_val, blK_bl, ev_ok, ev_var, ev_c, ev_bin, ev_add, ev_addS, ev_addT, ev_addL, ev_sub, ev_mul, ev_div, ev_mod, ev_pow, ev_lt, ev_le, ev_gt, ev_ge, ev_is, ev_eq, ev_in, ev_ix, ev_un, ev_neg, tru_bl, tru_int, tru_non, tru_lst, tru_tup, ev_andV, ev_orV, ev_notV, ev_ifE, ev_nil, ev_cons, ev_tup, ev_lst, ev_new, ev_callB, ev_lenL, ev_lenT, ev_lenS, ev_lenC, ev_abs, ev_int, ev_intB, ev_strI, ev_gcd, ev_tupOf, ev_lstOf, ev_isi, ev_isTy2, ev_call, ev_callK, ev_part, ev_sl, ev_join0, ev_join1, ev_fmt, ev_fmtI, ev_fmtS, ev_tb, ev_tr, ev_tand, ev_tor, ev_tnot, ev_yes, es_nx, es_next, es_brk, es_cnt, es_seq, es_ret, es_retN, es_drop, es_if, es_set, es_gset, es_raise, ev_run, es_for, seqC, seqL, seqT, seqS, itC, itL, itT, at0, at1, at2, at3, at4, at5, ix0, ix1, ix2, ix3, gk_set, gsk_nil, gsk_cons, gk_tup, gk_sub, es_asg, es_aug, ev_app, ev_exn, ev_xf, it_of, it_seq, it_r1, it_r2, it_en, es_step, env0, List.map_cons, List.map_nil, List.length_cons, List.length_nil, List.cons_append, List.nil_append, List.replicate, List.getElem?_cons_zero, List.getElem?_cons_succ, List.set_cons_zero, List.set_cons_succ, Nat.zero_add, Nat.reduceAdd, Nat.reduceSub, if_true, Bool.not_true, Bool.not_false, Bool.false_eq_true, if_false, ev_mk, intK, strK, locK, Option.bind_some]
  refine Ev.at (whole_no h ht) ?_
  simp only [optK_some, slotK_val, blK_bl, ev_ok, ev_var, ev_c, ev_bin, ev_add, ev_addS, ev_addT, ev_addL, ev_sub, ev_mul, ev_div, ev_mod, ev_pow, ev_lt, ev_le, ev_gt, ev_ge, ev_is, ev_eq, ev_in, ev_ix, ev_un, ev_neg, tru_bl, tru_int, tru_non, tru_lst, tru_tup, ev_andV, ev_orV, ev_notV, ev_ifE, ev_nil, ev_cons, ev_tup, ev_lst, ev_new, ev_callB, ev_lenL, ev_lenT, ev_lenS, ev_lenC, ev_abs, ev_int, ev_intB, ev_strI, ev_gcd, ev_tupOf, ev_lstOf, ev_isi, ev_isTy2, ev_call, ev_callK, ev_part, ev_sl, ev_join0, ev_join1, ev_fmt, ev_fmtI, ev_fmtS, ev_tb, ev_tr, ev_tand, ev_tor, ev_tnot, ev_yes, es_nx, es_next, es_brk, es_cnt, es_seq, es_ret, es_retN, es_drop, es_if, es_set, es_gset, es_raise, ev_run, es_for, seqC, seqL, seqT, seqS, itC, itL, itT, at0, at1, at2, at3, at4, at5, ix0, ix1, ix2, ix3, gk_set, gsk_nil, gsk_cons, gk_tup, gk_sub, es_asg, es_aug, ev_app, ev_exn, ev_xf, it_of, it_seq, it_r1, it_r2, it_en, es_step, env0, List.map_cons, List.map_nil, List.length_cons, List.length_nil, List.cons_append, List.nil_append, List.replicate, List.getElem?_cons_zero, List.getElem?_cons_succ, List.set_cons_zero, List.set_cons_succ, Nat.zero_add, Nat.reduceAdd, Nat.reduceSub, if_true, Bool.not_true, Bool.not_false, Bool.false_eq_true, if_false, ev_mk, intK, strK, locK, Option.bind_some]
  exact ⟨trivial, rfl, trivial⟩
theorem make_bot {a : Int} {d : D} {t : Ty} {st : Store} (h : kdOf st d = some (.ty t)) (ht : t ≠ .int) : F_make_ratio [.int a, d] st = .exc (xB "bottom") st := by
  refine exc_of ?_
  unfold F_make_ratio B_make_ratio
  rw [ev_run]
  simp only [optK_some, slotK_val, blK_bl, ev_ok, ev_var, ev_c, ev_bin, ev_add, ev_addS, ev_addT, ev_addL, ev_sub, ev_mul, ev_div, ev_mod, ev_pow, ev_lt, ev_le, ev_gt, ev_ge, ev_is, ev_eq, ev_in, ev_ix, ev_un, ev_neg, tru_bl, tru_int, tru_non, tru_lst, tru_tup, ev_andV, ev_orV, ev_notV, ev_ifE, ev_nil, ev_cons, ev_tup, ev_lst, ev_new, ev_callB, ev_lenL, ev_lenT, ev_lenS, ev_lenC, ev_abs, ev_int, ev_intB, ev_strI, ev_gcd, ev_tupOf, ev_lstOf, ev_isi, ev_isTy2, ev_call, ev_callK, ev_part, ev_sl, ev_join0, ev_join1, ev_fmt, ev_fmtI, ev_fmtS, ev_tb, ev_tr, ev_tand, ev_tor, ev_tnot, ev_yes, es_nx, es_next, es_brk, es_cnt, es_seq, es_ret, es_retN, es_drop, es_if, es_set, es_gset, es_raise, ev_run, es_for, seqC, seqL, seqT, seqS, itC, itL, itT, at0, at1, at2, at3, at4, at5, ix0, ix1, ix2, ix3, gk_set, gsk_nil, gsk_cons, gk_tup, gk_sub, es_asg, es_aug, ev_app, ev_exn, ev_xf, it_of, it_seq, it_r1, it_r2, it_en, es_step, env0, List.map_cons, List.map_nil, List.length_cons, List.length_nil, List.cons_append, List.nil_append, List.replicate, List.getElem?_cons_zero, List.getElem?_cons_succ, List.set_cons_zero, List.set_cons_succ, Nat.zero_add, Nat.reduceAdd, Nat.reduceSub, if_true, Bool.not_true, Bool.not_false, Bool.false_eq_true, if_false, ev_mk, intK, strK, locK, Option.bind_some]
  refine Ev.at (whole_int a none none st) ?_
  simp only [optK_some, slotK_val, blK_bl, ev_ok, ev_var, ev_c, ev_bin, ev_add, ev_addS, ev_addT, ev_addL, ev_sub, ev_mul, ev_div, ev_mod, ev_pow, ev_lt, ev_le, ev_gt, ev_ge, ev_is, ev_eq, ev_in, ev_ix, ev_un, ev_neg, tru_bl, tru_int, tru_non, tru_lst, tru_tup, ev_andV, ev_orV, ev_notV, ev_ifE, ev_nil, ev_cons, ev_tup, ev_lst, ev_new, ev_callB, ev_lenL, ev_lenT, ev_lenS, ev_lenC, ev_abs, ev_int, ev_intB, ev_strI, ev_gcd, ev_tupOf, ev_lstOf, ev_isi, ev_isTy2, ev_call, ev_callK, ev_part, ev_sl, ev_join0, ev_join1, ev_fmt, ev_fmtI, ev_fmtS, ev_tb, ev_tr, ev_tand, ev_tor, ev_tnot, ev_yes, es_nx, es_next, es_brk, es_cnt, es_seq, es_ret, es_retN, es_drop, es_if, es_set, es_gset, es_raise, ev_run, es_for, seqC, seqL, seqT, seqS, itC, itL, itT, at0, at1, at2, at3, at4, at5, ix0, ix1, ix2, ix3, gk_set, gsk_nil, gsk_cons, gk_tup, gk_sub, es_asg, es_aug, ev_app, ev_exn, ev_xf, it_of, it_seq, it_r1, it_r2, it_en, es_step, env0, List.map_cons, List.map_nil, List.length_cons, List.length_nil, List.cons_append, List.nil_append, List.replicate, List.getElem?_cons_zero, List.getElem?_cons_succ, List.set_cons_zero, List.set_cons_succ, Nat.zero_add, Nat.reduceAdd, Nat.reduceSub, if_true, Bool.not_true, Bool.not_false, Bool.false_eq_true, if_false, ev_mk, intK, strK, locK, Option.bind_some, loB, hiB, Bool.and_self]
  refine Ev.at (whole_no h ht) ?_
  simp only [optK_some, slotK_val, blK_bl, ev_ok, ev_var, ev_c, ev_bin, ev_add, ev_addS, ev_addT, ev_addL, ev_sub, ev_mul, ev_div, ev_mod, ev_pow, ev_lt, ev_le, ev_gt, ev_ge, ev_is, ev_eq, ev_in, ev_ix, ev_un, ev_neg, tru_bl, tru_int, tru_non, tru_lst, tru_tup, ev_andV, ev_orV, ev_notV, ev_ifE, ev_nil, ev_cons, ev_tup, ev_lst, ev_new, ev_callB, ev_lenL, ev_lenT, ev_lenS, ev_lenC, ev_abs, ev_int, ev_intB, ev_strI, ev_gcd, ev_tupOf, ev_lstOf, ev_isi, ev_isTy2, ev_call, ev_callK, ev_part, ev_sl, ev_join0, ev_join1, ev_fmt, ev_fmtI, ev_fmtS, ev_tb, ev_tr, ev_tand, ev_tor, ev_tnot, ev_yes, es_nx, es_next, es_brk, es_cnt, es_seq, es_ret, es_retN, es_drop, es_if, es_set, es_gset, es_raise, ev_run, es_for, seqC, seqL, seqT, seqS, itC, itL, itT, at0, at1, at2, at3, at4, at5, ix0, ix1, ix2, ix3, gk_set, gsk_nil, gsk_cons, gk_tup, gk_sub, es_asg, es_aug, ev_app, ev_exn, ev_xf, it_of, it_seq, it_r1, it_r2, it_en, es_step, env0, List.map_cons, List.map_nil, List.length_cons, List.length_nil, List.cons_append, List.nil_append, List.replicate, List.getElem?_cons_zero, List.getElem?_cons_succ, List.set_cons_zero, List.set_cons_succ, Nat.zero_add, Nat.reduceAdd, Nat.reduceSub, if_true, Bool.not_true, Bool.not_false, Bool.false_eq_true, if_false, ev_mk, intK, strK, locK, Option.bind_some]
  exact ⟨trivial, rfl, trivial⟩
theorem make_zero {a : Int} {st : Store} : F_make_ratio [.int a, .int 0] st = .exc (xB "bottom") st := by
  refine exc_of ?_
  unfold F_make_ratio B_make_ratio
  rw [ev_run]
  simp only [optK_some, slotK_val, blK_bl, ev_ok, ev_var, ev_c, ev_bin, ev_add, ev_addS, ev_addT, ev_addL, ev_sub, ev_mul, ev_div, ev_mod, ev_pow, ev_lt, ev_le, ev_gt, ev_ge, ev_is, ev_eq, ev_in, ev_ix, ev_un, ev_neg, tru_bl, tru_int, tru_non, tru_lst, tru_tup, ev_andV, ev_orV, ev_notV, ev_ifE, ev_nil, ev_cons, ev_tup, ev_lst, ev_new, ev_callB, ev_lenL, ev_lenT, ev_lenS, ev_lenC, ev_abs, ev_int, ev_intB, ev_strI, ev_gcd, ev_tupOf, ev_lstOf, ev_isi, ev_isTy2, ev_call, ev_callK, ev_part, ev_sl, ev_join0, ev_join1, ev_fmt, ev_fmtI, ev_fmtS, ev_tb, ev_tr, ev_tand, ev_tor, ev_tnot, ev_yes, es_nx, es_next, es_brk, es_cnt, es_seq, es_ret, es_retN, es_drop, es_if, es_set, es_gset, es_raise, ev_run, es_for, seqC, seqL, seqT, seqS, itC, itL, itT, at0, at1, at2, at3, at4, at5, ix0, ix1, ix2, ix3, gk_set, gsk_nil, gsk_cons, gk_tup, gk_sub, es_asg, es_aug, ev_app, ev_exn, ev_xf, it_of, it_seq, it_r1, it_r2, it_en, es_step, env0, List.map_cons, List.map_nil, List.length_cons, List.length_nil, List.cons_append, List.nil_append, List.replicate, List.getElem?_cons_zero, List.getElem?_cons_succ, List.set_cons_zero, List.set_cons_succ, Nat.zero_add, Nat.reduceAdd, Nat.reduceSub, if_true, Bool.not_true, Bool.not_false, Bool.false_eq_true, if_false, ev_mk, intK, strK, locK, Option.bind_some]
  refine Ev.at (whole_int a none none st) ?_
  simp only [optK_some, slotK_val, blK_bl, ev_ok, ev_var, ev_c, ev_bin, ev_add, ev_addS, ev_addT, ev_addL, ev_sub, ev_mul, ev_div, ev_mod, ev_pow, ev_lt, ev_le, ev_gt, ev_ge, ev_is, ev_eq, ev_in, ev_ix, ev_un, ev_neg, tru_bl, tru_int, tru_non, tru_lst, tru_tup, ev_andV, ev_orV, ev_notV, ev_ifE, ev_nil, ev_cons, ev_tup, ev_lst, ev_new, ev_callB, ev_lenL, ev_lenT, ev_lenS, ev_lenC, ev_abs, ev_int, ev_intB, ev_strI, ev_gcd, ev_tupOf, ev_lstOf, ev_isi, ev_isTy2, ev_call, ev_callK, ev_part, ev_sl, ev_join0, ev_join1, ev_fmt, ev_fmtI, ev_fmtS, ev_tb, ev_tr, ev_tand, ev_tor, ev_tnot, ev_yes, es_nx, es_next, es_brk, es_cnt, es_seq, es_ret, es_retN, es_drop, es_if, es_set, es_gset, es_raise, ev_run, es_for, seqC, seqL, seqT, seqS, itC, itL, itT, at0, at1, at2, at3, at4, at5, ix0, ix1, ix2, ix3, gk_set, gsk_nil, gsk_cons, gk_tup, gk_sub, es_asg, es_aug, ev_app, ev_exn, ev_xf, it_of, it_seq, it_r1, it_r2, it_en, es_step, env0, List.map_cons, List.map_nil, List.length_cons, List.length_nil, List.cons_append, List.nil_append, List.replicate, List.getElem?_cons_zero, List.getElem?_cons_succ, List.set_cons_zero, List.set_cons_succ, Nat.zero_add, Nat.reduceAdd, Nat.reduceSub, if_true, Bool.not_true, Bool.not_false, Bool.false_eq_true, if_false, ev_mk, intK, strK, locK, Option.bind_some, loB, hiB, Bool.and_self]
  refine Ev.at (whole_int 0 none none st) ?_
  simp only [optK_some, slotK_val, blK_bl, ev_ok, ev_var, ev_c, ev_bin, ev_add, ev_addS, ev_addT, ev_addL, ev_sub, ev_mul, ev_div, ev_mod, ev_pow, ev_lt, ev_le, ev_gt, ev_ge, ev_is, ev_eq, ev_in, ev_ix, ev_un, ev_neg, tru_bl, tru_int, tru_non, tru_lst, tru_tup, ev_andV, ev_orV, ev_notV, ev_ifE, ev_nil, ev_cons, ev_tup, ev_lst, ev_new, ev_callB, ev_lenL, ev_lenT, ev_lenS, ev_lenC, ev_abs, ev_int, ev_intB, ev_strI, ev_gcd, ev_tupOf, ev_lstOf, ev_isi, ev_isTy2, ev_call, ev_callK, ev_part, ev_sl, ev_join0, ev_join1, ev_fmt, ev_fmtI, ev_fmtS, ev_tb, ev_tr, ev_tand, ev_tor, ev_tnot, ev_yes, es_nx, es_next, es_brk, es_cnt, es_seq, es_ret, es_retN, es_drop, es_if, es_set, es_gset, es_raise, ev_run, es_for, seqC, seqL, seqT, seqS, itC, itL, itT, at0, at1, at2, at3, at4, at5, ix0, ix1, ix2, ix3, gk_set, gsk_nil, gsk_cons, gk_tup, gk_sub, es_asg, es_aug, ev_app, ev_exn, ev_xf, it_of, it_seq, it_r1, it_r2, it_en, es_step, env0, List.map_cons, List.map_nil, List.length_cons, List.length_nil, List.cons_append, List.nil_append, List.replicate, List.getElem?_cons_zero, List.getElem?_cons_succ, List.set_cons_zero, List.set_cons_succ, Nat.zero_add, Nat.reduceAdd, Nat.reduceSub, if_true, Bool.not_true, Bool.not_false, Bool.false_eq_true, if_false, ev_mk, intK, strK, locK, Option.bind_some, loB, hiB, Bool.and_self, eqD_int, beq_self_eq_true]
  exact ⟨trivial, rfl, trivial⟩
end L_k02
namespace L_k02
open PySem PySem.Spec PyProof.Rows L2 Dl
/-! ### caught -/
/-! ### the hand -/
theorem hand_ok (ns : List Int) (h : ns.length ≤ 63) : ∃ st', F__law_hand [.scr ns] [] = .ok (.loc 0) st' ∧ HdOk st' ∧ st'.length = 1 := by
  have key : Ev (F__law_hand [.scr ns] []) (fun d st1 => d = .loc 0 ∧ HdOk st1 ∧ st1.length = 1) NoX := by
    unfold F__law_hand B__law_hand
    rw [ev_run, es_seq]
    simp only [optK_some, slotK_val, blK_bl, ev_ok, ev_var, ev_c, ev_bin, ev_add, ev_addS, ev_addT, ev_addL, ev_sub, ev_mul, ev_div, ev_mod, ev_pow, ev_lt, ev_le, ev_gt, ev_ge, ev_is, ev_eq, ev_in, ev_ix, ev_un, ev_neg, tru_bl, tru_int, tru_non, tru_lst, tru_tup, ev_andV, ev_orV, ev_notV, ev_ifE, ev_nil, ev_cons, ev_tup, ev_lst, ev_new, ev_callB, ev_lenL, ev_lenT, ev_lenS, ev_lenC, ev_abs, ev_int, ev_intB, ev_strI, ev_gcd, ev_tupOf, ev_lstOf, ev_isi, ev_isTy2, ev_call, ev_callK, ev_part, ev_sl, ev_join0, ev_join1, ev_fmt, ev_fmtI, ev_fmtS, ev_tb, ev_tr, ev_tand, ev_tor, ev_tnot, ev_yes, es_nx, es_next, es_brk, es_cnt, es_seq, es_ret, es_retN, es_drop, es_if, es_set, es_gset, es_raise, ev_run, es_for, seqC, seqL, seqT, seqS, itC, itL, itT, at0, at1, at2, at3, at4, at5, ix0, ix1, ix2, ix3, gk_set, gsk_nil, gsk_cons, gk_tup, gk_sub, es_asg, es_aug, ev_app, ev_exn, ev_xf, it_of, it_seq, it_r1, it_r2, it_en, es_step, env0, List.map_cons, List.map_nil, List.length_cons, List.length_nil, List.cons_append, List.nil_append, List.replicate, List.getElem?_cons_zero, List.getElem?_cons_succ, List.set_cons_zero, List.set_cons_succ, Nat.zero_add, Nat.reduceAdd, Nat.reduceSub, if_true, Bool.not_true, Bool.not_false, Bool.false_eq_true, if_false, ev_mk, intK, strK, locK, Option.bind_some]
    refine ⟨.scr ns, ns.map D.int, rfl, rfl, ?_⟩
    refine es_for_inv (I := fun r st => st = [] ∧ ∃ t s2 s3, r = [.val (.scr ns), .val (.int t), s2, s3]) ⟨rfl, 0, _, _, rfl⟩ ?_ ?_
    · intro d hd r st ⟨hst, t, s2, s3, hr⟩
      subst hst hr
      obtain ⟨i, hi, ei⟩ := List.mem_iff_getElem.mp hd
      obtain ⟨x, ex, rfl⟩ := enumD_get (List.getElem?_eq_some_iff.mpr ⟨hi, ei⟩)
      rw [List.getElem?_map] at ex
      cases eq : ns[i]? with
      | none => rw [eq] at ex; cases ex
      | some c =>
        rw [eq] at ex
        cases ex
        have hlt : i < ns.length := (List.getElem?_eq_some_iff.mp eq).1
        simp only [optK_some, slotK_val, blK_bl, ev_ok, ev_var, ev_c, ev_bin, ev_add, ev_addS, ev_addT, ev_addL, ev_sub, ev_mul, ev_div, ev_mod, ev_pow, ev_lt, ev_le, ev_gt, ev_ge, ev_is, ev_eq, ev_in, ev_ix, ev_un, ev_neg, tru_bl, tru_int, tru_non, tru_lst, tru_tup, ev_andV, ev_orV, ev_notV, ev_ifE, ev_nil, ev_cons, ev_tup, ev_lst, ev_new, ev_callB, ev_lenL, ev_lenT, ev_lenS, ev_lenC, ev_abs, ev_int, ev_intB, ev_strI, ev_gcd, ev_tupOf, ev_lstOf, ev_isi, ev_isTy2, ev_call, ev_callK, ev_part, ev_sl, ev_join0, ev_join1, ev_fmt, ev_fmtI, ev_fmtS, ev_tb, ev_tr, ev_tand, ev_tor, ev_tnot, ev_yes, es_nx, es_next, es_brk, es_cnt, es_seq, es_ret, es_retN, es_drop, es_if, es_set, es_gset, es_raise, ev_run, es_for, seqC, seqL, seqT, seqS, itC, itL, itT, at0, at1, at2, at3, at4, at5, ix0, ix1, ix2, ix3, gk_set, gsk_nil, gsk_cons, gk_tup, gk_sub, es_asg, es_aug, ev_app, ev_exn, ev_xf, it_of, it_seq, it_r1, it_r2, it_en, es_step, env0, List.map_cons, List.map_nil, List.length_cons, List.length_nil, List.cons_append, List.nil_append, List.replicate, List.getElem?_cons_zero, List.getElem?_cons_succ, List.set_cons_zero, List.set_cons_succ, Nat.zero_add, Nat.reduceAdd, Nat.reduceSub, if_true, Bool.not_true, Bool.not_false, Bool.false_eq_true, if_false, ev_mk, intK, strK, locK, Option.bind_some]
        refine ⟨trivial, mulR (by decide), mulR (by omega), by decide, trivial, _, _, _, rfl⟩
    · intro r st ⟨hst, t, s2, s3, hr⟩
      subst hst hr
      simp only [optK_some, slotK_val, blK_bl, ev_ok, ev_var, ev_c, ev_bin, ev_add, ev_addS, ev_addT, ev_addL, ev_sub, ev_mul, ev_div, ev_mod, ev_pow, ev_lt, ev_le, ev_gt, ev_ge, ev_is, ev_eq, ev_in, ev_ix, ev_un, ev_neg, tru_bl, tru_int, tru_non, tru_lst, tru_tup, ev_andV, ev_orV, ev_notV, ev_ifE, ev_nil, ev_cons, ev_tup, ev_lst, ev_new, ev_callB, ev_lenL, ev_lenT, ev_lenS, ev_lenC, ev_abs, ev_int, ev_intB, ev_strI, ev_gcd, ev_tupOf, ev_lstOf, ev_isi, ev_isTy2, ev_call, ev_callK, ev_part, ev_sl, ev_join0, ev_join1, ev_fmt, ev_fmtI, ev_fmtS, ev_tb, ev_tr, ev_tand, ev_tor, ev_tnot, ev_yes, es_nx, es_next, es_brk, es_cnt, es_seq, es_ret, es_retN, es_drop, es_if, es_set, es_gset, es_raise, ev_run, es_for, seqC, seqL, seqT, seqS, itC, itL, itT, at0, at1, at2, at3, at4, at5, ix0, ix1, ix2, ix3, gk_set, gsk_nil, gsk_cons, gk_tup, gk_sub, es_asg, es_aug, ev_app, ev_exn, ev_xf, it_of, it_seq, it_r1, it_r2, it_en, es_step, env0, List.map_cons, List.map_nil, List.length_cons, List.length_nil, List.cons_append, List.nil_append, List.replicate, List.getElem?_cons_zero, List.getElem?_cons_succ, List.set_cons_zero, List.set_cons_succ, Nat.zero_add, Nat.reduceAdd, Nat.reduceSub, if_true, Bool.not_true, Bool.not_false, Bool.false_eq_true, if_false, ev_mk, intK, strK, locK, Option.bind_some, ev_comp]
      refine ⟨trivial, ?_⟩
      refine Ev.at (compD_map (fun d => match d with | .int c => .int (c.natAbs : Int) | d => d) _ _ ?_ ?_ ?_) ?_
      · simp; rw [sizeLine_eq]; omega
      · intro d hd
        obtain ⟨c, _, rfl⟩ := List.mem_map.mp hd
        refine ⟨_, _, rfl, rfl, ?_⟩
        rfl
      · intro d hd r1 st1 e
        cases e
        rfl
      · simp only [optK_some, slotK_val, blK_bl, ev_ok, ev_var, ev_c, ev_bin, ev_add, ev_addS, ev_addT, ev_addL, ev_sub, ev_mul, ev_div, ev_mod, ev_pow, ev_lt, ev_le, ev_gt, ev_ge, ev_is, ev_eq, ev_in, ev_ix, ev_un, ev_neg, tru_bl, tru_int, tru_non, tru_lst, tru_tup, ev_andV, ev_orV, ev_notV, ev_ifE, ev_nil, ev_cons, ev_tup, ev_lst, ev_new, ev_callB, ev_lenL, ev_lenT, ev_lenS, ev_lenC, ev_abs, ev_int, ev_intB, ev_strI, ev_gcd, ev_tupOf, ev_lstOf, ev_isi, ev_isTy2, ev_call, ev_callK, ev_part, ev_sl, ev_join0, ev_join1, ev_fmt, ev_fmtI, ev_fmtS, ev_tb, ev_tr, ev_tand, ev_tor, ev_tnot, ev_yes, es_nx, es_next, es_brk, es_cnt, es_seq, es_ret, es_retN, es_drop, es_if, es_set, es_gset, es_raise, ev_run, es_for, seqC, seqL, seqT, seqS, itC, itL, itT, at0, at1, at2, at3, at4, at5, ix0, ix1, ix2, ix3, gk_set, gsk_nil, gsk_cons, gk_tup, gk_sub, es_asg, es_aug, ev_app, ev_exn, ev_xf, it_of, it_seq, it_r1, it_r2, it_en, es_step, env0, List.map_cons, List.map_nil, List.length_cons, List.length_nil, List.cons_append, List.nil_append, List.replicate, List.getElem?_cons_zero, List.getElem?_cons_succ, List.set_cons_zero, List.set_cons_succ, Nat.zero_add, Nat.reduceAdd, Nat.reduceSub, if_true, Bool.not_true, Bool.not_false, Bool.false_eq_true, if_false, ev_mk, intK, strK, locK, Option.bind_some]
        refine ⟨by rw [sizeLine_eq]; decide, trivial, ⟨⟨ns.map fun c => (c.natAbs : Int), 0, 0, t⟩, ?_, ?_, by show (0 : Int) ≤ 0; decide⟩, trivial⟩
        · simp only [Hd.cell, List.map_map, Function.comp_def]
          rfl
        · intro c hc
          obtain ⟨x, _, rfl⟩ := List.mem_map.mp hc
          show (0 : Int) ≤ (x.natAbs : Int)
          omega
  obtain ⟨d, st1, e, rfl, a, b⟩ := key.get
  exact ⟨st1, e, a, b⟩

/-! ### a number -/
end L_k02
namespace L_k02
open PySem PySem.Spec PyProof.Rows L2 Dl
/-! ### ratios as rationals -/
abbrev rat (r : Rat) : D := rt r.num r.den
structure Sr (n : Nat) (r : Rat) : Prop where
  num : r.num.natAbs < 2 ^ n
  den : r.den < 2 ^ n
theorem Sr.ok {n : Nat} {r : Rat} (h : Sr n r) : Ok r.num r.den n := by
  refine ⟨?_, ?_, h.num, ?_⟩
  · have := r.den_nz
    omega
  · rw [Int.natAbs_natCast]
    exact r.reduced
  · rw [Int.natAbs_natCast]
    exact h.den
theorem Sr.mono {n m : Nat} {r : Rat} (h : Sr n r) (hm : n ≤ m) : Sr m r := ⟨Nat.lt_of_lt_of_le h.num (Nat.pow_le_pow_right (by decide) hm), Nat.lt_of_lt_of_le h.den (Nat.pow_le_pow_right (by decide) hm)⟩
theorem lw_val {a b : Int} (h : b ≠ 0) : a.fdiv (shr a b) * b = a * b.fdiv (shr a b) := by
  have g0 : 0 < Nat.gcd a.natAbs b.natAbs := Nat.gcd_pos_of_pos_right _ (by omega)
  obtain ⟨a', ea⟩ : ((Nat.gcd a.natAbs b.natAbs : Nat) : Int) ∣ a := Int.ofNat_dvd_left.mpr (Nat.gcd_dvd_left _ _)
  obtain ⟨b', eb⟩ : ((Nat.gcd a.natAbs b.natAbs : Nat) : Int) ∣ b := Int.ofNat_dvd_left.mpr (Nat.gcd_dvd_right _ _)
  have gG : gS a b = ((Nat.gcd a.natAbs b.natAbs : Nat) : Int) := rfl
  generalize hG : Nat.gcd a.natAbs b.natAbs = G at *
  have gz : (G : Int) ≠ 0 := by omega
  have fa : a.fdiv (G : Int) = a' := by rw [ea]; exact Int.mul_fdiv_cancel_left _ gz
  have fb : b.fdiv (G : Int) = b' := by rw [eb]; exact Int.mul_fdiv_cancel_left _ gz
  have fa' : a.fdiv (-(G : Int)) = -a' := by rw [ea, show (G : Int) * a' = -(G : Int) * -a' by rw [Int.neg_mul_neg]]; exact Int.mul_fdiv_cancel_left _ (by omega)
  have fb' : b.fdiv (-(G : Int)) = -b' := by rw [eb, show (G : Int) * b' = -(G : Int) * -b' by rw [Int.neg_mul_neg]]; exact Int.mul_fdiv_cancel_left _ (by omega)
  have key : a' * b = a * b' := by
    rw [ea, eb, ← Int.mul_assoc, Int.mul_comm a', Int.mul_assoc]
  unfold shr
  by_cases hn : b < 0
  · rw [if_pos hn, gG, fa', fb', Int.neg_mul, Int.mul_neg, key]
  · rw [if_neg hn, gG, fa, fb, key]
theorem lw_rat (a b : Int) (n : Nat) (h : b ≠ 0) (ha : a.natAbs < 2 ^ n) (hb : b.natAbs < 2 ^ n) : lw a b = rat (Rat.divInt a b) ∧ Sr n (Rat.divInt a b) := by
  obtain ⟨x, y, e, o⟩ := lw_at a b n h ha hb
  have ex : a.fdiv (shr a b) = x := by injection e with e; injection e with e1 e2; injection e1
  have ey : b.fdiv (shr a b) = y := by injection e with e; injection e with e1 e2; injection e2 with e3; injection e3
  have v := lw_val (a := a) h
  rw [ex, ey] at v
  obtain ⟨m, rfl⟩ : ∃ m : Nat, y = m := ⟨y.toNat, by have := o.pos; omega⟩
  have mz : m ≠ 0 := by have := o.pos; omega
  have red : x.natAbs.Coprime m := by have := o.low; rwa [Int.natAbs_natCast] at this
  have q : Rat.divInt a b = ⟨x, m, mz, red⟩ := by
    rw [Rat.mk_eq_divInt]
    rw [Rat.divInt_eq_divInt_iff h (by omega)]
    exact v.symm
  rw [e, q]
  refine ⟨rfl, ⟨o.sa, ?_⟩⟩
  have := o.sb
  rwa [Int.natAbs_natCast] at this

theorem dz (x : Rat) : (x.den : Int) ≠ 0 := by have := x.den_nz; omega
theorem add_lw {x y : Rat} {n m : Nat} (hx : Sr n x) (hy : Sr m y) : lw (x.num * y.den + y.num * x.den) (x.den * y.den) = rat (x + y) ∧ Sr (n + m + 1) (x + y) := by
  have e : x + y = Rat.divInt (x.num * y.den + y.num * x.den) (x.den * y.den) := by
    rw [← Rat.divInt_add_divInt _ _ (dz x) (dz y), Rat.num_divInt_den, Rat.num_divInt_den]
  rw [e]
  exact lw_rat _ _ (n + m + 1) (nz_mul hx.ok.pos hy.ok.pos) (sz_add (n := n + m) (sz_mul hx.ok.sa hy.ok.sb (by omega)) (sz_mul hy.ok.sa hx.ok.sb (by omega)) (by omega)) (sz_mul hx.ok.sb hy.ok.sb (by omega))
theorem sub_lw {x y : Rat} {n m : Nat} (hx : Sr n x) (hy : Sr m y) : lw (x.num * y.den - y.num * x.den) (x.den * y.den) = rat (x - y) ∧ Sr (n + m + 1) (x - y) := by
  have e : x - y = Rat.divInt (x.num * y.den - y.num * x.den) (x.den * y.den) := by
    rw [← Rat.divInt_sub_divInt _ _ (dz x) (dz y), Rat.num_divInt_den, Rat.num_divInt_den]
  rw [e]
  exact lw_rat _ _ (n + m + 1) (nz_mul hx.ok.pos hy.ok.pos) (sz_sub (n := n + m) (sz_mul hx.ok.sa hy.ok.sb (by omega)) (sz_mul hy.ok.sa hx.ok.sb (by omega)) (by omega)) (sz_mul hx.ok.sb hy.ok.sb (by omega))
theorem mul_lw {x y : Rat} {n m : Nat} (hx : Sr n x) (hy : Sr m y) : lw (x.num * y.num) (x.den * y.den) = rat (x * y) ∧ Sr (n + m) (x * y) := by
  have e : x * y = Rat.divInt (x.num * y.num) (x.den * y.den) := by
    rw [← Rat.divInt_mul_divInt, Rat.num_divInt_den, Rat.num_divInt_den]
  rw [e]
  exact lw_rat _ _ (n + m) (nz_mul hx.ok.pos hy.ok.pos) (sz_mul hx.ok.sa hy.ok.sa (by omega)) (sz_mul hx.ok.sb hy.ok.sb (by omega))
theorem div_lw {x y : Rat} {n m : Nat} (hx : Sr n x) (hy : Sr m y) (h : y ≠ 0) : lw (x.num * y.den) (x.den * y.num) = rat (x / y) ∧ Sr (n + m) (x / y) := by
  have hn : y.num ≠ 0 := fun z => h (Rat.num_eq_zero.mp z)
  have e : x / y = Rat.divInt (x.num * y.den) (x.den * y.num) := by
    rw [Rat.div_def, ← Rat.divInt_mul_divInt, Rat.num_divInt_den, ← Rat.inv_divInt, Rat.num_divInt_den]
  rw [e]
  exact lw_rat _ _ (n + m) (nz_mul' hx.ok.pos hn) (sz_mul hx.ok.sa hy.ok.sb (by omega)) (sz_mul hx.ok.sb hy.ok.sa (by omega))
theorem neg_nd (x : Rat) : (-x).num = -x.num ∧ (-x).den = x.den := ⟨rfl, rfl⟩
theorem plus_rat {x y : Rat} {n m : Nat} {st : Store} (hx : Sr n x) (hy : Sr m y) (h : n + m ≤ 7000) : F_plus [rat x, rat y] st = .ok (rat (x + y)) st := by
  rw [plus_ok hx.ok hy.ok h, (add_lw hx hy).1]
theorem lplus_rat {x y : Rat} {n m : Nat} {st : Store} (hx : Sr n x) (hy : Sr m y) (h : n + m ≤ 7000) : F__law_plus [rat x, rat y] st = .ok (rat (x + y)) st := by
  rw [lplus_ok hx.ok hy.ok h, (add_lw hx hy).1]
theorem minus_rat {x y : Rat} {n m : Nat} {st : Store} (hx : Sr n x) (hy : Sr m y) (h : n + m ≤ 7000) : F_minus [rat x, rat y] st = .ok (rat (x - y)) st := by
  rw [minus_ok hx.ok hy.ok h, (sub_lw hx hy).1]
theorem lminus_rat {x y : Rat} {n m : Nat} {st : Store} (hx : Sr n x) (hy : Sr m y) (h : n + m ≤ 7000) : F__law_minus [rat x, rat y] st = .ok (rat (x - y)) st := by
  rw [lminus_ok hx.ok hy.ok h, (sub_lw hx hy).1]
theorem times_rat {x y : Rat} {n m : Nat} {st : Store} (hx : Sr n x) (hy : Sr m y) (h : n + m ≤ 7000) : F_times [rat x, rat y] st = .ok (rat (x * y)) st := by
  rw [times_ok hx.ok hy.ok h, (mul_lw hx hy).1]
theorem ltimes_rat {x y : Rat} {n m : Nat} {st : Store} (hx : Sr n x) (hy : Sr m y) (h : n + m ≤ 7000) : F__law_times [rat x, rat y] st = .ok (rat (x * y)) st := by
  rw [ltimes_ok hx.ok hy.ok h, (mul_lw hx hy).1]
theorem negative_rat {x : Rat} {st : Store} : F_negative [rat x] st = .ok (rat (-x)) st := negative_ok
/-- the sign of x against y -/
def cpr (x y : Rat) : Int := if x < y then -1 else if y < x then 1 else 0
theorem cp_rat (x y : Rat) : cp x.num x.den y.num y.den = cpr x y := by
  unfold cp cpr
  simp only [Rat.lt_iff]
  generalize x.num * (y.den : Int) = u
  generalize y.num * (x.den : Int) = v
  rcases Int.lt_trichotomy u v with h | h | h
  · rw [if_neg (by omega), if_neg (by omega), if_pos h]
  · rw [if_pos (by omega), if_neg (by omega), if_neg (by omega)]
  · rw [if_neg (by omega), if_pos (by omega), if_neg (by omega), if_pos h]
theorem compare_rat {x y : Rat} {n m : Nat} {st : Store} (hx : Sr n x) (hy : Sr m y) (h : n + m ≤ 7000) : F_compare [rat x, rat y] st = .ok (.int (cpr x y)) st := by
  rw [compare_ok hx.ok hy.ok h, cp_rat]
theorem lcompare_rat {x y : Rat} {n m : Nat} {st : Store} (hx : Sr n x) (hy : Sr m y) (h : n + m ≤ 7000) : F__law_compare [rat x, rat y] st = .ok (.int (cpr x y)) st := by
  rw [lcompare_ok hx.ok hy.ok h, cp_rat]
theorem lratio_rat {a b : Int} {n : Nat} {st : Store} (h : b ≠ 0) (ha : a.natAbs < 2 ^ n) (hb : b.natAbs < 2 ^ n) (hn : n ≤ 7000) : F__law_ratio [.int a, .int b] st = .ok (rat (Rat.divInt a b)) st ∧ Sr n (Rat.divInt a b) := by
  obtain ⟨e, s⟩ := lw_rat a b n h ha hb
  refine ⟨?_, s⟩
  rw [lratio_ok a b st h (Nat.lt_of_lt_of_le hb (Nat.pow_le_pow_right (by decide) (by omega))), e]
theorem make_rat {a b : Int} {n : Nat} {st : Store} (h : b ≠ 0) (ha : a.natAbs < 2 ^ n) (hb : b.natAbs < 2 ^ n) (hn : n ≤ 7000) : F_make_ratio [.int a, .int b] st = .ok (rat (Rat.divInt a b)) st ∧ Sr n (Rat.divInt a b) := by
  obtain ⟨e, s⟩ := lw_rat a b n h ha hb
  refine ⟨?_, s⟩
  rw [make_ok a b st h (Nat.lt_of_lt_of_le hb (Nat.pow_le_pow_right (by decide) (by omega))), e]
theorem isratio_rat {x : Rat} {st : Store} : F_is_ratio [rat x] st = .ok (.bl true) st := by
  rw [isr_int]
  have h1 : decide ((1 : Int) ≤ (x.den : Int)) = true := decide_eq_true (by have := x.den_nz; omega)
  have h2 : Nat.gcd x.num.natAbs (x.den : Int).natAbs = 1 := by rw [Int.natAbs_natCast]; exact x.reduced
  rw [h1, h2]
  rfl
end L_k02
namespace L_k02
open PySem PySem.Spec PyProof.Rows L2 Dl
/-! ### couples -/
abbrev cpl (x y : Rat) : D := .tup [rat x, rat y]
structure Sc (n : Nat) (p : Rat × Rat) : Prop where
  fst : Sr n p.1
  snd : Sr n p.2
theorem ev_to {x : RE D} {d : D} {st : Store} (h : Ev x (fun y st1 => y = d ∧ st1 = st) NoX) : x = .ok d st := by
  obtain ⟨y, st1, e, rfl, rfl⟩ := h.get
  exact e
section
variable {a b c d x y : Rat} {n m : Nat} {st : Store}
theorem pplus_rat (ha : Sr n a) (hb : Sr n b) (hc : Sr m c) (hd : Sr m d) (h : n + m ≤ 7000) : F_place_plus [cpl a b, cpl c d] st = .ok (cpl (a + c) (b + d)) st := by
  refine ev_to ?_
  unfold F_place_plus B_place_plus
  rw [ev_run]
  simp only [optK_some, slotK_val, blK_bl, ev_ok, ev_var, ev_c, ev_bin, ev_add, ev_addS, ev_addT, ev_addL, ev_sub, ev_mul, ev_div, ev_mod, ev_pow, ev_lt, ev_le, ev_gt, ev_ge, ev_is, ev_eq, ev_in, ev_ix, ev_un, ev_neg, tru_bl, tru_int, tru_non, tru_lst, tru_tup, ev_andV, ev_orV, ev_notV, ev_ifE, ev_nil, ev_cons, ev_tup, ev_lst, ev_new, ev_callB, ev_lenL, ev_lenT, ev_lenS, ev_lenC, ev_abs, ev_int, ev_intB, ev_strI, ev_gcd, ev_tupOf, ev_lstOf, ev_isi, ev_isTy2, ev_call, ev_callK, ev_part, ev_sl, ev_join0, ev_join1, ev_fmt, ev_fmtI, ev_fmtS, ev_tb, ev_tr, ev_tand, ev_tor, ev_tnot, ev_yes, es_nx, es_next, es_brk, es_cnt, es_seq, es_ret, es_retN, es_drop, es_if, es_set, es_gset, es_raise, ev_run, es_for, seqC, seqL, seqT, seqS, itC, itL, itT, at0, at1, at2, at3, at4, at5, ix0, ix1, ix2, ix3, gk_set, gsk_nil, gsk_cons, gk_tup, gk_sub, es_asg, es_aug, ev_app, ev_exn, ev_xf, it_of, it_seq, it_r1, it_r2, it_en, es_step, env0, List.map_cons, List.map_nil, List.length_cons, List.length_nil, List.cons_append, List.nil_append, List.replicate, List.getElem?_cons_zero, List.getElem?_cons_succ, List.set_cons_zero, List.set_cons_succ, Nat.zero_add, Nat.reduceAdd, Nat.reduceSub, if_true, Bool.not_true, Bool.not_false, Bool.false_eq_true, if_false, ev_mk, intK, strK, locK, Option.bind_some, plus_rat ha hc h, plus_rat hb hd h, sizeLine_eq]
  exact ⟨by decide, trivial, trivial⟩
theorem lplus2_rat (ha : Sr n a) (hb : Sr n b) (hc : Sr m c) (hd : Sr m d) (h : n + m ≤ 7000) : F__law_add [cpl a b, cpl c d] st = .ok (cpl (a + c) (b + d)) st := by
  refine ev_to ?_
  unfold F__law_add B__law_add
  rw [ev_run]
  simp only [optK_some, slotK_val, blK_bl, ev_ok, ev_var, ev_c, ev_bin, ev_add, ev_addS, ev_addT, ev_addL, ev_sub, ev_mul, ev_div, ev_mod, ev_pow, ev_lt, ev_le, ev_gt, ev_ge, ev_is, ev_eq, ev_in, ev_ix, ev_un, ev_neg, tru_bl, tru_int, tru_non, tru_lst, tru_tup, ev_andV, ev_orV, ev_notV, ev_ifE, ev_nil, ev_cons, ev_tup, ev_lst, ev_new, ev_callB, ev_lenL, ev_lenT, ev_lenS, ev_lenC, ev_abs, ev_int, ev_intB, ev_strI, ev_gcd, ev_tupOf, ev_lstOf, ev_isi, ev_isTy2, ev_call, ev_callK, ev_part, ev_sl, ev_join0, ev_join1, ev_fmt, ev_fmtI, ev_fmtS, ev_tb, ev_tr, ev_tand, ev_tor, ev_tnot, ev_yes, es_nx, es_next, es_brk, es_cnt, es_seq, es_ret, es_retN, es_drop, es_if, es_set, es_gset, es_raise, ev_run, es_for, seqC, seqL, seqT, seqS, itC, itL, itT, at0, at1, at2, at3, at4, at5, ix0, ix1, ix2, ix3, gk_set, gsk_nil, gsk_cons, gk_tup, gk_sub, es_asg, es_aug, ev_app, ev_exn, ev_xf, it_of, it_seq, it_r1, it_r2, it_en, es_step, env0, List.map_cons, List.map_nil, List.length_cons, List.length_nil, List.cons_append, List.nil_append, List.replicate, List.getElem?_cons_zero, List.getElem?_cons_succ, List.set_cons_zero, List.set_cons_succ, Nat.zero_add, Nat.reduceAdd, Nat.reduceSub, if_true, Bool.not_true, Bool.not_false, Bool.false_eq_true, if_false, ev_mk, intK, strK, locK, Option.bind_some, lplus_rat ha hc h, lplus_rat hb hd h, sizeLine_eq]
  exact ⟨by decide, trivial, trivial⟩
theorem lminus2_rat (ha : Sr n a) (hb : Sr n b) (hc : Sr m c) (hd : Sr m d) (h : n + m ≤ 7000) : F__law_less [cpl a b, cpl c d] st = .ok (cpl (a - c) (b - d)) st := by
  refine ev_to ?_
  unfold F__law_less B__law_less
  rw [ev_run]
  simp only [optK_some, slotK_val, blK_bl, ev_ok, ev_var, ev_c, ev_bin, ev_add, ev_addS, ev_addT, ev_addL, ev_sub, ev_mul, ev_div, ev_mod, ev_pow, ev_lt, ev_le, ev_gt, ev_ge, ev_is, ev_eq, ev_in, ev_ix, ev_un, ev_neg, tru_bl, tru_int, tru_non, tru_lst, tru_tup, ev_andV, ev_orV, ev_notV, ev_ifE, ev_nil, ev_cons, ev_tup, ev_lst, ev_new, ev_callB, ev_lenL, ev_lenT, ev_lenS, ev_lenC, ev_abs, ev_int, ev_intB, ev_strI, ev_gcd, ev_tupOf, ev_lstOf, ev_isi, ev_isTy2, ev_call, ev_callK, ev_part, ev_sl, ev_join0, ev_join1, ev_fmt, ev_fmtI, ev_fmtS, ev_tb, ev_tr, ev_tand, ev_tor, ev_tnot, ev_yes, es_nx, es_next, es_brk, es_cnt, es_seq, es_ret, es_retN, es_drop, es_if, es_set, es_gset, es_raise, ev_run, es_for, seqC, seqL, seqT, seqS, itC, itL, itT, at0, at1, at2, at3, at4, at5, ix0, ix1, ix2, ix3, gk_set, gsk_nil, gsk_cons, gk_tup, gk_sub, es_asg, es_aug, ev_app, ev_exn, ev_xf, it_of, it_seq, it_r1, it_r2, it_en, es_step, env0, List.map_cons, List.map_nil, List.length_cons, List.length_nil, List.cons_append, List.nil_append, List.replicate, List.getElem?_cons_zero, List.getElem?_cons_succ, List.set_cons_zero, List.set_cons_succ, Nat.zero_add, Nat.reduceAdd, Nat.reduceSub, if_true, Bool.not_true, Bool.not_false, Bool.false_eq_true, if_false, ev_mk, intK, strK, locK, Option.bind_some, lminus_rat ha hc h, lminus_rat hb hd h, sizeLine_eq]
  exact ⟨by decide, trivial, trivial⟩
theorem pminus_lst (ha : Sr n a) (hb : Sr n b) (hc : Sr m c) (hd : Sr m d) (h : n + m ≤ 7000) : F_place_minus [.lst [rat a, rat b], cpl c d] st = .ok (cpl (a - c) (b - d)) st := by
  refine ev_to ?_
  unfold F_place_minus B_place_minus
  rw [ev_run]
  simp only [optK_some, slotK_val, blK_bl, ev_ok, ev_var, ev_c, ev_bin, ev_add, ev_addS, ev_addT, ev_addL, ev_sub, ev_mul, ev_div, ev_mod, ev_pow, ev_lt, ev_le, ev_gt, ev_ge, ev_is, ev_eq, ev_in, ev_ix, ev_un, ev_neg, tru_bl, tru_int, tru_non, tru_lst, tru_tup, ev_andV, ev_orV, ev_notV, ev_ifE, ev_nil, ev_cons, ev_tup, ev_lst, ev_new, ev_callB, ev_lenL, ev_lenT, ev_lenS, ev_lenC, ev_abs, ev_int, ev_intB, ev_strI, ev_gcd, ev_tupOf, ev_lstOf, ev_isi, ev_isTy2, ev_call, ev_callK, ev_part, ev_sl, ev_join0, ev_join1, ev_fmt, ev_fmtI, ev_fmtS, ev_tb, ev_tr, ev_tand, ev_tor, ev_tnot, ev_yes, es_nx, es_next, es_brk, es_cnt, es_seq, es_ret, es_retN, es_drop, es_if, es_set, es_gset, es_raise, ev_run, es_for, seqC, seqL, seqT, seqS, itC, itL, itT, at0, at1, at2, at3, at4, at5, ix0, ix1, ix2, ix3, gk_set, gsk_nil, gsk_cons, gk_tup, gk_sub, es_asg, es_aug, ev_app, ev_exn, ev_xf, it_of, it_seq, it_r1, it_r2, it_en, es_step, env0, List.map_cons, List.map_nil, List.length_cons, List.length_nil, List.cons_append, List.nil_append, List.replicate, List.getElem?_cons_zero, List.getElem?_cons_succ, List.set_cons_zero, List.set_cons_succ, Nat.zero_add, Nat.reduceAdd, Nat.reduceSub, if_true, Bool.not_true, Bool.not_false, Bool.false_eq_true, if_false, ev_mk, intK, strK, locK, Option.bind_some, minus_rat ha hc h, minus_rat hb hd h, sizeLine_eq]
  exact ⟨by decide, trivial, trivial⟩
theorem pscaled_rat (ha : Sr n a) (hb : Sr n b) (hc : Sr m c) (h : n + m ≤ 7000) : F_place_scaled [cpl a b, rat c] st = .ok (cpl (a * c) (b * c)) st := by
  refine ev_to ?_
  unfold F_place_scaled B_place_scaled
  rw [ev_run]
  simp only [optK_some, slotK_val, blK_bl, ev_ok, ev_var, ev_c, ev_bin, ev_add, ev_addS, ev_addT, ev_addL, ev_sub, ev_mul, ev_div, ev_mod, ev_pow, ev_lt, ev_le, ev_gt, ev_ge, ev_is, ev_eq, ev_in, ev_ix, ev_un, ev_neg, tru_bl, tru_int, tru_non, tru_lst, tru_tup, ev_andV, ev_orV, ev_notV, ev_ifE, ev_nil, ev_cons, ev_tup, ev_lst, ev_new, ev_callB, ev_lenL, ev_lenT, ev_lenS, ev_lenC, ev_abs, ev_int, ev_intB, ev_strI, ev_gcd, ev_tupOf, ev_lstOf, ev_isi, ev_isTy2, ev_call, ev_callK, ev_part, ev_sl, ev_join0, ev_join1, ev_fmt, ev_fmtI, ev_fmtS, ev_tb, ev_tr, ev_tand, ev_tor, ev_tnot, ev_yes, es_nx, es_next, es_brk, es_cnt, es_seq, es_ret, es_retN, es_drop, es_if, es_set, es_gset, es_raise, ev_run, es_for, seqC, seqL, seqT, seqS, itC, itL, itT, at0, at1, at2, at3, at4, at5, ix0, ix1, ix2, ix3, gk_set, gsk_nil, gsk_cons, gk_tup, gk_sub, es_asg, es_aug, ev_app, ev_exn, ev_xf, it_of, it_seq, it_r1, it_r2, it_en, es_step, env0, List.map_cons, List.map_nil, List.length_cons, List.length_nil, List.cons_append, List.nil_append, List.replicate, List.getElem?_cons_zero, List.getElem?_cons_succ, List.set_cons_zero, List.set_cons_succ, Nat.zero_add, Nat.reduceAdd, Nat.reduceSub, if_true, Bool.not_true, Bool.not_false, Bool.false_eq_true, if_false, ev_mk, intK, strK, locK, Option.bind_some, times_rat ha hc h, times_rat hb hc h, sizeLine_eq]
  exact ⟨by decide, trivial, trivial⟩
theorem lscaled_rat (ha : Sr n a) (hb : Sr n b) (hc : Sr m c) (h : n + m ≤ 7000) : F__law_scaled [cpl a b, rat c] st = .ok (cpl (a * c) (b * c)) st := by
  refine ev_to ?_
  unfold F__law_scaled B__law_scaled
  rw [ev_run]
  simp only [optK_some, slotK_val, blK_bl, ev_ok, ev_var, ev_c, ev_bin, ev_add, ev_addS, ev_addT, ev_addL, ev_sub, ev_mul, ev_div, ev_mod, ev_pow, ev_lt, ev_le, ev_gt, ev_ge, ev_is, ev_eq, ev_in, ev_ix, ev_un, ev_neg, tru_bl, tru_int, tru_non, tru_lst, tru_tup, ev_andV, ev_orV, ev_notV, ev_ifE, ev_nil, ev_cons, ev_tup, ev_lst, ev_new, ev_callB, ev_lenL, ev_lenT, ev_lenS, ev_lenC, ev_abs, ev_int, ev_intB, ev_strI, ev_gcd, ev_tupOf, ev_lstOf, ev_isi, ev_isTy2, ev_call, ev_callK, ev_part, ev_sl, ev_join0, ev_join1, ev_fmt, ev_fmtI, ev_fmtS, ev_tb, ev_tr, ev_tand, ev_tor, ev_tnot, ev_yes, es_nx, es_next, es_brk, es_cnt, es_seq, es_ret, es_retN, es_drop, es_if, es_set, es_gset, es_raise, ev_run, es_for, seqC, seqL, seqT, seqS, itC, itL, itT, at0, at1, at2, at3, at4, at5, ix0, ix1, ix2, ix3, gk_set, gsk_nil, gsk_cons, gk_tup, gk_sub, es_asg, es_aug, ev_app, ev_exn, ev_xf, it_of, it_seq, it_r1, it_r2, it_en, es_step, env0, List.map_cons, List.map_nil, List.length_cons, List.length_nil, List.cons_append, List.nil_append, List.replicate, List.getElem?_cons_zero, List.getElem?_cons_succ, List.set_cons_zero, List.set_cons_succ, Nat.zero_add, Nat.reduceAdd, Nat.reduceSub, if_true, Bool.not_true, Bool.not_false, Bool.false_eq_true, if_false, ev_mk, intK, strK, locK, Option.bind_some, ltimes_rat ha hc h, ltimes_rat hb hc h, sizeLine_eq]
  exact ⟨by decide, trivial, trivial⟩
theorem dot_rat (ha : Sr n a) (hb : Sr n b) (hc : Sr m c) (hd : Sr m d) (h : n + m ≤ 3000) : F_dot_of [cpl a b, cpl c d] st = .ok (rat (a * c + b * d)) st := by
  refine ev_to ?_
  unfold F_dot_of B_dot_of
  rw [ev_run]
  simp only [optK_some, slotK_val, blK_bl, ev_ok, ev_var, ev_c, ev_bin, ev_add, ev_addS, ev_addT, ev_addL, ev_sub, ev_mul, ev_div, ev_mod, ev_pow, ev_lt, ev_le, ev_gt, ev_ge, ev_is, ev_eq, ev_in, ev_ix, ev_un, ev_neg, tru_bl, tru_int, tru_non, tru_lst, tru_tup, ev_andV, ev_orV, ev_notV, ev_ifE, ev_nil, ev_cons, ev_tup, ev_lst, ev_new, ev_callB, ev_lenL, ev_lenT, ev_lenS, ev_lenC, ev_abs, ev_int, ev_intB, ev_strI, ev_gcd, ev_tupOf, ev_lstOf, ev_isi, ev_isTy2, ev_call, ev_callK, ev_part, ev_sl, ev_join0, ev_join1, ev_fmt, ev_fmtI, ev_fmtS, ev_tb, ev_tr, ev_tand, ev_tor, ev_tnot, ev_yes, es_nx, es_next, es_brk, es_cnt, es_seq, es_ret, es_retN, es_drop, es_if, es_set, es_gset, es_raise, ev_run, es_for, seqC, seqL, seqT, seqS, itC, itL, itT, at0, at1, at2, at3, at4, at5, ix0, ix1, ix2, ix3, gk_set, gsk_nil, gsk_cons, gk_tup, gk_sub, es_asg, es_aug, ev_app, ev_exn, ev_xf, it_of, it_seq, it_r1, it_r2, it_en, es_step, env0, List.map_cons, List.map_nil, List.length_cons, List.length_nil, List.cons_append, List.nil_append, List.replicate, List.getElem?_cons_zero, List.getElem?_cons_succ, List.set_cons_zero, List.set_cons_succ, Nat.zero_add, Nat.reduceAdd, Nat.reduceSub, if_true, Bool.not_true, Bool.not_false, Bool.false_eq_true, if_false, ev_mk, intK, strK, locK, Option.bind_some, times_rat ha hc (show n + m ≤ 7000 by omega), times_rat hb hd (show n + m ≤ 7000 by omega)]
  rw [plus_rat (mul_lw ha hc).2 (mul_lw hb hd).2 (by omega)]
  exact ⟨rfl, rfl⟩
theorem ldot_rat (ha : Sr n a) (hb : Sr n b) (hc : Sr m c) (hd : Sr m d) (h : n + m ≤ 3000) : F__law_dot [cpl a b, cpl c d] st = .ok (rat (a * c + b * d)) st := by
  refine ev_to ?_
  unfold F__law_dot B__law_dot
  rw [ev_run]
  simp only [optK_some, slotK_val, blK_bl, ev_ok, ev_var, ev_c, ev_bin, ev_add, ev_addS, ev_addT, ev_addL, ev_sub, ev_mul, ev_div, ev_mod, ev_pow, ev_lt, ev_le, ev_gt, ev_ge, ev_is, ev_eq, ev_in, ev_ix, ev_un, ev_neg, tru_bl, tru_int, tru_non, tru_lst, tru_tup, ev_andV, ev_orV, ev_notV, ev_ifE, ev_nil, ev_cons, ev_tup, ev_lst, ev_new, ev_callB, ev_lenL, ev_lenT, ev_lenS, ev_lenC, ev_abs, ev_int, ev_intB, ev_strI, ev_gcd, ev_tupOf, ev_lstOf, ev_isi, ev_isTy2, ev_call, ev_callK, ev_part, ev_sl, ev_join0, ev_join1, ev_fmt, ev_fmtI, ev_fmtS, ev_tb, ev_tr, ev_tand, ev_tor, ev_tnot, ev_yes, es_nx, es_next, es_brk, es_cnt, es_seq, es_ret, es_retN, es_drop, es_if, es_set, es_gset, es_raise, ev_run, es_for, seqC, seqL, seqT, seqS, itC, itL, itT, at0, at1, at2, at3, at4, at5, ix0, ix1, ix2, ix3, gk_set, gsk_nil, gsk_cons, gk_tup, gk_sub, es_asg, es_aug, ev_app, ev_exn, ev_xf, it_of, it_seq, it_r1, it_r2, it_en, es_step, env0, List.map_cons, List.map_nil, List.length_cons, List.length_nil, List.cons_append, List.nil_append, List.replicate, List.getElem?_cons_zero, List.getElem?_cons_succ, List.set_cons_zero, List.set_cons_succ, Nat.zero_add, Nat.reduceAdd, Nat.reduceSub, if_true, Bool.not_true, Bool.not_false, Bool.false_eq_true, if_false, ev_mk, intK, strK, locK, Option.bind_some, ltimes_rat ha hc (show n + m ≤ 7000 by omega), ltimes_rat hb hd (show n + m ≤ 7000 by omega)]
  rw [lplus_rat (mul_lw ha hc).2 (mul_lw hb hd).2 (by omega)]
  exact ⟨rfl, rfl⟩
theorem cross_rat (ha : Sr n a) (hb : Sr n b) (hc : Sr m c) (hd : Sr m d) (h : n + m ≤ 3000) : F_cross_of [cpl a b, cpl c d] st = .ok (rat (a * d - b * c)) st := by
  refine ev_to ?_
  unfold F_cross_of B_cross_of
  rw [ev_run]
  simp only [optK_some, slotK_val, blK_bl, ev_ok, ev_var, ev_c, ev_bin, ev_add, ev_addS, ev_addT, ev_addL, ev_sub, ev_mul, ev_div, ev_mod, ev_pow, ev_lt, ev_le, ev_gt, ev_ge, ev_is, ev_eq, ev_in, ev_ix, ev_un, ev_neg, tru_bl, tru_int, tru_non, tru_lst, tru_tup, ev_andV, ev_orV, ev_notV, ev_ifE, ev_nil, ev_cons, ev_tup, ev_lst, ev_new, ev_callB, ev_lenL, ev_lenT, ev_lenS, ev_lenC, ev_abs, ev_int, ev_intB, ev_strI, ev_gcd, ev_tupOf, ev_lstOf, ev_isi, ev_isTy2, ev_call, ev_callK, ev_part, ev_sl, ev_join0, ev_join1, ev_fmt, ev_fmtI, ev_fmtS, ev_tb, ev_tr, ev_tand, ev_tor, ev_tnot, ev_yes, es_nx, es_next, es_brk, es_cnt, es_seq, es_ret, es_retN, es_drop, es_if, es_set, es_gset, es_raise, ev_run, es_for, seqC, seqL, seqT, seqS, itC, itL, itT, at0, at1, at2, at3, at4, at5, ix0, ix1, ix2, ix3, gk_set, gsk_nil, gsk_cons, gk_tup, gk_sub, es_asg, es_aug, ev_app, ev_exn, ev_xf, it_of, it_seq, it_r1, it_r2, it_en, es_step, env0, List.map_cons, List.map_nil, List.length_cons, List.length_nil, List.cons_append, List.nil_append, List.replicate, List.getElem?_cons_zero, List.getElem?_cons_succ, List.set_cons_zero, List.set_cons_succ, Nat.zero_add, Nat.reduceAdd, Nat.reduceSub, if_true, Bool.not_true, Bool.not_false, Bool.false_eq_true, if_false, ev_mk, intK, strK, locK, Option.bind_some, times_rat ha hd (show n + m ≤ 7000 by omega), times_rat hb hc (show n + m ≤ 7000 by omega)]
  rw [minus_rat (mul_lw ha hd).2 (mul_lw hb hc).2 (by omega)]
  exact ⟨rfl, rfl⟩
theorem lcross_rat (ha : Sr n a) (hb : Sr n b) (hc : Sr m c) (hd : Sr m d) (h : n + m ≤ 3000) : F__law_cross [cpl a b, cpl c d] st = .ok (rat (a * d - b * c)) st := by
  refine ev_to ?_
  unfold F__law_cross B__law_cross
  rw [ev_run]
  simp only [optK_some, slotK_val, blK_bl, ev_ok, ev_var, ev_c, ev_bin, ev_add, ev_addS, ev_addT, ev_addL, ev_sub, ev_mul, ev_div, ev_mod, ev_pow, ev_lt, ev_le, ev_gt, ev_ge, ev_is, ev_eq, ev_in, ev_ix, ev_un, ev_neg, tru_bl, tru_int, tru_non, tru_lst, tru_tup, ev_andV, ev_orV, ev_notV, ev_ifE, ev_nil, ev_cons, ev_tup, ev_lst, ev_new, ev_callB, ev_lenL, ev_lenT, ev_lenS, ev_lenC, ev_abs, ev_int, ev_intB, ev_strI, ev_gcd, ev_tupOf, ev_lstOf, ev_isi, ev_isTy2, ev_call, ev_callK, ev_part, ev_sl, ev_join0, ev_join1, ev_fmt, ev_fmtI, ev_fmtS, ev_tb, ev_tr, ev_tand, ev_tor, ev_tnot, ev_yes, es_nx, es_next, es_brk, es_cnt, es_seq, es_ret, es_retN, es_drop, es_if, es_set, es_gset, es_raise, ev_run, es_for, seqC, seqL, seqT, seqS, itC, itL, itT, at0, at1, at2, at3, at4, at5, ix0, ix1, ix2, ix3, gk_set, gsk_nil, gsk_cons, gk_tup, gk_sub, es_asg, es_aug, ev_app, ev_exn, ev_xf, it_of, it_seq, it_r1, it_r2, it_en, es_step, env0, List.map_cons, List.map_nil, List.length_cons, List.length_nil, List.cons_append, List.nil_append, List.replicate, List.getElem?_cons_zero, List.getElem?_cons_succ, List.set_cons_zero, List.set_cons_succ, Nat.zero_add, Nat.reduceAdd, Nat.reduceSub, if_true, Bool.not_true, Bool.not_false, Bool.false_eq_true, if_false, ev_mk, intK, strK, locK, Option.bind_some, ltimes_rat ha hd (show n + m ≤ 7000 by omega), ltimes_rat hb hc (show n + m ≤ 7000 by omega)]
  rw [lminus_rat (mul_lw ha hd).2 (mul_lw hb hc).2 (by omega)]
  exact ⟨rfl, rfl⟩
theorem quarter_rat : F_quarter_left [cpl a b] st = .ok (cpl (-b) a) st := by
  refine ev_to ?_
  unfold F_quarter_left B_quarter_left
  rw [ev_run]
  have e : ∀ st, F_negative [rat b] st = .ok (rat (-b)) st := fun st => negative_rat
  simp only [optK_some, slotK_val, blK_bl, ev_ok, ev_var, ev_c, ev_bin, ev_add, ev_addS, ev_addT, ev_addL, ev_sub, ev_mul, ev_div, ev_mod, ev_pow, ev_lt, ev_le, ev_gt, ev_ge, ev_is, ev_eq, ev_in, ev_ix, ev_un, ev_neg, tru_bl, tru_int, tru_non, tru_lst, tru_tup, ev_andV, ev_orV, ev_notV, ev_ifE, ev_nil, ev_cons, ev_tup, ev_lst, ev_new, ev_callB, ev_lenL, ev_lenT, ev_lenS, ev_lenC, ev_abs, ev_int, ev_intB, ev_strI, ev_gcd, ev_tupOf, ev_lstOf, ev_isi, ev_isTy2, ev_call, ev_callK, ev_part, ev_sl, ev_join0, ev_join1, ev_fmt, ev_fmtI, ev_fmtS, ev_tb, ev_tr, ev_tand, ev_tor, ev_tnot, ev_yes, es_nx, es_next, es_brk, es_cnt, es_seq, es_ret, es_retN, es_drop, es_if, es_set, es_gset, es_raise, ev_run, es_for, seqC, seqL, seqT, seqS, itC, itL, itT, at0, at1, at2, at3, at4, at5, ix0, ix1, ix2, ix3, gk_set, gsk_nil, gsk_cons, gk_tup, gk_sub, es_asg, es_aug, ev_app, ev_exn, ev_xf, it_of, it_seq, it_r1, it_r2, it_en, es_step, env0, List.map_cons, List.map_nil, List.length_cons, List.length_nil, List.cons_append, List.nil_append, List.replicate, List.getElem?_cons_zero, List.getElem?_cons_succ, List.set_cons_zero, List.set_cons_succ, Nat.zero_add, Nat.reduceAdd, Nat.reduceSub, if_true, Bool.not_true, Bool.not_false, Bool.false_eq_true, if_false, ev_mk, intK, strK, locK, Option.bind_some, e, sizeLine_eq]
  exact ⟨by decide, trivial, trivial⟩
def ord (p q : Rat × Rat) : Int := if cpr p.1 q.1 ≠ 0 then cpr p.1 q.1 else cpr p.2 q.2
theorem cplaces_rat (ha : Sr n a) (hb : Sr n b) (hc : Sr m c) (hd : Sr m d) (h : n + m ≤ 7000) : F_compare_places [cpl a b, cpl c d] st = .ok (.int (ord (a, b) (c, d))) st := by
  refine ev_to ?_
  unfold F_compare_places B_compare_places
  rw [ev_run]
  simp only [optK_some, slotK_val, blK_bl, ev_ok, ev_var, ev_c, ev_bin, ev_add, ev_addS, ev_addT, ev_addL, ev_sub, ev_mul, ev_div, ev_mod, ev_pow, ev_lt, ev_le, ev_gt, ev_ge, ev_is, ev_eq, ev_in, ev_ix, ev_un, ev_neg, tru_bl, tru_int, tru_non, tru_lst, tru_tup, ev_andV, ev_orV, ev_notV, ev_ifE, ev_nil, ev_cons, ev_tup, ev_lst, ev_new, ev_callB, ev_lenL, ev_lenT, ev_lenS, ev_lenC, ev_abs, ev_int, ev_intB, ev_strI, ev_gcd, ev_tupOf, ev_lstOf, ev_isi, ev_isTy2, ev_call, ev_callK, ev_part, ev_sl, ev_join0, ev_join1, ev_fmt, ev_fmtI, ev_fmtS, ev_tb, ev_tr, ev_tand, ev_tor, ev_tnot, ev_yes, es_nx, es_next, es_brk, es_cnt, es_seq, es_ret, es_retN, es_drop, es_if, es_set, es_gset, es_raise, ev_run, es_for, seqC, seqL, seqT, seqS, itC, itL, itT, at0, at1, at2, at3, at4, at5, ix0, ix1, ix2, ix3, gk_set, gsk_nil, gsk_cons, gk_tup, gk_sub, es_asg, es_aug, ev_app, ev_exn, ev_xf, it_of, it_seq, it_r1, it_r2, it_en, es_step, env0, List.map_cons, List.map_nil, List.length_cons, List.length_nil, List.cons_append, List.nil_append, List.replicate, List.getElem?_cons_zero, List.getElem?_cons_succ, List.set_cons_zero, List.set_cons_succ, Nat.zero_add, Nat.reduceAdd, Nat.reduceSub, if_true, Bool.not_true, Bool.not_false, Bool.false_eq_true, if_false, ev_mk, intK, strK, locK, Option.bind_some, compare_rat ha hc h, compare_rat hb hd h, eqD_int]
  unfold ord
  by_cases q : cpr a c = 0
  · simp [q]
  · have q2 : (cpr a c == 0) = false := by simpa using q
    simp [q, q2]
theorem lorder_rat (ha : Sr n a) (hb : Sr n b) (hc : Sr m c) (hd : Sr m d) (h : n + m ≤ 7000) : F__law_order [cpl a b, cpl c d] st = .ok (.int (ord (a, b) (c, d))) st := by
  refine ev_to ?_
  unfold F__law_order B__law_order
  rw [ev_run]
  simp only [optK_some, slotK_val, blK_bl, ev_ok, ev_var, ev_c, ev_bin, ev_add, ev_addS, ev_addT, ev_addL, ev_sub, ev_mul, ev_div, ev_mod, ev_pow, ev_lt, ev_le, ev_gt, ev_ge, ev_is, ev_eq, ev_in, ev_ix, ev_un, ev_neg, tru_bl, tru_int, tru_non, tru_lst, tru_tup, ev_andV, ev_orV, ev_notV, ev_ifE, ev_nil, ev_cons, ev_tup, ev_lst, ev_new, ev_callB, ev_lenL, ev_lenT, ev_lenS, ev_lenC, ev_abs, ev_int, ev_intB, ev_strI, ev_gcd, ev_tupOf, ev_lstOf, ev_isi, ev_isTy2, ev_call, ev_callK, ev_part, ev_sl, ev_join0, ev_join1, ev_fmt, ev_fmtI, ev_fmtS, ev_tb, ev_tr, ev_tand, ev_tor, ev_tnot, ev_yes, es_nx, es_next, es_brk, es_cnt, es_seq, es_ret, es_retN, es_drop, es_if, es_set, es_gset, es_raise, ev_run, es_for, seqC, seqL, seqT, seqS, itC, itL, itT, at0, at1, at2, at3, at4, at5, ix0, ix1, ix2, ix3, gk_set, gsk_nil, gsk_cons, gk_tup, gk_sub, es_asg, es_aug, ev_app, ev_exn, ev_xf, it_of, it_seq, it_r1, it_r2, it_en, es_step, env0, List.map_cons, List.map_nil, List.length_cons, List.length_nil, List.cons_append, List.nil_append, List.replicate, List.getElem?_cons_zero, List.getElem?_cons_succ, List.set_cons_zero, List.set_cons_succ, Nat.zero_add, Nat.reduceAdd, Nat.reduceSub, if_true, Bool.not_true, Bool.not_false, Bool.false_eq_true, if_false, ev_mk, intK, strK, locK, Option.bind_some, lcompare_rat ha hc h, lcompare_rat hb hd h, eqD_int]
  unfold ord
  by_cases q : cpr a c = 0
  · simp [q]
  · have q2 : (cpr a c == 0) = false := by simpa using q
    simp [q, q2]
theorem is_rat : F__law_is [rat x, rat x] st = .ok (.bl true) st := by
  refine ev_to ?_
  unfold F__law_is B__law_is
  rw [ev_run]
  simp only [optK_some, slotK_val, blK_bl, ev_ok, ev_var, ev_c, ev_bin, ev_add, ev_addS, ev_addT, ev_addL, ev_sub, ev_mul, ev_div, ev_mod, ev_pow, ev_lt, ev_le, ev_gt, ev_ge, ev_is, ev_eq, ev_in, ev_ix, ev_un, ev_neg, tru_bl, tru_int, tru_non, tru_lst, tru_tup, ev_andV, ev_orV, ev_notV, ev_ifE, ev_nil, ev_cons, ev_tup, ev_lst, ev_new, ev_callB, ev_lenL, ev_lenT, ev_lenS, ev_lenC, ev_abs, ev_int, ev_intB, ev_strI, ev_gcd, ev_tupOf, ev_lstOf, ev_isi, ev_isTy2, ev_call, ev_callK, ev_part, ev_sl, ev_join0, ev_join1, ev_fmt, ev_fmtI, ev_fmtS, ev_tb, ev_tr, ev_tand, ev_tor, ev_tnot, ev_yes, es_nx, es_next, es_brk, es_cnt, es_seq, es_ret, es_retN, es_drop, es_if, es_set, es_gset, es_raise, ev_run, es_for, seqC, seqL, seqT, seqS, itC, itL, itT, at0, at1, at2, at3, at4, at5, ix0, ix1, ix2, ix3, gk_set, gsk_nil, gsk_cons, gk_tup, gk_sub, es_asg, es_aug, ev_app, ev_exn, ev_xf, it_of, it_seq, it_r1, it_r2, it_en, es_step, env0, List.map_cons, List.map_nil, List.length_cons, List.length_nil, List.cons_append, List.nil_append, List.replicate, List.getElem?_cons_zero, List.getElem?_cons_succ, List.set_cons_zero, List.set_cons_succ, Nat.zero_add, Nat.reduceAdd, Nat.reduceSub, if_true, Bool.not_true, Bool.not_false, Bool.false_eq_true, if_false, ev_mk, intK, strK, locK, Option.bind_some, kdOf, isD, tyOf, eqD_int, eqD_rt]
  simp only [Ty.sub, decide_true, optK_some, slotK_val, blK_bl, ev_ok, ev_var, ev_c, ev_bin, ev_add, ev_addS, ev_addT, ev_addL, ev_sub, ev_mul, ev_div, ev_mod, ev_pow, ev_lt, ev_le, ev_gt, ev_ge, ev_is, ev_eq, ev_in, ev_ix, ev_un, ev_neg, tru_bl, tru_int, tru_non, tru_lst, tru_tup, ev_andV, ev_orV, ev_notV, ev_ifE, ev_nil, ev_cons, ev_tup, ev_lst, ev_new, ev_callB, ev_lenL, ev_lenT, ev_lenS, ev_lenC, ev_abs, ev_int, ev_intB, ev_strI, ev_gcd, ev_tupOf, ev_lstOf, ev_isi, ev_isTy2, ev_call, ev_callK, ev_part, ev_sl, ev_join0, ev_join1, ev_fmt, ev_fmtI, ev_fmtS, ev_tb, ev_tr, ev_tand, ev_tor, ev_tnot, ev_yes, es_nx, es_next, es_brk, es_cnt, es_seq, es_ret, es_retN, es_drop, es_if, es_set, es_gset, es_raise, ev_run, es_for, seqC, seqL, seqT, seqS, itC, itL, itT, at0, at1, at2, at3, at4, at5, ix0, ix1, ix2, ix3, gk_set, gsk_nil, gsk_cons, gk_tup, gk_sub, es_asg, es_aug, ev_app, ev_exn, ev_xf, it_of, it_seq, it_r1, it_r2, it_en, es_step, env0, List.map_cons, List.map_nil, List.length_cons, List.length_nil, List.cons_append, List.nil_append, List.replicate, List.getElem?_cons_zero, List.getElem?_cons_succ, List.set_cons_zero, List.set_cons_succ, Nat.zero_add, Nat.reduceAdd, Nat.reduceSub, if_true, Bool.not_true, Bool.not_false, Bool.false_eq_true, if_false, ev_mk, intK, strK, locK, Option.bind_some, show ("tuple" : String) ≠ "int" by decide, show ("tuple" : String) ≠ "bool" by decide, show ("tuple" : String) ≠ "str" by decide, show ("bool" : String) ≠ "int" by decide, if_false, if_true, Option.map_some]
  simp [Es, Ev, blK, optK]
theorem both_cpl : F__law_both [cpl a b, cpl a b] st = .ok (.bl true) st := by
  refine ev_to ?_
  unfold F__law_both B__law_both
  rw [ev_run]
  have e : ∀ x st, F__law_is [rat x, rat x] st = .ok (.bl true) st := fun x st => is_rat
  simp only [optK_some, slotK_val, blK_bl, ev_ok, ev_var, ev_c, ev_bin, ev_add, ev_addS, ev_addT, ev_addL, ev_sub, ev_mul, ev_div, ev_mod, ev_pow, ev_lt, ev_le, ev_gt, ev_ge, ev_is, ev_eq, ev_in, ev_ix, ev_un, ev_neg, tru_bl, tru_int, tru_non, tru_lst, tru_tup, ev_andV, ev_orV, ev_notV, ev_ifE, ev_nil, ev_cons, ev_tup, ev_lst, ev_new, ev_callB, ev_lenL, ev_lenT, ev_lenS, ev_lenC, ev_abs, ev_int, ev_intB, ev_strI, ev_gcd, ev_tupOf, ev_lstOf, ev_isi, ev_isTy2, ev_call, ev_callK, ev_part, ev_sl, ev_join0, ev_join1, ev_fmt, ev_fmtI, ev_fmtS, ev_tb, ev_tr, ev_tand, ev_tor, ev_tnot, ev_yes, es_nx, es_next, es_brk, es_cnt, es_seq, es_ret, es_retN, es_drop, es_if, es_set, es_gset, es_raise, ev_run, es_for, seqC, seqL, seqT, seqS, itC, itL, itT, at0, at1, at2, at3, at4, at5, ix0, ix1, ix2, ix3, gk_set, gsk_nil, gsk_cons, gk_tup, gk_sub, es_asg, es_aug, ev_app, ev_exn, ev_xf, it_of, it_seq, it_r1, it_r2, it_en, es_step, env0, List.map_cons, List.map_nil, List.length_cons, List.length_nil, List.cons_append, List.nil_append, List.replicate, List.getElem?_cons_zero, List.getElem?_cons_succ, List.set_cons_zero, List.set_cons_succ, Nat.zero_add, Nat.reduceAdd, Nat.reduceSub, if_true, Bool.not_true, Bool.not_false, Bool.false_eq_true, if_false, ev_mk, intK, strK, locK, Option.bind_some, kdOf, isD, tyOf, eqD_int]
  simp only [Ty.sub, decide_true, optK_some, slotK_val, blK_bl, ev_ok, ev_var, ev_c, ev_bin, ev_add, ev_addS, ev_addT, ev_addL, ev_sub, ev_mul, ev_div, ev_mod, ev_pow, ev_lt, ev_le, ev_gt, ev_ge, ev_is, ev_eq, ev_in, ev_ix, ev_un, ev_neg, tru_bl, tru_int, tru_non, tru_lst, tru_tup, ev_andV, ev_orV, ev_notV, ev_ifE, ev_nil, ev_cons, ev_tup, ev_lst, ev_new, ev_callB, ev_lenL, ev_lenT, ev_lenS, ev_lenC, ev_abs, ev_int, ev_intB, ev_strI, ev_gcd, ev_tupOf, ev_lstOf, ev_isi, ev_isTy2, ev_call, ev_callK, ev_part, ev_sl, ev_join0, ev_join1, ev_fmt, ev_fmtI, ev_fmtS, ev_tb, ev_tr, ev_tand, ev_tor, ev_tnot, ev_yes, es_nx, es_next, es_brk, es_cnt, es_seq, es_ret, es_retN, es_drop, es_if, es_set, es_gset, es_raise, ev_run, es_for, seqC, seqL, seqT, seqS, itC, itL, itT, at0, at1, at2, at3, at4, at5, ix0, ix1, ix2, ix3, gk_set, gsk_nil, gsk_cons, gk_tup, gk_sub, es_asg, es_aug, ev_app, ev_exn, ev_xf, it_of, it_seq, it_r1, it_r2, it_en, es_step, env0, List.map_cons, List.map_nil, List.length_cons, List.length_nil, List.cons_append, List.nil_append, List.replicate, List.getElem?_cons_zero, List.getElem?_cons_succ, List.set_cons_zero, List.set_cons_succ, Nat.zero_add, Nat.reduceAdd, Nat.reduceSub, if_true, Bool.not_true, Bool.not_false, Bool.false_eq_true, if_false, ev_mk, intK, strK, locK, Option.bind_some, e, show ("tuple" : String) ≠ "int" by decide, show ("tuple" : String) ≠ "bool" by decide, show ("tuple" : String) ≠ "str" by decide, if_false, if_true, Option.map_some]
  simp [Es, Ev, blK, optK]
end
end L_k02
namespace L_k02
open PySem PySem.Spec PyProof.Rows L2 Dl
/-! ### what is a couple -/
theorem isc_t {x y : D} {wx wy : Bool} {st : Store} (h1 : ∀ st, F_is_ratio [x] st = .ok (.bl wx) st) (h2 : ∀ st, F_is_ratio [y] st = .ok (.bl wy) st) : F_is_couple [.tup [x, y]] st = .ok (.bl (wx && wy)) st := by
  refine ev_to ?_
  unfold F_is_couple B_is_couple
  rw [ev_run]
  simp only [optK_some, slotK_val, blK_bl, ev_ok, ev_var, ev_c, ev_bin, ev_add, ev_addS, ev_addT, ev_addL, ev_sub, ev_mul, ev_div, ev_mod, ev_pow, ev_lt, ev_le, ev_gt, ev_ge, ev_is, ev_eq, ev_in, ev_ix, ev_un, ev_neg, tru_bl, tru_int, tru_non, tru_lst, tru_tup, ev_andV, ev_orV, ev_notV, ev_ifE, ev_nil, ev_cons, ev_tup, ev_lst, ev_new, ev_callB, ev_lenL, ev_lenT, ev_lenS, ev_lenC, ev_abs, ev_int, ev_intB, ev_strI, ev_gcd, ev_tupOf, ev_lstOf, ev_isi, ev_isTy2, ev_call, ev_callK, ev_part, ev_sl, ev_join0, ev_join1, ev_fmt, ev_fmtI, ev_fmtS, ev_tb, ev_tr, ev_tand, ev_tor, ev_tnot, ev_yes, es_nx, es_next, es_brk, es_cnt, es_seq, es_ret, es_retN, es_drop, es_if, es_set, es_gset, es_raise, ev_run, es_for, seqC, seqL, seqT, seqS, itC, itL, itT, at0, at1, at2, at3, at4, at5, ix0, ix1, ix2, ix3, gk_set, gsk_nil, gsk_cons, gk_tup, gk_sub, es_asg, es_aug, ev_app, ev_exn, ev_xf, it_of, it_seq, it_r1, it_r2, it_en, es_step, ev_isE, env0, List.map_cons, List.map_nil, List.length_cons, List.length_nil, List.cons_append, List.nil_append, List.replicate, List.getElem?_cons_zero, List.getElem?_cons_succ, List.set_cons_zero, List.set_cons_succ, Nat.zero_add, Nat.reduceAdd, Nat.reduceSub, if_true, Bool.not_true, Bool.not_false, Bool.false_eq_true, if_false, ev_mk, intK, strK, locK, Option.bind_some, isTy2, kdOf, tyOf, eqD_int, h1, h2]
  simp [Es, Ev, blK, optK, Ty.sub]
  cases wx <;> cases wy <;> simp
theorem isc_l {x y : D} {wx wy : Bool} {st : Store} (h1 : ∀ st, F_is_ratio [x] st = .ok (.bl wx) st) (h2 : ∀ st, F_is_ratio [y] st = .ok (.bl wy) st) : F_is_couple [.lst [x, y]] st = .ok (.bl (wx && wy)) st := by
  refine ev_to ?_
  unfold F_is_couple B_is_couple
  rw [ev_run]
  simp only [optK_some, slotK_val, blK_bl, ev_ok, ev_var, ev_c, ev_bin, ev_add, ev_addS, ev_addT, ev_addL, ev_sub, ev_mul, ev_div, ev_mod, ev_pow, ev_lt, ev_le, ev_gt, ev_ge, ev_is, ev_eq, ev_in, ev_ix, ev_un, ev_neg, tru_bl, tru_int, tru_non, tru_lst, tru_tup, ev_andV, ev_orV, ev_notV, ev_ifE, ev_nil, ev_cons, ev_tup, ev_lst, ev_new, ev_callB, ev_lenL, ev_lenT, ev_lenS, ev_lenC, ev_abs, ev_int, ev_intB, ev_strI, ev_gcd, ev_tupOf, ev_lstOf, ev_isi, ev_isTy2, ev_call, ev_callK, ev_part, ev_sl, ev_join0, ev_join1, ev_fmt, ev_fmtI, ev_fmtS, ev_tb, ev_tr, ev_tand, ev_tor, ev_tnot, ev_yes, es_nx, es_next, es_brk, es_cnt, es_seq, es_ret, es_retN, es_drop, es_if, es_set, es_gset, es_raise, ev_run, es_for, seqC, seqL, seqT, seqS, itC, itL, itT, at0, at1, at2, at3, at4, at5, ix0, ix1, ix2, ix3, gk_set, gsk_nil, gsk_cons, gk_tup, gk_sub, es_asg, es_aug, ev_app, ev_exn, ev_xf, it_of, it_seq, it_r1, it_r2, it_en, es_step, ev_isE, env0, List.map_cons, List.map_nil, List.length_cons, List.length_nil, List.cons_append, List.nil_append, List.replicate, List.getElem?_cons_zero, List.getElem?_cons_succ, List.set_cons_zero, List.set_cons_succ, Nat.zero_add, Nat.reduceAdd, Nat.reduceSub, if_true, Bool.not_true, Bool.not_false, Bool.false_eq_true, if_false, ev_mk, intK, strK, locK, Option.bind_some, isTy2, kdOf, tyOf, eqD_int, h1, h2]
  simp [Es, Ev, blK, optK, Ty.sub]
  cases wx <;> cases wy <;> simp
theorem isc_len {ds : List D} {st : Store} (h : ds.length ≠ 2) : F_is_couple [.tup ds] st = .ok (.bl false) st := by
  refine ev_to ?_
  unfold F_is_couple B_is_couple
  rw [ev_run]
  have e : ((ds.length : Int) == 2) = false := by
    have : (ds.length : Int) ≠ 2 := by omega
    simpa using this
  simp only [optK_some, slotK_val, blK_bl, ev_ok, ev_var, ev_c, ev_bin, ev_add, ev_addS, ev_addT, ev_addL, ev_sub, ev_mul, ev_div, ev_mod, ev_pow, ev_lt, ev_le, ev_gt, ev_ge, ev_is, ev_eq, ev_in, ev_ix, ev_un, ev_neg, tru_bl, tru_int, tru_non, tru_lst, tru_tup, ev_andV, ev_orV, ev_notV, ev_ifE, ev_nil, ev_cons, ev_tup, ev_lst, ev_new, ev_callB, ev_lenL, ev_lenT, ev_lenS, ev_lenC, ev_abs, ev_int, ev_intB, ev_strI, ev_gcd, ev_tupOf, ev_lstOf, ev_isi, ev_isTy2, ev_call, ev_callK, ev_part, ev_sl, ev_join0, ev_join1, ev_fmt, ev_fmtI, ev_fmtS, ev_tb, ev_tr, ev_tand, ev_tor, ev_tnot, ev_yes, es_nx, es_next, es_brk, es_cnt, es_seq, es_ret, es_retN, es_drop, es_if, es_set, es_gset, es_raise, ev_run, es_for, seqC, seqL, seqT, seqS, itC, itL, itT, at0, at1, at2, at3, at4, at5, ix0, ix1, ix2, ix3, gk_set, gsk_nil, gsk_cons, gk_tup, gk_sub, es_asg, es_aug, ev_app, ev_exn, ev_xf, it_of, it_seq, it_r1, it_r2, it_en, es_step, ev_isE, env0, List.map_cons, List.map_nil, List.length_cons, List.length_nil, List.cons_append, List.nil_append, List.replicate, List.getElem?_cons_zero, List.getElem?_cons_succ, List.set_cons_zero, List.set_cons_succ, Nat.zero_add, Nat.reduceAdd, Nat.reduceSub, if_true, Bool.not_true, Bool.not_false, Bool.false_eq_true, if_false, ev_mk, intK, strK, locK, Option.bind_some, isTy2, kdOf, tyOf, eqD_int, e]
  simp [Es, Ev, blK, optK, Ty.sub]
theorem isc_kind {d : D} {t : Ty} {st : Store} (h : kdOf st d = some (.ty t)) (h1 : t ≠ .lst) (h2 : t ≠ .tup) : F_is_couple [d] st = .ok (.bl false) st := by
  refine ev_to ?_
  unfold F_is_couple B_is_couple
  rw [ev_run]
  simp only [optK_some, slotK_val, blK_bl, ev_ok, ev_var, ev_c, ev_bin, ev_add, ev_addS, ev_addT, ev_addL, ev_sub, ev_mul, ev_div, ev_mod, ev_pow, ev_lt, ev_le, ev_gt, ev_ge, ev_is, ev_eq, ev_in, ev_ix, ev_un, ev_neg, tru_bl, tru_int, tru_non, tru_lst, tru_tup, ev_andV, ev_orV, ev_notV, ev_ifE, ev_nil, ev_cons, ev_tup, ev_lst, ev_new, ev_callB, ev_lenL, ev_lenT, ev_lenS, ev_lenC, ev_abs, ev_int, ev_intB, ev_strI, ev_gcd, ev_tupOf, ev_lstOf, ev_isi, ev_isTy2, ev_call, ev_callK, ev_part, ev_sl, ev_join0, ev_join1, ev_fmt, ev_fmtI, ev_fmtS, ev_tb, ev_tr, ev_tand, ev_tor, ev_tnot, ev_yes, es_nx, es_next, es_brk, es_cnt, es_seq, es_ret, es_retN, es_drop, es_if, es_set, es_gset, es_raise, ev_run, es_for, seqC, seqL, seqT, seqS, itC, itL, itT, at0, at1, at2, at3, at4, at5, ix0, ix1, ix2, ix3, gk_set, gsk_nil, gsk_cons, gk_tup, gk_sub, es_asg, es_aug, ev_app, ev_exn, ev_xf, it_of, it_seq, it_r1, it_r2, it_en, es_step, ev_isE, env0, List.map_cons, List.map_nil, List.length_cons, List.length_nil, List.cons_append, List.nil_append, List.replicate, List.getElem?_cons_zero, List.getElem?_cons_succ, List.set_cons_zero, List.set_cons_succ, Nat.zero_add, Nat.reduceAdd, Nat.reduceSub, if_true, Bool.not_true, Bool.not_false, Bool.false_eq_true, if_false, ev_mk, intK, strK, locK, Option.bind_some, isTy2, h, tyOf]
  cases t with
  | lst => exact absurd rfl h1
  | tup => exact absurd rfl h2
  | _ => simp [Es, Ev, blK, optK, Ty.sub]
theorem place_no {d : D} {st : Store} (h : F_is_couple [d] st = .ok (.bl false) st) : F__law_place_of [d] st = .ok (.lst [.str "refused", .bl true]) st := by
  have hc : F_check_place [d] st = .exc ⟨2, []⟩ st := by
    have key : Ev (F_check_place [d] st) (fun _ _ => False) fun e st1 => e = ⟨2, []⟩ ∧ st1 = st := by
      unfold F_check_place B_check_place
      rw [ev_run]
      simp only [optK_some, slotK_val, blK_bl, ev_ok, ev_var, ev_c, ev_bin, ev_add, ev_addS, ev_addT, ev_addL, ev_sub, ev_mul, ev_div, ev_mod, ev_pow, ev_lt, ev_le, ev_gt, ev_ge, ev_is, ev_eq, ev_in, ev_ix, ev_un, ev_neg, tru_bl, tru_int, tru_non, tru_lst, tru_tup, ev_andV, ev_orV, ev_notV, ev_ifE, ev_nil, ev_cons, ev_tup, ev_lst, ev_new, ev_callB, ev_lenL, ev_lenT, ev_lenS, ev_lenC, ev_abs, ev_int, ev_intB, ev_strI, ev_gcd, ev_tupOf, ev_lstOf, ev_isi, ev_isTy2, ev_call, ev_callK, ev_part, ev_sl, ev_join0, ev_join1, ev_fmt, ev_fmtI, ev_fmtS, ev_tb, ev_tr, ev_tand, ev_tor, ev_tnot, ev_yes, es_nx, es_next, es_brk, es_cnt, es_seq, es_ret, es_retN, es_drop, es_if, es_set, es_gset, es_raise, ev_run, es_for, seqC, seqL, seqT, seqS, itC, itL, itT, at0, at1, at2, at3, at4, at5, ix0, ix1, ix2, ix3, gk_set, gsk_nil, gsk_cons, gk_tup, gk_sub, es_asg, es_aug, ev_app, ev_exn, ev_xf, it_of, it_seq, it_r1, it_r2, it_en, es_step, ev_isE, env0, List.map_cons, List.map_nil, List.length_cons, List.length_nil, List.cons_append, List.nil_append, List.replicate, List.getElem?_cons_zero, List.getElem?_cons_succ, List.set_cons_zero, List.set_cons_succ, Nat.zero_add, Nat.reduceAdd, Nat.reduceSub, if_true, Bool.not_true, Bool.not_false, Bool.false_eq_true, if_false, ev_mk, intK, strK, locK, Option.bind_some, h]
      exact ⟨trivial, trivial, trivial⟩
    exact exc_of key
  refine ev_to ?_
  unfold F__law_place_of B__law_place_of
  rw [ev_run, es_seq]
  have e : dCall F_check_place [] (dCons (dVar 0) dNil) (env0 3 [d]) st = .exc ⟨2, []⟩ st := hc
  refine (es_try_ex (dSet_ex e) (by simp) rfl).mpr ?_
  simp only [optK_some, slotK_val, blK_bl, ev_ok, ev_var, ev_c, ev_bin, ev_add, ev_addS, ev_addT, ev_addL, ev_sub, ev_mul, ev_div, ev_mod, ev_pow, ev_lt, ev_le, ev_gt, ev_ge, ev_is, ev_eq, ev_in, ev_ix, ev_un, ev_neg, tru_bl, tru_int, tru_non, tru_lst, tru_tup, ev_andV, ev_orV, ev_notV, ev_ifE, ev_nil, ev_cons, ev_tup, ev_lst, ev_new, ev_callB, ev_lenL, ev_lenT, ev_lenS, ev_lenC, ev_abs, ev_int, ev_intB, ev_strI, ev_gcd, ev_tupOf, ev_lstOf, ev_isi, ev_isTy2, ev_call, ev_callK, ev_part, ev_sl, ev_join0, ev_join1, ev_fmt, ev_fmtI, ev_fmtS, ev_tb, ev_tr, ev_tand, ev_tor, ev_tnot, ev_yes, es_nx, es_next, es_brk, es_cnt, es_seq, es_ret, es_retN, es_drop, es_if, es_set, es_gset, es_raise, ev_run, es_for, seqC, seqL, seqT, seqS, itC, itL, itT, at0, at1, at2, at3, at4, at5, ix0, ix1, ix2, ix3, gk_set, gsk_nil, gsk_cons, gk_tup, gk_sub, es_asg, es_aug, ev_app, ev_exn, ev_xf, it_of, it_seq, it_r1, it_r2, it_en, es_step, ev_isE, env0, List.map_cons, List.map_nil, List.length_cons, List.length_nil, List.cons_append, List.nil_append, List.replicate, List.getElem?_cons_zero, List.getElem?_cons_succ, List.set_cons_zero, List.set_cons_succ, Nat.zero_add, Nat.reduceAdd, Nat.reduceSub, if_true, Bool.not_true, Bool.not_false, Bool.false_eq_true, if_false, ev_mk, intK, strK, locK, Option.bind_some, List.isEmpty_nil, sizeLine_eq]
  exact ⟨trivial, trivial, by decide, trivial, trivial⟩
theorem place_t {x y : D} {st : Store} (h : F_is_couple [.tup [x, y]] st = .ok (.bl true) st) : F__law_place_of [.tup [x, y]] st = .ok (.tup [x, y]) st := by
  have hc : F_check_place [.tup [x, y]] st = .ok (.tup [x, y]) st := by
    refine ev_to ?_
    unfold F_check_place B_check_place
    rw [ev_run]
    simp only [optK_some, slotK_val, blK_bl, ev_ok, ev_var, ev_c, ev_bin, ev_add, ev_addS, ev_addT, ev_addL, ev_sub, ev_mul, ev_div, ev_mod, ev_pow, ev_lt, ev_le, ev_gt, ev_ge, ev_is, ev_eq, ev_in, ev_ix, ev_un, ev_neg, tru_bl, tru_int, tru_non, tru_lst, tru_tup, ev_andV, ev_orV, ev_notV, ev_ifE, ev_nil, ev_cons, ev_tup, ev_lst, ev_new, ev_callB, ev_lenL, ev_lenT, ev_lenS, ev_lenC, ev_abs, ev_int, ev_intB, ev_strI, ev_gcd, ev_tupOf, ev_lstOf, ev_isi, ev_isTy2, ev_call, ev_callK, ev_part, ev_sl, ev_join0, ev_join1, ev_fmt, ev_fmtI, ev_fmtS, ev_tb, ev_tr, ev_tand, ev_tor, ev_tnot, ev_yes, es_nx, es_next, es_brk, es_cnt, es_seq, es_ret, es_retN, es_drop, es_if, es_set, es_gset, es_raise, ev_run, es_for, seqC, seqL, seqT, seqS, itC, itL, itT, at0, at1, at2, at3, at4, at5, ix0, ix1, ix2, ix3, gk_set, gsk_nil, gsk_cons, gk_tup, gk_sub, es_asg, es_aug, ev_app, ev_exn, ev_xf, it_of, it_seq, it_r1, it_r2, it_en, es_step, ev_isE, env0, List.map_cons, List.map_nil, List.length_cons, List.length_nil, List.cons_append, List.nil_append, List.replicate, List.getElem?_cons_zero, List.getElem?_cons_succ, List.set_cons_zero, List.set_cons_succ, Nat.zero_add, Nat.reduceAdd, Nat.reduceSub, if_true, Bool.not_true, Bool.not_false, Bool.false_eq_true, if_false, ev_mk, intK, strK, locK, Option.bind_some, h, sizeLine_eq]
    exact ⟨by decide, trivial, trivial⟩
  refine ev_to ?_
  unfold F__law_place_of B__law_place_of
  rw [ev_run, es_seq]
  have e : dCall F_check_place [] (dCons (dVar 0) dNil) (env0 3 [.tup [x, y]]) st = .ok (.tup [x, y]) st := hc
  refine (es_try_nx (dSet_nx e)).mpr ?_
  simp only [optK_some, slotK_val, blK_bl, ev_ok, ev_var, ev_c, ev_bin, ev_add, ev_addS, ev_addT, ev_addL, ev_sub, ev_mul, ev_div, ev_mod, ev_pow, ev_lt, ev_le, ev_gt, ev_ge, ev_is, ev_eq, ev_in, ev_ix, ev_un, ev_neg, tru_bl, tru_int, tru_non, tru_lst, tru_tup, ev_andV, ev_orV, ev_notV, ev_ifE, ev_nil, ev_cons, ev_tup, ev_lst, ev_new, ev_callB, ev_lenL, ev_lenT, ev_lenS, ev_lenC, ev_abs, ev_int, ev_intB, ev_strI, ev_gcd, ev_tupOf, ev_lstOf, ev_isi, ev_isTy2, ev_call, ev_callK, ev_part, ev_sl, ev_join0, ev_join1, ev_fmt, ev_fmtI, ev_fmtS, ev_tb, ev_tr, ev_tand, ev_tor, ev_tnot, ev_yes, es_nx, es_next, es_brk, es_cnt, es_seq, es_ret, es_retN, es_drop, es_if, es_set, es_gset, es_raise, ev_run, es_for, seqC, seqL, seqT, seqS, itC, itL, itT, at0, at1, at2, at3, at4, at5, ix0, ix1, ix2, ix3, gk_set, gsk_nil, gsk_cons, gk_tup, gk_sub, es_asg, es_aug, ev_app, ev_exn, ev_xf, it_of, it_seq, it_r1, it_r2, it_en, es_step, ev_isE, env0, List.map_cons, List.map_nil, List.length_cons, List.length_nil, List.cons_append, List.nil_append, List.replicate, List.getElem?_cons_zero, List.getElem?_cons_succ, List.set_cons_zero, List.set_cons_succ, Nat.zero_add, Nat.reduceAdd, Nat.reduceSub, if_true, Bool.not_true, Bool.not_false, Bool.false_eq_true, if_false, ev_mk, intK, strK, locK, Option.bind_some, kdOf, isD, tyOf]
  simp only [Ty.sub, decide_true, optK_some, slotK_val, blK_bl, ev_ok, ev_var, ev_c, ev_bin, ev_add, ev_addS, ev_addT, ev_addL, ev_sub, ev_mul, ev_div, ev_mod, ev_pow, ev_lt, ev_le, ev_gt, ev_ge, ev_is, ev_eq, ev_in, ev_ix, ev_un, ev_neg, tru_bl, tru_int, tru_non, tru_lst, tru_tup, ev_andV, ev_orV, ev_notV, ev_ifE, ev_nil, ev_cons, ev_tup, ev_lst, ev_new, ev_callB, ev_lenL, ev_lenT, ev_lenS, ev_lenC, ev_abs, ev_int, ev_intB, ev_strI, ev_gcd, ev_tupOf, ev_lstOf, ev_isi, ev_isTy2, ev_call, ev_callK, ev_part, ev_sl, ev_join0, ev_join1, ev_fmt, ev_fmtI, ev_fmtS, ev_tb, ev_tr, ev_tand, ev_tor, ev_tnot, ev_yes, es_nx, es_next, es_brk, es_cnt, es_seq, es_ret, es_retN, es_drop, es_if, es_set, es_gset, es_raise, ev_run, es_for, seqC, seqL, seqT, seqS, itC, itL, itT, at0, at1, at2, at3, at4, at5, ix0, ix1, ix2, ix3, gk_set, gsk_nil, gsk_cons, gk_tup, gk_sub, es_asg, es_aug, ev_app, ev_exn, ev_xf, it_of, it_seq, it_r1, it_r2, it_en, es_step, ev_isE, env0, List.map_cons, List.map_nil, List.length_cons, List.length_nil, List.cons_append, List.nil_append, List.replicate, List.getElem?_cons_zero, List.getElem?_cons_succ, List.set_cons_zero, List.set_cons_succ, Nat.zero_add, Nat.reduceAdd, Nat.reduceSub, if_true, Bool.not_true, Bool.not_false, Bool.false_eq_true, if_false, ev_mk, intK, strK, locK, Option.bind_some, show ("tuple" : String) ≠ "int" by decide, show ("tuple" : String) ≠ "bool" by decide, show ("tuple" : String) ≠ "str" by decide, if_false, if_true, Option.map_some]
  exact ⟨trivial, trivial⟩
theorem place_l {x y : D} {st : Store} (h : F_is_couple [.lst [x, y]] st = .ok (.bl true) st) : F__law_place_of [.lst [x, y]] st = .ok (.tup [x, y]) st := by
  have hc : F_check_place [.lst [x, y]] st = .ok (.tup [x, y]) st := by
    refine ev_to ?_
    unfold F_check_place B_check_place
    rw [ev_run]
    simp only [optK_some, slotK_val, blK_bl, ev_ok, ev_var, ev_c, ev_bin, ev_add, ev_addS, ev_addT, ev_addL, ev_sub, ev_mul, ev_div, ev_mod, ev_pow, ev_lt, ev_le, ev_gt, ev_ge, ev_is, ev_eq, ev_in, ev_ix, ev_un, ev_neg, tru_bl, tru_int, tru_non, tru_lst, tru_tup, ev_andV, ev_orV, ev_notV, ev_ifE, ev_nil, ev_cons, ev_tup, ev_lst, ev_new, ev_callB, ev_lenL, ev_lenT, ev_lenS, ev_lenC, ev_abs, ev_int, ev_intB, ev_strI, ev_gcd, ev_tupOf, ev_lstOf, ev_isi, ev_isTy2, ev_call, ev_callK, ev_part, ev_sl, ev_join0, ev_join1, ev_fmt, ev_fmtI, ev_fmtS, ev_tb, ev_tr, ev_tand, ev_tor, ev_tnot, ev_yes, es_nx, es_next, es_brk, es_cnt, es_seq, es_ret, es_retN, es_drop, es_if, es_set, es_gset, es_raise, ev_run, es_for, seqC, seqL, seqT, seqS, itC, itL, itT, at0, at1, at2, at3, at4, at5, ix0, ix1, ix2, ix3, gk_set, gsk_nil, gsk_cons, gk_tup, gk_sub, es_asg, es_aug, ev_app, ev_exn, ev_xf, it_of, it_seq, it_r1, it_r2, it_en, es_step, ev_isE, env0, List.map_cons, List.map_nil, List.length_cons, List.length_nil, List.cons_append, List.nil_append, List.replicate, List.getElem?_cons_zero, List.getElem?_cons_succ, List.set_cons_zero, List.set_cons_succ, Nat.zero_add, Nat.reduceAdd, Nat.reduceSub, if_true, Bool.not_true, Bool.not_false, Bool.false_eq_true, if_false, ev_mk, intK, strK, locK, Option.bind_some, h, sizeLine_eq]
    exact ⟨by decide, trivial, trivial⟩
  refine ev_to ?_
  unfold F__law_place_of B__law_place_of
  rw [ev_run, es_seq]
  have e : dCall F_check_place [] (dCons (dVar 0) dNil) (env0 3 [.lst [x, y]]) st = .ok (.tup [x, y]) st := hc
  refine (es_try_nx (dSet_nx e)).mpr ?_
  simp only [optK_some, slotK_val, blK_bl, ev_ok, ev_var, ev_c, ev_bin, ev_add, ev_addS, ev_addT, ev_addL, ev_sub, ev_mul, ev_div, ev_mod, ev_pow, ev_lt, ev_le, ev_gt, ev_ge, ev_is, ev_eq, ev_in, ev_ix, ev_un, ev_neg, tru_bl, tru_int, tru_non, tru_lst, tru_tup, ev_andV, ev_orV, ev_notV, ev_ifE, ev_nil, ev_cons, ev_tup, ev_lst, ev_new, ev_callB, ev_lenL, ev_lenT, ev_lenS, ev_lenC, ev_abs, ev_int, ev_intB, ev_strI, ev_gcd, ev_tupOf, ev_lstOf, ev_isi, ev_isTy2, ev_call, ev_callK, ev_part, ev_sl, ev_join0, ev_join1, ev_fmt, ev_fmtI, ev_fmtS, ev_tb, ev_tr, ev_tand, ev_tor, ev_tnot, ev_yes, es_nx, es_next, es_brk, es_cnt, es_seq, es_ret, es_retN, es_drop, es_if, es_set, es_gset, es_raise, ev_run, es_for, seqC, seqL, seqT, seqS, itC, itL, itT, at0, at1, at2, at3, at4, at5, ix0, ix1, ix2, ix3, gk_set, gsk_nil, gsk_cons, gk_tup, gk_sub, es_asg, es_aug, ev_app, ev_exn, ev_xf, it_of, it_seq, it_r1, it_r2, it_en, es_step, ev_isE, env0, List.map_cons, List.map_nil, List.length_cons, List.length_nil, List.cons_append, List.nil_append, List.replicate, List.getElem?_cons_zero, List.getElem?_cons_succ, List.set_cons_zero, List.set_cons_succ, Nat.zero_add, Nat.reduceAdd, Nat.reduceSub, if_true, Bool.not_true, Bool.not_false, Bool.false_eq_true, if_false, ev_mk, intK, strK, locK, Option.bind_some, kdOf, isD, tyOf]
  simp only [Ty.sub, decide_true, optK_some, slotK_val, blK_bl, ev_ok, ev_var, ev_c, ev_bin, ev_add, ev_addS, ev_addT, ev_addL, ev_sub, ev_mul, ev_div, ev_mod, ev_pow, ev_lt, ev_le, ev_gt, ev_ge, ev_is, ev_eq, ev_in, ev_ix, ev_un, ev_neg, tru_bl, tru_int, tru_non, tru_lst, tru_tup, ev_andV, ev_orV, ev_notV, ev_ifE, ev_nil, ev_cons, ev_tup, ev_lst, ev_new, ev_callB, ev_lenL, ev_lenT, ev_lenS, ev_lenC, ev_abs, ev_int, ev_intB, ev_strI, ev_gcd, ev_tupOf, ev_lstOf, ev_isi, ev_isTy2, ev_call, ev_callK, ev_part, ev_sl, ev_join0, ev_join1, ev_fmt, ev_fmtI, ev_fmtS, ev_tb, ev_tr, ev_tand, ev_tor, ev_tnot, ev_yes, es_nx, es_next, es_brk, es_cnt, es_seq, es_ret, es_retN, es_drop, es_if, es_set, es_gset, es_raise, ev_run, es_for, seqC, seqL, seqT, seqS, itC, itL, itT, at0, at1, at2, at3, at4, at5, ix0, ix1, ix2, ix3, gk_set, gsk_nil, gsk_cons, gk_tup, gk_sub, es_asg, es_aug, ev_app, ev_exn, ev_xf, it_of, it_seq, it_r1, it_r2, it_en, es_step, ev_isE, env0, List.map_cons, List.map_nil, List.length_cons, List.length_nil, List.cons_append, List.nil_append, List.replicate, List.getElem?_cons_zero, List.getElem?_cons_succ, List.set_cons_zero, List.set_cons_succ, Nat.zero_add, Nat.reduceAdd, Nat.reduceSub, if_true, Bool.not_true, Bool.not_false, Bool.false_eq_true, if_false, ev_mk, intK, strK, locK, Option.bind_some, show ("tuple" : String) ≠ "int" by decide, show ("tuple" : String) ≠ "bool" by decide, show ("tuple" : String) ≠ "str" by decide, if_false, if_true, Option.map_some]
  exact ⟨trivial, trivial⟩
theorem both_lst {a b : Rat} {st : Store} : F__law_both [cpl a b, .lst [rat a, rat b]] st = .ok (.bl true) st := by
  refine ev_to ?_
  unfold F__law_both B__law_both
  rw [ev_run]
  have e : ∀ x st, F__law_is [rat x, rat x] st = .ok (.bl true) st := fun x st => is_rat
  simp only [optK_some, slotK_val, blK_bl, ev_ok, ev_var, ev_c, ev_bin, ev_add, ev_addS, ev_addT, ev_addL, ev_sub, ev_mul, ev_div, ev_mod, ev_pow, ev_lt, ev_le, ev_gt, ev_ge, ev_is, ev_eq, ev_in, ev_ix, ev_un, ev_neg, tru_bl, tru_int, tru_non, tru_lst, tru_tup, ev_andV, ev_orV, ev_notV, ev_ifE, ev_nil, ev_cons, ev_tup, ev_lst, ev_new, ev_callB, ev_lenL, ev_lenT, ev_lenS, ev_lenC, ev_abs, ev_int, ev_intB, ev_strI, ev_gcd, ev_tupOf, ev_lstOf, ev_isi, ev_isTy2, ev_call, ev_callK, ev_part, ev_sl, ev_join0, ev_join1, ev_fmt, ev_fmtI, ev_fmtS, ev_tb, ev_tr, ev_tand, ev_tor, ev_tnot, ev_yes, es_nx, es_next, es_brk, es_cnt, es_seq, es_ret, es_retN, es_drop, es_if, es_set, es_gset, es_raise, ev_run, es_for, seqC, seqL, seqT, seqS, itC, itL, itT, at0, at1, at2, at3, at4, at5, ix0, ix1, ix2, ix3, gk_set, gsk_nil, gsk_cons, gk_tup, gk_sub, es_asg, es_aug, ev_app, ev_exn, ev_xf, it_of, it_seq, it_r1, it_r2, it_en, es_step, ev_isE, env0, List.map_cons, List.map_nil, List.length_cons, List.length_nil, List.cons_append, List.nil_append, List.replicate, List.getElem?_cons_zero, List.getElem?_cons_succ, List.set_cons_zero, List.set_cons_succ, Nat.zero_add, Nat.reduceAdd, Nat.reduceSub, if_true, Bool.not_true, Bool.not_false, Bool.false_eq_true, if_false, ev_mk, intK, strK, locK, Option.bind_some, kdOf, isD, tyOf, eqD_int]
  simp only [Ty.sub, decide_true, optK_some, slotK_val, blK_bl, ev_ok, ev_var, ev_c, ev_bin, ev_add, ev_addS, ev_addT, ev_addL, ev_sub, ev_mul, ev_div, ev_mod, ev_pow, ev_lt, ev_le, ev_gt, ev_ge, ev_is, ev_eq, ev_in, ev_ix, ev_un, ev_neg, tru_bl, tru_int, tru_non, tru_lst, tru_tup, ev_andV, ev_orV, ev_notV, ev_ifE, ev_nil, ev_cons, ev_tup, ev_lst, ev_new, ev_callB, ev_lenL, ev_lenT, ev_lenS, ev_lenC, ev_abs, ev_int, ev_intB, ev_strI, ev_gcd, ev_tupOf, ev_lstOf, ev_isi, ev_isTy2, ev_call, ev_callK, ev_part, ev_sl, ev_join0, ev_join1, ev_fmt, ev_fmtI, ev_fmtS, ev_tb, ev_tr, ev_tand, ev_tor, ev_tnot, ev_yes, es_nx, es_next, es_brk, es_cnt, es_seq, es_ret, es_retN, es_drop, es_if, es_set, es_gset, es_raise, ev_run, es_for, seqC, seqL, seqT, seqS, itC, itL, itT, at0, at1, at2, at3, at4, at5, ix0, ix1, ix2, ix3, gk_set, gsk_nil, gsk_cons, gk_tup, gk_sub, es_asg, es_aug, ev_app, ev_exn, ev_xf, it_of, it_seq, it_r1, it_r2, it_en, es_step, ev_isE, env0, List.map_cons, List.map_nil, List.length_cons, List.length_nil, List.cons_append, List.nil_append, List.replicate, List.getElem?_cons_zero, List.getElem?_cons_succ, List.set_cons_zero, List.set_cons_succ, Nat.zero_add, Nat.reduceAdd, Nat.reduceSub, if_true, Bool.not_true, Bool.not_false, Bool.false_eq_true, if_false, ev_mk, intK, strK, locK, Option.bind_some, e, show ("tuple" : String) ≠ "int" by decide, show ("tuple" : String) ≠ "bool" by decide, show ("tuple" : String) ≠ "str" by decide, if_false, if_true, Option.map_some]
  simp [Es, Ev, blK, optK]
theorem sOk_of (s : String) : PyData.strOk (Str.ofString s) = true := by
  unfold PyData.strOk
  rw [Str.ofString_eq_toList]
  rw [Array.all_eq_true]
  intro i hi
  have h : ((s.toList.map Char.toNat).toArray)[i] = (s.toList.map Char.toNat)[i]'(by simpa using hi) := by simp
  rw [h, List.getElem_map]
  have hv : ∀ c : Char, c.toNat < 0x110000 := fun c => by
    have z := c.valid
    show c.val.toNat < 0x110000
    rcases z with z | z
    · have z' : c.val.toNat < 0xd800 := z
      omega
    · exact z.2
  simpa using hv _
theorem rint (n : Int) : rt n 1 = rat (n : Rat) := rfl
theorem refusals_ok {a b : Rat} {n : Int} {st : Store} : F__law_refusals [cpl a b, .int n] st = .ok (.bl true) st := by
  have r1 : ∀ x st, F_is_ratio [rat x] st = .ok (.bl true) st := fun x st => isratio_rat
  have c1 : ∀ x y st, F_is_couple [cpl x y] st = .ok (.bl true) st := fun x y st => isc_t (r1 x) (r1 y)
  have c2 : ∀ x y st, F_is_couple [.lst [rat x, rat y]] st = .ok (.bl true) st := fun x y st => isc_l (r1 x) (r1 y)
  have p1 : ∀ x y st, F__law_place_of [cpl x y] st = .ok (cpl x y) st := fun x y st => place_t (c1 x y st)
  have p2 : ∀ x y st, F__law_place_of [.lst [rat x, rat y]] st = .ok (cpl x y) st := fun x y st => place_l (c2 x y st)
  have b1 : ∀ x y st, F__law_both [cpl x y, cpl x y] st = .ok (.bl true) st := fun x y st => both_cpl
  have b2 : ∀ x y st, F__law_both [cpl x y, .lst [rat x, rat y]] st = .ok (.bl true) st := fun x y st => both_lst
  have z0 : rt n 1 = rat (n : Rat) := rfl
  have z1 : rt 0 1 = rat 0 := rfl
  have d1 : ∀ st, F_is_couple [.tup [rat a]] st = .ok (.bl false) st := fun st => isc_len (by simp)
  have d2 : ∀ st, F_is_couple [.tup [rat a, rat b, rat a]] st = .ok (.bl false) st := fun st => isc_len (by simp)
  have d3 : ∀ st, F_is_couple [.tup [.int n, rat b]] st = .ok (.bl false) st := fun st => isc_t (wx := false) (fun st => isr_kind (t := .int) rfl (by decide)) (r1 b)
  have d4 : ∀ st, F_is_couple [.tup [rat a, .lst [.int 1, .int 2]]] st = .ok (.bl false) st := fun st => isc_t (wy := false) (r1 a) (fun st => isr_kind (t := .lst) rfl (by decide))
  have d5 : ∀ st, F_is_couple [.tup [rt 2 4, rat b]] st = .ok (.bl false) st := fun st => isc_t (wx := false) (fun st => by have z := isr_int 2 4 st; simpa using z) (r1 b)
  have d6 : ∀ st, F_is_couple [.non] st = .ok (.bl false) st := fun st => isc_kind (t := .non) rfl (by decide) (by decide)
  have d7 : ∀ st, F_is_couple [.str "ab"] st = .ok (.bl false) st := fun st => isc_kind (t := .str) rfl (by decide) (by decide)
  have d8 : ∀ st, F_is_couple [.tup [rat a, .non]] st = .ok (.bl false) st := fun st => isc_t (wy := false) (r1 a) (fun st => isr_kind (t := .non) rfl (by decide))
  have d9 : ∀ st, F_is_couple [.tup [rt 1 0, rat b]] st = .ok (.bl false) st := fun st => isc_t (wx := false) (fun st => by have z := isr_int 1 0 st; simpa using z) (r1 b)
  have d10 : ∀ st, F_is_couple [rat a] st = .ok (.bl false) st := fun st => isc_t (wx := false) (wy := false) (fun st => isr_kind (t := .int) rfl (by decide)) (fun st => isr_kind (t := .int) rfl (by decide))
  have q1 := fun st => place_no (d1 st)
  have q2 := fun st => place_no (d2 st)
  have q3 := fun st => place_no (d3 st)
  have q4 := fun st => place_no (d4 st)
  have q5 := fun st => place_no (d5 st)
  have q6 := fun st => place_no (d6 st)
  have q7 := fun st => place_no (d7 st)
  have q8 := fun st => place_no (d8 st)
  have q9 := fun st => place_no (d9 st)
  have q10 := fun st => place_no (d10 st)
  have ee : ∀ st, eqD st (.lst [.str "refused", .bl true]) (.lst [.str "refused", .bl true]) = some true := fun st => by
    refine eqD_refl (a := .list [.str "refused", .bool true]) rfl rfl ?_
    have h2 : PyData.strOk (Str.ofString "refused") = true := sOk_of _
    simp [SeqAt.shaped, PyData.canLay0, PyData.canLayAll0, PyData.depth, PyData.depthAll, h2]
  refine ev_to ?_
  unfold F__law_refusals B__law_refusals
  rw [ev_run]
  simp only [optK_some, slotK_val, blK_bl, ev_ok, ev_var, ev_c, ev_bin, ev_add, ev_addS, ev_addT, ev_addL, ev_sub, ev_mul, ev_div, ev_mod, ev_pow, ev_lt, ev_le, ev_gt, ev_ge, ev_is, ev_eq, ev_in, ev_ix, ev_un, ev_neg, tru_bl, tru_int, tru_non, tru_lst, tru_tup, ev_andV, ev_orV, ev_notV, ev_ifE, ev_nil, ev_cons, ev_tup, ev_lst, ev_new, ev_callB, ev_lenL, ev_lenT, ev_lenS, ev_lenC, ev_abs, ev_int, ev_intB, ev_strI, ev_gcd, ev_tupOf, ev_lstOf, ev_isi, ev_isTy2, ev_call, ev_callK, ev_part, ev_sl, ev_join0, ev_join1, ev_fmt, ev_fmtI, ev_fmtS, ev_tb, ev_tr, ev_tand, ev_tor, ev_tnot, ev_yes, es_nx, es_next, es_brk, es_cnt, es_seq, es_ret, es_retN, es_drop, es_if, es_set, es_gset, es_raise, ev_run, es_for, seqC, seqL, seqT, seqS, itC, itL, itT, at0, at1, at2, at3, at4, at5, ix0, ix1, ix2, ix3, gk_set, gsk_nil, gsk_cons, gk_tup, gk_sub, es_asg, es_aug, ev_app, ev_exn, ev_xf, it_of, it_seq, it_r1, it_r2, it_en, es_step, ev_isE, env0, List.map_cons, List.map_nil, List.length_cons, List.length_nil, List.cons_append, List.nil_append, List.replicate, List.getElem?_cons_zero, List.getElem?_cons_succ, List.set_cons_zero, List.set_cons_succ, Nat.zero_add, Nat.reduceAdd, Nat.reduceSub, if_true, Bool.not_true, Bool.not_false, Bool.false_eq_true, if_false, ev_mk, intK, strK, locK, Option.bind_some, es_forc, es_for0, z0, z1, isV, c1, c2, p1, p2, b1, b2, d1, d2, d3, d4, d5, d6, d7, d8, d9, d10, q1, q2, q3, q4, q5, q6, q7, q8, q9, q10, ee, decide_true, decide_false, sizeLine_eq]
  decide
end L_k02
namespace L_k02
open PySem PySem.Spec PyProof.Rows L2 Dl
/-! ### means -/
abbrev cl (ps : List (Rat × Rat)) : List D := ps.map fun p => cpl p.1 p.2
def AllC (ps : List (Rat × Rat)) : Prop := ∀ p ∈ ps, Sc 40 p
def mt (ps : List (Rat × Rat)) : Nat → Rat × Rat
  | 0 => (0, 0)
  | i + 1 => ((mt ps i).1 + (ps.getD i (0, 0)).1, (mt ps i).2 + (ps.getD i (0, 0)).2)
theorem sr_zero : Sr 1 (0 : Rat) := ⟨by decide, by decide⟩
theorem mt_ok {ps : List (Rat × Rat)} (h : AllC ps) : ∀ {i : Nat}, i ≤ ps.length → Sc (1 + 41 * i) (mt ps i)
  | 0, _ => ⟨sr_zero, sr_zero⟩
  | i + 1, hi => by
    have hlt : i < ps.length := by omega
    have eg : ps.getD i (0, 0) = ps[i] := by rw [List.getD_eq_getElem?_getD, List.getElem?_eq_getElem hlt]; rfl
    have hp : Sc 40 ps[i] := h _ (List.getElem_mem _)
    have z := mt_ok (ps := ps) h (i := i) (by omega)
    rw [mt, eg, show 1 + 41 * (i + 1) = 1 + 41 * i + 40 + 1 by omega]
    exact ⟨(add_lw z.fst hp.fst).2, (add_lw z.snd hp.snd).2⟩
def un (n : Nat) : Rat := Rat.divInt 1 n
theorem two6 {n : Nat} (h : n ≤ 6) : (n : Int).natAbs < 2 ^ 3 := by omega
theorem un_sz {n : Nat} (h0 : n ≠ 0) (h : n ≤ 6) : Sr 3 (un n) := (lw_rat 1 n 3 (by omega) (by decide) (two6 h)).2
theorem un_eq {n : Nat} (h0 : n ≠ 0) (h : n ≤ 6) : rt 1 n = rat (un n) := by
  have z := (lw_rat 1 n 3 (by omega) (by decide) (two6 h)).1
  have hs : shr 1 (n : Int) = 1 := by
    unfold shr gS
    rw [if_neg (by omega)]
    simp
  have e : lw 1 (n : Int) = rt 1 n := by
    unfold lw
    rw [hs, Int.fdiv_one, Int.fdiv_one]
  rw [← e, z]
  rfl
def mean (ps : List (Rat × Rat)) : Rat × Rat := ((mt ps ps.length).1 * un ps.length, (mt ps ps.length).2 * un ps.length)
theorem mean_ok {x : D} {ps : List (Rat × Rat)} {st : Store} (hx : x = .lst (cl ps) ∨ x = .tup (cl ps)) (h : AllC ps) (hl : ps.length ≤ 6) (h0 : ps.length ≠ 0) : F_mean_place [x] st = .ok (cpl (mean ps).1 (mean ps).2) st := by
  have hs : seqOf st x = some (cl ps) := by rcases hx with rfl | rfl <;> rfl
  refine ev_to ?_
  unfold F_mean_place B_mean_place
  rw [ev_run, es_seq]
  simp only [es_set, ev_c, ev_tup, ev_cons, ev_nil, env0, List.map_cons, List.map_nil, List.length_cons, List.length_nil, List.cons_append, List.nil_append, List.replicate, Nat.zero_add, Nat.reduceAdd, Nat.reduceSub, List.set_cons_succ, List.set_cons_zero]
  refine ⟨by decide, ?_⟩
  rw [es_seq]
  refine es_for_seq hs (fun i r st1 => st1 = st ∧ ∃ s, r = [.val x, .val (cpl (mt ps i).1 (mt ps i).2), s]) ⟨rfl, _, rfl⟩ ?_ ?_ ?_ rfl
  · rintro n i r st1 rfl ⟨rfl, _⟩
    exact hs
  · rintro i d ed r st1 ⟨rfl, s, rfl⟩
    rw [List.getElem?_map] at ed
    cases ep : ps[i]? with
    | none => rw [ep] at ed; cases ed
    | some p =>
      rw [ep] at ed
      cases ed
      have hi : i < ps.length := (List.getElem?_eq_some_iff.mp ep).1
      have hp : Sc 40 p := h _ (List.mem_of_getElem? ep)
      have hm := mt_ok h (i := i) (by omega)
      simp only [optK_some, slotK_val, blK_bl, ev_ok, ev_var, ev_c, ev_bin, ev_add, ev_addS, ev_addT, ev_addL, ev_sub, ev_mul, ev_div, ev_mod, ev_pow, ev_lt, ev_le, ev_gt, ev_ge, ev_is, ev_eq, ev_in, ev_ix, ev_un, ev_neg, tru_bl, tru_int, tru_non, tru_lst, tru_tup, ev_andV, ev_orV, ev_notV, ev_ifE, ev_nil, ev_cons, ev_tup, ev_lst, ev_new, ev_callB, ev_lenL, ev_lenT, ev_lenS, ev_lenC, ev_abs, ev_int, ev_intB, ev_strI, ev_gcd, ev_tupOf, ev_lstOf, ev_isi, ev_isTy2, ev_call, ev_callK, ev_part, ev_sl, ev_join0, ev_join1, ev_fmt, ev_fmtI, ev_fmtS, ev_tb, ev_tr, ev_tand, ev_tor, ev_tnot, ev_yes, es_nx, es_next, es_brk, es_cnt, es_seq, es_ret, es_retN, es_drop, es_if, es_set, es_gset, es_raise, ev_run, es_for, seqC, seqL, seqT, seqS, itC, itL, itT, at0, at1, at2, at3, at4, at5, ix0, ix1, ix2, ix3, gk_set, gsk_nil, gsk_cons, gk_tup, gk_sub, es_asg, es_aug, ev_app, ev_exn, ev_xf, it_of, it_seq, it_r1, it_r2, it_en, es_step, ev_isE, env0, List.map_cons, List.map_nil, List.length_cons, List.length_nil, List.cons_append, List.nil_append, List.replicate, List.getElem?_cons_zero, List.getElem?_cons_succ, List.set_cons_zero, List.set_cons_succ, Nat.zero_add, Nat.reduceAdd, Nat.reduceSub, if_true, Bool.not_true, Bool.not_false, Bool.false_eq_true, if_false, ev_mk, intK, strK, locK, Option.bind_some]
      refine Ev.of (pplus_rat hm.fst hm.snd hp.fst hp.snd (by omega)) ⟨rfl, .val (cpl p.1 p.2), ?_⟩
      have eg : ps.getD i (0, 0) = p := by rw [List.getD_eq_getElem?_getD, ep]; rfl
      rw [show mt ps (i + 1) = ((mt ps i).1 + p.1, (mt ps i).2 + p.2) by rw [mt, eg]]
  · rintro r st1 ⟨rfl, s, rfl⟩
    rw [List.length_map]
    have hm := mt_ok h (i := ps.length) (by omega)
    have e1 := (make_rat (a := 1) (b := (ps.length : Int)) (n := 3) (st := st1) (by omega) (by decide) (two6 hl) (by decide)).1
    have e2 := pscaled_rat (st := st1) hm.fst hm.snd (un_sz h0 hl) (by omega)
    rcases hx with rfl | rfl
    · simp only [optK_some, slotK_val, blK_bl, ev_ok, ev_var, ev_c, ev_bin, ev_add, ev_addS, ev_addT, ev_addL, ev_sub, ev_mul, ev_div, ev_mod, ev_pow, ev_lt, ev_le, ev_gt, ev_ge, ev_is, ev_eq, ev_in, ev_ix, ev_un, ev_neg, tru_bl, tru_int, tru_non, tru_lst, tru_tup, ev_andV, ev_orV, ev_notV, ev_ifE, ev_nil, ev_cons, ev_tup, ev_lst, ev_new, ev_callB, ev_lenL, ev_lenT, ev_lenS, ev_lenC, ev_abs, ev_int, ev_intB, ev_strI, ev_gcd, ev_tupOf, ev_lstOf, ev_isi, ev_isTy2, ev_call, ev_callK, ev_part, ev_sl, ev_join0, ev_join1, ev_fmt, ev_fmtI, ev_fmtS, ev_tb, ev_tr, ev_tand, ev_tor, ev_tnot, ev_yes, es_nx, es_next, es_brk, es_cnt, es_seq, es_ret, es_retN, es_drop, es_if, es_set, es_gset, es_raise, ev_run, es_for, seqC, seqL, seqT, seqS, itC, itL, itT, at0, at1, at2, at3, at4, at5, ix0, ix1, ix2, ix3, gk_set, gsk_nil, gsk_cons, gk_tup, gk_sub, es_asg, es_aug, ev_app, ev_exn, ev_xf, it_of, it_seq, it_r1, it_r2, it_en, es_step, ev_isE, env0, List.map_cons, List.map_nil, List.length_cons, List.length_nil, List.cons_append, List.nil_append, List.replicate, List.getElem?_cons_zero, List.getElem?_cons_succ, List.set_cons_zero, List.set_cons_succ, Nat.zero_add, Nat.reduceAdd, Nat.reduceSub, if_true, Bool.not_true, Bool.not_false, Bool.false_eq_true, if_false, ev_mk, intK, strK, locK, Option.bind_some, List.length_map, e1]
      exact Ev.of e2 ⟨rfl, rfl⟩
    · simp only [optK_some, slotK_val, blK_bl, ev_ok, ev_var, ev_c, ev_bin, ev_add, ev_addS, ev_addT, ev_addL, ev_sub, ev_mul, ev_div, ev_mod, ev_pow, ev_lt, ev_le, ev_gt, ev_ge, ev_is, ev_eq, ev_in, ev_ix, ev_un, ev_neg, tru_bl, tru_int, tru_non, tru_lst, tru_tup, ev_andV, ev_orV, ev_notV, ev_ifE, ev_nil, ev_cons, ev_tup, ev_lst, ev_new, ev_callB, ev_lenL, ev_lenT, ev_lenS, ev_lenC, ev_abs, ev_int, ev_intB, ev_strI, ev_gcd, ev_tupOf, ev_lstOf, ev_isi, ev_isTy2, ev_call, ev_callK, ev_part, ev_sl, ev_join0, ev_join1, ev_fmt, ev_fmtI, ev_fmtS, ev_tb, ev_tr, ev_tand, ev_tor, ev_tnot, ev_yes, es_nx, es_next, es_brk, es_cnt, es_seq, es_ret, es_retN, es_drop, es_if, es_set, es_gset, es_raise, ev_run, es_for, seqC, seqL, seqT, seqS, itC, itL, itT, at0, at1, at2, at3, at4, at5, ix0, ix1, ix2, ix3, gk_set, gsk_nil, gsk_cons, gk_tup, gk_sub, es_asg, es_aug, ev_app, ev_exn, ev_xf, it_of, it_seq, it_r1, it_r2, it_en, es_step, ev_isE, env0, List.map_cons, List.map_nil, List.length_cons, List.length_nil, List.cons_append, List.nil_append, List.replicate, List.getElem?_cons_zero, List.getElem?_cons_succ, List.set_cons_zero, List.set_cons_succ, Nat.zero_add, Nat.reduceAdd, Nat.reduceSub, if_true, Bool.not_true, Bool.not_false, Bool.false_eq_true, if_false, ev_mk, intK, strK, locK, Option.bind_some, List.length_map, e1]
      exact Ev.of e2 ⟨rfl, rfl⟩
theorem lmean_ok {x : D} {ps : List (Rat × Rat)} {st : Store} (hx : x = .lst (cl ps) ∨ x = .tup (cl ps)) (h : AllC ps) (hl : ps.length ≤ 6) (h0 : ps.length ≠ 0) : F__law_mean [x] st = .ok (cpl (mean ps).1 (mean ps).2) st := by
  have hs : seqOf st x = some (cl ps) := by rcases hx with rfl | rfl <;> rfl
  refine ev_to ?_
  unfold F__law_mean B__law_mean
  rw [ev_run, es_seq]
  simp only [es_set, ev_c, ev_tup, ev_cons, ev_nil, env0, List.map_cons, List.map_nil, List.length_cons, List.length_nil, List.cons_append, List.nil_append, List.replicate, Nat.zero_add, Nat.reduceAdd, Nat.reduceSub, List.set_cons_succ, List.set_cons_zero]
  refine ⟨by decide, by decide, by decide, ?_⟩
  rw [es_seq]
  refine es_for_seq hs (fun i r st1 => st1 = st ∧ ∃ s, r = [.val x, .val (cpl (mt ps i).1 (mt ps i).2), s]) ⟨rfl, _, rfl⟩ ?_ ?_ ?_ rfl
  · rintro n i r st1 rfl ⟨rfl, _⟩
    exact hs
  · rintro i d ed r st1 ⟨rfl, s, rfl⟩
    rw [List.getElem?_map] at ed
    cases ep : ps[i]? with
    | none => rw [ep] at ed; cases ed
    | some p =>
      rw [ep] at ed
      cases ed
      have hi : i < ps.length := (List.getElem?_eq_some_iff.mp ep).1
      have hp : Sc 40 p := h _ (List.mem_of_getElem? ep)
      have hm := mt_ok h (i := i) (by omega)
      simp only [optK_some, slotK_val, blK_bl, ev_ok, ev_var, ev_c, ev_bin, ev_add, ev_addS, ev_addT, ev_addL, ev_sub, ev_mul, ev_div, ev_mod, ev_pow, ev_lt, ev_le, ev_gt, ev_ge, ev_is, ev_eq, ev_in, ev_ix, ev_un, ev_neg, tru_bl, tru_int, tru_non, tru_lst, tru_tup, ev_andV, ev_orV, ev_notV, ev_ifE, ev_nil, ev_cons, ev_tup, ev_lst, ev_new, ev_callB, ev_lenL, ev_lenT, ev_lenS, ev_lenC, ev_abs, ev_int, ev_intB, ev_strI, ev_gcd, ev_tupOf, ev_lstOf, ev_isi, ev_isTy2, ev_call, ev_callK, ev_part, ev_sl, ev_join0, ev_join1, ev_fmt, ev_fmtI, ev_fmtS, ev_tb, ev_tr, ev_tand, ev_tor, ev_tnot, ev_yes, es_nx, es_next, es_brk, es_cnt, es_seq, es_ret, es_retN, es_drop, es_if, es_set, es_gset, es_raise, ev_run, es_for, seqC, seqL, seqT, seqS, itC, itL, itT, at0, at1, at2, at3, at4, at5, ix0, ix1, ix2, ix3, gk_set, gsk_nil, gsk_cons, gk_tup, gk_sub, es_asg, es_aug, ev_app, ev_exn, ev_xf, it_of, it_seq, it_r1, it_r2, it_en, es_step, ev_isE, env0, List.map_cons, List.map_nil, List.length_cons, List.length_nil, List.cons_append, List.nil_append, List.replicate, List.getElem?_cons_zero, List.getElem?_cons_succ, List.set_cons_zero, List.set_cons_succ, Nat.zero_add, Nat.reduceAdd, Nat.reduceSub, if_true, Bool.not_true, Bool.not_false, Bool.false_eq_true, if_false, ev_mk, intK, strK, locK, Option.bind_some]
      refine Ev.of (lplus2_rat hm.fst hm.snd hp.fst hp.snd (by omega)) ⟨rfl, .val (cpl p.1 p.2), ?_⟩
      have eg : ps.getD i (0, 0) = p := by rw [List.getD_eq_getElem?_getD, ep]; rfl
      rw [show mt ps (i + 1) = ((mt ps i).1 + p.1, (mt ps i).2 + p.2) by rw [mt, eg]]
  · rintro r st1 ⟨rfl, s, rfl⟩
    rw [List.length_map]
    have hm := mt_ok h (i := ps.length) (by omega)
    have e2 := lscaled_rat (st := st1) hm.fst hm.snd (un_sz h0 hl) (by omega)
    rcases hx with rfl | rfl
    · simp only [optK_some, slotK_val, blK_bl, ev_ok, ev_var, ev_c, ev_bin, ev_add, ev_addS, ev_addT, ev_addL, ev_sub, ev_mul, ev_div, ev_mod, ev_pow, ev_lt, ev_le, ev_gt, ev_ge, ev_is, ev_eq, ev_in, ev_ix, ev_un, ev_neg, tru_bl, tru_int, tru_non, tru_lst, tru_tup, ev_andV, ev_orV, ev_notV, ev_ifE, ev_nil, ev_cons, ev_tup, ev_lst, ev_new, ev_callB, ev_lenL, ev_lenT, ev_lenS, ev_lenC, ev_abs, ev_int, ev_intB, ev_strI, ev_gcd, ev_tupOf, ev_lstOf, ev_isi, ev_isTy2, ev_call, ev_callK, ev_part, ev_sl, ev_join0, ev_join1, ev_fmt, ev_fmtI, ev_fmtS, ev_tb, ev_tr, ev_tand, ev_tor, ev_tnot, ev_yes, es_nx, es_next, es_brk, es_cnt, es_seq, es_ret, es_retN, es_drop, es_if, es_set, es_gset, es_raise, ev_run, es_for, seqC, seqL, seqT, seqS, itC, itL, itT, at0, at1, at2, at3, at4, at5, ix0, ix1, ix2, ix3, gk_set, gsk_nil, gsk_cons, gk_tup, gk_sub, es_asg, es_aug, ev_app, ev_exn, ev_xf, it_of, it_seq, it_r1, it_r2, it_en, es_step, ev_isE, env0, List.map_cons, List.map_nil, List.length_cons, List.length_nil, List.cons_append, List.nil_append, List.replicate, List.getElem?_cons_zero, List.getElem?_cons_succ, List.set_cons_zero, List.set_cons_succ, Nat.zero_add, Nat.reduceAdd, Nat.reduceSub, if_true, Bool.not_true, Bool.not_false, Bool.false_eq_true, if_false, ev_mk, intK, strK, locK, Option.bind_some, List.length_map, sizeLine_eq]
      refine ⟨by decide, ?_⟩
      rw [show D.tup [.int 1, .int (ps.length : Int)] = rat (un ps.length) from un_eq h0 hl]
      exact Ev.of e2 ⟨rfl, rfl⟩
    · simp only [optK_some, slotK_val, blK_bl, ev_ok, ev_var, ev_c, ev_bin, ev_add, ev_addS, ev_addT, ev_addL, ev_sub, ev_mul, ev_div, ev_mod, ev_pow, ev_lt, ev_le, ev_gt, ev_ge, ev_is, ev_eq, ev_in, ev_ix, ev_un, ev_neg, tru_bl, tru_int, tru_non, tru_lst, tru_tup, ev_andV, ev_orV, ev_notV, ev_ifE, ev_nil, ev_cons, ev_tup, ev_lst, ev_new, ev_callB, ev_lenL, ev_lenT, ev_lenS, ev_lenC, ev_abs, ev_int, ev_intB, ev_strI, ev_gcd, ev_tupOf, ev_lstOf, ev_isi, ev_isTy2, ev_call, ev_callK, ev_part, ev_sl, ev_join0, ev_join1, ev_fmt, ev_fmtI, ev_fmtS, ev_tb, ev_tr, ev_tand, ev_tor, ev_tnot, ev_yes, es_nx, es_next, es_brk, es_cnt, es_seq, es_ret, es_retN, es_drop, es_if, es_set, es_gset, es_raise, ev_run, es_for, seqC, seqL, seqT, seqS, itC, itL, itT, at0, at1, at2, at3, at4, at5, ix0, ix1, ix2, ix3, gk_set, gsk_nil, gsk_cons, gk_tup, gk_sub, es_asg, es_aug, ev_app, ev_exn, ev_xf, it_of, it_seq, it_r1, it_r2, it_en, es_step, ev_isE, env0, List.map_cons, List.map_nil, List.length_cons, List.length_nil, List.cons_append, List.nil_append, List.replicate, List.getElem?_cons_zero, List.getElem?_cons_succ, List.set_cons_zero, List.set_cons_succ, Nat.zero_add, Nat.reduceAdd, Nat.reduceSub, if_true, Bool.not_true, Bool.not_false, Bool.false_eq_true, if_false, ev_mk, intK, strK, locK, Option.bind_some, List.length_map, sizeLine_eq]
      refine ⟨by decide, ?_⟩
      rw [show D.tup [.int 1, .int (ps.length : Int)] = rat (un ps.length) from un_eq h0 hl]
      exact Ev.of e2 ⟨rfl, rfl⟩
end L_k02
namespace L_k02
open PySem PySem.Spec PyProof.Rows L2 Dl
/-! ### the drawn couples -/
structure SB (ms : List (Rat × Rat)) (st : Store) : Prop where
  hd : HdOk st
  len : st.length = 2
  made : cellL st 1 = some (cl ms)
theorem SB.draw {ms : List (Rat × Rat)} {st st' : Store} (h : SB ms st) (t : HdTo st st') : SB ms st' := by
  refine ⟨t.1, by rw [t.2.1]; exact h.len, ?_⟩
  have := h.made
  unfold cellL at this ⊢
  rw [t.2.2 1 (by decide)]
  exact this
noncomputable abbrev xDr (m : DEx) : DEx := dCall F__law_draw [] (dCons (dVar 0) (dCons m dNil))
noncomputable abbrev xTop : DEx := xDr (dBin dIx (dLst (dCons (dC (.int 3)) (dCons (dC (.int 9)) (dCons (dBin dPow (dC (.int 10)) (dC (.int 9))) dNil)))) (xDr (dC (.int 3))))
noncomputable abbrev xRat : DEx := dCall F__law_ratio [] (dCons (dBin dMul (dVar 2) (dBin dSub (dC (.int 1)) (dBin dMul (dC (.int 2)) (xDr (dC (.int 2)))))) (dCons (dBin dAdd (dC (.int 1)) (xDr (dC (.int 12)))) dNil))
noncomputable abbrev xPick : DEx := dBin dIx (dVar 1) (xDr (dCallB (dLen) (dCons (dVar 1) dNil)))
theorem top_ok {ms : List (Rat × Rat)} {st : Store} {r : DEnv} (h : SB ms st) (h0 : r[0]? = some (.val (.loc 0))) :
    ∃ v st', xTop r st = .ok (.int v) st' ∧ 0 ≤ v ∧ v < 2 ^ 30 ∧ SB ms st' := by
  obtain ⟨v, s1, e1, a1, b1, t1⟩ := draw_ok 3 st h.hd (by decide) (by decide)
  have h1 := h.draw t1
  have key : Ev (xTop r st) (fun d st' => ∃ v : Int, d = .int v ∧ 0 ≤ v ∧ v < 2 ^ 30 ∧ SB ms st') NoX := by
    simp only [optK_some, slotK_val, blK_bl, ev_ok, ev_var, ev_c, ev_bin, ev_add, ev_addS, ev_addT, ev_addL, ev_sub, ev_mul, ev_div, ev_mod, ev_pow, ev_lt, ev_le, ev_gt, ev_ge, ev_is, ev_eq, ev_in, ev_ix, ev_un, ev_neg, tru_bl, tru_int, tru_non, tru_lst, tru_tup, ev_andV, ev_orV, ev_notV, ev_ifE, ev_nil, ev_cons, ev_tup, ev_lst, ev_new, ev_callB, ev_lenL, ev_lenT, ev_lenS, ev_lenC, ev_abs, ev_int, ev_intB, ev_strI, ev_gcd, ev_tupOf, ev_lstOf, ev_isi, ev_isTy2, ev_call, ev_callK, ev_part, ev_sl, ev_join0, ev_join1, ev_fmt, ev_fmtI, ev_fmtS, ev_tb, ev_tr, ev_tand, ev_tor, ev_tnot, ev_yes, es_nx, es_next, es_brk, es_cnt, es_seq, es_ret, es_retN, es_drop, es_if, es_set, es_gset, es_raise, ev_run, es_for, seqC, seqL, seqT, seqS, itC, itL, itT, at0, at1, at2, at3, at4, at5, ix0, ix1, ix2, ix3, gk_set, gsk_nil, gsk_cons, gk_tup, gk_sub, es_asg, es_aug, ev_app, ev_exn, ev_xf, it_of, it_seq, it_r1, it_r2, it_en, es_step, ev_isE, env0, List.map_cons, List.map_nil, List.length_cons, List.length_nil, List.cons_append, List.nil_append, List.replicate, List.getElem?_cons_zero, List.getElem?_cons_succ, List.set_cons_zero, List.set_cons_succ, Nat.zero_add, Nat.reduceAdd, Nat.reduceSub, if_true, Bool.not_true, Bool.not_false, Bool.false_eq_true, if_false, ev_mk, intK, strK, locK, Option.bind_some, h0, e1]
    have fin : ∀ m : Int, 0 < m → m ≤ 10 ^ 9 → Ev (F__law_draw [.loc 0, .int m] s1) (fun d st' => ∃ v : Int, d = .int v ∧ 0 ≤ v ∧ v < 2 ^ 30 ∧ SB ms st') NoX := fun m p1 p2 => by
      obtain ⟨w, s2, e2, a2, b2, t2⟩ := draw_ok m s1 h1.hd p1 (by omega)
      exact Ev.of e2 ⟨w, rfl, a2, by omega, h1.draw t2⟩
    rcases (by omega : v = 0 ∨ v = 1 ∨ v = 2) with rfl | rfl | rfl
    · simp only [optK_some, slotK_val, blK_bl, ev_ok, ev_var, ev_c, ev_bin, ev_add, ev_addS, ev_addT, ev_addL, ev_sub, ev_mul, ev_div, ev_mod, ev_pow, ev_lt, ev_le, ev_gt, ev_ge, ev_is, ev_eq, ev_in, ev_ix, ev_un, ev_neg, tru_bl, tru_int, tru_non, tru_lst, tru_tup, ev_andV, ev_orV, ev_notV, ev_ifE, ev_nil, ev_cons, ev_tup, ev_lst, ev_new, ev_callB, ev_lenL, ev_lenT, ev_lenS, ev_lenC, ev_abs, ev_int, ev_intB, ev_strI, ev_gcd, ev_tupOf, ev_lstOf, ev_isi, ev_isTy2, ev_call, ev_callK, ev_part, ev_sl, ev_join0, ev_join1, ev_fmt, ev_fmtI, ev_fmtS, ev_tb, ev_tr, ev_tand, ev_tor, ev_tnot, ev_yes, es_nx, es_next, es_brk, es_cnt, es_seq, es_ret, es_retN, es_drop, es_if, es_set, es_gset, es_raise, ev_run, es_for, seqC, seqL, seqT, seqS, itC, itL, itT, at0, at1, at2, at3, at4, at5, ix0, ix1, ix2, ix3, gk_set, gsk_nil, gsk_cons, gk_tup, gk_sub, es_asg, es_aug, ev_app, ev_exn, ev_xf, it_of, it_seq, it_r1, it_r2, it_en, es_step, ev_isE, env0, List.map_cons, List.map_nil, List.length_cons, List.length_nil, List.cons_append, List.nil_append, List.replicate, List.getElem?_cons_zero, List.getElem?_cons_succ, List.set_cons_zero, List.set_cons_succ, Nat.zero_add, Nat.reduceAdd, Nat.reduceSub, if_true, Bool.not_true, Bool.not_false, Bool.false_eq_true, if_false, ev_mk, intK, strK, locK, Option.bind_some, sizeLine_eq]
      exact ⟨by decide, by decide, fin 3 (by decide) (by decide)⟩
    · simp only [optK_some, slotK_val, blK_bl, ev_ok, ev_var, ev_c, ev_bin, ev_add, ev_addS, ev_addT, ev_addL, ev_sub, ev_mul, ev_div, ev_mod, ev_pow, ev_lt, ev_le, ev_gt, ev_ge, ev_is, ev_eq, ev_in, ev_ix, ev_un, ev_neg, tru_bl, tru_int, tru_non, tru_lst, tru_tup, ev_andV, ev_orV, ev_notV, ev_ifE, ev_nil, ev_cons, ev_tup, ev_lst, ev_new, ev_callB, ev_lenL, ev_lenT, ev_lenS, ev_lenC, ev_abs, ev_int, ev_intB, ev_strI, ev_gcd, ev_tupOf, ev_lstOf, ev_isi, ev_isTy2, ev_call, ev_callK, ev_part, ev_sl, ev_join0, ev_join1, ev_fmt, ev_fmtI, ev_fmtS, ev_tb, ev_tr, ev_tand, ev_tor, ev_tnot, ev_yes, es_nx, es_next, es_brk, es_cnt, es_seq, es_ret, es_retN, es_drop, es_if, es_set, es_gset, es_raise, ev_run, es_for, seqC, seqL, seqT, seqS, itC, itL, itT, at0, at1, at2, at3, at4, at5, ix0, ix1, ix2, ix3, gk_set, gsk_nil, gsk_cons, gk_tup, gk_sub, es_asg, es_aug, ev_app, ev_exn, ev_xf, it_of, it_seq, it_r1, it_r2, it_en, es_step, ev_isE, env0, List.map_cons, List.map_nil, List.length_cons, List.length_nil, List.cons_append, List.nil_append, List.replicate, List.getElem?_cons_zero, List.getElem?_cons_succ, List.set_cons_zero, List.set_cons_succ, Nat.zero_add, Nat.reduceAdd, Nat.reduceSub, if_true, Bool.not_true, Bool.not_false, Bool.false_eq_true, if_false, ev_mk, intK, strK, locK, Option.bind_some, sizeLine_eq]
      exact ⟨by decide, by decide, fin 9 (by decide) (by decide)⟩
    · simp only [optK_some, slotK_val, blK_bl, ev_ok, ev_var, ev_c, ev_bin, ev_add, ev_addS, ev_addT, ev_addL, ev_sub, ev_mul, ev_div, ev_mod, ev_pow, ev_lt, ev_le, ev_gt, ev_ge, ev_is, ev_eq, ev_in, ev_ix, ev_un, ev_neg, tru_bl, tru_int, tru_non, tru_lst, tru_tup, ev_andV, ev_orV, ev_notV, ev_ifE, ev_nil, ev_cons, ev_tup, ev_lst, ev_new, ev_callB, ev_lenL, ev_lenT, ev_lenS, ev_lenC, ev_abs, ev_int, ev_intB, ev_strI, ev_gcd, ev_tupOf, ev_lstOf, ev_isi, ev_isTy2, ev_call, ev_callK, ev_part, ev_sl, ev_join0, ev_join1, ev_fmt, ev_fmtI, ev_fmtS, ev_tb, ev_tr, ev_tand, ev_tor, ev_tnot, ev_yes, es_nx, es_next, es_brk, es_cnt, es_seq, es_ret, es_retN, es_drop, es_if, es_set, es_gset, es_raise, ev_run, es_for, seqC, seqL, seqT, seqS, itC, itL, itT, at0, at1, at2, at3, at4, at5, ix0, ix1, ix2, ix3, gk_set, gsk_nil, gsk_cons, gk_tup, gk_sub, es_asg, es_aug, ev_app, ev_exn, ev_xf, it_of, it_seq, it_r1, it_r2, it_en, es_step, ev_isE, env0, List.map_cons, List.map_nil, List.length_cons, List.length_nil, List.cons_append, List.nil_append, List.replicate, List.getElem?_cons_zero, List.getElem?_cons_succ, List.set_cons_zero, List.set_cons_succ, Nat.zero_add, Nat.reduceAdd, Nat.reduceSub, if_true, Bool.not_true, Bool.not_false, Bool.false_eq_true, if_false, ev_mk, intK, strK, locK, Option.bind_some, sizeLine_eq]
      exact ⟨by decide, by decide, fin (10 ^ 9) (by decide) (by decide)⟩
  obtain ⟨d, st', e, v, rfl, x⟩ := key.get
  exact ⟨v, st', e, x⟩
theorem rat_ok {ms : List (Rat × Rat)} {st : Store} {r : DEnv} {v : Int} (h : SB ms st) (h0 : r[0]? = some (.val (.loc 0))) (h2 : r[2]? = some (.val (.int v))) (hv : v.natAbs < 2 ^ 30) :
    ∃ x st', xRat r st = .ok (rat x) st' ∧ Sr 40 x ∧ SB ms st' := by
  obtain ⟨u, s1, e1, a1, b1, t1⟩ := draw_ok 2 st h.hd (by decide) (by decide)
  have h1 := h.draw t1
  obtain ⟨w, s2, e2, a2, b2, t2⟩ := draw_ok 12 s1 h1.hd (by decide) (by decide)
  have h2' := h1.draw t2
  have key : Ev (xRat r st) (fun d st' => ∃ x, d = rat x ∧ Sr 40 x ∧ SB ms st') NoX := by
    simp only [optK_some, slotK_val, blK_bl, ev_ok, ev_var, ev_c, ev_bin, ev_add, ev_addS, ev_addT, ev_addL, ev_sub, ev_mul, ev_div, ev_mod, ev_pow, ev_lt, ev_le, ev_gt, ev_ge, ev_is, ev_eq, ev_in, ev_ix, ev_un, ev_neg, tru_bl, tru_int, tru_non, tru_lst, tru_tup, ev_andV, ev_orV, ev_notV, ev_ifE, ev_nil, ev_cons, ev_tup, ev_lst, ev_new, ev_callB, ev_lenL, ev_lenT, ev_lenS, ev_lenC, ev_abs, ev_int, ev_intB, ev_strI, ev_gcd, ev_tupOf, ev_lstOf, ev_isi, ev_isTy2, ev_call, ev_callK, ev_part, ev_sl, ev_join0, ev_join1, ev_fmt, ev_fmtI, ev_fmtS, ev_tb, ev_tr, ev_tand, ev_tor, ev_tnot, ev_yes, es_nx, es_next, es_brk, es_cnt, es_seq, es_ret, es_retN, es_drop, es_if, es_set, es_gset, es_raise, ev_run, es_for, seqC, seqL, seqT, seqS, itC, itL, itT, at0, at1, at2, at3, at4, at5, ix0, ix1, ix2, ix3, gk_set, gsk_nil, gsk_cons, gk_tup, gk_sub, es_asg, es_aug, ev_app, ev_exn, ev_xf, it_of, it_seq, it_r1, it_r2, it_en, es_step, ev_isE, env0, List.map_cons, List.map_nil, List.length_cons, List.length_nil, List.cons_append, List.nil_append, List.replicate, List.getElem?_cons_zero, List.getElem?_cons_succ, List.set_cons_zero, List.set_cons_succ, Nat.zero_add, Nat.reduceAdd, Nat.reduceSub, if_true, Bool.not_true, Bool.not_false, Bool.false_eq_true, if_false, ev_mk, intK, strK, locK, Option.bind_some, h0, h2, e1, e2]
    refine ⟨mulL (by decide), mulR (by omega), ?_⟩
    have q : (v * (1 - 2 * u)).natAbs < 2 ^ 32 := sz_mul (n := 30) (m := 2) hv (by omega) (by decide)
    have z := lratio_rat (a := v * (1 - 2 * u)) (b := 1 + w) (n := 40) (st := s2) (by omega) (by omega) (by omega) (by decide)
    exact Ev.of z.1 ⟨_, rfl, z.2, h2'⟩
  obtain ⟨d, st', e, v, rfl, x⟩ := key.get
  exact ⟨v, st', e, x⟩
theorem pick_ok {ms : List (Rat × Rat)} {st : Store} {r : DEnv} (h : SB ms st) (hn : ms ≠ []) (hl : ms.length ≤ 20) (h0 : r[0]? = some (.val (.loc 0))) (h1 : r[1]? = some (.val (.loc 1))) :
    ∃ p st', xPick r st = .ok (cpl p.1 p.2) st' ∧ p ∈ ms ∧ SB ms st' := by
  have hp : 0 < ms.length := List.length_pos_iff.mpr hn
  obtain ⟨v, s1, e1, a1, b1, t1⟩ := draw_ok (ms.length : Int) st h.hd (by omega) (by omega)
  have key : Ev (xPick r st) (fun d st' => ∃ p, d = cpl p.1 p.2 ∧ p ∈ ms ∧ SB ms st') NoX := by
    simp only [optK_some, slotK_val, blK_bl, ev_ok, ev_var, ev_c, ev_bin, ev_add, ev_addS, ev_addT, ev_addL, ev_sub, ev_mul, ev_div, ev_mod, ev_pow, ev_lt, ev_le, ev_gt, ev_ge, ev_is, ev_eq, ev_in, ev_ix, ev_un, ev_neg, tru_bl, tru_int, tru_non, tru_lst, tru_tup, ev_andV, ev_orV, ev_notV, ev_ifE, ev_nil, ev_cons, ev_tup, ev_lst, ev_new, ev_callB, ev_lenL, ev_lenT, ev_lenS, ev_lenC, ev_abs, ev_int, ev_intB, ev_strI, ev_gcd, ev_tupOf, ev_lstOf, ev_isi, ev_isTy2, ev_call, ev_callK, ev_part, ev_sl, ev_join0, ev_join1, ev_fmt, ev_fmtI, ev_fmtS, ev_tb, ev_tr, ev_tand, ev_tor, ev_tnot, ev_yes, es_nx, es_next, es_brk, es_cnt, es_seq, es_ret, es_retN, es_drop, es_if, es_set, es_gset, es_raise, ev_run, es_for, seqC, seqL, seqT, seqS, itC, itL, itT, at0, at1, at2, at3, at4, at5, ix0, ix1, ix2, ix3, gk_set, gsk_nil, gsk_cons, gk_tup, gk_sub, es_asg, es_aug, ev_app, ev_exn, ev_xf, it_of, it_seq, it_r1, it_r2, it_en, es_step, ev_isE, env0, List.map_cons, List.map_nil, List.length_cons, List.length_nil, List.cons_append, List.nil_append, List.replicate, List.getElem?_cons_zero, List.getElem?_cons_succ, List.set_cons_zero, List.set_cons_succ, Nat.zero_add, Nat.reduceAdd, Nat.reduceSub, if_true, Bool.not_true, Bool.not_false, Bool.false_eq_true, if_false, ev_mk, intK, strK, locK, Option.bind_some, h0, h1, h.made, List.length_map]
    refine Ev.of e1 ?_
    have s1' := h.draw t1
    obtain ⟨i, rfl⟩ : ∃ i : Nat, v = i := ⟨v.toNat, by omega⟩
    have hi : i < ms.length := by omega
    have e2 : atI (cl ms) (i : Int) = some (cpl ms[i].1 ms[i].2) := by
      rw [atNat, List.getElem?_map, List.getElem?_eq_getElem hi]
      rfl
    simp only [optK_some, slotK_val, blK_bl, ev_ok, ev_var, ev_c, ev_bin, ev_add, ev_addS, ev_addT, ev_addL, ev_sub, ev_mul, ev_div, ev_mod, ev_pow, ev_lt, ev_le, ev_gt, ev_ge, ev_is, ev_eq, ev_in, ev_ix, ev_un, ev_neg, tru_bl, tru_int, tru_non, tru_lst, tru_tup, ev_andV, ev_orV, ev_notV, ev_ifE, ev_nil, ev_cons, ev_tup, ev_lst, ev_new, ev_callB, ev_lenL, ev_lenT, ev_lenS, ev_lenC, ev_abs, ev_int, ev_intB, ev_strI, ev_gcd, ev_tupOf, ev_lstOf, ev_isi, ev_isTy2, ev_call, ev_callK, ev_part, ev_sl, ev_join0, ev_join1, ev_fmt, ev_fmtI, ev_fmtS, ev_tb, ev_tr, ev_tand, ev_tor, ev_tnot, ev_yes, es_nx, es_next, es_brk, es_cnt, es_seq, es_ret, es_retN, es_drop, es_if, es_set, es_gset, es_raise, ev_run, es_for, seqC, seqL, seqT, seqS, itC, itL, itT, at0, at1, at2, at3, at4, at5, ix0, ix1, ix2, ix3, gk_set, gsk_nil, gsk_cons, gk_tup, gk_sub, es_asg, es_aug, ev_app, ev_exn, ev_xf, it_of, it_seq, it_r1, it_r2, it_en, es_step, ev_isE, env0, List.map_cons, List.map_nil, List.length_cons, List.length_nil, List.cons_append, List.nil_append, List.replicate, List.getElem?_cons_zero, List.getElem?_cons_succ, List.set_cons_zero, List.set_cons_succ, Nat.zero_add, Nat.reduceAdd, Nat.reduceSub, if_true, Bool.not_true, Bool.not_false, Bool.false_eq_true, if_false, ev_mk, intK, strK, locK, Option.bind_some, s1'.made, e2]
    exact ⟨ms[i], rfl, List.getElem_mem hi, s1'⟩
  obtain ⟨d, st', e, p, rfl, a, b⟩ := key.get
  exact ⟨p, st', e, a, b⟩
noncomputable abbrev xAgain : DTs := dAnd (dTr (dVar 1)) (dTB (dBin dEq (xDr (dC (.int 4))) (dC (.int 0))))
theorem again_ok {ms : List (Rat × Rat)} {st : Store} {r : DEnv} (h : SB ms st) (h0 : r[0]? = some (.val (.loc 0))) (h1 : r[1]? = some (.val (.loc 1))) :
    ∃ b st', xAgain r st = .ok b st' ∧ SB ms st' ∧ (b = true → ms ≠ []) := by
  have key : Ev (xAgain r st) (fun b st' => SB ms st' ∧ (b = true → ms ≠ [])) NoX := by
    obtain ⟨v, s1, e1, a1, b1, t1⟩ := draw_ok 4 st h.hd (by decide) (by decide)
    simp only [optK_some, slotK_val, blK_bl, ev_ok, ev_var, ev_c, ev_bin, ev_add, ev_addS, ev_addT, ev_addL, ev_sub, ev_mul, ev_div, ev_mod, ev_pow, ev_lt, ev_le, ev_gt, ev_ge, ev_is, ev_eq, ev_in, ev_ix, ev_un, ev_neg, tru_bl, tru_int, tru_non, tru_lst, tru_tup, ev_andV, ev_orV, ev_notV, ev_ifE, ev_nil, ev_cons, ev_tup, ev_lst, ev_new, ev_callB, ev_lenL, ev_lenT, ev_lenS, ev_lenC, ev_abs, ev_int, ev_intB, ev_strI, ev_gcd, ev_tupOf, ev_lstOf, ev_isi, ev_isTy2, ev_call, ev_callK, ev_part, ev_sl, ev_join0, ev_join1, ev_fmt, ev_fmtI, ev_fmtS, ev_tb, ev_tr, ev_tand, ev_tor, ev_tnot, ev_yes, es_nx, es_next, es_brk, es_cnt, es_seq, es_ret, es_retN, es_drop, es_if, es_set, es_gset, es_raise, ev_run, es_for, seqC, seqL, seqT, seqS, itC, itL, itT, at0, at1, at2, at3, at4, at5, ix0, ix1, ix2, ix3, gk_set, gsk_nil, gsk_cons, gk_tup, gk_sub, es_asg, es_aug, ev_app, ev_exn, ev_xf, it_of, it_seq, it_r1, it_r2, it_en, es_step, ev_isE, env0, List.map_cons, List.map_nil, List.length_cons, List.length_nil, List.cons_append, List.nil_append, List.replicate, List.getElem?_cons_zero, List.getElem?_cons_succ, List.set_cons_zero, List.set_cons_succ, Nat.zero_add, Nat.reduceAdd, Nat.reduceSub, if_true, Bool.not_true, Bool.not_false, Bool.false_eq_true, if_false, ev_mk, intK, strK, locK, Option.bind_some, h0, h1, h.made, e1, eqD_int]
    have et : truD (.loc 1) st = .ok (!(cl ms).isEmpty) st := by
      have : seqOf st (.loc 1) = some (cl ms) := h.made
      unfold truD
      dsimp only
      rw [this]
    refine Ev.at et ?_
    cases ms with
    | nil => exact ⟨h, fun z => absurd z (by decide)⟩
    | cons p ps =>
      refine Ev.of e1 ?_
      rw [eqD_int]
      exact ⟨h.draw t1, fun _ z => by cases z⟩
  obtain ⟨b, st', e, x⟩ := key.get
  exact ⟨b, st', e, x⟩
theorem tail2 {ms : List (Rat × Rat)} {st : Store} {s2 : Slot} {x : Rat} {k : Kt} (hk : ∀ (p : Rat × Rat) st', Sc 40 p → SB ms st' → k.rt (cpl p.1 p.2) st') (h : SB ms st) (hx : Sr 40 x) :
    Es (dSeq (dSet 2 xTop) (dRet (dTup (dCons (dVar 3) (dCons xRat dNil)))) [.val (.loc 0), .val (.loc 1), s2, .val (rat x)] st) k := by
  rw [es_seq, es_set]
  obtain ⟨v, s1, e1, a1, b1, h1⟩ := top_ok (r := [.val (.loc 0), .val (.loc 1), s2, .val (rat x)]) h rfl
  refine Ev.at e1 ?_
  obtain ⟨y, s3, e3, hy, h3⟩ := rat_ok (r := [.val (.loc 0), .val (.loc 1), .val (.int v), .val (rat x)]) h1 rfl rfl (by omega)
  show Es (dRet (dTup (dCons (dVar 3) (dCons xRat dNil))) [.val (.loc 0), .val (.loc 1), .val (.int v), .val (rat x)] s1) k
  rw [es_ret, ev_tup, ev_cons, ev_var]
  show Ev (dCons xRat dNil _ s1) _ _
  rw [ev_cons]
  refine Ev.at e3 ?_
  rw [ev_nil]
  exact ⟨by rw [sizeLine_eq]; show 2 ≤ 16777216; decide, hk (x, y) s3 ⟨hx, hy⟩ h3⟩
theorem couple_ok {ms : List (Rat × Rat)} {st : Store} (h : SB ms st) (ho : AllC ms) (hl : ms.length ≤ 20) :
    ∃ p st', F__law_couple [.loc 0, .loc 1] st = .ok (cpl p.1 p.2) st' ∧ Sc 40 p ∧ SB ms st' := by
  have key : Ev (F__law_couple [.loc 0, .loc 1] st) (fun d st' => ∃ p : Rat × Rat, d = cpl p.1 p.2 ∧ Sc 40 p ∧ SB ms st') NoX := by
    unfold F__law_couple B__law_couple
    rw [ev_run, es_seq, es_if]
    obtain ⟨b, s1, e1, h1, hb⟩ := again_ok (r := [.val (.loc 0), .val (.loc 1), .no, .no]) h rfl rfl
    refine Ev.at e1 ?_
    cases b with
    | true =>
      rw [if_pos rfl, es_ret]
      obtain ⟨p, s2, e2, hp, h2⟩ := pick_ok (r := [.val (.loc 0), .val (.loc 1), .no, .no]) h1 (hb rfl) hl rfl rfl
      exact Ev.at e2 ⟨p, rfl, ho p hp, h2⟩
    | false =>
      rw [if_neg (by decide)]
      refine es_next.mpr (es_seq.mpr (es_set.mpr ?_))
      obtain ⟨v, s2, e2, a2, b2, h2⟩ := top_ok (r := [.val (.loc 0), .val (.loc 1), .no, .no]) h1 rfl
      refine Ev.at e2 ?_
      refine es_seq.mpr (es_set.mpr ?_)
      obtain ⟨x, s3, e3, hx, h3⟩ := rat_ok (r := [.val (.loc 0), .val (.loc 1), .val (.int v), .no]) h2 rfl rfl (by omega)
      refine Ev.at e3 ?_
      refine es_seq.mpr (es_if.mpr ?_)
      obtain ⟨b, s4, e4, h4, hb⟩ := again_ok (r := [.val (.loc 0), .val (.loc 1), .val (.int v), .val (rat x)]) h3 rfl rfl
      refine Ev.at e4 ?_
      cases b with
      | true =>
        rw [if_pos rfl]
        obtain ⟨p, s5, e5, hp, h5⟩ := pick_ok (r := [.val (.loc 0), .val (.loc 1), .val (.int v), .val (rat x)]) h4 (hb rfl) hl rfl rfl
        refine es_set.mpr (ev_bin.mpr (Ev.at e5 (ev_c.mpr ?_)))
        refine ev_ix.mpr ?_
        exact tail2 (x := p.1) (fun p st' a b => ⟨p, rfl, a, b⟩) h5 (ho p hp).fst
      | false =>
        rw [if_neg (by decide)]
        refine es_next.mpr ?_
        exact tail2 (fun p st' a b => ⟨p, rfl, a, b⟩) h4 hx
  obtain ⟨d, st', e, p, rfl, x⟩ := key.get
  exact ⟨p, st', e, x⟩
end L_k02
namespace L_k02
open PySem PySem.Spec PyProof.Rows L2 Dl
/-! ### the loops of law -/
theorem Sr.neg {n : Nat} {x : Rat} (h : Sr n x) : Sr n (-x) := ⟨by rw [(neg_nd x).1, Int.natAbs_neg]; exact h.num, by rw [(neg_nd x).2]; exact h.den⟩
abbrev en (a0 a1 a2 a3 a4 a5 a6 a7 a8 a9 a10 : Slot) : DEnv := [a0, a1, a2, a3, a4, a5, a6, a7, a8, a9, a10]
noncomputable abbrev bodyIn : DSt := (dSeq (dIf (dOr (dNot (dTr (dCall F__law_both [] (dCons (dCall F_place_plus [] (dCons (dVar 5) (dCons (dVar 6) dNil))) (dCons (dCall F__law_add [] (dCons (dVar 5) (dCons (dVar 6) dNil))) dNil))))) (dNot (dTr (dCall F__law_both [] (dCons (dCall F_place_minus [] (dCons (dCallB (dLstOf) (dCons (dVar 5) dNil)) (dCons (dVar 6) dNil))) (dCons (dCall F__law_less [] (dCons (dVar 5) (dCons (dVar 6) dNil))) dNil)))))) (dRet (dC (.bl false))) dNext) (dSeq (dIf (dOr (dNot (dTr (dCall F__law_is [] (dCons (dCall F_dot_of [] (dCons (dVar 5) (dCons (dVar 6) dNil))) (dCons (dCall F__law_dot [] (dCons (dVar 5) (dCons (dVar 6) dNil))) dNil))))) (dNot (dTr (dCall F__law_is [] (dCons (dCall F_cross_of [] (dCons (dVar 5) (dCons (dVar 6) dNil))) (dCons (dCall F__law_cross [] (dCons (dVar 5) (dCons (dVar 6) dNil))) dNil)))))) (dRet (dC (.bl false))) dNext) (dSeq (dIf (dOr (dTB (dBin dNe (dCall F_dot_of [] (dCons (dCall F_quarter_left [] (dCons (dVar 5) dNil)) (dCons (dVar 6) dNil))) (dCall F_cross_of [] (dCons (dVar 5) (dCons (dVar 6) dNil))))) (dTB (dBin dNe (dCall F_dot_of [] (dCons (dVar 5) (dCons (dCall F_quarter_left [] (dCons (dVar 5) dNil)) dNil))) (dTup (dCons (dC (.int 0)) (dCons (dC (.int 1)) dNil)))))) (dRet (dC (.bl false))) dNext) (dSeq (dSet 7 (dCall F_compare_places [] (dCons (dVar 5) (dCons (dVar 6) dNil)))) (dSeq (dIf (dOr (dNot (dTr (dCallB (dIsi CS SUB) (dCons (dVar 7) (dCons (dC (.typ "int")) dNil))))) (dOr (dTr (dCallB (dIsi CS SUB) (dCons (dVar 7) (dCons (dC (.typ "bool")) dNil)))) (dTB (dBin dNe (dVar 7) (dCall F__law_order [] (dCons (dVar 5) (dCons (dVar 6) dNil))))))) (dRet (dC (.bl false))) dNext) (dIf (dTB (dBin dNe (dCall F_cross_of [] (dCons (dCall F_place_scaled [] (dCons (dVar 5) (dCons (dVar 4) dNil))) (dCons (dVar 6) dNil))) (dCall F__law_times [] (dCons (dVar 4) (dCons (dCall F__law_cross [] (dCons (dVar 5) (dCons (dVar 6) dNil))) dNil))))) (dRet (dC (.bl false))) dNext))))))
theorem kd_int {i : Int} {st : Store} : (kdOf st (.int i)).bind (fun k => isD CS SUB k (.typ "int")) = some true := by
  simp [kdOf, isD, tyOf, Ty.sub]
theorem kd_bool {i : Int} {st : Store} : (kdOf st (.int i)).bind (fun k => isD CS SUB k (.typ "bool")) = some false := by
  simp [kdOf, isD, tyOf, Ty.sub]
theorem kd_tup {l : List D} {st : Store} : (kdOf st (.tup l)).bind (fun k => isD CS SUB k (.typ "tuple")) = some true := by
  simp [kdOf, isD, tyOf, Ty.sub]
theorem inner_ok {a0 a1 a2 a3 s7 s8 s9 s10 : Slot} {by_ : Rat} {p q : Rat × Rat} {st : Store} (hb : Sr 10 by_) (hp : Sc 40 p) (hq : Sc 40 q) :
    Es (bodyIn (en a0 a1 a2 a3 (.val (rat by_)) (.val (cpl p.1 p.2)) (.val (cpl q.1 q.2)) s7 s8 s9 s10) st)
      { nx := fun r st1 => st1 = st ∧ ∃ s7, r = en a0 a1 a2 a3 (.val (rat by_)) (.val (cpl p.1 p.2)) (.val (cpl q.1 q.2)) s7 s8 s9 s10 } := by
  obtain ⟨a, b⟩ := p
  obtain ⟨c, d⟩ := q
  obtain ⟨ha, hbb⟩ := hp
  obtain ⟨hc, hd⟩ := hq
  have e1 := fun st => pplus_rat (st := st) ha hbb hc hd (by decide)
  have e2 := fun st => lplus2_rat (st := st) ha hbb hc hd (by decide)
  have e3 := fun st => pminus_lst (st := st) ha hbb hc hd (by decide)
  have e4 := fun st => lminus2_rat (st := st) ha hbb hc hd (by decide)
  have e5 := fun st => dot_rat (st := st) ha hbb hc hd (by decide)
  have e6 := fun st => ldot_rat (st := st) ha hbb hc hd (by decide)
  have e7 := fun st => cross_rat (st := st) ha hbb hc hd (by decide)
  have e8 := fun st => lcross_rat (st := st) ha hbb hc hd (by decide)
  have e9 := fun st => quarter_rat (a := a) (b := b) (st := st)
  have e10 : ∀ st, F_dot_of [cpl (-b) a, cpl c d] st = .ok (rat (a * d - b * c)) st := fun st => by
    rw [dot_rat (st := st) hbb.neg ha hc hd (by decide), show -b * c + a * d = a * d - b * c by grind]
  have e11 : ∀ st, F_dot_of [cpl a b, cpl (-b) a] st = .ok (rt 0 1) st := fun st => by
    rw [dot_rat (st := st) ha hbb hbb.neg ha (by decide), show a * -b + b * a = 0 by grind]
    rfl
  have e12 := fun st => cplaces_rat (st := st) ha hbb hc hd (by decide)
  have e13 := fun st => lorder_rat (st := st) ha hbb hc hd (by decide)
  have e14 := fun st => pscaled_rat (st := st) ha hbb hb (by decide)
  have e15 : ∀ st, F_cross_of [cpl (a * by_) (b * by_), cpl c d] st = .ok (rat (by_ * (a * d - b * c))) st := fun st => by
    rw [cross_rat (st := st) (mul_lw ha hb).2 (mul_lw hbb hb).2 hc hd (by decide), show a * by_ * d - b * by_ * c = by_ * (a * d - b * c) by grind]
  have e16 := fun st => ltimes_rat (st := st) hb (sub_lw (mul_lw ha hd).2 (mul_lw hbb hc).2).2 (by decide)
  have ei := fun (x : Rat) st => is_rat (x := x) (st := st)
  have eb := fun (x y : Rat) st => both_cpl (a := x) (b := y) (st := st)
  have q1 := fun (x y : Int) (st : Store) => eqD_rt (a := x) (b := y) (st := st)
  simp only [optK_some, slotK_val, blK_bl, ev_ok, ev_var, ev_c, ev_bin, ev_add, ev_addS, ev_addT, ev_addL, ev_sub, ev_mul, ev_div, ev_mod, ev_pow, ev_lt, ev_le, ev_gt, ev_ge, ev_is, ev_eq, ev_in, ev_ix, ev_un, ev_neg, tru_bl, tru_int, tru_non, tru_lst, tru_tup, ev_andV, ev_orV, ev_notV, ev_ifE, ev_nil, ev_cons, ev_tup, ev_lst, ev_new, ev_callB, ev_lenL, ev_lenT, ev_lenS, ev_lenC, ev_abs, ev_int, ev_intB, ev_strI, ev_gcd, ev_tupOf, ev_lstOf, ev_isi, ev_isTy2, ev_call, ev_callK, ev_part, ev_sl, ev_join0, ev_join1, ev_fmt, ev_fmtI, ev_fmtS, ev_tb, ev_tr, ev_tand, ev_tor, ev_tnot, ev_yes, es_nx, es_next, es_brk, es_cnt, es_seq, es_ret, es_retN, es_drop, es_if, es_set, es_gset, es_raise, ev_run, es_for, seqC, seqL, seqT, seqS, itC, itL, itT, at0, at1, at2, at3, at4, at5, ix0, ix1, ix2, ix3, gk_set, gsk_nil, gsk_cons, gk_tup, gk_sub, es_asg, es_aug, ev_app, ev_exn, ev_xf, it_of, it_seq, it_r1, it_r2, it_en, es_step, ev_isE, env0, List.map_cons, List.map_nil, List.length_cons, List.length_nil, List.cons_append, List.nil_append, List.replicate, List.getElem?_cons_zero, List.getElem?_cons_succ, List.set_cons_zero, List.set_cons_succ, Nat.zero_add, Nat.reduceAdd, Nat.reduceSub, if_true, Bool.not_true, Bool.not_false, Bool.false_eq_true, if_false, ev_mk, intK, strK, locK, Option.bind_some, e1, e2, e3, e4, e5, e6, e7, e8, e9, e10, e11, e12, e13, e14, e15, e16, ei, eb, q1, kd_int, kd_bool, eqD_int, beq_self_eq_true, sizeLine_eq]
  exact ⟨by decide, trivial, _, rfl⟩
noncomputable abbrev bodyOut : DSt := (dSeq (dSet 8 (dCall F_quarter_left [] (dCons (dVar 5) dNil))) (dSeq (dIf (dOr (dNot (dTr (dCall F__law_both [] (dCons (dVar 8) (dCons (dTup (dCons (dTup (dCons (dUn dNeg (dBin dIx (dBin dIx (dVar 5) (dC (.int 1))) (dC (.int 0)))) (dCons (dBin dIx (dBin dIx (dVar 5) (dC (.int 1))) (dC (.int 1))) dNil))) (dCons (dBin dIx (dVar 5) (dC (.int 0))) dNil))) dNil))))) (dNot (dTr (dCall F__law_both [] (dCons (dCall F_place_scaled [] (dCons (dVar 5) (dCons (dVar 4) dNil))) (dCons (dCall F__law_scaled [] (dCons (dVar 5) (dCons (dVar 4) dNil))) dNil)))))) (dRet (dC (.bl false))) dNext) (dIf (dOr (dNot (dTr (dCallB (dIsi CS SUB) (dCons (dVar 8) (dCons (dC (.typ "tuple")) dNil))))) (dNot (dTr (dCallB (dIsi CS SUB) (dCons (dCall F_place_plus [] (dCons (dVar 5) (dCons (dVar 5) dNil))) (dCons (dC (.typ "tuple")) dNil)))))) (dRet (dC (.bl false))) dNext)))
theorem outer_ok {a0 a1 a2 a3 s6 s7 s8 s9 s10 : Slot} {by_ : Rat} {p : Rat × Rat} {st : Store} (hb : Sr 10 by_) (hp : Sc 40 p) :
    Es (bodyOut (en a0 a1 a2 a3 (.val (rat by_)) (.val (cpl p.1 p.2)) s6 s7 s8 s9 s10) st)
      { nx := fun r st1 => st1 = st ∧ ∃ s8, r = en a0 a1 a2 a3 (.val (rat by_)) (.val (cpl p.1 p.2)) s6 s7 s8 s9 s10 } := by
  obtain ⟨a, b⟩ := p
  obtain ⟨ha, hbb⟩ := hp
  have e1 := fun st => pplus_rat (st := st) ha hbb ha hbb (by decide)
  have e9 := fun st => quarter_rat (a := a) (b := b) (st := st)
  have e14 := fun st => pscaled_rat (st := st) ha hbb hb (by decide)
  have e15 := fun st => lscaled_rat (st := st) ha hbb hb (by decide)
  have eb := fun (x y : Rat) st => both_cpl (a := x) (b := y) (st := st)
  have eb2 : ∀ st, F__law_both [cpl (-b) a, .tup [.tup [.int (-b.num), .int b.den], rat a]] st = .ok (.bl true) st := fun st => both_cpl (a := -b) (b := a) (st := st)
  simp only [optK_some, slotK_val, blK_bl, ev_ok, ev_var, ev_c, ev_bin, ev_add, ev_addS, ev_addT, ev_addL, ev_sub, ev_mul, ev_div, ev_mod, ev_pow, ev_lt, ev_le, ev_gt, ev_ge, ev_is, ev_eq, ev_in, ev_ix, ev_un, ev_neg, tru_bl, tru_int, tru_non, tru_lst, tru_tup, ev_andV, ev_orV, ev_notV, ev_ifE, ev_nil, ev_cons, ev_tup, ev_lst, ev_new, ev_callB, ev_lenL, ev_lenT, ev_lenS, ev_lenC, ev_abs, ev_int, ev_intB, ev_strI, ev_gcd, ev_tupOf, ev_lstOf, ev_isi, ev_isTy2, ev_call, ev_callK, ev_part, ev_sl, ev_join0, ev_join1, ev_fmt, ev_fmtI, ev_fmtS, ev_tb, ev_tr, ev_tand, ev_tor, ev_tnot, ev_yes, es_nx, es_next, es_brk, es_cnt, es_seq, es_ret, es_retN, es_drop, es_if, es_set, es_gset, es_raise, ev_run, es_for, seqC, seqL, seqT, seqS, itC, itL, itT, at0, at1, at2, at3, at4, at5, ix0, ix1, ix2, ix3, gk_set, gsk_nil, gsk_cons, gk_tup, gk_sub, es_asg, es_aug, ev_app, ev_exn, ev_xf, it_of, it_seq, it_r1, it_r2, it_en, es_step, ev_isE, env0, List.map_cons, List.map_nil, List.length_cons, List.length_nil, List.cons_append, List.nil_append, List.replicate, List.getElem?_cons_zero, List.getElem?_cons_succ, List.set_cons_zero, List.set_cons_succ, Nat.zero_add, Nat.reduceAdd, Nat.reduceSub, if_true, Bool.not_true, Bool.not_false, Bool.false_eq_true, if_false, ev_mk, intK, strK, locK, Option.bind_some, e1, e9, e14, e15, eb, eb2, kd_tup, beq_self_eq_true, sizeLine_eq]
  exact ⟨by decide, by decide, trivial, _, rfl⟩
end L_k02
namespace L_k02
open PySem PySem.Spec PyProof.Rows L2 Dl
/-! ### law -/
theorem s2_ok {a0 a3 a4 a5 a6 a7 a8 a9 a10 : Slot} {st : Store} (h : SB [] st) :
    Es (S_law_2 (en a0 (.val (.loc 0)) (.val (.loc 1)) a3 a4 a5 a6 a7 a8 a9 a10) st)
      { nx := fun r st1 => ∃ ms s3, r = en a0 (.val (.loc 0)) (.val (.loc 1)) s3 a4 a5 a6 a7 a8 a9 a10 ∧ SB ms st1 ∧ AllC ms ∧ ms.length = 4 } := by
  unfold S_law_2
  simp only [optK_some, slotK_val, blK_bl, ev_ok, ev_var, ev_c, ev_bin, ev_add, ev_addS, ev_addT, ev_addL, ev_sub, ev_mul, ev_div, ev_mod, ev_pow, ev_lt, ev_le, ev_gt, ev_ge, ev_is, ev_eq, ev_in, ev_ix, ev_un, ev_neg, tru_bl, tru_int, tru_non, tru_lst, tru_tup, ev_andV, ev_orV, ev_notV, ev_ifE, ev_nil, ev_cons, ev_tup, ev_lst, ev_new, ev_callB, ev_lenL, ev_lenT, ev_lenS, ev_lenC, ev_abs, ev_int, ev_intB, ev_strI, ev_gcd, ev_tupOf, ev_lstOf, ev_isi, ev_isTy2, ev_call, ev_callK, ev_part, ev_sl, ev_join0, ev_join1, ev_fmt, ev_fmtI, ev_fmtS, ev_tb, ev_tr, ev_tand, ev_tor, ev_tnot, ev_yes, es_nx, es_next, es_brk, es_cnt, es_seq, es_ret, es_retN, es_drop, es_if, es_set, es_gset, es_raise, ev_run, es_for, seqC, seqL, seqT, seqS, itC, itL, itT, at0, at1, at2, at3, at4, at5, ix0, ix1, ix2, ix3, gk_set, gsk_nil, gsk_cons, gk_tup, gk_sub, es_asg, es_aug, ev_app, ev_exn, ev_xf, it_of, it_seq, it_r1, it_r2, it_en, es_step, ev_isE, env0, List.map_cons, List.map_nil, List.length_cons, List.length_nil, List.cons_append, List.nil_append, List.replicate, List.getElem?_cons_zero, List.getElem?_cons_succ, List.set_cons_zero, List.set_cons_succ, Nat.zero_add, Nat.reduceAdd, Nat.reduceSub, if_true, Bool.not_true, Bool.not_false, Bool.false_eq_true, if_false, ev_mk, intK, strK, locK, Option.bind_some]
  refine ⟨4, rfl, ⟨by decide, by decide⟩, ?_⟩
  refine es_for_ix (fun i r st => ∃ ms s3, r = en a0 (.val (.loc 0)) (.val (.loc 1)) s3 a4 a5 a6 a7 a8 a9 a10 ∧ SB ms st ∧ AllC ms ∧ ms.length = i) (o := 0) ⟨[], _, rfl, h, fun p hp => by simp at hp, rfl⟩ ?_ ?_
  · rintro i d ed r st ⟨ms, s3, rfl, hS, ho, hl⟩
    have hi : i < 4 := by
      have := (List.getElem?_eq_some_iff.mp ed).1
      rw [rngD_len] at this
      exact this
    obtain ⟨p, st', e, hp, hS'⟩ := couple_ok hS ho (by omega)
    rw [gk_set]
    simp only [optK_some, slotK_val, blK_bl, ev_ok, ev_var, ev_c, ev_bin, ev_add, ev_addS, ev_addT, ev_addL, ev_sub, ev_mul, ev_div, ev_mod, ev_pow, ev_lt, ev_le, ev_gt, ev_ge, ev_is, ev_eq, ev_in, ev_ix, ev_un, ev_neg, tru_bl, tru_int, tru_non, tru_lst, tru_tup, ev_andV, ev_orV, ev_notV, ev_ifE, ev_nil, ev_cons, ev_tup, ev_lst, ev_new, ev_callB, ev_lenL, ev_lenT, ev_lenS, ev_lenC, ev_abs, ev_int, ev_intB, ev_strI, ev_gcd, ev_tupOf, ev_lstOf, ev_isi, ev_isTy2, ev_call, ev_callK, ev_part, ev_sl, ev_join0, ev_join1, ev_fmt, ev_fmtI, ev_fmtS, ev_tb, ev_tr, ev_tand, ev_tor, ev_tnot, ev_yes, es_nx, es_next, es_brk, es_cnt, es_seq, es_ret, es_retN, es_drop, es_if, es_set, es_gset, es_raise, ev_run, es_for, seqC, seqL, seqT, seqS, itC, itL, itT, at0, at1, at2, at3, at4, at5, ix0, ix1, ix2, ix3, gk_set, gsk_nil, gsk_cons, gk_tup, gk_sub, es_asg, es_aug, ev_app, ev_exn, ev_xf, it_of, it_seq, it_r1, it_r2, it_en, es_step, ev_isE, env0, List.map_cons, List.map_nil, List.length_cons, List.length_nil, List.cons_append, List.nil_append, List.replicate, List.getElem?_cons_zero, List.getElem?_cons_succ, List.set_cons_zero, List.set_cons_succ, Nat.zero_add, Nat.reduceAdd, Nat.reduceSub, if_true, Bool.not_true, Bool.not_false, Bool.false_eq_true, if_false, ev_mk, intK, strK, locK, Option.bind_some, e, hS'.made, hS.made]
    have hmap : cl ms ++ [cpl p.1 p.2] = cl (ms ++ [p]) := by
      show cl ms ++ [cpl p.1 p.2] = List.map (fun p : Rat × Rat => cpl p.1 p.2) (ms ++ [p])
      rw [List.map_append]
      rfl
    refine ⟨by rw [List.length_map, sizeLine_eq]; omega, ms ++ [p], _, rfl, ⟨?_, ?_, ?_⟩, ?_, by rw [List.length_append]; simp; omega⟩
    · obtain ⟨hh, x1, x2, x3⟩ := hS'.hd
      exact ⟨hh, by rw [List.getElem?_set_ne (by decide)]; exact x1, x2, x3⟩
    · rw [List.length_set]; exact hS'.len
    · rw [hmap]
      exact cellL_of (by rw [List.getElem?_set_self (by rw [hS'.len]; decide)])
    · intro z hz
      rcases List.mem_append.mp hz with hz | hz
      · exact ho z hz
      · have : z = p := by simpa using hz
        rw [this]; exact hp
  · rintro r st ⟨ms, s3, rfl, hS, ho, hl⟩
    exact ⟨ms, s3, rfl, hS, ho, by rw [hl]; rfl⟩
theorem s3_ok {ms : List (Rat × Rat)} {a0 a2 a3 a4 a5 a6 a7 a8 a9 a10 : Slot} {st : Store} (h : SB ms st) :
    Es (S_law_3 (en a0 (.val (.loc 0)) a2 a3 a4 a5 a6 a7 a8 a9 a10) st)
      { nx := fun r st1 => ∃ x, r = en a0 (.val (.loc 0)) a2 a3 (.val (rat x)) a5 a6 a7 a8 a9 a10 ∧ Sr 10 x ∧ SB ms st1 } := by
  unfold S_law_3
  obtain ⟨u, s1, e1, a1, b1, t1⟩ := draw_ok 41 st h.hd (by decide) (by decide)
  have h1 := h.draw t1
  obtain ⟨w, s2, e2, a2, b2, t2⟩ := draw_ok 9 s1 h1.hd (by decide) (by decide)
  have h2 := h1.draw t2
  simp only [optK_some, slotK_val, blK_bl, ev_ok, ev_var, ev_c, ev_bin, ev_add, ev_addS, ev_addT, ev_addL, ev_sub, ev_mul, ev_div, ev_mod, ev_pow, ev_lt, ev_le, ev_gt, ev_ge, ev_is, ev_eq, ev_in, ev_ix, ev_un, ev_neg, tru_bl, tru_int, tru_non, tru_lst, tru_tup, ev_andV, ev_orV, ev_notV, ev_ifE, ev_nil, ev_cons, ev_tup, ev_lst, ev_new, ev_callB, ev_lenL, ev_lenT, ev_lenS, ev_lenC, ev_abs, ev_int, ev_intB, ev_strI, ev_gcd, ev_tupOf, ev_lstOf, ev_isi, ev_isTy2, ev_call, ev_callK, ev_part, ev_sl, ev_join0, ev_join1, ev_fmt, ev_fmtI, ev_fmtS, ev_tb, ev_tr, ev_tand, ev_tor, ev_tnot, ev_yes, es_nx, es_next, es_brk, es_cnt, es_seq, es_ret, es_retN, es_drop, es_if, es_set, es_gset, es_raise, ev_run, es_for, seqC, seqL, seqT, seqS, itC, itL, itT, at0, at1, at2, at3, at4, at5, ix0, ix1, ix2, ix3, gk_set, gsk_nil, gsk_cons, gk_tup, gk_sub, es_asg, es_aug, ev_app, ev_exn, ev_xf, it_of, it_seq, it_r1, it_r2, it_en, es_step, ev_isE, env0, List.map_cons, List.map_nil, List.length_cons, List.length_nil, List.cons_append, List.nil_append, List.replicate, List.getElem?_cons_zero, List.getElem?_cons_succ, List.set_cons_zero, List.set_cons_succ, Nat.zero_add, Nat.reduceAdd, Nat.reduceSub, if_true, Bool.not_true, Bool.not_false, Bool.false_eq_true, if_false, ev_mk, intK, strK, locK, Option.bind_some, e1, e2]
  have z := lratio_rat (a := u - 20) (b := 1 + w) (n := 10) (st := s2) (by omega) (by omega) (by omega) (by decide)
  exact Ev.of z.1 ⟨_, rfl, z.2, h2⟩
theorem s4_ok {ms : List (Rat × Rat)} {by_ : Rat} {a0 a1 a3 a5 a6 a7 a8 a9 a10 : Slot} {st : Store} (h : SB ms st) (ho : AllC ms) (hb : Sr 10 by_) :
    Es (S_law_4 (en a0 a1 (.val (.loc 1)) a3 (.val (rat by_)) a5 a6 a7 a8 a9 a10) st)
      { nx := fun r st1 => st1 = st ∧ ∃ s5 s6 s7 s8, r = en a0 a1 (.val (.loc 1)) a3 (.val (rat by_)) s5 s6 s7 s8 a9 a10 } := by
  unfold S_law_4
  have get : ∀ {i : Nat} {d : D}, (cl ms)[i]? = some d → ∃ p, d = cpl p.1 p.2 ∧ Sc 40 p := fun {i d} ed => by
    rw [List.getElem?_map] at ed
    cases ep : ms[i]? with
    | none => rw [ep] at ed; cases ed
    | some p =>
      rw [ep] at ed
      cases ed
      exact ⟨p, rfl, ho _ (List.mem_of_getElem? ep)⟩
  refine es_for_seq (x := .loc 1) (all := cl ms) h.made (fun _ r st1 => st1 = st ∧ ∃ s5 s6 s7 s8, r = en a0 a1 (.val (.loc 1)) a3 (.val (rat by_)) s5 s6 s7 s8 a9 a10) ⟨rfl, _, _, _, _, rfl⟩ ?_ ?_ ?_ rfl
  · rintro n i r st1 hn ⟨rfl, _⟩
    cases hn
    exact h.made
  · rintro i d ed r st1 ⟨rfl, s5, s6, s7, s8, rfl⟩
    obtain ⟨p, rfl, hp⟩ := get ed
    rw [gk_set]
    refine es_seq.mpr ?_
    refine es_for_seq (x := .loc 1) (all := cl ms) h.made (fun _ r st2 => st2 = st1 ∧ ∃ s6 s7, r = en a0 a1 (.val (.loc 1)) a3 (.val (rat by_)) (.val (cpl p.1 p.2)) s6 s7 s8 a9 a10) ⟨rfl, _, _, rfl⟩ ?_ ?_ ?_ rfl
    · rintro n i r st1 hn ⟨rfl, _⟩
      cases hn
      exact h.made
    · rintro j d2 ed2 r st2 ⟨rfl, s6, s7, rfl⟩
      obtain ⟨q, rfl, hq⟩ := get ed2
      rw [gk_set]
      refine (inner_ok (s7 := s7) hb hp hq).mono ?_
      rintro r st3 ⟨rfl, s7', rfl⟩
      exact ⟨rfl, _, _, rfl⟩
    · rintro r st2 ⟨rfl, s6, s7, rfl⟩
      refine (outer_ok hb hp).mono ?_
      rintro r st3 ⟨rfl, s8', rfl⟩
      exact ⟨rfl, _, _, _, _, rfl⟩
  · rintro r st1 x
    exact x
/-- places[draw(hand, 4)] -/
theorem four_ok {ms : List (Rat × Rat)} {st : Store} {r : DEnv} (h : SB ms st) (hl : ms.length = 4) (h0 : r[1]? = some (.val (.loc 0))) (h1 : r[2]? = some (.val (.loc 1))) :
    ∃ p st', (dBin dIx (dVar 2) (dCall F__law_draw [] (dCons (dVar 1) (dCons (dC (.int 4)) dNil)))) r st = .ok (cpl p.1 p.2) st' ∧ p ∈ ms ∧ SB ms st' := by
  obtain ⟨v, s1, e1, a1, b1, t1⟩ := draw_ok 4 st h.hd (by omega) (by omega)
  have key : Ev ((dBin dIx (dVar 2) (dCall F__law_draw [] (dCons (dVar 1) (dCons (dC (.int 4)) dNil)))) r st) (fun d st' => ∃ p, d = cpl p.1 p.2 ∧ p ∈ ms ∧ SB ms st') NoX := by
    simp only [optK_some, slotK_val, blK_bl, ev_ok, ev_var, ev_c, ev_bin, ev_add, ev_addS, ev_addT, ev_addL, ev_sub, ev_mul, ev_div, ev_mod, ev_pow, ev_lt, ev_le, ev_gt, ev_ge, ev_is, ev_eq, ev_in, ev_ix, ev_un, ev_neg, tru_bl, tru_int, tru_non, tru_lst, tru_tup, ev_andV, ev_orV, ev_notV, ev_ifE, ev_nil, ev_cons, ev_tup, ev_lst, ev_new, ev_callB, ev_lenL, ev_lenT, ev_lenS, ev_lenC, ev_abs, ev_int, ev_intB, ev_strI, ev_gcd, ev_tupOf, ev_lstOf, ev_isi, ev_isTy2, ev_call, ev_callK, ev_part, ev_sl, ev_join0, ev_join1, ev_fmt, ev_fmtI, ev_fmtS, ev_tb, ev_tr, ev_tand, ev_tor, ev_tnot, ev_yes, es_nx, es_next, es_brk, es_cnt, es_seq, es_ret, es_retN, es_drop, es_if, es_set, es_gset, es_raise, ev_run, es_for, seqC, seqL, seqT, seqS, itC, itL, itT, at0, at1, at2, at3, at4, at5, ix0, ix1, ix2, ix3, gk_set, gsk_nil, gsk_cons, gk_tup, gk_sub, es_asg, es_aug, ev_app, ev_exn, ev_xf, it_of, it_seq, it_r1, it_r2, it_en, es_step, ev_isE, env0, List.map_cons, List.map_nil, List.length_cons, List.length_nil, List.cons_append, List.nil_append, List.replicate, List.getElem?_cons_zero, List.getElem?_cons_succ, List.set_cons_zero, List.set_cons_succ, Nat.zero_add, Nat.reduceAdd, Nat.reduceSub, if_true, Bool.not_true, Bool.not_false, Bool.false_eq_true, if_false, ev_mk, intK, strK, locK, Option.bind_some, h0, h1]
    refine Ev.of e1 ?_
    have s1' := h.draw t1
    obtain ⟨i, rfl⟩ : ∃ i : Nat, v = i := ⟨v.toNat, by omega⟩
    have hi : i < ms.length := by omega
    have e2 : atI (cl ms) (i : Int) = some (cpl ms[i].1 ms[i].2) := by
      rw [atNat, List.getElem?_map, List.getElem?_eq_getElem hi]
      rfl
    simp only [optK_some, slotK_val, blK_bl, ev_ok, ev_var, ev_c, ev_bin, ev_add, ev_addS, ev_addT, ev_addL, ev_sub, ev_mul, ev_div, ev_mod, ev_pow, ev_lt, ev_le, ev_gt, ev_ge, ev_is, ev_eq, ev_in, ev_ix, ev_un, ev_neg, tru_bl, tru_int, tru_non, tru_lst, tru_tup, ev_andV, ev_orV, ev_notV, ev_ifE, ev_nil, ev_cons, ev_tup, ev_lst, ev_new, ev_callB, ev_lenL, ev_lenT, ev_lenS, ev_lenC, ev_abs, ev_int, ev_intB, ev_strI, ev_gcd, ev_tupOf, ev_lstOf, ev_isi, ev_isTy2, ev_call, ev_callK, ev_part, ev_sl, ev_join0, ev_join1, ev_fmt, ev_fmtI, ev_fmtS, ev_tb, ev_tr, ev_tand, ev_tor, ev_tnot, ev_yes, es_nx, es_next, es_brk, es_cnt, es_seq, es_ret, es_retN, es_drop, es_if, es_set, es_gset, es_raise, ev_run, es_for, seqC, seqL, seqT, seqS, itC, itL, itT, at0, at1, at2, at3, at4, at5, ix0, ix1, ix2, ix3, gk_set, gsk_nil, gsk_cons, gk_tup, gk_sub, es_asg, es_aug, ev_app, ev_exn, ev_xf, it_of, it_seq, it_r1, it_r2, it_en, es_step, ev_isE, env0, List.map_cons, List.map_nil, List.length_cons, List.length_nil, List.cons_append, List.nil_append, List.replicate, List.getElem?_cons_zero, List.getElem?_cons_succ, List.set_cons_zero, List.set_cons_succ, Nat.zero_add, Nat.reduceAdd, Nat.reduceSub, if_true, Bool.not_true, Bool.not_false, Bool.false_eq_true, if_false, ev_mk, intK, strK, locK, Option.bind_some, s1'.made, e2]
    exact ⟨ms[i], rfl, List.getElem_mem hi, s1'⟩
  obtain ⟨d, st', e, p, rfl, a, b⟩ := key.get
  exact ⟨p, st', e, a, b⟩
theorem s5_ok {ms : List (Rat × Rat)} {a0 a3 a4 a5 a6 a7 a8 a9 a10 : Slot} {st : Store} (h : SB ms st) (ho : AllC ms) (hl : ms.length = 4) :
    Es (S_law_5 (en a0 (.val (.loc 0)) (.val (.loc 1)) a3 a4 a5 a6 a7 a8 a9 a10) st)
      { nx := fun r st1 => ∃ row, r = en a0 (.val (.loc 0)) (.val (.loc 1)) a3 a4 a5 a6 a7 a8 (.val (.lst (cl row))) a10 ∧ SB ms st1 ∧ AllC row ∧ row.length ≤ 6 ∧ row.length ≠ 0 } := by
  unfold S_law_5
  simp only [optK_some, slotK_val, blK_bl, ev_ok, ev_var, ev_c, ev_bin, ev_add, ev_addS, ev_addT, ev_addL, ev_sub, ev_mul, ev_div, ev_mod, ev_pow, ev_lt, ev_le, ev_gt, ev_ge, ev_is, ev_eq, ev_in, ev_ix, ev_un, ev_neg, tru_bl, tru_int, tru_non, tru_lst, tru_tup, ev_andV, ev_orV, ev_notV, ev_ifE, ev_nil, ev_cons, ev_tup, ev_lst, ev_new, ev_callB, ev_lenL, ev_lenT, ev_lenS, ev_lenC, ev_abs, ev_int, ev_intB, ev_strI, ev_gcd, ev_tupOf, ev_lstOf, ev_isi, ev_isTy2, ev_call, ev_callK, ev_part, ev_sl, ev_join0, ev_join1, ev_fmt, ev_fmtI, ev_fmtS, ev_tb, ev_tr, ev_tand, ev_tor, ev_tnot, ev_yes, es_nx, es_next, es_brk, es_cnt, es_seq, es_ret, es_retN, es_drop, es_if, es_set, es_gset, es_raise, ev_run, es_for, seqC, seqL, seqT, seqS, itC, itL, itT, at0, at1, at2, at3, at4, at5, ix0, ix1, ix2, ix3, gk_set, gsk_nil, gsk_cons, gk_tup, gk_sub, es_asg, es_aug, ev_app, ev_exn, ev_xf, it_of, it_seq, it_r1, it_r2, it_en, es_step, ev_isE, env0, List.map_cons, List.map_nil, List.length_cons, List.length_nil, List.cons_append, List.nil_append, List.replicate, List.getElem?_cons_zero, List.getElem?_cons_succ, List.set_cons_zero, List.set_cons_succ, Nat.zero_add, Nat.reduceAdd, Nat.reduceSub, if_true, Bool.not_true, Bool.not_false, Bool.false_eq_true, if_false, ev_mk, intK, strK, locK, Option.bind_some, ev_comp]
  obtain ⟨v, s1, e1, b1, b2, t1⟩ := draw_ok 5 st h.hd (by decide) (by decide)
  refine Ev.of e1 ?_
  have h1 := h.draw t1
  refine ⟨1 + v, rfl, ⟨by omega, by omega⟩, trivial, ?_⟩
  obtain ⟨xs, st', e, l, hQ, hS⟩ := compD_inv (g := gSet 3) (t := dYes) (f := dBin dIx (dVar 2) (dCall F__law_draw [] (dCons (dVar 1) (dCons (dC (.int 4)) dNil)))) (vs := [3]) (r := en a0 (.val (.loc 0)) (.val (.loc 1)) a3 a4 a5 a6 a7 a8 a9 a10) (SB ms) (fun x => ∃ p : Rat × Rat, p ∈ ms ∧ x = cpl p.1 p.2) (fun d st hs => by
    obtain ⟨p, st', e, a, b⟩ := four_ok (r := (wipeD (en a0 (.val (.loc 0)) (.val (.loc 1)) a3 a4 a5 a6 a7 a8 a9 a10) [3]).set 3 (.val d)) hs hl rfl rfl
    exact ⟨_, _, st', rfl, rfl, e, ⟨p, a, rfl⟩, b⟩) (rngD 0 (1 + v).toNat) [] s1 h1 (by rw [rngD_len, sizeLine_eq]; simp; omega)
  refine Ev.at e ?_
  have hrow : ∃ row : List (Rat × Rat), xs = cl row ∧ AllC row ∧ row.length = xs.length := by
    clear e l
    induction xs with
    | nil => exact ⟨[], rfl, fun p hp => by simp at hp, rfl⟩
    | cons x xs ih =>
      obtain ⟨p, hp, rfl⟩ := hQ x (List.mem_cons_self ..)
      obtain ⟨row, rfl, ho', hl'⟩ := ih fun y hy => hQ y (List.mem_cons_of_mem _ hy)
      refine ⟨p :: row, rfl, fun z hz => ?_, by rw [List.length_cons, List.length_cons, hl']⟩
      rcases List.mem_cons.mp hz with rfl | hz
      · exact ho _ hp
      · exact ho' z hz
  obtain ⟨row, rfl, ho', hl'⟩ := hrow
  rw [rngD_len] at l
  simp only [optK_some, slotK_val, blK_bl, ev_ok, ev_var, ev_c, ev_bin, ev_add, ev_addS, ev_addT, ev_addL, ev_sub, ev_mul, ev_div, ev_mod, ev_pow, ev_lt, ev_le, ev_gt, ev_ge, ev_is, ev_eq, ev_in, ev_ix, ev_un, ev_neg, tru_bl, tru_int, tru_non, tru_lst, tru_tup, ev_andV, ev_orV, ev_notV, ev_ifE, ev_nil, ev_cons, ev_tup, ev_lst, ev_new, ev_callB, ev_lenL, ev_lenT, ev_lenS, ev_lenC, ev_abs, ev_int, ev_intB, ev_strI, ev_gcd, ev_tupOf, ev_lstOf, ev_isi, ev_isTy2, ev_call, ev_callK, ev_part, ev_sl, ev_join0, ev_join1, ev_fmt, ev_fmtI, ev_fmtS, ev_tb, ev_tr, ev_tand, ev_tor, ev_tnot, ev_yes, es_nx, es_next, es_brk, es_cnt, es_seq, es_ret, es_retN, es_drop, es_if, es_set, es_gset, es_raise, ev_run, es_for, seqC, seqL, seqT, seqS, itC, itL, itT, at0, at1, at2, at3, at4, at5, ix0, ix1, ix2, ix3, gk_set, gsk_nil, gsk_cons, gk_tup, gk_sub, es_asg, es_aug, ev_app, ev_exn, ev_xf, it_of, it_seq, it_r1, it_r2, it_en, es_step, ev_isE, env0, List.map_cons, List.map_nil, List.length_cons, List.length_nil, List.cons_append, List.nil_append, List.replicate, List.getElem?_cons_zero, List.getElem?_cons_succ, List.set_cons_zero, List.set_cons_succ, Nat.zero_add, Nat.reduceAdd, Nat.reduceSub, if_true, Bool.not_true, Bool.not_false, Bool.false_eq_true, if_false, ev_mk, intK, strK, locK, Option.bind_some]
  exact ⟨row, rfl, hS, ho', by omega, by omega⟩
def pyc (p : Rat × Rat) : PyData := .tuple [.tuple [.int p.1.num, .int p.1.den], .tuple [.int p.2.num, .int p.2.den]]
theorem pyAll_cl : ∀ (ps : List (Rat × Rat)), pyAll0 (cl ps) = some (ps.map pyc)
  | [] => rfl
  | p :: ps => by
    show (pyD0 (cpl p.1 p.2)).bind (fun x => (pyAll0 (cl ps)).map fun xs => x :: xs) = _
    rw [pyAll_cl ps]
    rfl
theorem lay_cl : ∀ (ps : List (Rat × Rat)), PyData.canLayAll0 (ps.map pyc) = true ∧ PyData.depthAll (ps.map pyc) ≤ 2
  | [] => by simp [PyData.canLayAll0, PyData.depthAll]
  | p :: ps => by
    obtain ⟨h1, h2⟩ := lay_cl ps
    constructor
    · simp [pyc, PyData.canLayAll0, PyData.canLay0] at h1 ⊢
      exact h1
    · simp only [List.map_cons, PyData.depthAll, PyData.depth, pyc] at h2 ⊢
      omega
theorem sh_cl (ps : List (Rat × Rat)) : SeqAt.shaped (.list (ps.map pyc)) = true := by
  obtain ⟨h1, h2⟩ := lay_cl ps
  unfold SeqAt.shaped
  rw [Bool.and_eq_true]
  refine ⟨by simpa [PyData.canLay0] using h1, decide_eq_true ?_⟩
  simp only [PyData.depth]
  omega
theorem pyD_cl {ps : List (Rat × Rat)} {st : Store} : pyD st (.lst (cl ps)) = some (.list (ps.map pyc)) := by
  show (pyAll0 (cl ps)).map PyData.list = _
  rw [pyAll_cl]
  rfl
theorem s67_ok {ms row : List (Rat × Rat)} {a0 a1 a2 a3 a4 a5 a6 a7 a8 : Slot} {st : Store} (ho : AllC row) (hl : row.length ≤ 6) (h0 : row.length ≠ 0) :
    Es (S_law_7 (en a0 a1 a2 a3 a4 a5 a6 a7 a8 (.val (.lst (cl row))) (.val (.lst (cl row)))) st)
      { nx := fun r st1 => r = en a0 a1 a2 a3 a4 a5 a6 a7 a8 (.val (.lst (cl row))) (.val (.lst (cl row))) ∧ st1 = st } := by
  unfold S_law_7
  have e1 := fun st => mean_ok (x := .lst (cl row)) (st := st) (.inl rfl) ho hl h0
  have e2 := fun st => mean_ok (x := .tup (cl row)) (st := st) (.inr rfl) ho hl h0
  have e3 := fun st => lmean_ok (x := .lst (cl row)) (st := st) (.inl rfl) ho hl h0
  have eb := fun (x y : Rat) st => both_cpl (a := x) (b := y) (st := st)
  have eq : ∀ st, eqD st (.lst (cl row)) (.lst (cl row)) = some true := fun st => eqD_refl pyD_cl pyD_cl (sh_cl row)
  simp only [optK_some, slotK_val, blK_bl, ev_ok, ev_var, ev_c, ev_bin, ev_add, ev_addS, ev_addT, ev_addL, ev_sub, ev_mul, ev_div, ev_mod, ev_pow, ev_lt, ev_le, ev_gt, ev_ge, ev_is, ev_eq, ev_in, ev_ix, ev_un, ev_neg, tru_bl, tru_int, tru_non, tru_lst, tru_tup, ev_andV, ev_orV, ev_notV, ev_ifE, ev_nil, ev_cons, ev_tup, ev_lst, ev_new, ev_callB, ev_lenL, ev_lenT, ev_lenS, ev_lenC, ev_abs, ev_int, ev_intB, ev_strI, ev_gcd, ev_tupOf, ev_lstOf, ev_isi, ev_isTy2, ev_call, ev_callK, ev_part, ev_sl, ev_join0, ev_join1, ev_fmt, ev_fmtI, ev_fmtS, ev_tb, ev_tr, ev_tand, ev_tor, ev_tnot, ev_yes, es_nx, es_next, es_brk, es_cnt, es_seq, es_ret, es_retN, es_drop, es_if, es_set, es_gset, es_raise, ev_run, es_for, seqC, seqL, seqT, seqS, itC, itL, itT, at0, at1, at2, at3, at4, at5, ix0, ix1, ix2, ix3, gk_set, gsk_nil, gsk_cons, gk_tup, gk_sub, es_asg, es_aug, ev_app, ev_exn, ev_xf, it_of, it_seq, it_r1, it_r2, it_en, es_step, ev_isE, env0, List.map_cons, List.map_nil, List.length_cons, List.length_nil, List.cons_append, List.nil_append, List.replicate, List.getElem?_cons_zero, List.getElem?_cons_succ, List.set_cons_zero, List.set_cons_succ, Nat.zero_add, Nat.reduceAdd, Nat.reduceSub, if_true, Bool.not_true, Bool.not_false, Bool.false_eq_true, if_false, ev_mk, intK, strK, locK, Option.bind_some, e1, e2, e3, eb, eq]
  exact ⟨by first | rfl | trivial, by first | rfl | trivial⟩
theorem plain (ns : List Int) (h : ns.length ≤ 63) : ∃ st, F_law [.scr ns] [] = .ok (.bl true) st := by
  have key : Ev (F_law [.scr ns] []) (fun d _ => d = .bl true) NoX := by
    unfold F_law B_law
    rw [ev_run]
    obtain ⟨st0, e0, hd0, l0⟩ := hand_ok ns h
    refine es_step (Q := fun r st => r = en (.val (.scr ns)) (.val (.loc 0)) .no .no .no .no .no .no .no .no .no ∧ st = st0) ?_ ?_
    · unfold S_law_0
      simp only [optK_some, slotK_val, blK_bl, ev_ok, ev_var, ev_c, ev_bin, ev_add, ev_addS, ev_addT, ev_addL, ev_sub, ev_mul, ev_div, ev_mod, ev_pow, ev_lt, ev_le, ev_gt, ev_ge, ev_is, ev_eq, ev_in, ev_ix, ev_un, ev_neg, tru_bl, tru_int, tru_non, tru_lst, tru_tup, ev_andV, ev_orV, ev_notV, ev_ifE, ev_nil, ev_cons, ev_tup, ev_lst, ev_new, ev_callB, ev_lenL, ev_lenT, ev_lenS, ev_lenC, ev_abs, ev_int, ev_intB, ev_strI, ev_gcd, ev_tupOf, ev_lstOf, ev_isi, ev_isTy2, ev_call, ev_callK, ev_part, ev_sl, ev_join0, ev_join1, ev_fmt, ev_fmtI, ev_fmtS, ev_tb, ev_tr, ev_tand, ev_tor, ev_tnot, ev_yes, es_nx, es_next, es_brk, es_cnt, es_seq, es_ret, es_retN, es_drop, es_if, es_set, es_gset, es_raise, ev_run, es_for, seqC, seqL, seqT, seqS, itC, itL, itT, at0, at1, at2, at3, at4, at5, ix0, ix1, ix2, ix3, gk_set, gsk_nil, gsk_cons, gk_tup, gk_sub, es_asg, es_aug, ev_app, ev_exn, ev_xf, it_of, it_seq, it_r1, it_r2, it_en, es_step, ev_isE, env0, List.map_cons, List.map_nil, List.length_cons, List.length_nil, List.cons_append, List.nil_append, List.replicate, List.getElem?_cons_zero, List.getElem?_cons_succ, List.set_cons_zero, List.set_cons_succ, Nat.zero_add, Nat.reduceAdd, Nat.reduceSub, if_true, Bool.not_true, Bool.not_false, Bool.false_eq_true, if_false, ev_mk, intK, strK, locK, Option.bind_some, e0]
      exact ⟨trivial, trivial⟩
    rintro r st ⟨rfl, rfl⟩
    refine es_step (Q := fun r st1 => r = en (.val (.scr ns)) (.val (.loc 0)) (.val (.loc 1)) .no .no .no .no .no .no .no .no ∧ SB [] st1) ?_ ?_
    · unfold S_law_1
      simp only [optK_some, slotK_val, blK_bl, ev_ok, ev_var, ev_c, ev_bin, ev_add, ev_addS, ev_addT, ev_addL, ev_sub, ev_mul, ev_div, ev_mod, ev_pow, ev_lt, ev_le, ev_gt, ev_ge, ev_is, ev_eq, ev_in, ev_ix, ev_un, ev_neg, tru_bl, tru_int, tru_non, tru_lst, tru_tup, ev_andV, ev_orV, ev_notV, ev_ifE, ev_nil, ev_cons, ev_tup, ev_lst, ev_new, ev_callB, ev_lenL, ev_lenT, ev_lenS, ev_lenC, ev_abs, ev_int, ev_intB, ev_strI, ev_gcd, ev_tupOf, ev_lstOf, ev_isi, ev_isTy2, ev_call, ev_callK, ev_part, ev_sl, ev_join0, ev_join1, ev_fmt, ev_fmtI, ev_fmtS, ev_tb, ev_tr, ev_tand, ev_tor, ev_tnot, ev_yes, es_nx, es_next, es_brk, es_cnt, es_seq, es_ret, es_retN, es_drop, es_if, es_set, es_gset, es_raise, ev_run, es_for, seqC, seqL, seqT, seqS, itC, itL, itT, at0, at1, at2, at3, at4, at5, ix0, ix1, ix2, ix3, gk_set, gsk_nil, gsk_cons, gk_tup, gk_sub, es_asg, es_aug, ev_app, ev_exn, ev_xf, it_of, it_seq, it_r1, it_r2, it_en, es_step, ev_isE, env0, List.map_cons, List.map_nil, List.length_cons, List.length_nil, List.cons_append, List.nil_append, List.replicate, List.getElem?_cons_zero, List.getElem?_cons_succ, List.set_cons_zero, List.set_cons_succ, Nat.zero_add, Nat.reduceAdd, Nat.reduceSub, if_true, Bool.not_true, Bool.not_false, Bool.false_eq_true, if_false, ev_mk, intK, strK, locK, Option.bind_some, sizeLine_eq, l0]
      refine ⟨by decide, trivial, ?_⟩
      obtain ⟨hh, x1, x2, x3⟩ := hd0
      exact ⟨⟨hh, by rw [List.getElem?_append_left (by omega)]; exact x1, x2, x3⟩, by rw [List.length_append, l0]; rfl, cellL_of (by rw [List.getElem?_append_right (by omega), l0]; rfl)⟩
    rintro r st1 ⟨rfl, hS⟩
    refine es_step (s2_ok hS) ?_
    rintro r st2 ⟨ms, s3, rfl, hS2, ho, hl⟩
    refine es_step (s3_ok hS2) ?_
    rintro r st3 ⟨x, rfl, hx, hS3⟩
    refine es_step (s4_ok hS3 ho hx) ?_
    rintro r st4 ⟨rfl, s5, s6, s7, s8, rfl⟩
    refine es_step (s5_ok hS3 ho hl) ?_
    rintro r st5 ⟨row, rfl, hS5, hor, hl6, hl0⟩
    refine es_step (Q := fun r st => r = en (.val (.scr ns)) (.val (.loc 0)) (.val (.loc 1)) s3 (.val (rat x)) s5 s6 s7 s8 (.val (.lst (cl row))) (.val (.lst (cl row))) ∧ st = st5) ?_ ?_
    · unfold S_law_6
      simp only [optK_some, slotK_val, blK_bl, ev_ok, ev_var, ev_c, ev_bin, ev_add, ev_addS, ev_addT, ev_addL, ev_sub, ev_mul, ev_div, ev_mod, ev_pow, ev_lt, ev_le, ev_gt, ev_ge, ev_is, ev_eq, ev_in, ev_ix, ev_un, ev_neg, tru_bl, tru_int, tru_non, tru_lst, tru_tup, ev_andV, ev_orV, ev_notV, ev_ifE, ev_nil, ev_cons, ev_tup, ev_lst, ev_new, ev_callB, ev_lenL, ev_lenT, ev_lenS, ev_lenC, ev_abs, ev_int, ev_intB, ev_strI, ev_gcd, ev_tupOf, ev_lstOf, ev_isi, ev_isTy2, ev_call, ev_callK, ev_part, ev_sl, ev_join0, ev_join1, ev_fmt, ev_fmtI, ev_fmtS, ev_tb, ev_tr, ev_tand, ev_tor, ev_tnot, ev_yes, es_nx, es_next, es_brk, es_cnt, es_seq, es_ret, es_retN, es_drop, es_if, es_set, es_gset, es_raise, ev_run, es_for, seqC, seqL, seqT, seqS, itC, itL, itT, at0, at1, at2, at3, at4, at5, ix0, ix1, ix2, ix3, gk_set, gsk_nil, gsk_cons, gk_tup, gk_sub, es_asg, es_aug, ev_app, ev_exn, ev_xf, it_of, it_seq, it_r1, it_r2, it_en, es_step, ev_isE, env0, List.map_cons, List.map_nil, List.length_cons, List.length_nil, List.cons_append, List.nil_append, List.replicate, List.getElem?_cons_zero, List.getElem?_cons_succ, List.set_cons_zero, List.set_cons_succ, Nat.zero_add, Nat.reduceAdd, Nat.reduceSub, if_true, Bool.not_true, Bool.not_false, Bool.false_eq_true, if_false, ev_mk, intK, strK, locK, Option.bind_some]
      exact ⟨by first | rfl | trivial, by first | rfl | trivial⟩
    rintro r st6 ⟨rfl, rfl⟩
    refine es_step (s67_ok (ms := ms) hor hl6 hl0) ?_
    rintro r st7 ⟨rfl, rfl⟩
    unfold S_law_8
    obtain ⟨p, st8, e8, hp, hS8⟩ := four_ok (r := en (.val (.scr ns)) (.val (.loc 0)) (.val (.loc 1)) s3 (.val (rat x)) s5 s6 s7 s8 (.val (.lst (cl row))) (.val (.lst (cl row)))) hS5 hl rfl rfl
    refine es_ret.mpr ?_
    obtain ⟨w, st9, e9, a9, b9, t9⟩ := draw_ok (10 ^ 12) st8 hS8.hd (by decide) (by decide)
    rw [ev_call, ev_cons]
    refine Ev.at e8 ?_
    simp only [optK_some, slotK_val, blK_bl, ev_ok, ev_var, ev_c, ev_bin, ev_add, ev_addS, ev_addT, ev_addL, ev_sub, ev_mul, ev_div, ev_mod, ev_pow, ev_lt, ev_le, ev_gt, ev_ge, ev_is, ev_eq, ev_in, ev_ix, ev_un, ev_neg, tru_bl, tru_int, tru_non, tru_lst, tru_tup, ev_andV, ev_orV, ev_notV, ev_ifE, ev_nil, ev_cons, ev_tup, ev_lst, ev_new, ev_callB, ev_lenL, ev_lenT, ev_lenS, ev_lenC, ev_abs, ev_int, ev_intB, ev_strI, ev_gcd, ev_tupOf, ev_lstOf, ev_isi, ev_isTy2, ev_call, ev_callK, ev_part, ev_sl, ev_join0, ev_join1, ev_fmt, ev_fmtI, ev_fmtS, ev_tb, ev_tr, ev_tand, ev_tor, ev_tnot, ev_yes, es_nx, es_next, es_brk, es_cnt, es_seq, es_ret, es_retN, es_drop, es_if, es_set, es_gset, es_raise, ev_run, es_for, seqC, seqL, seqT, seqS, itC, itL, itT, at0, at1, at2, at3, at4, at5, ix0, ix1, ix2, ix3, gk_set, gsk_nil, gsk_cons, gk_tup, gk_sub, es_asg, es_aug, ev_app, ev_exn, ev_xf, it_of, it_seq, it_r1, it_r2, it_en, es_step, ev_isE, env0, List.map_cons, List.map_nil, List.length_cons, List.length_nil, List.cons_append, List.nil_append, List.replicate, List.getElem?_cons_zero, List.getElem?_cons_succ, List.set_cons_zero, List.set_cons_succ, Nat.zero_add, Nat.reduceAdd, Nat.reduceSub, if_true, Bool.not_true, Bool.not_false, Bool.false_eq_true, if_false, ev_mk, intK, strK, locK, Option.bind_some]
    refine ⟨by decide, ?_⟩
    refine Ev.of e9 ?_
    exact Ev.of refusals_ok rfl
  obtain ⟨d, st, e, rfl⟩ := key.get
  exact ⟨st, e⟩
end L_k02
/-! ## the head -/
namespace L_k02
open PySem PySem.Spec PyProof.Rows L2 Dl
def d_is_whole : He.DefD := ⟨("is_whole", none), "is_whole", "is_whole", defArgs (top 7), defBody (top 7), defScope (top 7), [.non, .non], []⟩
def d_lowered : He.DefD := ⟨("lowered", none), "lowered", "lowered", defArgs (top 9), defBody (top 9), defScope (top 9), [], []⟩
def d_negative : He.DefD := ⟨("negative", none), "negative", "negative", defArgs (top 14), defBody (top 14), defScope (top 14), [], []⟩
def d_compare : He.DefD := ⟨("compare", none), "compare", "compare", defArgs (top 15), defBody (top 15), defScope (top 15), [], []⟩
def d__law_mix : He.DefD := ⟨("_law_mix", none), "_law_mix", "_law_mix", defArgs (top 28), defBody (top 28), defScope (top 28), [], []⟩
def d__law_hand : He.DefD := ⟨("_law_hand", none), "_law_hand", "_law_hand", defArgs (top 29), defBody (top 29), defScope (top 29), [], []⟩
def d__law_gcd : He.DefD := ⟨("_law_gcd", none), "_law_gcd", "_law_gcd", defArgs (top 31), defBody (top 31), defScope (top 31), [], []⟩
def d__law_compare : He.DefD := ⟨("_law_compare", none), "_law_compare", "_law_compare", defArgs (top 36), defBody (top 36), defScope (top 36), [], []⟩
def d__law_is : He.DefD := ⟨("_law_is", none), "_law_is", "_law_is", defArgs (top 44), defBody (top 44), defScope (top 44), [], []⟩
def d_is_ratio : He.DefD := ⟨("is_ratio", none), "is_ratio", "is_ratio", defArgs (top 8), defBody (top 8), defScope (top 8), [], []⟩
def d_make_ratio : He.DefD := ⟨("make_ratio", none), "make_ratio", "make_ratio", defArgs (top 10), defBody (top 10), defScope (top 10), [.int 1], []⟩
def d_plus : He.DefD := ⟨("plus", none), "plus", "plus", defArgs (top 11), defBody (top 11), defScope (top 11), [], []⟩
def d_minus : He.DefD := ⟨("minus", none), "minus", "minus", defArgs (top 12), defBody (top 12), defScope (top 12), [], []⟩
def d_times : He.DefD := ⟨("times", none), "times", "times", defArgs (top 13), defBody (top 13), defScope (top 13), [], []⟩
def d_quarter_left : He.DefD := ⟨("quarter_left", none), "quarter_left", "quarter_left", defArgs (top 24), defBody (top 24), defScope (top 24), [], []⟩
def d_compare_places : He.DefD := ⟨("compare_places", none), "compare_places", "compare_places", defArgs (top 26), defBody (top 26), defScope (top 26), [], []⟩
def d__law_draw : He.DefD := ⟨("_law_draw", none), "_law_draw", "_law_draw", defArgs (top 30), defBody (top 30), defScope (top 30), [], []⟩
def d__law_ratio : He.DefD := ⟨("_law_ratio", none), "_law_ratio", "_law_ratio", defArgs (top 32), defBody (top 32), defScope (top 32), [], []⟩
def d__law_both : He.DefD := ⟨("_law_both", none), "_law_both", "_law_both", defArgs (top 45), defBody (top 45), defScope (top 45), [], []⟩
def d__law_order : He.DefD := ⟨("_law_order", none), "_law_order", "_law_order", defArgs (top 46), defBody (top 46), defScope (top 46), [], []⟩
def d_is_couple : He.DefD := ⟨("is_couple", none), "is_couple", "is_couple", defArgs (top 17), defBody (top 17), defScope (top 17), [], []⟩
def d_place_plus : He.DefD := ⟨("place_plus", none), "place_plus", "place_plus", defArgs (top 19), defBody (top 19), defScope (top 19), [], []⟩
def d_place_minus : He.DefD := ⟨("place_minus", none), "place_minus", "place_minus", defArgs (top 20), defBody (top 20), defScope (top 20), [], []⟩
def d_place_scaled : He.DefD := ⟨("place_scaled", none), "place_scaled", "place_scaled", defArgs (top 21), defBody (top 21), defScope (top 21), [], []⟩
def d_dot_of : He.DefD := ⟨("dot_of", none), "dot_of", "dot_of", defArgs (top 22), defBody (top 22), defScope (top 22), [], []⟩
def d_cross_of : He.DefD := ⟨("cross_of", none), "cross_of", "cross_of", defArgs (top 23), defBody (top 23), defScope (top 23), [], []⟩
def d__law_plus : He.DefD := ⟨("_law_plus", none), "_law_plus", "_law_plus", defArgs (top 33), defBody (top 33), defScope (top 33), [], []⟩
def d__law_minus : He.DefD := ⟨("_law_minus", none), "_law_minus", "_law_minus", defArgs (top 34), defBody (top 34), defScope (top 34), [], []⟩
def d__law_times : He.DefD := ⟨("_law_times", none), "_law_times", "_law_times", defArgs (top 35), defBody (top 35), defScope (top 35), [], []⟩
def d__law_couple : He.DefD := ⟨("_law_couple", none), "_law_couple", "_law_couple", defArgs (top 42), defBody (top 42), defScope (top 42), [], []⟩
def d_check_place : He.DefD := ⟨("check_place", none), "check_place", "check_place", defArgs (top 18), defBody (top 18), defScope (top 18), [], []⟩
def d_mean_place : He.DefD := ⟨("mean_place", none), "mean_place", "mean_place", defArgs (top 25), defBody (top 25), defScope (top 25), [], []⟩
def d__law_add : He.DefD := ⟨("_law_add", none), "_law_add", "_law_add", defArgs (top 37), defBody (top 37), defScope (top 37), [], []⟩
def d__law_less : He.DefD := ⟨("_law_less", none), "_law_less", "_law_less", defArgs (top 38), defBody (top 38), defScope (top 38), [], []⟩
def d__law_scaled : He.DefD := ⟨("_law_scaled", none), "_law_scaled", "_law_scaled", defArgs (top 39), defBody (top 39), defScope (top 39), [], []⟩
def d__law_dot : He.DefD := ⟨("_law_dot", none), "_law_dot", "_law_dot", defArgs (top 40), defBody (top 40), defScope (top 40), [], []⟩
def d__law_cross : He.DefD := ⟨("_law_cross", none), "_law_cross", "_law_cross", defArgs (top 41), defBody (top 41), defScope (top 41), [], []⟩
def d__law_place_of : He.DefD := ⟨("_law_place_of", none), "_law_place_of", "_law_place_of", defArgs (top 43), defBody (top 43), defScope (top 43), [], []⟩
def d__law_mean : He.DefD := ⟨("_law_mean", none), "_law_mean", "_law_mean", defArgs (top 47), defBody (top 47), defScope (top 47), [], []⟩
def d__law_refusals : He.DefD := ⟨("_law_refusals", none), "_law_refusals", "_law_refusals", defArgs (top 48), defBody (top 48), defScope (top 48), [], []⟩
def d_law : He.DefD := ⟨("law", none), "law", "law", defArgs (top 49), defBody (top 49), defScope (top 49), [], []⟩
def fn : List He.DefD := [d_is_whole, d_lowered, d_negative, d_compare, d__law_mix, d__law_hand, d__law_gcd, d__law_compare, d__law_is, d_is_ratio, d_make_ratio, d_plus, d_minus, d_times, d_quarter_left, d_compare_places, d__law_draw, d__law_ratio, d__law_both, d__law_order, d_is_couple, d_place_plus, d_place_minus, d_place_scaled, d_dot_of, d_cross_of, d__law_plus, d__law_minus, d__law_times, d__law_couple, d_check_place, d_mean_place, d__law_add, d__law_less, d__law_scaled, d__law_dot, d__law_cross, d__law_place_of, d__law_mean, d__law_refusals, d_law]
def fa : List He.Fa := [.glo "is_whole", .glo "lowered", .glo "negative", .glo "compare", .glo "_law_mix", .glo "_law_hand", .glo "_law_gcd", .glo "_law_compare", .glo "_law_is", .glo "is_ratio", .glo "make_ratio", .glo "plus", .glo "minus", .glo "times", .glo "quarter_left", .glo "compare_places", .glo "_law_draw", .glo "_law_ratio", .glo "_law_both", .glo "_law_order", .glo "is_couple", .glo "place_plus", .glo "place_minus", .glo "place_scaled", .glo "dot_of", .glo "cross_of", .glo "_law_plus", .glo "_law_minus", .glo "_law_times", .glo "_law_couple", .glo "check_place", .glo "mean_place", .glo "_law_add", .glo "_law_less", .glo "_law_scaled", .glo "_law_dot", .glo "_law_cross", .glo "_law_place_of", .glo "_law_mean", .glo "_law_refusals", .glo "law", .free "len", .free "abs", .free "isinstance", .free "int", .free "bool", .free "tuple", .free "list", .free "range", .free "enumerate", .free "super", .exm "StopError" "BadPlace" false, .exm "BadRatio" "BadPlace" false, .exm "BadPlace" "BadPlace" true, .free "super"]
def x_BadRatio : SupX := ⟨"BadRatio", ["what"], defBody (inClass (top 3) 0), defArgs (inClass (top 3) 0), defScope (inClass (top 3) 0), "BadRatio.__init__"⟩
theorem t_BadRatio : SupT Pg x_BadRatio := by
  refine ⟨⟨"self", _, rfl, rfl, .mk (ps := ["what"]) (.cons (by decide) (by decide) .nil) (by decide) (.cons (by decide) .nil) (fun _ => ⟨_, by rfl⟩) (fun _ => by rfl), by decide +kernel, by decide, ?_, rfl, rfl, rfl, by decide +kernel, rfl, rfl, by decide +kernel⟩, by decide +kernel, by decide⟩
  intro cl dV kV doc pm cdv ct an us hl hd
  subst hd
  match us, hl with
  | [_, _], _ => rfl
def x_BadPlace : SupX := ⟨"BadPlace", [], defBody (inClass (top 4) 0), defArgs (inClass (top 4) 0), defScope (inClass (top 4) 0), "BadPlace.__init__"⟩
theorem t_BadPlace : SupT Pg x_BadPlace := by
  refine ⟨⟨"self", _, rfl, rfl, .mk (ps := []) .nil (by decide) .nil (fun _ => ⟨_, by rfl⟩) (fun _ => by rfl), by decide +kernel, by decide, ?_, rfl, rfl, rfl, by decide +kernel, rfl, rfl, by decide +kernel⟩, by decide +kernel, by decide⟩
  intro cl dV kV doc pm cdv ct an us hl hd
  subst hd
  match us, hl with
  | [_], _ => rfl
def sx : List SupX := [x_BadRatio, x_BadPlace]
def exB (K : PySem.W.Frag) : Bool := (constB K "ZERO" k_ZERO) && ((bltB K "gcd" "math.gcd") && ((isEB K (He.ga K "BadPlace") && kitB2 K "BadPlace" "StopError" true) && ((((He.Fa.glo "StopError").ok K)) && (true))))
abbrev R : PySem.W.OpenRow := PySem.W.OpenLaw.row PySem.Challenge.rw_firmstops_k02_whole_couples_reckoned
abbrev file : Str := Pg.main.file
abbrev hk : PySem.W.Hook := hookY 4 fa fn sx exB file
def ob (s : PySem.W.SharedT) : AlY := obsY fa fn sx exB file (frY 4 (HandSHeadRun.getT s))
theorem ob_eq (s : PySem.W.SharedT) : ob s = hk.obs s.abs := obsY_eq (HandSHeadRun.getT_eq s)
def nm0 : List PySem.Str := ["StopError", "BadRatio", "BadPlace", "ZERO", "is_whole", "is_ratio", "lowered", "make_ratio", "plus", "minus", "times", "negative", "compare", "is_couple", "check_place", "place_plus", "place_minus", "place_scaled", "dot_of", "cross_of", "quarter_left", "mean_place", "compare_places", "_law_mix", "_law_hand"]
def nm1 : List PySem.Str := ["_law_draw", "_law_gcd", "_law_ratio", "_law_plus", "_law_minus", "_law_times", "_law_compare", "_law_add", "_law_less", "_law_scaled", "_law_dot", "_law_cross", "_law_couple", "_law_place_of", "_law_is", "_law_both", "_law_order", "_law_mean", "_law_refusals"]
def loose : List PySem.Str := nm0 ++ nm1
def vw : List Nat := [0, 49]
theorem run (w : World) : HandSHeadRun.RunEqI R (PySem.W.view R.prog vw) hk ob 20000 loose w := by
  unfold HandSHeadRun.RunEqI
  kernel_rfl
theorem gls {K : PySem.W.Frag} {h : Heap} {mg : Str → Option Value} (X : K.In h) (N : h.Ns mainGlobals mg) (c : SaysY fa fn sx exB file K) : Gls K mg := by
  have cx := c.more
  have hs : mg "super" = none := He.free_ok X N (c.d.fact 54 (f := .free "super") rfl)
  obtain ⟨e0, cx⟩ := He.ba cx
  obtain ⟨e1, cx⟩ := He.ba cx
  obtain ⟨e2, cx⟩ := He.ba cx
  obtain ⟨e3, cx⟩ := He.ba cx
  obtain ⟨sv0, sb0⟩ := c.sup 0 (d := x_BadRatio) rfl
  obtain ⟨sc0, sf0⟩ := supC_of (prog := Pg) (G := gx K) (c := 1) rfl rfl rfl X N hs t_BadRatio sv0 sb0
  obtain ⟨sv1, sb1⟩ := c.sup 1 (d := x_BadPlace) rfl
  obtain ⟨sc1, sf1⟩ := supC_of (prog := Pg) (G := gx K) (c := 2) rfl rfl rfl X N hs t_BadPlace sv1 sb1
  exact {
    f_len := He.free_ok X N (c.d.fact 41 (f := .free "len") rfl)
    f_abs := He.free_ok X N (c.d.fact 42 (f := .free "abs") rfl)
    f_isinstance := He.free_ok X N (c.d.fact 43 (f := .free "isinstance") rfl)
    f_int := He.free_ok X N (c.d.fact 44 (f := .free "int") rfl)
    f_bool := He.free_ok X N (c.d.fact 45 (f := .free "bool") rfl)
    f_tuple := He.free_ok X N (c.d.fact 46 (f := .free "tuple") rfl)
    f_list := He.free_ok X N (c.d.fact 47 (f := .free "list") rfl)
    f_range := He.free_ok X N (c.d.fact 48 (f := .free "range") rfl)
    f_enumerate := He.free_ok X N (c.d.fact 49 (f := .free "enumerate") rfl)
    f_super := He.free_ok X N (c.d.fact 50 (f := .free "super") rfl)
    gcd := blt_ok X N e1
    k_ZERO := const_ok (G := gx K) X N e0
    x_BadPlace := sc1
    x_BadRatio := sc0
    xf_BadRatio_what := sf0 0 "what" rfl
    ise_BadPlace_StopError := ⟨isEB_ok (He.ba e2).1, of_decide_eq_true (He.ba e2).2⟩
    g_StopError := He.glo_ok X N (x := "StopError") e3
    hit_BadPlace := ⟨fun k hk => by
      simp only [xcs, List.mem_cons, List.not_mem_nil, or_false] at hk
      rcases hk with rfl | rfl | rfl
      · exact He.exm_ok (c.d.fact 51 (f := .exm "StopError" "BadPlace" false) rfl)
      · exact He.exm_ok (c.d.fact 52 (f := .exm "BadRatio" "BadPlace" false) rfl)
      · exact He.exm_ok (c.d.fact 53 (f := .exm "BadPlace" "BadPlace" true) rfl)⟩
  }
theorem law_ok {w : World} {K : PySem.W.Frag} {h : Heap} {mg : Str → Option Value} (X : K.In h) (N : h.Ns mainGlobals mg) (c : SaysY fa fn sx exB file K) :
    ∃ fd : FuncData, mg "law" = some (.ref (He.ga K "law")) ∧ (∀ (s : Shared) (u : Value), BindsTo s fd ⟨[u], []⟩ [("script", u)]) ∧ ∀ base : Heap, FnOk Pg w K mg base (L2.CX Pg w) 8 (He.ga K "law") fd ["script"] (spD (gx K) 1 F_law) := by
  have g := gls X N c
  obtain ⟨fd_is_whole, D_is_whole⟩ := c.d.def_ 0 (d := d_is_whole) rfl
  obtain ⟨fd_lowered, D_lowered⟩ := c.d.def_ 1 (d := d_lowered) rfl
  obtain ⟨fd_negative, D_negative⟩ := c.d.def_ 2 (d := d_negative) rfl
  obtain ⟨fd_compare, D_compare⟩ := c.d.def_ 3 (d := d_compare) rfl
  obtain ⟨fd__law_mix, D__law_mix⟩ := c.d.def_ 4 (d := d__law_mix) rfl
  obtain ⟨fd__law_hand, D__law_hand⟩ := c.d.def_ 5 (d := d__law_hand) rfl
  obtain ⟨fd__law_gcd, D__law_gcd⟩ := c.d.def_ 6 (d := d__law_gcd) rfl
  obtain ⟨fd__law_compare, D__law_compare⟩ := c.d.def_ 7 (d := d__law_compare) rfl
  obtain ⟨fd__law_is, D__law_is⟩ := c.d.def_ 8 (d := d__law_is) rfl
  obtain ⟨fd_is_ratio, D_is_ratio⟩ := c.d.def_ 9 (d := d_is_ratio) rfl
  obtain ⟨fd_make_ratio, D_make_ratio⟩ := c.d.def_ 10 (d := d_make_ratio) rfl
  obtain ⟨fd_plus, D_plus⟩ := c.d.def_ 11 (d := d_plus) rfl
  obtain ⟨fd_minus, D_minus⟩ := c.d.def_ 12 (d := d_minus) rfl
  obtain ⟨fd_times, D_times⟩ := c.d.def_ 13 (d := d_times) rfl
  obtain ⟨fd_quarter_left, D_quarter_left⟩ := c.d.def_ 14 (d := d_quarter_left) rfl
  obtain ⟨fd_compare_places, D_compare_places⟩ := c.d.def_ 15 (d := d_compare_places) rfl
  obtain ⟨fd__law_draw, D__law_draw⟩ := c.d.def_ 16 (d := d__law_draw) rfl
  obtain ⟨fd__law_ratio, D__law_ratio⟩ := c.d.def_ 17 (d := d__law_ratio) rfl
  obtain ⟨fd__law_both, D__law_both⟩ := c.d.def_ 18 (d := d__law_both) rfl
  obtain ⟨fd__law_order, D__law_order⟩ := c.d.def_ 19 (d := d__law_order) rfl
  obtain ⟨fd_is_couple, D_is_couple⟩ := c.d.def_ 20 (d := d_is_couple) rfl
  obtain ⟨fd_place_plus, D_place_plus⟩ := c.d.def_ 21 (d := d_place_plus) rfl
  obtain ⟨fd_place_minus, D_place_minus⟩ := c.d.def_ 22 (d := d_place_minus) rfl
  obtain ⟨fd_place_scaled, D_place_scaled⟩ := c.d.def_ 23 (d := d_place_scaled) rfl
  obtain ⟨fd_dot_of, D_dot_of⟩ := c.d.def_ 24 (d := d_dot_of) rfl
  obtain ⟨fd_cross_of, D_cross_of⟩ := c.d.def_ 25 (d := d_cross_of) rfl
  obtain ⟨fd__law_plus, D__law_plus⟩ := c.d.def_ 26 (d := d__law_plus) rfl
  obtain ⟨fd__law_minus, D__law_minus⟩ := c.d.def_ 27 (d := d__law_minus) rfl
  obtain ⟨fd__law_times, D__law_times⟩ := c.d.def_ 28 (d := d__law_times) rfl
  obtain ⟨fd__law_couple, D__law_couple⟩ := c.d.def_ 29 (d := d__law_couple) rfl
  obtain ⟨fd_check_place, D_check_place⟩ := c.d.def_ 30 (d := d_check_place) rfl
  obtain ⟨fd_mean_place, D_mean_place⟩ := c.d.def_ 31 (d := d_mean_place) rfl
  obtain ⟨fd__law_add, D__law_add⟩ := c.d.def_ 32 (d := d__law_add) rfl
  obtain ⟨fd__law_less, D__law_less⟩ := c.d.def_ 33 (d := d__law_less) rfl
  obtain ⟨fd__law_scaled, D__law_scaled⟩ := c.d.def_ 34 (d := d__law_scaled) rfl
  obtain ⟨fd__law_dot, D__law_dot⟩ := c.d.def_ 35 (d := d__law_dot) rfl
  obtain ⟨fd__law_cross, D__law_cross⟩ := c.d.def_ 36 (d := d__law_cross) rfl
  obtain ⟨fd__law_place_of, D__law_place_of⟩ := c.d.def_ 37 (d := d__law_place_of) rfl
  obtain ⟨fd__law_mean, D__law_mean⟩ := c.d.def_ 38 (d := d__law_mean) rfl
  obtain ⟨fd__law_refusals, D__law_refusals⟩ := c.d.def_ 39 (d := d__law_refusals) rfl
  obtain ⟨fd_law, D_law⟩ := c.d.def_ 40 (d := d_law) rfl
  refine ⟨fd_law, He.glo_ok X N (c.d.fact 40 (f := .glo "law") rfl), fun s u => FunD.bindsA (ps := ["script"]) D_law (fun _ _ _ _ _ _ us hl => match us, hl with | [_], _ => rfl) s [u] rfl, fun base => ?_⟩
  have o_is_whole : FnOk Pg w K mg base (L2.CX Pg w) 2 (He.ga K "is_whole") fd_is_whole ["thing", "low", "high"] (spD (gx K) 3 F_is_whole) := fn_D D_is_whole sc_is_whole fun cdv A outer s H E hr tk hp => b_is_whole g cdv A outer s H E _ hr tk hp
  have c_is_whole_1 : Callee (gx K) Pg w mg base "is_whole" 2 3 [.non] F_is_whole := by
    obtain ⟨ds, hv, hb⟩ := D_is_whole.binds1 (ps := ["thing", "low", "high"]) 2 1 (by simp [He.DefD.dvs, d_is_whole]) rfl fun T kV doc pm an cdv ct us its h1 h2 => (match us, its, h1, h2 with | [_, _], [_, _], _, _ => ⟨_, rfl, rfl⟩)
    exact ⟨⟨_, fd_is_whole, ["thing", "low", "high"], _, ds, He.glo_ok X N (c.d.fact 0 (f := .glo "is_whole") rfl), D_is_whole.kp, o_is_whole, rfl, hb, hv, fun _ _ _ => (.cons .non .nil)⟩⟩
  have c_is_whole_2 : Callee (gx K) Pg w mg base "is_whole" 2 3 [.non, .non] F_is_whole := by
    obtain ⟨ds, hv, hb⟩ := D_is_whole.binds1 (ps := ["thing", "low", "high"]) 1 0 (by simp [He.DefD.dvs, d_is_whole]) rfl fun T kV doc pm an cdv ct us its h1 h2 => (match us, its, h1, h2 with | [_], [_, _], _, _ => ⟨_, rfl, rfl⟩)
    exact ⟨⟨_, fd_is_whole, ["thing", "low", "high"], _, ds, He.glo_ok X N (c.d.fact 0 (f := .glo "is_whole") rfl), D_is_whole.kp, o_is_whole, rfl, hb, hv, fun _ _ _ => (.cons .non (.cons .non .nil))⟩⟩
  have o_lowered : FnOk Pg w K mg base (L2.CX Pg w) 2 (He.ga K "lowered") fd_lowered ["top", "bottom"] (spD (gx K) 2 F_lowered) := fn_D D_lowered sc_lowered fun cdv A outer s H E hr tk hp => b_lowered g cdv A outer s H E _ hr tk hp
  have c_lowered : Callee (gx K) Pg w mg base "lowered" 2 2 [] F_lowered := ⟨⟨_, fd_lowered, ["top", "bottom"], [], [], He.glo_ok X N (c.d.fact 1 (f := .glo "lowered") rfl), D_lowered.kp, o_lowered, rfl, D_lowered.bindsN fun _ _ _ _ _ _ us hl => (match us, hl with | [_, _], _ => rfl), .nil, fun _ _ _ => .nil⟩⟩
  have o_negative : FnOk Pg w K mg base (L2.CX Pg w) 2 (He.ga K "negative") fd_negative ["one"] (spD (gx K) 1 F_negative) := fn_D D_negative sc_negative fun cdv A outer s H E hr tk hp => b_negative g cdv A outer s H E _ hr tk hp
  have c_negative : Callee (gx K) Pg w mg base "negative" 2 1 [] F_negative := ⟨⟨_, fd_negative, ["one"], [], [], He.glo_ok X N (c.d.fact 2 (f := .glo "negative") rfl), D_negative.kp, o_negative, rfl, D_negative.bindsN fun _ _ _ _ _ _ us hl => (match us, hl with | [_], _ => rfl), .nil, fun _ _ _ => .nil⟩⟩
  have o_compare : FnOk Pg w K mg base (L2.CX Pg w) 2 (He.ga K "compare") fd_compare ["one", "other"] (spD (gx K) 2 F_compare) := fn_D D_compare sc_compare fun cdv A outer s H E hr tk hp => b_compare g cdv A outer s H E _ hr tk hp
  have c_compare : Callee (gx K) Pg w mg base "compare" 2 2 [] F_compare := ⟨⟨_, fd_compare, ["one", "other"], [], [], He.glo_ok X N (c.d.fact 3 (f := .glo "compare") rfl), D_compare.kp, o_compare, rfl, D_compare.bindsN fun _ _ _ _ _ _ us hl => (match us, hl with | [_, _], _ => rfl), .nil, fun _ _ _ => .nil⟩⟩
  have o__law_mix : FnOk Pg w K mg base (L2.CX Pg w) 2 (He.ga K "_law_mix") fd__law_mix ["number", "turn"] (spD (gx K) 2 F__law_mix) := fn_D D__law_mix sc__law_mix fun cdv A outer s H E hr tk hp => b__law_mix g cdv A outer s H E _ hr tk hp
  have c__law_mix : Callee (gx K) Pg w mg base "_law_mix" 2 2 [] F__law_mix := ⟨⟨_, fd__law_mix, ["number", "turn"], [], [], He.glo_ok X N (c.d.fact 4 (f := .glo "_law_mix") rfl), D__law_mix.kp, o__law_mix, rfl, D__law_mix.bindsN fun _ _ _ _ _ _ us hl => (match us, hl with | [_, _], _ => rfl), .nil, fun _ _ _ => .nil⟩⟩
  have o__law_hand : FnOk Pg w K mg base (L2.CX Pg w) 2 (He.ga K "_law_hand") fd__law_hand ["script"] (spD (gx K) 1 F__law_hand) := fn_D D__law_hand sc__law_hand fun cdv A outer s H E hr tk hp => b__law_hand g cdv A outer s H E _ hr tk hp
  have c__law_hand : Callee (gx K) Pg w mg base "_law_hand" 2 1 [] F__law_hand := ⟨⟨_, fd__law_hand, ["script"], [], [], He.glo_ok X N (c.d.fact 5 (f := .glo "_law_hand") rfl), D__law_hand.kp, o__law_hand, rfl, D__law_hand.bindsN fun _ _ _ _ _ _ us hl => (match us, hl with | [_], _ => rfl), .nil, fun _ _ _ => .nil⟩⟩
  have o__law_gcd : FnOk Pg w K mg base (L2.CX Pg w) 2 (He.ga K "_law_gcd") fd__law_gcd ["one", "other"] (spD (gx K) 2 F__law_gcd) := fn_D D__law_gcd sc__law_gcd fun cdv A outer s H E hr tk hp => b__law_gcd g cdv A outer s H E _ hr tk hp
  have c__law_gcd : Callee (gx K) Pg w mg base "_law_gcd" 2 2 [] F__law_gcd := ⟨⟨_, fd__law_gcd, ["one", "other"], [], [], He.glo_ok X N (c.d.fact 6 (f := .glo "_law_gcd") rfl), D__law_gcd.kp, o__law_gcd, rfl, D__law_gcd.bindsN fun _ _ _ _ _ _ us hl => (match us, hl with | [_, _], _ => rfl), .nil, fun _ _ _ => .nil⟩⟩
  have o__law_compare : FnOk Pg w K mg base (L2.CX Pg w) 2 (He.ga K "_law_compare") fd__law_compare ["one", "other"] (spD (gx K) 2 F__law_compare) := fn_D D__law_compare sc__law_compare fun cdv A outer s H E hr tk hp => b__law_compare g cdv A outer s H E _ hr tk hp
  have c__law_compare : Callee (gx K) Pg w mg base "_law_compare" 2 2 [] F__law_compare := ⟨⟨_, fd__law_compare, ["one", "other"], [], [], He.glo_ok X N (c.d.fact 7 (f := .glo "_law_compare") rfl), D__law_compare.kp, o__law_compare, rfl, D__law_compare.bindsN fun _ _ _ _ _ _ us hl => (match us, hl with | [_, _], _ => rfl), .nil, fun _ _ _ => .nil⟩⟩
  have o__law_is : FnOk Pg w K mg base (L2.CX Pg w) 2 (He.ga K "_law_is") fd__law_is ["told", "due"] (spD (gx K) 2 F__law_is) := fn_D D__law_is sc__law_is fun cdv A outer s H E hr tk hp => b__law_is g cdv A outer s H E _ hr tk hp
  have c__law_is : Callee (gx K) Pg w mg base "_law_is" 2 2 [] F__law_is := ⟨⟨_, fd__law_is, ["told", "due"], [], [], He.glo_ok X N (c.d.fact 8 (f := .glo "_law_is") rfl), D__law_is.kp, o__law_is, rfl, D__law_is.bindsN fun _ _ _ _ _ _ us hl => (match us, hl with | [_, _], _ => rfl), .nil, fun _ _ _ => .nil⟩⟩
  have o_is_ratio : FnOk Pg w K mg base (L2.CX Pg w) 3 (He.ga K "is_ratio") fd_is_ratio ["thing"] (spD (gx K) 1 F_is_ratio) := fn_D D_is_ratio sc_is_ratio fun cdv A outer s H E hr tk hp => b_is_ratio g c_is_whole_1 c_is_whole_2 cdv A outer s H E _ hr tk hp
  have c_is_ratio : Callee (gx K) Pg w mg base "is_ratio" 3 1 [] F_is_ratio := ⟨⟨_, fd_is_ratio, ["thing"], [], [], He.glo_ok X N (c.d.fact 9 (f := .glo "is_ratio") rfl), D_is_ratio.kp, o_is_ratio, rfl, D_is_ratio.bindsN fun _ _ _ _ _ _ us hl => (match us, hl with | [_], _ => rfl), .nil, fun _ _ _ => .nil⟩⟩
  have o_make_ratio : FnOk Pg w K mg base (L2.CX Pg w) 3 (He.ga K "make_ratio") fd_make_ratio ["top", "bottom"] (spD (gx K) 2 F_make_ratio) := fn_D D_make_ratio sc_make_ratio fun cdv A outer s H E hr tk hp => b_make_ratio g c_is_whole_1 c_is_whole_2 c_lowered cdv A outer s H E _ hr tk hp
  have c_make_ratio : Callee (gx K) Pg w mg base "make_ratio" 3 2 [] F_make_ratio := by
    obtain ⟨ds, hv, hb⟩ := D_make_ratio.binds1 (ps := ["top", "bottom"]) 2 1 (by simp [He.DefD.dvs, d_make_ratio]) rfl fun T kV doc pm an cdv ct us its h1 h2 => (match us, its, h1, h2 with | [_, _], [_], _, _ => ⟨_, rfl, rfl⟩)
    exact ⟨⟨_, fd_make_ratio, ["top", "bottom"], _, ds, He.glo_ok X N (c.d.fact 10 (f := .glo "make_ratio") rfl), D_make_ratio.kp, o_make_ratio, rfl, hb, hv, fun _ _ _ => .nil⟩⟩
  have o_plus : FnOk Pg w K mg base (L2.CX Pg w) 3 (He.ga K "plus") fd_plus ["one", "other"] (spD (gx K) 2 F_plus) := fn_D D_plus sc_plus fun cdv A outer s H E hr tk hp => b_plus g c_lowered cdv A outer s H E _ hr tk hp
  have c_plus : Callee (gx K) Pg w mg base "plus" 3 2 [] F_plus := ⟨⟨_, fd_plus, ["one", "other"], [], [], He.glo_ok X N (c.d.fact 11 (f := .glo "plus") rfl), D_plus.kp, o_plus, rfl, D_plus.bindsN fun _ _ _ _ _ _ us hl => (match us, hl with | [_, _], _ => rfl), .nil, fun _ _ _ => .nil⟩⟩
  have o_minus : FnOk Pg w K mg base (L2.CX Pg w) 3 (He.ga K "minus") fd_minus ["one", "other"] (spD (gx K) 2 F_minus) := fn_D D_minus sc_minus fun cdv A outer s H E hr tk hp => b_minus g c_lowered cdv A outer s H E _ hr tk hp
  have c_minus : Callee (gx K) Pg w mg base "minus" 3 2 [] F_minus := ⟨⟨_, fd_minus, ["one", "other"], [], [], He.glo_ok X N (c.d.fact 12 (f := .glo "minus") rfl), D_minus.kp, o_minus, rfl, D_minus.bindsN fun _ _ _ _ _ _ us hl => (match us, hl with | [_, _], _ => rfl), .nil, fun _ _ _ => .nil⟩⟩
  have o_times : FnOk Pg w K mg base (L2.CX Pg w) 3 (He.ga K "times") fd_times ["one", "other"] (spD (gx K) 2 F_times) := fn_D D_times sc_times fun cdv A outer s H E hr tk hp => b_times g c_lowered cdv A outer s H E _ hr tk hp
  have c_times : Callee (gx K) Pg w mg base "times" 3 2 [] F_times := ⟨⟨_, fd_times, ["one", "other"], [], [], He.glo_ok X N (c.d.fact 13 (f := .glo "times") rfl), D_times.kp, o_times, rfl, D_times.bindsN fun _ _ _ _ _ _ us hl => (match us, hl with | [_, _], _ => rfl), .nil, fun _ _ _ => .nil⟩⟩
  have o_quarter_left : FnOk Pg w K mg base (L2.CX Pg w) 3 (He.ga K "quarter_left") fd_quarter_left ["one"] (spD (gx K) 1 F_quarter_left) := fn_D D_quarter_left sc_quarter_left fun cdv A outer s H E hr tk hp => b_quarter_left g c_negative cdv A outer s H E _ hr tk hp
  have c_quarter_left : Callee (gx K) Pg w mg base "quarter_left" 3 1 [] F_quarter_left := ⟨⟨_, fd_quarter_left, ["one"], [], [], He.glo_ok X N (c.d.fact 14 (f := .glo "quarter_left") rfl), D_quarter_left.kp, o_quarter_left, rfl, D_quarter_left.bindsN fun _ _ _ _ _ _ us hl => (match us, hl with | [_], _ => rfl), .nil, fun _ _ _ => .nil⟩⟩
  have o_compare_places : FnOk Pg w K mg base (L2.CX Pg w) 3 (He.ga K "compare_places") fd_compare_places ["one", "other"] (spD (gx K) 2 F_compare_places) := fn_D D_compare_places sc_compare_places fun cdv A outer s H E hr tk hp => b_compare_places g c_compare cdv A outer s H E _ hr tk hp
  have c_compare_places : Callee (gx K) Pg w mg base "compare_places" 3 2 [] F_compare_places := ⟨⟨_, fd_compare_places, ["one", "other"], [], [], He.glo_ok X N (c.d.fact 15 (f := .glo "compare_places") rfl), D_compare_places.kp, o_compare_places, rfl, D_compare_places.bindsN fun _ _ _ _ _ _ us hl => (match us, hl with | [_, _], _ => rfl), .nil, fun _ _ _ => .nil⟩⟩
  have o__law_draw : FnOk Pg w K mg base (L2.CX Pg w) 3 (He.ga K "_law_draw") fd__law_draw ["hand", "many"] (spD (gx K) 2 F__law_draw) := fn_D D__law_draw sc__law_draw fun cdv A outer s H E hr tk hp => b__law_draw g c__law_mix cdv A outer s H E _ hr tk hp
  have c__law_draw : Callee (gx K) Pg w mg base "_law_draw" 3 2 [] F__law_draw := ⟨⟨_, fd__law_draw, ["hand", "many"], [], [], He.glo_ok X N (c.d.fact 16 (f := .glo "_law_draw") rfl), D__law_draw.kp, o__law_draw, rfl, D__law_draw.bindsN fun _ _ _ _ _ _ us hl => (match us, hl with | [_, _], _ => rfl), .nil, fun _ _ _ => .nil⟩⟩
  have o__law_ratio : FnOk Pg w K mg base (L2.CX Pg w) 3 (He.ga K "_law_ratio") fd__law_ratio ["top", "bottom"] (spD (gx K) 2 F__law_ratio) := fn_D D__law_ratio sc__law_ratio fun cdv A outer s H E hr tk hp => b__law_ratio g c__law_gcd cdv A outer s H E _ hr tk hp
  have c__law_ratio : Callee (gx K) Pg w mg base "_law_ratio" 3 2 [] F__law_ratio := ⟨⟨_, fd__law_ratio, ["top", "bottom"], [], [], He.glo_ok X N (c.d.fact 17 (f := .glo "_law_ratio") rfl), D__law_ratio.kp, o__law_ratio, rfl, D__law_ratio.bindsN fun _ _ _ _ _ _ us hl => (match us, hl with | [_, _], _ => rfl), .nil, fun _ _ _ => .nil⟩⟩
  have o__law_both : FnOk Pg w K mg base (L2.CX Pg w) 3 (He.ga K "_law_both") fd__law_both ["told", "due"] (spD (gx K) 2 F__law_both) := fn_D D__law_both sc__law_both fun cdv A outer s H E hr tk hp => b__law_both g c__law_is cdv A outer s H E _ hr tk hp
  have c__law_both : Callee (gx K) Pg w mg base "_law_both" 3 2 [] F__law_both := ⟨⟨_, fd__law_both, ["told", "due"], [], [], He.glo_ok X N (c.d.fact 18 (f := .glo "_law_both") rfl), D__law_both.kp, o__law_both, rfl, D__law_both.bindsN fun _ _ _ _ _ _ us hl => (match us, hl with | [_, _], _ => rfl), .nil, fun _ _ _ => .nil⟩⟩
  have o__law_order : FnOk Pg w K mg base (L2.CX Pg w) 3 (He.ga K "_law_order") fd__law_order ["one", "other"] (spD (gx K) 2 F__law_order) := fn_D D__law_order sc__law_order fun cdv A outer s H E hr tk hp => b__law_order g c__law_compare cdv A outer s H E _ hr tk hp
  have c__law_order : Callee (gx K) Pg w mg base "_law_order" 3 2 [] F__law_order := ⟨⟨_, fd__law_order, ["one", "other"], [], [], He.glo_ok X N (c.d.fact 19 (f := .glo "_law_order") rfl), D__law_order.kp, o__law_order, rfl, D__law_order.bindsN fun _ _ _ _ _ _ us hl => (match us, hl with | [_, _], _ => rfl), .nil, fun _ _ _ => .nil⟩⟩
  have o_is_couple : FnOk Pg w K mg base (L2.CX Pg w) 4 (He.ga K "is_couple") fd_is_couple ["thing"] (spD (gx K) 1 F_is_couple) := fn_D D_is_couple sc_is_couple fun cdv A outer s H E hr tk hp => b_is_couple g c_is_ratio cdv A outer s H E _ hr tk hp
  have c_is_couple : Callee (gx K) Pg w mg base "is_couple" 4 1 [] F_is_couple := ⟨⟨_, fd_is_couple, ["thing"], [], [], He.glo_ok X N (c.d.fact 20 (f := .glo "is_couple") rfl), D_is_couple.kp, o_is_couple, rfl, D_is_couple.bindsN fun _ _ _ _ _ _ us hl => (match us, hl with | [_], _ => rfl), .nil, fun _ _ _ => .nil⟩⟩
  have o_place_plus : FnOk Pg w K mg base (L2.CX Pg w) 4 (He.ga K "place_plus") fd_place_plus ["one", "other"] (spD (gx K) 2 F_place_plus) := fn_D D_place_plus sc_place_plus fun cdv A outer s H E hr tk hp => b_place_plus g c_plus cdv A outer s H E _ hr tk hp
  have c_place_plus : Callee (gx K) Pg w mg base "place_plus" 4 2 [] F_place_plus := ⟨⟨_, fd_place_plus, ["one", "other"], [], [], He.glo_ok X N (c.d.fact 21 (f := .glo "place_plus") rfl), D_place_plus.kp, o_place_plus, rfl, D_place_plus.bindsN fun _ _ _ _ _ _ us hl => (match us, hl with | [_, _], _ => rfl), .nil, fun _ _ _ => .nil⟩⟩
  have o_place_minus : FnOk Pg w K mg base (L2.CX Pg w) 4 (He.ga K "place_minus") fd_place_minus ["one", "other"] (spD (gx K) 2 F_place_minus) := fn_D D_place_minus sc_place_minus fun cdv A outer s H E hr tk hp => b_place_minus g c_minus cdv A outer s H E _ hr tk hp
  have c_place_minus : Callee (gx K) Pg w mg base "place_minus" 4 2 [] F_place_minus := ⟨⟨_, fd_place_minus, ["one", "other"], [], [], He.glo_ok X N (c.d.fact 22 (f := .glo "place_minus") rfl), D_place_minus.kp, o_place_minus, rfl, D_place_minus.bindsN fun _ _ _ _ _ _ us hl => (match us, hl with | [_, _], _ => rfl), .nil, fun _ _ _ => .nil⟩⟩
  have o_place_scaled : FnOk Pg w K mg base (L2.CX Pg w) 4 (He.ga K "place_scaled") fd_place_scaled ["one", "by"] (spD (gx K) 2 F_place_scaled) := fn_D D_place_scaled sc_place_scaled fun cdv A outer s H E hr tk hp => b_place_scaled g c_times cdv A outer s H E _ hr tk hp
  have c_place_scaled : Callee (gx K) Pg w mg base "place_scaled" 4 2 [] F_place_scaled := ⟨⟨_, fd_place_scaled, ["one", "by"], [], [], He.glo_ok X N (c.d.fact 23 (f := .glo "place_scaled") rfl), D_place_scaled.kp, o_place_scaled, rfl, D_place_scaled.bindsN fun _ _ _ _ _ _ us hl => (match us, hl with | [_, _], _ => rfl), .nil, fun _ _ _ => .nil⟩⟩
  have o_dot_of : FnOk Pg w K mg base (L2.CX Pg w) 4 (He.ga K "dot_of") fd_dot_of ["one", "other"] (spD (gx K) 2 F_dot_of) := fn_D D_dot_of sc_dot_of fun cdv A outer s H E hr tk hp => b_dot_of g c_plus c_times cdv A outer s H E _ hr tk hp
  have c_dot_of : Callee (gx K) Pg w mg base "dot_of" 4 2 [] F_dot_of := ⟨⟨_, fd_dot_of, ["one", "other"], [], [], He.glo_ok X N (c.d.fact 24 (f := .glo "dot_of") rfl), D_dot_of.kp, o_dot_of, rfl, D_dot_of.bindsN fun _ _ _ _ _ _ us hl => (match us, hl with | [_, _], _ => rfl), .nil, fun _ _ _ => .nil⟩⟩
  have o_cross_of : FnOk Pg w K mg base (L2.CX Pg w) 4 (He.ga K "cross_of") fd_cross_of ["one", "other"] (spD (gx K) 2 F_cross_of) := fn_D D_cross_of sc_cross_of fun cdv A outer s H E hr tk hp => b_cross_of g c_minus c_times cdv A outer s H E _ hr tk hp
  have c_cross_of : Callee (gx K) Pg w mg base "cross_of" 4 2 [] F_cross_of := ⟨⟨_, fd_cross_of, ["one", "other"], [], [], He.glo_ok X N (c.d.fact 25 (f := .glo "cross_of") rfl), D_cross_of.kp, o_cross_of, rfl, D_cross_of.bindsN fun _ _ _ _ _ _ us hl => (match us, hl with | [_, _], _ => rfl), .nil, fun _ _ _ => .nil⟩⟩
  have o__law_plus : FnOk Pg w K mg base (L2.CX Pg w) 4 (He.ga K "_law_plus") fd__law_plus ["one", "other"] (spD (gx K) 2 F__law_plus) := fn_D D__law_plus sc__law_plus fun cdv A outer s H E hr tk hp => b__law_plus g c__law_ratio cdv A outer s H E _ hr tk hp
  have c__law_plus : Callee (gx K) Pg w mg base "_law_plus" 4 2 [] F__law_plus := ⟨⟨_, fd__law_plus, ["one", "other"], [], [], He.glo_ok X N (c.d.fact 26 (f := .glo "_law_plus") rfl), D__law_plus.kp, o__law_plus, rfl, D__law_plus.bindsN fun _ _ _ _ _ _ us hl => (match us, hl with | [_, _], _ => rfl), .nil, fun _ _ _ => .nil⟩⟩
  have o__law_minus : FnOk Pg w K mg base (L2.CX Pg w) 4 (He.ga K "_law_minus") fd__law_minus ["one", "other"] (spD (gx K) 2 F__law_minus) := fn_D D__law_minus sc__law_minus fun cdv A outer s H E hr tk hp => b__law_minus g c__law_ratio cdv A outer s H E _ hr tk hp
  have c__law_minus : Callee (gx K) Pg w mg base "_law_minus" 4 2 [] F__law_minus := ⟨⟨_, fd__law_minus, ["one", "other"], [], [], He.glo_ok X N (c.d.fact 27 (f := .glo "_law_minus") rfl), D__law_minus.kp, o__law_minus, rfl, D__law_minus.bindsN fun _ _ _ _ _ _ us hl => (match us, hl with | [_, _], _ => rfl), .nil, fun _ _ _ => .nil⟩⟩
  have o__law_times : FnOk Pg w K mg base (L2.CX Pg w) 4 (He.ga K "_law_times") fd__law_times ["one", "other"] (spD (gx K) 2 F__law_times) := fn_D D__law_times sc__law_times fun cdv A outer s H E hr tk hp => b__law_times g c__law_ratio cdv A outer s H E _ hr tk hp
  have c__law_times : Callee (gx K) Pg w mg base "_law_times" 4 2 [] F__law_times := ⟨⟨_, fd__law_times, ["one", "other"], [], [], He.glo_ok X N (c.d.fact 28 (f := .glo "_law_times") rfl), D__law_times.kp, o__law_times, rfl, D__law_times.bindsN fun _ _ _ _ _ _ us hl => (match us, hl with | [_, _], _ => rfl), .nil, fun _ _ _ => .nil⟩⟩
  have o__law_couple : FnOk Pg w K mg base (L2.CX Pg w) 4 (He.ga K "_law_couple") fd__law_couple ["hand", "before"] (spD (gx K) 2 F__law_couple) := fn_D D__law_couple sc__law_couple fun cdv A outer s H E hr tk hp => b__law_couple g c__law_draw c__law_ratio cdv A outer s H E _ hr tk hp
  have c__law_couple : Callee (gx K) Pg w mg base "_law_couple" 4 2 [] F__law_couple := ⟨⟨_, fd__law_couple, ["hand", "before"], [], [], He.glo_ok X N (c.d.fact 29 (f := .glo "_law_couple") rfl), D__law_couple.kp, o__law_couple, rfl, D__law_couple.bindsN fun _ _ _ _ _ _ us hl => (match us, hl with | [_, _], _ => rfl), .nil, fun _ _ _ => .nil⟩⟩
  have o_check_place : FnOk Pg w K mg base (L2.CX Pg w) 5 (He.ga K "check_place") fd_check_place ["place"] (spD (gx K) 1 F_check_place) := fn_D D_check_place sc_check_place fun cdv A outer s H E hr tk hp => b_check_place g c_is_couple cdv A outer s H E _ hr tk hp
  have c_check_place : Callee (gx K) Pg w mg base "check_place" 5 1 [] F_check_place := ⟨⟨_, fd_check_place, ["place"], [], [], He.glo_ok X N (c.d.fact 30 (f := .glo "check_place") rfl), D_check_place.kp, o_check_place, rfl, D_check_place.bindsN fun _ _ _ _ _ _ us hl => (match us, hl with | [_], _ => rfl), .nil, fun _ _ _ => .nil⟩⟩
  have o_mean_place : FnOk Pg w K mg base (L2.CX Pg w) 5 (He.ga K "mean_place") fd_mean_place ["places"] (spD (gx K) 1 F_mean_place) := fn_D D_mean_place sc_mean_place fun cdv A outer s H E hr tk hp => b_mean_place g c_make_ratio c_place_plus c_place_scaled cdv A outer s H E _ hr tk hp
  have c_mean_place : Callee (gx K) Pg w mg base "mean_place" 5 1 [] F_mean_place := ⟨⟨_, fd_mean_place, ["places"], [], [], He.glo_ok X N (c.d.fact 31 (f := .glo "mean_place") rfl), D_mean_place.kp, o_mean_place, rfl, D_mean_place.bindsN fun _ _ _ _ _ _ us hl => (match us, hl with | [_], _ => rfl), .nil, fun _ _ _ => .nil⟩⟩
  have o__law_add : FnOk Pg w K mg base (L2.CX Pg w) 5 (He.ga K "_law_add") fd__law_add ["one", "other"] (spD (gx K) 2 F__law_add) := fn_D D__law_add sc__law_add fun cdv A outer s H E hr tk hp => b__law_add g c__law_plus cdv A outer s H E _ hr tk hp
  have c__law_add : Callee (gx K) Pg w mg base "_law_add" 5 2 [] F__law_add := ⟨⟨_, fd__law_add, ["one", "other"], [], [], He.glo_ok X N (c.d.fact 32 (f := .glo "_law_add") rfl), D__law_add.kp, o__law_add, rfl, D__law_add.bindsN fun _ _ _ _ _ _ us hl => (match us, hl with | [_, _], _ => rfl), .nil, fun _ _ _ => .nil⟩⟩
  have o__law_less : FnOk Pg w K mg base (L2.CX Pg w) 5 (He.ga K "_law_less") fd__law_less ["one", "other"] (spD (gx K) 2 F__law_less) := fn_D D__law_less sc__law_less fun cdv A outer s H E hr tk hp => b__law_less g c__law_minus cdv A outer s H E _ hr tk hp
  have c__law_less : Callee (gx K) Pg w mg base "_law_less" 5 2 [] F__law_less := ⟨⟨_, fd__law_less, ["one", "other"], [], [], He.glo_ok X N (c.d.fact 33 (f := .glo "_law_less") rfl), D__law_less.kp, o__law_less, rfl, D__law_less.bindsN fun _ _ _ _ _ _ us hl => (match us, hl with | [_, _], _ => rfl), .nil, fun _ _ _ => .nil⟩⟩
  have o__law_scaled : FnOk Pg w K mg base (L2.CX Pg w) 5 (He.ga K "_law_scaled") fd__law_scaled ["one", "by"] (spD (gx K) 2 F__law_scaled) := fn_D D__law_scaled sc__law_scaled fun cdv A outer s H E hr tk hp => b__law_scaled g c__law_times cdv A outer s H E _ hr tk hp
  have c__law_scaled : Callee (gx K) Pg w mg base "_law_scaled" 5 2 [] F__law_scaled := ⟨⟨_, fd__law_scaled, ["one", "by"], [], [], He.glo_ok X N (c.d.fact 34 (f := .glo "_law_scaled") rfl), D__law_scaled.kp, o__law_scaled, rfl, D__law_scaled.bindsN fun _ _ _ _ _ _ us hl => (match us, hl with | [_, _], _ => rfl), .nil, fun _ _ _ => .nil⟩⟩
  have o__law_dot : FnOk Pg w K mg base (L2.CX Pg w) 5 (He.ga K "_law_dot") fd__law_dot ["one", "other"] (spD (gx K) 2 F__law_dot) := fn_D D__law_dot sc__law_dot fun cdv A outer s H E hr tk hp => b__law_dot g c__law_plus c__law_times cdv A outer s H E _ hr tk hp
  have c__law_dot : Callee (gx K) Pg w mg base "_law_dot" 5 2 [] F__law_dot := ⟨⟨_, fd__law_dot, ["one", "other"], [], [], He.glo_ok X N (c.d.fact 35 (f := .glo "_law_dot") rfl), D__law_dot.kp, o__law_dot, rfl, D__law_dot.bindsN fun _ _ _ _ _ _ us hl => (match us, hl with | [_, _], _ => rfl), .nil, fun _ _ _ => .nil⟩⟩
  have o__law_cross : FnOk Pg w K mg base (L2.CX Pg w) 5 (He.ga K "_law_cross") fd__law_cross ["one", "other"] (spD (gx K) 2 F__law_cross) := fn_D D__law_cross sc__law_cross fun cdv A outer s H E hr tk hp => b__law_cross g c__law_minus c__law_times cdv A outer s H E _ hr tk hp
  have c__law_cross : Callee (gx K) Pg w mg base "_law_cross" 5 2 [] F__law_cross := ⟨⟨_, fd__law_cross, ["one", "other"], [], [], He.glo_ok X N (c.d.fact 36 (f := .glo "_law_cross") rfl), D__law_cross.kp, o__law_cross, rfl, D__law_cross.bindsN fun _ _ _ _ _ _ us hl => (match us, hl with | [_, _], _ => rfl), .nil, fun _ _ _ => .nil⟩⟩
  have o__law_place_of : FnOk Pg w K mg base (L2.CX Pg w) 6 (He.ga K "_law_place_of") fd__law_place_of ["thing"] (spD (gx K) 1 F__law_place_of) := fn_D D__law_place_of sc__law_place_of fun cdv A outer s H E hr tk hp => b__law_place_of g c_check_place cdv A outer s H E _ hr tk hp
  have c__law_place_of : Callee (gx K) Pg w mg base "_law_place_of" 6 1 [] F__law_place_of := ⟨⟨_, fd__law_place_of, ["thing"], [], [], He.glo_ok X N (c.d.fact 37 (f := .glo "_law_place_of") rfl), D__law_place_of.kp, o__law_place_of, rfl, D__law_place_of.bindsN fun _ _ _ _ _ _ us hl => (match us, hl with | [_], _ => rfl), .nil, fun _ _ _ => .nil⟩⟩
  have o__law_mean : FnOk Pg w K mg base (L2.CX Pg w) 6 (He.ga K "_law_mean") fd__law_mean ["places"] (spD (gx K) 1 F__law_mean) := fn_D D__law_mean sc__law_mean fun cdv A outer s H E hr tk hp => b__law_mean g c__law_add c__law_scaled cdv A outer s H E _ hr tk hp
  have c__law_mean : Callee (gx K) Pg w mg base "_law_mean" 6 1 [] F__law_mean := ⟨⟨_, fd__law_mean, ["places"], [], [], He.glo_ok X N (c.d.fact 38 (f := .glo "_law_mean") rfl), D__law_mean.kp, o__law_mean, rfl, D__law_mean.bindsN fun _ _ _ _ _ _ us hl => (match us, hl with | [_], _ => rfl), .nil, fun _ _ _ => .nil⟩⟩
  have o__law_refusals : FnOk Pg w K mg base (L2.CX Pg w) 7 (He.ga K "_law_refusals") fd__law_refusals ["one", "whole"] (spD (gx K) 2 F__law_refusals) := fn_D D__law_refusals sc__law_refusals fun cdv A outer s H E hr tk hp => b__law_refusals g c__law_both c_is_couple c__law_place_of cdv A outer s H E _ hr tk hp
  have c__law_refusals : Callee (gx K) Pg w mg base "_law_refusals" 7 2 [] F__law_refusals := ⟨⟨_, fd__law_refusals, ["one", "whole"], [], [], He.glo_ok X N (c.d.fact 39 (f := .glo "_law_refusals") rfl), D__law_refusals.kp, o__law_refusals, rfl, D__law_refusals.bindsN fun _ _ _ _ _ _ us hl => (match us, hl with | [_, _], _ => rfl), .nil, fun _ _ _ => .nil⟩⟩
  have o_law : FnOk Pg w K mg base (L2.CX Pg w) 8 (He.ga K "law") fd_law ["script"] (spD (gx K) 1 F_law) := fn_D D_law sc_law fun cdv A outer s H E hr tk hp => b_law g c__law_hand c__law_is c_quarter_left c_compare_places c__law_draw c__law_ratio c__law_both c__law_order c_place_plus c_place_minus c_place_scaled c_dot_of c_cross_of c__law_times c__law_couple c_mean_place c__law_add c__law_less c__law_scaled c__law_dot c__law_cross c__law_mean c__law_refusals cdv A outer s H E _ hr tk hp
  exact o_law
end L_k02
open PySem PySem.W PySem.Calls PyProof.Rows
theorem PySem.Challenge.cw_firmstops_k02_whole_couples_reckoned_holds : PySem.Challenge.rw_firmstops_k02_whole_couples_reckoned.Holds := by
  w_on; o_law
  refine HandSHeadRun.head_imp (r := OpenLaw.row PySem.Challenge.rw_firmstops_k02_whole_couples_reckoned) (q := view (OpenLaw.row PySem.Challenge.rw_firmstops_k02_whole_couples_reckoned).prog L_k02.vw) (H := L_k02.hk) (ob := L_k02.ob) (M := 20000) (loose := L_k02.loose) (d := HandSHeadRun.topDef (OpenLaw.row PySem.Challenge.rw_firmstops_k02_whole_couples_reckoned).prog 49) (kwd := []) L_k02.ob_eq
    L_k02.run (by kernel_rfl) (by kernel_rfl) (by kernel_rfl) (by rfl) (by first | assumption | decide +kernel) (by decide +kernel) ⟨rfl, rfl, rfl, rfl, rfl, by decide +kernel⟩ ?hw ?hc
  case hw => w_witness2
  case hc =>
    refine Dl.walk_D (l := PySem.Challenge.rw_firmstops_k02_whole_couples_reckoned) (n := 63) (k := 8) (x := "script") rfl (by decide) (by kernel_rfl) ⟨rfl, by decide, by decide⟩ ?F
    intro w mg fa h Y G hmg0
    obtain ⟨K, KX, c⟩ := Y
    have hmg : mg ("law" : PySem.Str) = some (.ref fa) := by
      have e : (HandSHeadRun.topDef (OpenLaw.row PySem.Challenge.rw_firmstops_k02_whole_couples_reckoned).prog 49).name = ("law" : PySem.Str) := by kernel_rfl
      rw [← e]
      exact hmg0
    obtain ⟨fd, e1, hb, hF⟩ := L_k02.law_ok (w := w) KX G c
    have e2 := hmg.symm.trans e1
    cases e2
    exact ⟨K, fd, Dl.spD (L_k02.gx K) 1 L_k02.F_law, KX, hb, fun H a ns hl o hS => Dl.sp_law (L_k02.plain ns hl) o hS, fun base _ _ => hF base⟩
