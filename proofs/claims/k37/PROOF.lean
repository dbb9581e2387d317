import PyProof.Rows.All
import Wide.All
import OpenK.AllK
import Wide.FinOn
import HandS.Base
import HandS.Call
import HandS.List
import HandS.Comp
import HandS.Ends
import HandS.Dict
import HandS.Iter
import HandS.Text
import HandS.Words
import HandS.WordsList
import HandS.Exc
import HandS.TryOnly
import HandS.ExcOwn
import HandS.Defaults
import HandS.Lambda
import HandS.Flow
import HandS.RaiseOp
import HandS.TryElse
import HandS.Wide
import HandS.StrMore
import HandS.StrSplit
import HandS.WordsExc
import HandS.Strs
import HandS.IsInst
import HandS.SetFor
import KE.KStateDown
import HandS.Head0
import HandS.Head1
import HandS.Head2
import HandS.HeadEnd
import HandS.HeadHook1
import HandS.HeadHook2
import PyProof.Rows.RegReprOcc
import PyProof.StrOps2
import HandS.ExcIs
import HandS.TryMany
import KE.KExcMore
import HandS.Deep
import PyProof.Draws
import PyProof.EnumMake
import PyProof.LongRange
import KE.GoesZip
import KE.GoesMore
import HandS.RevTup
import HandS.Small
import HandS.Conv
import HandS.Rev
import KE.SortKeyHeap
import HandS.Nested
import HandS.Sort
import HandS.HeadWalk
import HandS.HeadHook4
import HandS.More
import HandS.WideBits
import PyProof.ListIndexNeg
import KE.DataCmp
import KE.SortData
import PySem.Challenge.RW_heddle_k37_no_shuttle
set_option Elab.async false
set_option linter.all false
set_option maxRecDepth 100000
set_option maxHeartbeats 0
set_option exponentiation.threshold 20000
namespace Hd
open PySem PySem.Spec L2

/-- the classes of refusals -/
inductive Ec where
  | weave | noRow | tooLarge | noCloth | noDraft | noStrand | noDeed | noLaying | noShuttle | noColour | noBlock | noPattern | unknown | twice
  deriving DecidableEq, Repr

/-- what a piece of the program comes to: a value, a refusal, or nothing that is promised here -/
inductive M (α : Type) where
  | ok (a : α)
  | ex (c : Ec)
  | no
def M.bind {α β : Type} : M α → (α → M β) → M β
  | .ok a, f => f a
  | .ex c, _ => .ex c
  | .no, _ => .no
/-- where nothing can be let out -/
def M.nox {α : Type} : M α → M α
  | .ok a => .ok a
  | _ => .no
@[simp] theorem M.bind_ok {α β : Type} (a : α) (f : α → M β) : M.bind (.ok a) f = f a := rfl
@[simp] theorem M.bind_ex {α β : Type} (c : Ec) (f : α → M β) : M.bind (.ex c) f = .ex c := rfl
@[simp] theorem M.bind_no {α β : Type} (f : α → M β) : M.bind .no f = .no := rfl
@[simp] theorem M.nox_ok {α : Type} (a : α) : M.nox (.ok a) = .ok a := rfl

/-- all but the tables of code objects -/
def nt : HO → Bool
  | .tbl _ => false
  | _ => true
def cl (H : Hp) : Hp := fun a => match H a with
  | some (.tbl _) => none
  | x => x
theorem cl_of {H : Hp} {a : Addr} {o : HO} (h : H a = some o) (n : nt o = true := by rfl) : cl H a = some o := by
  unfold cl; rw [h]; cases o <;> first | rfl | cases n
theorem cl_raw {H : Hp} {a : Addr} {o : HO} (h : cl H a = some o) : H a = some o := by
  unfold cl at h; split at h <;> first | exact h | cases h
theorem cl_nt {H : Hp} {a : Addr} {o : HO} (h : cl H a = some o) : nt o = true := by
  unfold cl at h
  split at h
  · cases h
  · rename_i x hx
    cases o <;> first | rfl | exact absurd h (hx _)
theorem cl_none {H : Hp} {a : Addr} (h : H a = none) : cl H a = none := by unfold cl; rw [h]
theorem cl_upd_ne {H : Hp} {a q : Addr} {o : HO} (h : a ≠ q) : cl (upd H q o) a = cl H a := by unfold cl; rw [upd_ne h]
/-- the one lambda of the program: its name -/
def lamQ : Str := "by_count.<locals>.<lambda>"
/-- a later heap: tables may have grown -/
structure Same (H H' : Hp) : Prop where
  keep : ∀ a o, H a = some o → nt o = true → H' a = some o
  fr : ∀ a, H' a = none → H a = none
  tab : ∀ P, LamX.TabS H P lamQ → LamX.TabS H' P lamQ
theorem Same.of {H H' : Hp} (h : L2.Same H H') : Same H H' := ⟨fun a o e _ => h a o e, fun a e => h.free e, fun P t => t.ext h⟩
theorem Same.refl (H : Hp) : Same H H := .of (L2.Same.refl H)
theorem Same.trans {H H1 H2 : Hp} (a : Same H H1) (b : Same H1 H2) : Same H H2 := ⟨fun x o e n => b.keep x o (a.keep x o e n) n, fun x e => a.fr x (b.fr x e), fun P t => b.tab P (a.tab P t)⟩
theorem Same.free {H H' : Hp} (s : Same H H') {l : Addr} (h : H' l = none) : H l = none := s.fr l h
theorem Same.cl {H H' : Hp} (s : Same H H') : L2.Same (cl H) (cl H') := fun a o e => cl_of (s.keep a o (cl_raw e) (cl_nt e)) (cl_nt e)
/-- a thing of one's own is written -/
theorem Same.wr {H0 H : Hp} {q : Addr} {o u : HO} (s : Same H0 H) (n0 : H0 q = none) (hq : H q = some u) (hu : ∀ φ, u ≠ .ext φ) (hn : nt u = true) : Same H0 (upd H q o) := by
  refine ⟨fun a o' e n => ?_, fun a e => ?_, fun P t => ?_⟩
  · rw [upd_ne (ne_of_none e n0)]; exact s.keep a o' e n
  · by_cases z : a = q
    · rw [z, upd_same] at e; cases e
    · rw [upd_ne z] at e; exact s.fr a e
  · obtain ⟨ps, h1, h2, h3⟩ := s.tab P t
    have np : P ≠ q := fun z => by rw [z, hq] at h1; cases h1; cases hn
    refine ⟨ps, by rw [upd_ne np]; exact h1, h2, fun pos cv hc => ?_⟩
    obtain ⟨c, e1, e2⟩ := h3 pos cv hc
    have nc : c ≠ q := fun z => by rw [z, hq] at e2; exact hu _ (Option.some.inj e2)
    exact ⟨c, e1, by rw [upd_ne nc]; exact e2⟩
/-- what may be read -/
abbrev RdR := Addr → HO → Prop
/-- data of a kind, and how a value of the program stands for it -/
structure Ty (α : Type) where
  rep : α → V → RdR → Prop
  mono : ∀ {d v} {R R' : RdR}, rep d v R → (∀ a o, R a o → R' a o) → rep d v R'

inductive Reps {α : Type} (T : Ty α) (R : RdR) : List α → List V → Prop where
  | nil : Reps T R [] []
  | cons {d ds v vs} : T.rep d v R → Reps T R ds vs → Reps T R (d :: ds) (v :: vs)
section
variable {α : Type} {T : Ty α} {R R' : RdR} {ds es : List α} {vs ws : List V}
theorem Reps.mono (h : Reps T R ds vs) (s : ∀ a o, R a o → R' a o) : Reps T R' ds vs := by
  induction h with
  | nil => exact .nil
  | cons r _ ih => exact .cons (T.mono r s) ih
theorem Reps.length (h : Reps T R ds vs) : ds.length = vs.length := by
  induction h with
  | nil => rfl
  | cons _ _ ih => simp [ih]
theorem Reps.append (h : Reps T R ds vs) (k : Reps T R es ws) : Reps T R (ds ++ es) (vs ++ ws) := by
  induction h with
  | nil => exact k
  | cons r _ ih => exact .cons r ih
theorem Reps.get (h : Reps T R ds vs) : ∀ {i : Nat} {d : α}, ds[i]? = some d → ∃ v, vs[i]? = some v ∧ T.rep d v R := by
  induction h with
  | nil => intro i d e; simp at e
  | cons r _ ih =>
    intro i d e
    cases i with
    | zero => simp at e; subst e; exact ⟨_, rfl, r⟩
    | succ i => obtain ⟨v, e1, r1⟩ := ih (i := i) (d := d) (by simpa using e); exact ⟨v, by simpa using e1, r1⟩
theorem Reps.get' (h : Reps T R ds vs) : ∀ {i : Nat} {v : V}, vs[i]? = some v → ∃ d, ds[i]? = some d ∧ T.rep d v R := by
  induction h with
  | nil => intro i d e; simp at e
  | cons r _ ih =>
    intro i d e
    cases i with
    | zero => simp at e; subst e; exact ⟨_, rfl, r⟩
    | succ i => obtain ⟨v, e1, r1⟩ := ih (i := i) (v := d) (by simpa using e); exact ⟨v, by simpa using e1, r1⟩
theorem Reps.set {d : α} {v : V} (h : Reps T R ds vs) (r : T.rep d v R) : ∀ (i : Nat), Reps T R (ds.set i d) (vs.set i v) := by
  induction h with
  | nil => intro i; exact .nil
  | cons q t ih =>
    intro i
    cases i with
    | zero => exact .cons r t
    | succ i => exact .cons q (ih i)
theorem Reps.take (h : Reps T R ds vs) : ∀ n, Reps T R (ds.take n) (vs.take n) := by
  induction h with
  | nil => intro n; simp; exact .nil
  | cons r _ ih => intro n; cases n with
    | zero => exact .nil
    | succ n => exact .cons r (ih n)
theorem Reps.drop (h : Reps T R ds vs) : ∀ n, Reps T R (ds.drop n) (vs.drop n) := by
  induction h with
  | nil => intro n; simp; exact .nil
  | cons r t ih => intro n; cases n with
    | zero => exact .cons r t
    | succ n => exact ih n
theorem Reps.reverse (h : Reps T R ds vs) : Reps T R ds.reverse vs.reverse := by
  induction h with
  | nil => exact .nil
  | cons r _ ih => rw [List.reverse_cons, List.reverse_cons]; exact ih.append (.cons r .nil)
theorem Reps.dropLast (h : Reps T R ds vs) : Reps T R ds.dropLast vs.dropLast := by
  rw [List.dropLast_eq_take, List.dropLast_eq_take, h.length]; exact h.take _
end

/-! ### kinds of data -/
def tInt : Ty Int := ⟨fun n v _ => v = .int n, fun h _ => h⟩
def tBool : Ty Bool := ⟨fun b v _ => v = .bl b, fun h _ => h⟩
/-- a text, as its signs -/
abbrev Tx := List Nat
def toS (x : Tx) : Str := ⟨x.toArray⟩
/-- short enough, of signs -/
def OkTx (x : Tx) : Prop := x.length ≤ sizeLine ∧ ∀ c ∈ x, c < 0x110000
def tStr : Ty Tx := ⟨fun x v _ => v = .str (toS x) ∧ OkTx x, fun h _ => h⟩
def tNone : Ty Unit := ⟨fun _ v _ => v = .non, fun h _ => h⟩
def tOpt {α : Type} (T : Ty α) : Ty (Option α) := ⟨fun d v R => match d with | none => v = .non | some d => T.rep d v R ∧ v ≠ .non, fun {d v R R'} h s => by
  cases d with
  | none => exact h
  | some d => exact ⟨T.mono h.1 s, h.2⟩⟩
def tList {α : Type} (T : Ty α) : Ty (List α) := ⟨fun ds v R => ∃ a vs, v = .ref a ∧ R a (.lst vs) ∧ Reps T R ds vs, fun ⟨a, vs, e, r, h⟩ s => ⟨a, vs, e, s _ _ r, h.mono s⟩⟩
/-- a tuple of any length -/
def tTupL {α : Type} (T : Ty α) : Ty (List α) := ⟨fun ds v R => ∃ a vs, v = .ref a ∧ R a (.tup vs) ∧ Reps T R ds vs, fun ⟨a, vs, e, r, h⟩ s => ⟨a, vs, e, s _ _ r, h.mono s⟩⟩
/-- the written items of a list, an argument list, a tuple -/
structure Ar (δ : Type) where
  rep : δ → List V → RdR → Prop
  mono : ∀ {d vs} {R R' : RdR}, rep d vs R → (∀ a o, R a o → R' a o) → rep d vs R'
def aNil : Ar Unit := ⟨fun _ vs _ => vs = [], fun h _ => h⟩
def aCons {α β : Type} (T : Ty α) (A : Ar β) : Ar (α × β) := ⟨fun d vs R => ∃ v r, vs = v :: r ∧ T.rep d.1 v R ∧ A.rep d.2 r R, fun ⟨v, r, e, h1, h2⟩ s => ⟨v, r, e, T.mono h1 s, A.mono h2 s⟩⟩
/-- a tuple of written items -/
def tTup {δ : Type} (A : Ar δ) : Ty δ := ⟨fun d v R => ∃ a vs, v = .ref a ∧ R a (.tup vs) ∧ A.rep d vs R, fun ⟨a, vs, e, r, h⟩ s => ⟨a, vs, e, s _ _ r, A.mono h s⟩⟩
abbrev tPair {α β : Type} (S : Ty α) (T : Ty β) : Ty (α × β × Unit) := tTup (aCons S (aCons T aNil))
abbrev tTrip {α β γ : Type} (S : Ty α) (T : Ty β) (U : Ty γ) : Ty (α × β × γ × Unit) := tTup (aCons S (aCons T (aCons U aNil)))
/-- all items of one kind -/
def aAll {α : Type} (T : Ty α) : Ar (List α) := ⟨fun ds vs R => Reps T R ds vs, fun h s => h.mono s⟩

/-! ### what may be read where -/
/-- a tuple of the written part -/
def KObj (K : PySem.W.Frag) (a : Addr) : HO → Prop
  | .tup xs => ∃ (o : Obj) (its : Array Value) (n : Nat), K.lookup a = some o ∧ o.cls = .type "tuple" ∧ o.data = .seq its n ∧ its.size ≤ sizeLine ∧ Vals xs its.toList
  | _ => False
/-- a def's frame: the heap it began with; the callers' own things, which its arguments don't reach -/
structure Fm where
  K : PySem.W.Frag
  H0 : Hp
  z : Addr → Prop
/-- how new a thing is: sh: it may be shared; f0: made since the def began; fx: made since the expression began -/
inductive Md where | sh | f0 | fx
def RD (fm : Fm) (own : List Addr) (H : Hp) : RdR := fun a o => (Rd (cl H) a o ∧ a ∉ own ∧ ¬ fm.z a) ∨ KObj fm.K a o
/-- .. at H' behind an expression that began at H -/
def RX (fm : Fm) (own : List Addr) (H H' : Hp) : Md → RdR
  | .sh => RD fm own H'
  | .f0 => fun a o => cl H' a = some o ∧ a ∉ own ∧ ¬ fm.z a ∧ fm.H0 a = none
  | .fx => fun a o => cl H' a = some o ∧ a ∉ own ∧ ¬ fm.z a ∧ fm.H0 a = none ∧ H a = none
theorem Rd.clo {H : Hp} {a : Addr} {o : HO} (r : Rd H a o) (n : nt o = true := by rfl) : Rd (cl H) a o := r.imp (fun h => cl_of h n) fun ⟨f, h⟩ => ⟨f, cl_of h⟩
theorem Rd.raw {H : Hp} {a : Addr} {o : HO} (r : Rd (cl H) a o) : Rd H a o := r.imp cl_raw fun ⟨f, h⟩ => ⟨f, cl_raw h⟩
theorem Rd.same {H H' : Hp} {a : Addr} {o : HO} (s : Same H H') (r : Rd (cl H) a o) : Rd (cl H') a o := by
  rcases r with r | ⟨f, r⟩
  · exact .inl (s.cl _ _ r)
  · exact .inr ⟨f, s.cl _ _ r⟩
theorem Rd.some {H : Hp} {a : Addr} {o : HO} (r : Rd H a o) : H a ≠ none := by
  rcases r with r | ⟨f, r⟩ <;> rw [r] <;> exact fun e => by cases e
theorem RD.same {fm : Fm} {own : List Addr} {H H' : Hp} (s : Same H H') : ∀ a o, RD fm own H a o → RD fm own H' a o := fun _ _ r => r.imp (fun ⟨r, h⟩ => ⟨Rd.same s r, h⟩) id
theorem RX.same {fm : Fm} {own : List Addr} {H H1 H2 : Hp} {md : Md} (s : Same H1 H2) : ∀ a o, RX fm own H H1 md a o → RX fm own H H2 md a o := fun a o r => by
  cases md with
  | sh => exact RD.same s a o r
  | f0 => exact ⟨s.cl _ _ r.1, r.2⟩
  | fx => exact ⟨s.cl _ _ r.1, r.2⟩
/-- from a later beginning -/
theorem RX.later {fm : Fm} {own : List Addr} {H H1 H2 : Hp} {md : Md} (s : Same H H1) : ∀ a o, RX fm own H1 H2 md a o → RX fm own H H2 md a o := fun a o r => by
  cases md with
  | sh => exact r
  | f0 => exact r
  | fx => exact ⟨r.1, r.2.1, r.2.2.1, r.2.2.2.1, s.free r.2.2.2.2⟩
theorem RX.sh {fm : Fm} {own : List Addr} {H H' : Hp} {md : Md} : ∀ a o, RX fm own H H' md a o → RX fm own H H' .sh a o := fun a o r => by
  cases md with
  | sh => exact r
  | f0 => exact .inl ⟨.inl r.1, r.2.1, r.2.2.1⟩
  | fx => exact .inl ⟨.inl r.1, r.2.1, r.2.2.1⟩
theorem RX.f0 {fm : Fm} {own : List Addr} {H H' : Hp} : ∀ a o, RX fm own H H' .fx a o → RX fm own H H' .f0 a o := fun a o r => ⟨r.1, r.2.1, r.2.2.1, r.2.2.2.1⟩
theorem RX.fx {fm : Fm} {own : List Addr} {H H' : Hp} (md : Md) : ∀ a o, RX fm own H H' .fx a o → RX fm own H H' md a o := fun a o r => by
  cases md with
  | sh => exact RX.sh a o r
  | f0 => exact RX.f0 a o r
  | fx => exact r
/-- what can be read is there -/
theorem RX.list {fm : Fm} {own : List Addr} {H H' : Hp} {md : Md} {a : Addr} {vs : List V} (r : RX fm own H H' md a (.lst vs)) : SqL fm.K H' a vs := by
  rcases RX.sh a _ r with r | r
  · exact .inl (Rd.raw r.1)
  · exact r.elim
theorem RX.tup {fm : Fm} {own : List Addr} {H H' : Hp} {md : Md} {a : Addr} {vs : List V} (r : RX fm own H H' md a (.tup vs)) : SqT fm.K H' a vs := by
  rcases RX.sh a _ r with r | r
  · exact .inl (Rd.raw r.1)
  · exact .inr r

/-! ### slots -/
structure Slot where
  ok : Option V → Hp → (Bool → RdR) → List Addr → Prop
  st : ∀ {v H H' F} {R R' : Bool → RdR}, ok v H R F → (∀ b a o, R b a o → R' b a o) → (∀ p ∈ F, H' p = H p) → ok v H' R' F
  tb : ∀ {v H F} {R : Bool → RdR}, ok v H R F → ∀ p ∈ F, cl H p ≠ none
/-- nothing is known of it -/
def sAny : Slot := ⟨fun _ _ _ F => F = [], fun h _ _ => h, fun h p hp => by subst h; exact nomatch hp⟩
/-- a value (b: made since the def began) -/
def sV {α : Type} (b : Bool) (T : Ty α) (d : α) : Slot := ⟨fun v _ R F => F = [] ∧ ∃ x, v = some x ∧ T.rep d x (R b), fun ⟨e, x, h, r⟩ s _ => ⟨e, x, h, T.mono r (s b)⟩, fun ⟨e, _⟩ p hp => by subst e; exact nomatch hp⟩
/-- a list of one's own, which may be changed -/
def sOwn {α : Type} (b : Bool) (T : Ty α) (ds : List α) : Slot := ⟨fun v H R F => ∃ p xs, v = some (.ref p) ∧ F = [p] ∧ H p = some (.lst xs) ∧ Reps T (R b) ds xs,
  fun ⟨p, xs, e, f, h, r⟩ s k => ⟨p, xs, e, f, by rw [k p (by simp [f])]; exact h, r.mono (s b)⟩, fun ⟨p, xs, e, f, h, r⟩ q hq => by subst f; rw [List.mem_singleton.mp hq, cl_of h]; exact fun z => nomatch z⟩
inductive AllS (H : Hp) (R : Bool → RdR) : List Slot → L2.St → List (List Addr) → Prop where
  | nil : AllS H R [] [] []
  | cons {s L v σ F Fs} : s.ok v H R F → AllS H R L σ Fs → AllS H R (s :: L) (v :: σ) (F :: Fs)
def RB (fm : Fm) (own : List Addr) (H : Hp) (b : Bool) : RdR := RX fm own H H (if b then .f0 else .sh)
section
variable {H H' : Hp} {R R' : Bool → RdR} {L : List Slot} {σ : L2.St} {Fs : List (List Addr)}
theorem AllS.st (h : AllS H R L σ Fs) (s : ∀ b a o, R b a o → R' b a o) (k : ∀ p ∈ Fs.flatten, H' p = H p) : AllS H' R' L σ Fs := by
  induction h with
  | nil => exact .nil
  | @cons sl L v σ F Fs r t ih =>
    exact .cons (sl.st r s fun p hp => k p (by simp [hp])) (ih fun p hp => k p (by simp only [List.flatten_cons, List.mem_append]; exact .inr hp))
theorem AllS.tb (h : AllS H R L σ Fs) : ∀ p ∈ Fs.flatten, cl H p ≠ none := by
  induction h with
  | nil => intro p hp; simp at hp
  | @cons s L v σ F Fs r _ ih =>
    intro p hp
    rw [List.flatten_cons, List.mem_append] at hp
    exact hp.elim (s.tb r p) (ih p)
theorem AllS.len (h : AllS H R L σ Fs) : σ.length = L.length := by
  induction h with
  | nil => rfl
  | cons _ _ ih => simp [ih]
theorem AllS.get (h : AllS H R L σ Fs) : ∀ {i : Nat} {s : Slot}, L[i]? = some s → ∃ v F, σ[i]? = some v ∧ Fs[i]? = some F ∧ s.ok v H R F := by
  induction h with
  | nil => intro i s e; simp at e
  | cons r _ ih =>
    intro i s e
    cases i with
    | zero => simp at e; subst e; exact ⟨_, _, rfl, rfl, r⟩
    | succ i => obtain ⟨v, F, e1, e2, r1⟩ := ih (i := i) (s := s) (by simpa using e); exact ⟨v, F, by simpa using e1, by simpa using e2, r1⟩
theorem AllS.set (h : AllS H R L σ Fs) {s : Slot} {v : Option V} {F : List Addr} (r : s.ok v H R F) : ∀ (i : Nat), AllS H R (L.set i s) (σ.set i v) (Fs.set i F) := by
  induction h with
  | nil => intro i; exact .nil
  | cons q t ih =>
    intro i
    cases i with
    | zero => exact .cons r t
    | succ i => exact .cons q (ih i)
end

/-- where a def's body stands: its frame, its slots, what it owns, what is kept readable -/
structure At (fm : Fm) (kp : RdR) (L : List Slot) (σ : L2.St) (H : Hp) (own : List Addr) : Prop where
  same : Same fm.H0 H
  zin : ∀ a, fm.z a → H a ≠ none
  sl : ∃ Fs, AllS H (RB fm own H) L σ Fs ∧ own = Fs.flatten
  nd : own.Nodup
  new : ∀ p ∈ own, H p ≠ none ∧ fm.H0 p = none ∧ ¬ fm.z p
  kept : ∀ a o, kp a o → RD fm own H a o
theorem RB.same {fm : Fm} {own : List Addr} {H H' : Hp} (s : Same H H') : ∀ b a o, RB fm own H b a o → RB fm own H' b a o := fun b a o r => by
  unfold RB at r ⊢
  cases b <;> exact RX.same s a o r
section
variable {fm : Fm} {kp : RdR} {L : List Slot} {σ : L2.St} {H H' : Hp} {own : List Addr}
theorem At.ext (h : At fm kp L σ H own) (s : Same H H') : At fm kp L σ H' own := by
  obtain ⟨h1, h2, ⟨Fs, h3, e⟩, h4, h5, h6⟩ := h
  refine ⟨h1.trans s, fun a z n => h2 a z (s.free n), ⟨Fs, h3.st (RB.same s) fun p hp => ?_, e⟩, h4, fun p hp => ?_, fun a o k => RD.same s a o (h6 a o k)⟩
  · obtain ⟨q, _⟩ := h5 p (by rw [e]; exact hp)
    cases r : cl H p with
    | none => exact absurd r (h3.tb p hp)
    | some o => rw [cl_raw r]; exact s.keep _ _ (cl_raw r) (cl_nt r)
  · obtain ⟨q, q2⟩ := h5 p hp
    refine ⟨fun z => q (s.free z), q2⟩
end

/-! ### weakening -/
/-- some slots forgotten -/
inductive Wk : List Slot → List Slot → Prop where
  | n : Wk [] []
  | s {s L L'} : Wk L L' → Wk (s :: L) (s :: L')
  | a {s L L'} : Wk L L' → Wk (s :: L) (sAny :: L')
theorem Wk.refl : ∀ L, Wk L L
  | [] => .n
  | _ :: L => .s (Wk.refl L)
theorem Wk.anys : ∀ {L : List Slot} {n : Nat}, L.length = n → Wk L (List.replicate n sAny)
  | [], _, e => by subst e; exact .n
  | _ :: L, _, e => by subst e; exact Wk.a (Wk.anys (L := L) rfl)
theorem RX.own {fm : Fm} {own own' : List Addr} {H H' : Hp} {md : Md} (k : ∀ p ∈ own', p ∈ own) : ∀ a o, RX fm own H H' md a o → RX fm own' H H' md a o := fun a o r => by
  cases md with
  | sh => exact r.imp (fun ⟨h1, h2, h3⟩ => ⟨h1, fun q => h2 (k a q), h3⟩) id
  | f0 => exact ⟨r.1, fun q => r.2.1 (k a q), r.2.2⟩
  | fx => exact ⟨r.1, fun q => r.2.1 (k a q), r.2.2⟩
theorem RB.own {fm : Fm} {own own' : List Addr} {H : Hp} (k : ∀ p ∈ own', p ∈ own) : ∀ b a o, RB fm own H b a o → RB fm own' H b a o := fun _ a o r => RX.own k a o r
theorem wk_fs {H : Hp} {R : Bool → RdR} {L L' : List Slot} (w : Wk L L') : ∀ {σ : L2.St} {Fs : List (List Addr)}, AllS H R L σ Fs → ∃ Fs', AllS H R L' σ Fs' ∧ List.Sublist Fs'.flatten Fs.flatten := by
  induction w with
  | n => intro σ Fs h; exact ⟨Fs, h, List.Sublist.refl _⟩
  | s _ ih =>
    intro σ Fs h
    cases h with
    | @cons _ _ _ _ F _ r t =>
      obtain ⟨Fs', h', k⟩ := ih t
      exact ⟨F :: Fs', .cons r h', by simpa using List.Sublist.append (List.Sublist.refl F) k⟩
  | a _ ih =>
    intro σ Fs h
    cases h with
    | @cons _ _ _ _ F _ r t =>
      obtain ⟨Fs', h', k⟩ := ih t
      exact ⟨[] :: Fs', .cons rfl h', by simpa using List.Sublist.trans k (List.sublist_append_right F _)⟩
section
variable {fm : Fm} {kp kp' : RdR} {L L' : List Slot} {σ : L2.St} {H H' : Hp} {own : List Addr}
theorem At.weak (h : At fm kp L σ H own) (w : Wk L L') : ∃ own', At fm kp L' σ H own' ∧ ∀ p ∈ own', p ∈ own := by
  obtain ⟨h1, h2, ⟨Fs, h3, rfl⟩, h4, h5, h6⟩ := h
  obtain ⟨Fs', h7, k⟩ := wk_fs w h3
  have kk : ∀ p ∈ Fs'.flatten, p ∈ Fs.flatten := fun p hp => k.subset hp
  exact ⟨_, ⟨h1, h2, ⟨Fs', h7.st (RB.own kk) fun _ _ => rfl, rfl⟩, h4.sublist k, fun p hp => h5 p (kk p hp), fun a o q => RX.own (md := .sh) (H := H) kk a o (h6 a o q)⟩, kk⟩
theorem At.keep (h : At fm kp L σ H own) (k : ∀ a o, kp' a o → kp a o) : At fm kp' L σ H own := ⟨h.same, h.zin, h.sl, h.nd, h.new, fun a o q => h.kept a o (k a o q)⟩
/-- the slots' count -/
theorem At.len (h : At fm kp L σ H own) : σ.length = L.length := by
  obtain ⟨_, h3, _⟩ := h.sl
  exact h3.len
/-- a slot that owns nothing is set to a thing that owns nothing -/
theorem set_same_nil {Fs : List (List Addr)} : ∀ {i : Nat}, Fs[i]? = some [] → (Fs.set i []).flatten = Fs.flatten := by
  induction Fs with
  | nil => intro i _; rfl
  | cons F Fs ih =>
    intro i e
    cases i with
    | zero => simp at e; subst e; rfl
    | succ i => simp only [List.set_cons_succ, List.flatten_cons]; rw [ih (by simpa using e)]
theorem set_sub {Fs : List (List Addr)} : ∀ {i : Nat}, List.Sublist (Fs.set i []).flatten Fs.flatten := by
  induction Fs with
  | nil => intro i; exact List.Sublist.refl _
  | cons F Fs ih =>
    intro i
    cases i with
    | zero => simpa using List.sublist_append_right F _
    | succ i => simpa using List.Sublist.append (List.Sublist.refl F) (ih (i := i))
theorem At.setV {i : Nat} {b : Bool} {α : Type} {T : Ty α} {d : α} {v : V} (h : At fm kp L σ H own) (r : T.rep d v (RB fm own H b)) : ∃ own', At fm kp (L.set i (sV b T d)) (σ.set i (some v)) H own' := by
  obtain ⟨h1, h2, ⟨Fs, h3, rfl⟩, h4, h5, h6⟩ := h
  have kk : ∀ p ∈ (Fs.set i []).flatten, p ∈ Fs.flatten := fun p hp => (set_sub (i := i)).subset hp
  refine ⟨_, h1, h2, ⟨Fs.set i [], (h3.st (RB.own kk) fun _ _ => rfl).set (s := sV b T d) ⟨rfl, v, rfl, T.mono r (RB.own kk b)⟩ i, rfl⟩, h4.sublist set_sub, fun p hp => h5 p (kk p hp), fun a o q => RX.own (md := .sh) (H := H) kk a o (h6 a o q)⟩
end

/-! ### judgements -/
/-- what is wanted of a refusal -/
abbrev Wx := Ec → L2.St → Hp → Prop
structure G where
  X : Cx
  fm : Fm
  W : Wx
  LX : List Slot
/-- an expression that is worth m, told as T; md: how new it is -/
def tE (fm : Fm) (W : Wx) (L : List Slot) (md : Md) {α : Type} (T : Ty α) (m : M α) : TE := fun σ H Q => ∃ kp own, At fm kp L σ H own ∧
  match m with
  | .ok d => ∀ v H', Same H H' → T.rep d v (RX fm own H H' md) → Q v H'
  | .ex c => ∀ H', Same H H' → W c σ H'
  | .no => False
def tT (fm : Fm) (W : Wx) (L : List Slot) (m : M Bool) : TT := fun σ H Q => ∃ kp own, At fm kp L σ H own ∧
  match m with
  | .ok d => ∀ H', Same H H' → Q d H'
  | .ex c => ∀ H', Same H H' → W c σ H'
  | .no => False
def tA (fm : Fm) (W : Wx) (L : List Slot) (md : Md) {δ : Type} (A : Ar δ) (m : M δ) : TA := fun σ H Q => ∃ kp own, At fm kp L σ H own ∧
  match m with
  | .ok d => ∀ vs H', Same H H' → A.rep d vs (RX fm own H H' md) → Q vs H'
  | .ex c => ∀ H', Same H H' → W c σ H'
  | .no => False
/-- a list that the expression makes -/
def tL (fm : Fm) (W : Wx) (L : List Slot) (md : Md) {α : Type} (S : Ty α) (m : M (List α)) : TE := fun σ H Q => ∃ kp own, At fm kp L σ H own ∧
  match m with
  | .ok ds => ∀ p vs H', Same H H' → H p = none → H' p = some (.lst vs) → Reps S (RX fm (p :: own) H H' md) ds vs → Q (.ref p) H'
  | .ex c => ∀ H', Same H H' → W c σ H'
  | .no => False
def EvL (g : G) (L : List Slot) (e : Expr) (md : Md) {α : Type} (S : Ty α) (m : M (List α)) : Prop := PE g.X e (tL g.fm g.W L md S m)
def EvE (g : G) (L : List Slot) (e : Expr) (md : Md) {α : Type} (T : Ty α) (m : M α) : Prop := PE g.X e (tE g.fm g.W L md T m)
def EvT (g : G) (L : List Slot) (e : Expr) (m : M Bool) : Prop := PT g.X e (tT g.fm g.W L m)
def EvA (g : G) (L : List Slot) (es : List Expr) (md : Md) {δ : Type} (A : Ar δ) (m : M δ) : Prop := PA g.X es (tA g.fm g.W L md A m)

/-- how a block ends -/
inductive Out where
  | nx (L : List Slot)
  | ct (L : List Slot)
  | go (L : List Slot)
  | rt {ρ : Type} (md : Bool) (T : Ty ρ) (r : ρ)
  | rtL {ρ : Type} (md : Bool) (T : Ty ρ) (r : List ρ)
  | bad
def Out.cut : Out → Out
  | .go L => .ct L
  | .nx _ => .bad
  | o => o
/-- .. of what is handed back; q: not by this one -/
def RT (fm : Fm) (H' : Hp) (b : Bool) (q : Option Addr := none) : RdR := RX fm q.toList H' H' (if b then .f0 else .sh)
def OutOk (fm : Fm) (kp : RdR) (E : Ends) : Out → Prop
  | .nx L => ∀ σ H own, At fm kp L σ H own → E.nx σ H
  | .ct L => ∀ σ H own, At fm kp L σ H own → E.ct σ H
  | .go L => ∀ σ H own, At fm kp L σ H own → E.nx σ H ∧ E.ct σ H
  | .rt md T r => ∀ v H', Same fm.H0 H' → T.rep r v (RT fm H' md) → E.rt v H'
  | .rtL md T r => ∀ p vs H', Same fm.H0 H' → ¬ fm.z p → fm.H0 p = none → H' p = some (.lst vs) → Reps T (RT fm H' md (some p)) r vs → E.rt (.ref p) H'
  | .bad => False
def BOk (g : G) (kp : RdR) (E : Ends) {δ : Type} (D : δ → Out) : M δ → Prop
  | .ok d => OutOk g.fm kp E (D d)
  | .ex c => ∀ σ H own, At g.fm kp g.LX σ H own → g.W c σ H
  | .no => False
def tB (g : G) (L : List Slot) {δ : Type} (D : δ → Out) (m : M δ) : TS := fun E σ H => ∃ kp own, At g.fm kp L σ H own ∧ BOk g kp E D m
def EvB (g : G) (L : List Slot) (st : List Stmt) {δ : Type} (D : δ → Out) (m : M δ) : Prop := PSs g.X st (tB g L D m)

theorem PE.imp {X : Cx} {e : Expr} {t t' : TE} (h : PE X e t) (k : ∀ σ H Q, t' σ H Q → t σ H Q) : PE X e t' := ⟨fun pins s σ H Q I q => h.run pins s σ H Q I (k _ _ _ q)⟩
theorem PT.imp {X : Cx} {e : Expr} {t t' : TT} (h : PT X e t) (k : ∀ σ H Q, t' σ H Q → t σ H Q) : PT X e t' := ⟨fun pins s σ H Q I q => h.run pins s σ H Q I (k _ _ _ q)⟩
theorem PW.imp {X : Cx} {e : Expr} {t t' : TT} (h : PW X e t) (k : ∀ σ H Q, t' σ H Q → t σ H Q) : PW X e t' := ⟨fun wh pins s σ H Q I q => h.run wh pins s σ H Q I (k _ _ _ q)⟩
theorem PA.imp {X : Cx} {e : List Expr} {t t' : TA} (h : PA X e t) (k : ∀ σ H Q, t' σ H Q → t σ H Q) : PA X e t' := ⟨fun pos pins s σ H Q I q => h.run pos pins s σ H Q I (k _ _ _ q)⟩
theorem PSs.imp {X : Cx} {e : List Stmt} {t t' : TS} (h : PSs X e t) (k : ∀ E σ H, t' E σ H → t E σ H) : PSs X e t' := ⟨fun pins s σ H D I q => h.run pins s σ H D I (k _ _ _ q)⟩

section
variable {g : G} {L : List Slot} {e e' : Expr} {es : List Expr} {md : Md} {α β γ δ : Type} {S : Ty α} {T : Ty β} {U : Ty γ} {A : Ar δ}
/-- the end of an expression, as a wish about its worth -/
def FinE (fm : Fm) (W : Wx) (own : List Addr) (σ : L2.St) (H : Hp) (md : Md) (T : Ty β) (Q : VK) : M β → Prop
  | .ok d => ∀ v H', Same H H' → T.rep d v (RX fm own H H' md) → Q v H'
  | .ex c => ∀ H', Same H H' → W c σ H'
  | .no => False
def FinL (fm : Fm) (W : Wx) (own : List Addr) (σ : L2.St) (H : Hp) (md : Md) (T : Ty β) (Q : VK) : M (List β) → Prop
  | .ok ds => ∀ p vs H', Same H H' → H p = none → H' p = some (.lst vs) → Reps T (RX fm (p :: own) H H' md) ds vs → Q (.ref p) H'
  | .ex c => ∀ H', Same H H' → W c σ H'
  | .no => False
theorem tL_iff {fm : Fm} {W : Wx} {m : M (List β)} {σ : L2.St} {H : Hp} {Q : VK} : tL fm W L md T m σ H Q ↔ ∃ kp own, At fm kp L σ H own ∧ FinL fm W own σ H md T Q m := by
  cases m <;> exact Iff.rfl
def FinT (W : Wx) (σ : L2.St) (H : Hp) (Q : Bool → Hp → Prop) : M Bool → Prop
  | .ok d => ∀ H', Same H H' → Q d H'
  | .ex c => ∀ H', Same H H' → W c σ H'
  | .no => False
def FinA (fm : Fm) (W : Wx) (own : List Addr) (σ : L2.St) (H : Hp) (md : Md) (A : Ar δ) (Q : List V → Hp → Prop) : M δ → Prop
  | .ok d => ∀ vs H', Same H H' → A.rep d vs (RX fm own H H' md) → Q vs H'
  | .ex c => ∀ H', Same H H' → W c σ H'
  | .no => False
theorem tE_iff {fm : Fm} {W : Wx} {m : M β} {σ : L2.St} {H : Hp} {Q : VK} : tE fm W L md T m σ H Q ↔ ∃ kp own, At fm kp L σ H own ∧ FinE fm W own σ H md T Q m := by
  cases m <;> exact Iff.rfl
theorem tT_iff {fm : Fm} {W : Wx} {m : M Bool} {σ : L2.St} {H : Hp} {Q : Bool → Hp → Prop} : tT fm W L m σ H Q ↔ ∃ kp own, At fm kp L σ H own ∧ FinT W σ H Q m := by
  cases m <;> exact Iff.rfl
theorem tA_iff {fm : Fm} {W : Wx} {m : M δ} {σ : L2.St} {H : Hp} {Q : List V → Hp → Prop} : tA fm W L md A m σ H Q ↔ ∃ kp own, At fm kp L σ H own ∧ FinA fm W own σ H md A Q m := by
  cases m <;> exact Iff.rfl
/-- ends that let refusals pass -/
structure Fin (W : Wx) (σ : L2.St) (H0 : Hp) (F : M β → Prop) : Prop where
  ex : ∀ {c}, F (.ex c) → ∀ H', Same H0 H' → W c σ H'
  no : ¬ F .no
theorem finE {fm : Fm} {W : Wx} {own : List Addr} {σ : L2.St} {H : Hp} {Q : VK} : Fin W σ H (FinE fm W own σ H md T Q) := ⟨fun h => h, fun h => h⟩
theorem finL {fm : Fm} {W : Wx} {own : List Addr} {σ : L2.St} {H : Hp} {Q : VK} : Fin (β := List β) W σ H (FinL fm W own σ H md T Q) := ⟨fun h => h, fun h => h⟩
theorem finT {W : Wx} {σ : L2.St} {H : Hp} {Q : Bool → Hp → Prop} : Fin W σ H (FinT W σ H Q) := ⟨fun h => h, fun h => h⟩
theorem finA {fm : Fm} {W : Wx} {own : List Addr} {σ : L2.St} {H : Hp} {Q : List V → Hp → Prop} : Fin W σ H (FinA fm W own σ H md A Q) := ⟨fun h => h, fun h => h⟩
section
variable {fm : Fm} {W : Wx} {kp : RdR} {own : List Addr} {σ : L2.St} {H0 H : Hp} {F : M β → Prop}
/-- a sub-expression, then what follows -/
theorem sub {m : M α} {f : α → M β} {K : VK} (hF : Fin W σ H0 F) (s0 : Same H0 H) (at_ : At fm kp L σ H own) (q : F (m.bind f))
    (h : ∀ d v H1, Same H H1 → S.rep d v (RX fm own H0 H1 md) → At fm kp L σ H1 own → F (f d) → K v H1) : tE fm W L md S m σ H K := by
  refine tE_iff.mpr ⟨kp, own, at_, ?_⟩
  cases m with
  | ok d => exact fun v H1 s r => h d v H1 s (S.mono r (RX.later s0)) (at_.ext s) q
  | ex c => exact fun H' s => hF.ex q H' (s0.trans s)
  | no => exact hF.no q
theorem subT {m : M Bool} {f : Bool → M β} {K : Bool → Hp → Prop} (hF : Fin W σ H0 F) (s0 : Same H0 H) (at_ : At fm kp L σ H own) (q : F (m.bind f))
    (h : ∀ d H1, Same H H1 → At fm kp L σ H1 own → F (f d) → K d H1) : tT fm W L m σ H K := by
  refine tT_iff.mpr ⟨kp, own, at_, ?_⟩
  cases m with
  | ok d => exact fun H1 s => h d H1 s (at_.ext s) q
  | ex c => exact fun H' s => hF.ex q H' (s0.trans s)
  | no => exact hF.no q
theorem subA {m : M δ} {f : δ → M β} {K : List V → Hp → Prop} (hF : Fin W σ H0 F) (s0 : Same H0 H) (at_ : At fm kp L σ H own) (q : F (m.bind f))
    (h : ∀ d vs H1, Same H H1 → A.rep d vs (RX fm own H0 H1 md) → At fm kp L σ H1 own → F (f d) → K vs H1) : tA fm W L md A m σ H K := by
  refine tA_iff.mpr ⟨kp, own, at_, ?_⟩
  cases m with
  | ok d => exact fun vs H1 s r => h d vs H1 s (A.mono r (RX.later s0)) (at_.ext s) q
  | ex c => exact fun H' s => hF.ex q H' (s0.trans s)
  | no => exact hF.no q
end

/-! ### operators, by values -/
def Rdb (K : PySem.W.Frag) (R : RdR) (H : Hp) : Prop := ∀ a o, R a o → Rd H a o ∨ KObj K a o
/-- what an operation's answer may reach: its operands' things (unless fr), new things -/
def Nw (fr : Bool) (R : RdR) (H H' : Hp) : RdR := fun a o => (fr = false ∧ R a o) ∨ (cl H' a = some o ∧ H a = none)
def OpEnd (U : Ty γ) (fr : Bool) (R : RdR) (H : Hp) (Q : VK) : M γ → Prop
  | .ok u => ∀ v H', Same H H' → U.rep u v (Nw fr R H H') → Q v H'
  | _ => False
structure Op1 (K : PySem.W.Frag) (r : V → Hp → VK → Prop) (S : Ty α) (U : Ty γ) (f : α → M γ) (fr : Bool) : Prop where
  run : ∀ {d x R H Q}, Rdb K R H → S.rep d x R → OpEnd U fr R H Q (f d) → r x H Q
structure Op2 (K : PySem.W.Frag) (r : R2) (S : Ty α) (T : Ty β) (U : Ty γ) (f : α → β → M γ) (fr : Bool) : Prop where
  run : ∀ {d e x y R H Q}, Rdb K R H → S.rep d x R → T.rep e y R → OpEnd U fr R H Q (f d e) → r x y H Q
structure OpC (K : PySem.W.Frag) (r : List V → Hp → VK → Prop) (A : Ar δ) (U : Ty γ) (f : δ → M γ) (fr : Bool) : Prop where
  run : ∀ {d xs R H Q}, Rdb K R H → A.rep d xs R → OpEnd U fr R H Q (f d) → r xs H Q
structure OpM (K : PySem.W.Frag) (ty : String) (r : V → List V → Hp → VK → Prop) (S : Ty α) (A : Ar δ) (U : Ty γ) (f : α → δ → M γ) (fr : Bool) : Prop where
  ty : ∀ {d x R H}, Rdb K R H → S.rep d x R → tyV K ty x H
  run : ∀ {d e x xs R H Q}, Rdb K R H → S.rep d x R → A.rep e xs R → OpEnd U fr R H Q (f d e) → r x xs H Q
/-- how new an answer is -/
inductive MdOk : Bool → Md → Md → Prop where
  | same {fr md} : MdOk fr md md
  | fresh {md md'} : MdOk true md md'
theorem RX.rdb {fm : Fm} {own : List Addr} {H H' : Hp} : Rdb fm.K (RX fm own H H' md) H' := fun a o r => (RX.sh a o r).imp (fun h => Rd.raw h.1) id
theorem Nw.rx {fm : Fm} {kp : RdR} {own : List Addr} {σ : L2.St} {H H1 H2 : Hp} {fr : Bool} {md' : Md} (hm : MdOk fr md md') (s : Same H H1) (at_ : At fm kp L σ H1 own) (s2 : Same H1 H2) :
    ∀ a o, Nw fr (RX fm own H H1 md) H1 H2 a o → RX fm own H H2 md' a o := fun a o r => by
  rcases r with ⟨e, r⟩ | ⟨r, n⟩
  · cases hm with
    | same => exact RX.same s2 a o r
    | fresh => cases e
  · refine RX.fx md' a o ⟨r, fun hp => (at_.new a hp).1 n, fun hz => at_.zin a hz n, at_.same.free n, s.free n⟩
theorem FinE.fin {fm : Fm} {W : Wx} {kp : RdR} {own : List Addr} {σ : L2.St} {H H1 : Hp} {fr : Bool} {md' : Md} {Q : VK} {m : M γ} (hm : MdOk fr md md') (s : Same H H1) (at_ : At fm kp L σ H1 own) (hne : ∀ c, m ≠ .ex c)
    (q : FinE fm W own σ H md' U Q m) : OpEnd U fr (RX fm own H H1 md) H1 Q m := by
  cases m with
  | ok u => exact fun v H' s' r => q v H' (s.trans s') (U.mono r (Nw.rx hm s at_ s'))
  | ex c => exact hne c rfl
  | no => exact q
end
end Hd

namespace Hd
open PySem PySem.Spec L2

/-- the program's fixed things -/
structure Pr where
  P : Program
  w : World
  K : PySem.W.Frag
  mg : Str → Option Value
  base : Heap
  C : Ec → Addr
  /-- where the table of the lambda's code object stands -/
  T : Option Addr
def okName (x : Str) : Bool := !(x == ("__debug__" : Str)) && !(x == ("__classdict__" : Str)) && !(x == ("__name__" : Str))
def seenB (sc : Scope) (x : Str) : Bool := okName x && (match sc.names.lookup x with | some .local => true | some .cell => true | some .free => true | _ => false)
def locB (sc : Scope) (x : Str) : Bool := match sc.names.lookup x with | some .local => true | some .cell => true | _ => false
def glB (sc : Scope) (x : Str) : Bool := okName x && (match sc.names.lookup x with | some .globalImplicit => true | _ => false)
theorem okName_d {x : Str} (h : okName x = true) : (x == ("__debug__" : Str)) = false ∧ (x == ("__classdict__" : Str)) = false ∧ x ≠ "__name__" := by
  simp only [okName, Bool.and_eq_true, Bool.not_eq_true'] at h
  refine ⟨h.1.1, h.1.2, fun e => ?_⟩
  have := h.2
  rw [e, beq_self_eq_true] at this
  cases this
theorem seenB_v {sc : Scope} {x : Str} (h : seenB sc x = true) : okName x = true ∧ Vis sc x := by
  simp only [seenB, Bool.and_eq_true] at h
  refine ⟨h.1, ?_⟩
  have q := h.2
  unfold Vis
  split at q <;> first | exact .inl (by assumption) | exact .inr (.inl (by assumption)) | exact .inr (.inr (by assumption)) | cases q
theorem locB_v {sc : Scope} {x : Str} (h : locB sc x = true) : L2.Loc sc x := by
  unfold locB at h
  unfold L2.Loc
  split at h <;> first | exact .inl (by assumption) | exact .inr (by assumption) | cases h
theorem glB_v {sc : Scope} {x : Str} (h : glB sc x = true) : okName x = true ∧ sc.names.lookup x = some .globalImplicit := by
  simp only [glB, Bool.and_eq_true] at h
  refine ⟨h.1, ?_⟩
  have q := h.2
  split at q <;> first | assumption | cases q

/-- where an expression stands: N the slots, V the names seen, Gs the global names used, k the room -/
structure Ok (p : Pr) (sc : Scope) (NN VV GG : List Str) (k : Nat) (g : G) : Prop where
  prog : g.X.prog = p.P
  w : g.X.w = p.w
  K : g.X.K = p.K
  mg : g.X.mg = p.mg
  base : g.X.base = p.base
  N : g.X.N = NN
  fmK : g.fm.K = p.K
  tab : ∀ P, p.T = some P → LamX.TabS g.fm.H0 P lamQ
  room : Room k g.X.A
  nd : NN.Nodup
  vis : ∀ {j : Nat} {x : Str}, VV[j]? = some x → Vis g.X.env.scope x ∧ okName x = true
  gl : ∀ {j : Nat} {x : Str}, GG[j]? = some x → Gl g.X x ∧ okName x = true
  tk : Takes g.X (fun cls d σ H => ∃ c, cls = .ref (p.C c) ∧ d = none ∧ g.W c σ H)
  calm : g.X.calm = true
  blk : ∀ {scope : Scope} {own : List (Str × Nat)}, blkC NN sc scope own = true → BlkOk NN g.X.env.scope scope own

section
variable {p : Pr} {sc : Scope} {NN VV GG : List Str} {k : Nat} {g : G} {L : List Slot} {a b c e e' : Expr} {es : List Expr} {md md' : Md} {α β γ δ : Type} {S : Ty α} {T : Ty β} {U : Ty γ} {A : Ar δ} {pos : Pos}
theorem RB.rx {fm : Fm} {own : List Addr} {H H' : Hp} {b : Bool} : ∀ a o, RB fm own H' b a o → RX fm own H H' (if b then .f0 else .sh) a o := fun a o r => by cases b <;> exact r
/-- a name whose slot holds d -/
theorem ev_var (ok : Ok p sc NN VV GG k g) {i j : Nat} {x : Str} {b : Bool} {d : α} (hN : NN[i]? = some x) (hV : VV[j]? = some x) (hL : L[i]? = some (sV b S d)) : EvE g L (.Name x pos) (if b then .f0 else .sh) S (.ok d) := by
  obtain ⟨hv, ho⟩ := ok.vis hV
  obtain ⟨h1, h2, _⟩ := okName_d ho
  refine PE.imp (pe_var (i := i) (by rw [ok.N]; exact hN) hv h1 h2) fun σ H Q ⟨kp, own, at_, q⟩ => ?_
  obtain ⟨Fs, hs, _⟩ := at_.sl
  obtain ⟨v, F, e1, _, _, y, rfl, r⟩ := hs.get hL
  exact ⟨y, e1, q y H (Same.refl H) (S.mono r RB.rx)⟩
theorem ev_vsh (ok : Ok p sc NN VV GG k g) {i j : Nat} {x : Str} {b : Bool} {d : α} (hN : NN[i]? = some x) (hV : VV[j]? = some x) (hL : L[i]? = some (sV b S d)) : EvE g L (.Name x pos) .sh S (.ok d) := by
  refine PE.imp (ev_var ok hN hV hL) fun σ H Q ⟨kp, own, at_, q⟩ => ⟨kp, own, at_, fun v H' s r => q v H' s (S.mono r RX.sh)⟩
/-- a kind of data without a heap -/
def Flat (S : Ty α) : Prop := ∀ {d v R R'}, S.rep d v R → S.rep d v R'
theorem Reps.flat {R R' : RdR} {ds : List α} {vs : List V} (hf : Flat S) (r : Reps S R ds vs) : Reps S R' ds vs := by
  induction r with
  | nil => exact .nil
  | cons r _ ih => exact .cons (hf r) ih
theorem flInt : Flat tInt := fun h => h
theorem flBool : Flat tBool := fun h => h
theorem flStr : Flat tStr := fun h => h
theorem flNone : Flat tNone := fun h => h
theorem flOpt (h : Flat S) : Flat (tOpt S) := fun {d v R R'} r => by
  cases d with
  | none => exact r
  | some d => exact ⟨h r.1, r.2⟩
theorem ev_flat {m : M α} (hf : Flat S) (h : EvE g L e md S m) : EvE g L e md' S m :=
  PE.imp h fun σ H Q q => by
    obtain ⟨kp, own, at_, q⟩ := tE_iff.mp q
    refine tE_iff.mpr ⟨kp, own, at_, ?_⟩
    cases m with
    | ok d => exact fun v H' s r => q v H' s (hf r)
    | ex c => exact q
    | no => exact q
/-- newer is as good -/
theorem ev_fx {m : M α} (h : EvE g L e .fx S m) : EvE g L e md S m :=
  PE.imp h fun σ H Q q => by
    obtain ⟨kp, own, at_, q⟩ := tE_iff.mp q
    refine tE_iff.mpr ⟨kp, own, at_, ?_⟩
    cases m with
    | ok d => exact fun v H' s r => q v H' s (S.mono r (RX.fx md))
    | ex c => exact q
    | no => exact q
theorem ev_sh {m : M α} (h : EvE g L e md S m) : EvE g L e .sh S m :=
  PE.imp h fun σ H Q q => by
    obtain ⟨kp, own, at_, q⟩ := tE_iff.mp q
    refine tE_iff.mpr ⟨kp, own, at_, ?_⟩
    cases m with
    | ok d => exact fun v H' s r => q v H' s (S.mono r RX.sh)
    | ex c => exact q
    | no => exact q
/-- the kind told otherwise -/
theorem ev_as {m : M α} {d2 : α → β} (hr : ∀ d v R, S.rep d v R → T.rep (d2 d) v R) (h : EvE g L e md S m) : EvE g L e md T (m.bind fun d => .ok (d2 d)) :=
  PE.imp h fun σ H Q q => by
    obtain ⟨kp, own, at_, q⟩ := tE_iff.mp q
    refine tE_iff.mpr ⟨kp, own, at_, ?_⟩
    cases m with
    | ok d => exact fun v H' s r => q v H' s (hr _ _ _ r)
    | ex c => exact q
    | no => exact q
theorem ev_asP {d : α} {d2 : β} (hr : ∀ v R, S.rep d v R → T.rep d2 v R) (h : EvE g L e md S (.ok d)) : EvE g L e md T (.ok d2) :=
  PE.imp h fun σ H Q ⟨kp, own, at_, q⟩ => ⟨kp, own, at_, fun v H' s r => q v H' s (hr _ _ r)⟩
/-! constants -/
theorem ev_int {i : Int} {j} : EvE g L (.Constant (.int i) j pos) md tInt (.ok i) := PE.imp pe_int fun σ H Q ⟨kp, own, at_, q⟩ => q _ H (Same.refl H) rfl
theorem ev_bool {i : Bool} {j} : EvE g L (.Constant (.bool i) j pos) md tBool (.ok i) := PE.imp pe_bl fun σ H Q ⟨kp, own, at_, q⟩ => q _ H (Same.refl H) rfl
theorem ev_none {j} : EvE g L (.Constant .none j pos) md tNone (.ok ()) := PE.imp pe_non fun σ H Q ⟨kp, own, at_, q⟩ => q _ H (Same.refl H) rfl
theorem ev_optN {j} : EvE g L (.Constant .none j pos) md (tOpt S) (.ok none) := PE.imp pe_non fun σ H Q ⟨kp, own, at_, q⟩ => q _ H (Same.refl H) rfl
/-- a written text's signs -/
def tx (s : String) : Tx := (Str.ofString s).cps.toList
theorem toS_tx (s : String) : toS (tx s) = Str.ofString s := by
  show (⟨((Str.ofString s).cps.toList).toArray⟩ : Str) = Str.ofString s
  rw [Array.toArray_toList]
theorem toS_inj {x y : Tx} (h : toS x = toS y) : x = y := by
  have := congrArg (fun z : Str => z.cps.toList) h
  simpa [toS] using this
theorem toS_of (z : Str) : toS z.cps.toList = z := by
  show (⟨(z.cps.toList).toArray⟩ : Str) = z
  rw [Array.toArray_toList]
theorem toS_len (x : Tx) : (toS x).length = x.length := by
  show x.toArray.size = x.length
  simp
def okTxB (x : Tx) : Bool := decide (x.length ≤ 1000) && x.all fun c => decide (c < 0x110000)
theorem okTx_of {x : Tx} (h : okTxB x = true) : OkTx x := by
  simp only [okTxB, Bool.and_eq_true, decide_eq_true_eq, List.all_eq_true] at h
  exact ⟨Nat.le_trans h.1 (by decide), h.2⟩
theorem ev_str {s : String} {j} (hl : okTxB (tx s) = true) : EvE g L (.Constant (.str (Str.ofString s)) j pos) md tStr (.ok (tx s)) := PE.imp pe_str fun σ H Q ⟨kp, own, at_, q⟩ => q _ H (Same.refl H) ⟨by show _ = V.str _; rw [toS_tx], okTx_of hl⟩
/-- a constant of the module: an int or a text -/
theorem ev_glob (ok : Ok p sc NN VV GG k g) {j : Nat} {x : Str} {v : V} {u : Value} {d : α} (hG : GG[j]? = some x) (hm : p.mg x = some u) (r : RelV v u) (hr : ∀ R, S.rep d v R) : EvE g L (.Name x pos) md S (.ok d) := by
  obtain ⟨hg, ho⟩ := ok.gl hG
  exact PE.imp (pe_glob hg (by rw [ok.mg]; exact hm) r (okName_d ho).1) fun σ H Q ⟨kp, own, at_, q⟩ => q _ H (Same.refl H) (hr _)

/-! operators -/
/-- .. -/
theorem ev_op2 {op : Operator} {r : R2} {f : α → β → M γ} {fr : Bool} {m1 : M α} {m2 : M β} (ok : Ok p sc NN VV GG k g) (ho : ∀ {X : Cx}, OpR X (binaryOp op) r) (F : Op2 p.K r S T U f fr) (hne : ∀ d e c, f d e ≠ .ex c) (hm : MdOk fr md md')
    (ha : EvE g L a md S m1) (hb : EvE g L b md T m2) : EvE g L (.BinOp a op b pos) md' U (m1.bind fun d => m2.bind fun e => f d e) := by
  refine PE.imp (pe_op ho ha hb) fun σ H Q q => ?_
  obtain ⟨kp, own, at_, q⟩ := tE_iff.mp q
  refine sub finE (Same.refl H) at_ q fun d x H1 s1 r1 at1 q1 => sub finE s1 at1 q1 fun e y H2 s2 r2 at2 q2 => ?_
  rw [← ok.fmK] at F
  exact F.run (R := RX g.fm own H H2 md) RX.rdb (S.mono r1 (RX.same s2)) r2 (q2.fin hm (s1.trans s2) at2 (hne d e))

theorem ev_un {op : UnaryOp} {r : V → Hp → VK → Prop} {f : α → M γ} {fr : Bool} {m1 : M α} (ok : Ok p sc NN VV GG k g) (ho : ∀ {X : Cx}, UnR X (unaryOp op) r) (F : Op1 p.K r S U f fr) (hne : ∀ d c, f d ≠ .ex c) (hm : MdOk fr md md')
    (ha : EvE g L a md S m1) : EvE g L (.UnaryOp op a pos) md' U (m1.bind f) := by
  refine PE.imp (pe_un ho ha) fun σ H Q q => ?_
  obtain ⟨kp, own, at_, q⟩ := tE_iff.mp q
  refine sub finE (Same.refl H) at_ q fun d x H1 s1 r1 at1 q1 => ?_
  rw [← ok.fmK] at F
  exact F.run (R := RX g.fm own H H1 md) RX.rdb r1 (q1.fin hm s1 at1 (hne d))
/-- a comparison's value -/
theorem ev_cmp {op : CmpOp} {r : R2} {f : α → β → M γ} {fr : Bool} {m1 : M α} {m2 : M β} (ok : Ok p sc NN VV GG k g) (ho : OpR g.X (compareOp op) r) (F : Op2 p.K r S T U f fr) (hne : ∀ d e c, f d e ≠ .ex c) (hm : MdOk fr md md')
    (ha : EvE g L a md S m1) (hb : EvE g L b md T m2) (hk : behindInMarks op b = false := by first | exact nomark _ (by decide) (by decide) | rfl) : EvE g L (.Compare a [op] [b] pos) md' U (m1.bind fun d => m2.bind fun e => f d e) := by
  refine PE.imp (pe_cmpR ho ha hb hk) fun σ H Q q => ?_
  obtain ⟨kp, own, at_, q⟩ := tE_iff.mp q
  refine sub finE (Same.refl H) at_ q fun d x H1 s1 r1 at1 q1 => sub finE s1 at1 q1 fun e y H2 s2 r2 at2 q2 => ?_
  rw [← ok.fmK] at F
  exact F.run (R := RX g.fm own H H2 md) RX.rdb (S.mono r1 (RX.same s2)) r2 (q2.fin hm (s1.trans s2) at2 (hne d e))
/-- a comparison as a test -/
theorem evt_cmp {op : CmpOp} {r : R2} {f : α → β → M Bool} {fr : Bool} {m1 : M α} {m2 : M β} (ok : Ok p sc NN VV GG k g) (ho : OpR g.X (compareOp op) r) (F : Op2 p.K r S T tBool f fr) (hne : ∀ d e c, f d e ≠ .ex c)
    (ha : EvE g L a md S m1) (hb : EvE g L b md T m2) (hk : behindInMarks op b = false := by first | exact nomark _ (by decide) (by decide) | rfl) : EvT g L (.Compare a [op] [b] pos) (m1.bind fun d => m2.bind fun e => f d e) := by
  refine PT.imp (pt_cmpR ho ha hb hk) fun σ H Q q => ?_
  obtain ⟨kp, own, at_, q⟩ := tT_iff.mp q
  refine sub finT (Same.refl H) at_ q fun d x H1 s1 r1 at1 q1 => sub finT s1 at1 q1 fun e y H2 s2 r2 at2 q2 => ?_
  rw [← ok.fmK] at F
  refine F.run (R := RX g.fm own H H2 md) RX.rdb (S.mono r1 (RX.same s2)) r2 ?_
  cases hf : f d e with
  | ok c => rw [hf] at q2; exact fun v H' s r => ⟨c, r, q2 H' ((s1.trans s2).trans s)⟩
  | ex c => exact absurd hf (hne d e c)
  | no => rw [hf] at q2; exact q2
/-- a < b < c, as a test -/
theorem evt_chain {op op' : CmpOp} {r r' : R2} {f : α → β → Bool} {f' : β → γ → Bool} {d1 : α} {d2 : β} {d3 : γ} (ok : Ok p sc NN VV GG k g) (ho : OpR g.X (compareOp op) r) (ho' : OpR g.X (compareOp op') r')
    (F : Op2 p.K r S T tBool (fun x y => .ok (f x y)) false) (F' : Op2 p.K r' T U tBool (fun x y => .ok (f' x y)) false)
    (ha : EvE g L a md S (.ok d1)) (hb : EvE g L b md T (.ok d2)) (hc : EvE g L c md U (.ok d3)) (hm : lastMarks [op, op'] [b, c] = false := by with_unfolding_all rfl) : EvT g L (.Compare a [op, op'] [b, c] pos) (.ok (f d1 d2 && f' d2 d3)) := by
  refine PT.imp (pt_chain ho ho' ha hb hc hm) fun σ H Q ⟨kp, own, at_, q⟩ => ?_
  refine ⟨kp, own, at_, fun x H1 s1 r1 => ⟨kp, own, at_.ext s1, fun y H2 s2 r2 => ?_⟩⟩
  rw [← ok.fmK] at F F'
  have at2 := (at_.ext s1).ext s2
  have r2' : T.rep d2 y (RX g.fm own H H2 md) := T.mono r2 (RX.later s1)
  refine F.run (R := RX g.fm own H H2 md) RX.rdb (S.mono r1 (RX.same s2)) r2' fun v H3 s3 r3 => ⟨f d1 d2, r3, ?_⟩
  cases hf : f d1 d2 with
  | true =>
    refine ⟨kp, own, at2.ext s3, fun z H4 s4 r4 => F'.run (R := RX g.fm own H H4 md) RX.rdb (T.mono r2' (RX.same (s3.trans s4))) (U.mono r4 (RX.later ((s1.trans s2).trans s3))) fun v' H5 s5 r5 => ⟨f' d2 d3, r5, ?_⟩⟩
    rw [hf, Bool.true_and] at q
    exact q H5 ((((s1.trans s2).trans s3).trans s4).trans s5)
  | false =>
    rw [hf, Bool.false_and] at q
    exact ⟨false, rfl, q H3 ((s1.trans s2).trans s3)⟩
/-- an expression that is a bool, as a test -/
theorem evt_of {m : M Bool} (h : EvE g L e md tBool m) (he : ∀ whole, isTrue e g.X.env whole = (do let v ← whole; standAt e.pos; holding [v] (truthy v)) := by intro _; rfl) : EvT g L e m := by
  refine PT.imp (pt_val h he) fun σ H Q q => ?_
  obtain ⟨kp, own, at_, q⟩ := tT_iff.mp q
  refine tE_iff.mpr ⟨kp, own, at_, ?_⟩
  cases m with
  | ok d => exact fun v H' s r => ⟨d, r, q H' s⟩
  | ex c => exact q
  | no => exact q
theorem evt_not {m : M Bool} (h : EvT g L a m) : EvT g L (.UnaryOp .Not a pos) (m.bind fun c => .ok (!c)) := by
  refine PT.imp (pt_not h) fun σ H Q q => ?_
  obtain ⟨kp, own, at_, q⟩ := tT_iff.mp q
  exact subT finT (Same.refl H) at_ q fun d H1 s at1 q1 => q1 H1 s
theorem evt_notP {c : Bool} (h : EvT g L a (.ok c)) : EvT g L (.UnaryOp .Not a pos) (.ok (!c)) := evt_not h
/-- and, or: chains of tests -/
def EvW (g : G) (L : List Slot) (e : Expr) (m : M Bool) : Prop := PW g.X e (tT g.fm g.W L m)
theorem EvW.t {m : M Bool} (h : EvW g L e m) : EvT g L e m := PW.pt h
theorem evw_and1 {m : M Bool} (h : EvT g L a m) : EvW g L (.BoolOp .And [a] pos) m := pw_and1 h
theorem evw_or1 {m : M Bool} (h : EvT g L a m) : EvW g L (.BoolOp .Or [a] pos) m := pw_or1 h
theorem evw_and {m1 m2 : M Bool} (h : EvT g L a m1) (h2 : EvW g L (.BoolOp .And (b :: es) pos) m2) : EvW g L (.BoolOp .And (a :: b :: es) pos) (m1.bind fun c => if c = true then m2 else .ok false) := by
  refine PW.imp (pw_and h h2) fun σ H Q q => ?_
  obtain ⟨kp, own, at_, q⟩ := tT_iff.mp q
  refine subT finT (Same.refl H) at_ q fun d H1 s at1 q1 => ?_
  cases d with
  | true =>
    show tT g.fm g.W L m2 σ H1 Q
    refine tT_iff.mpr ⟨kp, own, at1, ?_⟩
    have q1 : FinT g.W σ H Q m2 := q1
    cases m2 with
    | ok d => exact fun H' s' => q1 H' (s.trans s')
    | ex c => exact fun H' s' => q1 H' (s.trans s')
    | no => exact q1
  | false => exact q1 H1 s
theorem evw_or {m1 m2 : M Bool} (h : EvT g L a m1) (h2 : EvW g L (.BoolOp .Or (b :: es) pos) m2) : EvW g L (.BoolOp .Or (a :: b :: es) pos) (m1.bind fun c => if c = true then .ok true else m2) := by
  refine PW.imp (pw_or h h2) fun σ H Q q => ?_
  obtain ⟨kp, own, at_, q⟩ := tT_iff.mp q
  refine subT finT (Same.refl H) at_ q fun d H1 s at1 q1 => ?_
  cases d with
  | false =>
    show tT g.fm g.W L m2 σ H1 Q
    refine tT_iff.mpr ⟨kp, own, at1, ?_⟩
    have q1 : FinT g.W σ H Q m2 := q1
    cases m2 with
    | ok d => exact fun H' s' => q1 H' (s.trans s')
    | ex c => exact fun H' s' => q1 H' (s.trans s')
    | no => exact q1
  | true => exact q1 H1 s
theorem if_tf {c d : Bool} : (if c = true then (.ok d : M Bool) else .ok false) = .ok (c && d) := by cases c <;> rfl
theorem if_ft {c d : Bool} : (if c = true then (.ok true : M Bool) else .ok d) = .ok (c || d) := by cases c <;> rfl
theorem evw_andP {c d : Bool} (h : EvT g L a (.ok c)) (h2 : EvW g L (.BoolOp .And (b :: es) pos) (.ok d)) : EvW g L (.BoolOp .And (a :: b :: es) pos) (.ok (c && d)) := by
  have q := evw_and h h2
  rwa [M.bind_ok, if_tf] at q
theorem evw_orP {c d : Bool} (h : EvT g L a (.ok c)) (h2 : EvW g L (.BoolOp .Or (b :: es) pos) (.ok d)) : EvW g L (.BoolOp .Or (a :: b :: es) pos) (.ok (c || d)) := by
  have q := evw_or h h2
  rwa [M.bind_ok, if_ft] at q
/-- .. as values -/
theorem ev_one {op} {m : M Bool} (h : EvE g L a md tBool m) : EvE g L (.BoolOp op [a] pos) md tBool m := pe_one h
theorem ev_and {m1 m2 : M Bool} (h : EvE g L a md tBool m1) (h2 : EvE g L (.BoolOp .And (b :: es) pos) md tBool m2) : EvE g L (.BoolOp .And (a :: b :: es) pos) md tBool (m1.bind fun c => if c = true then m2 else .ok false) := by
  refine PE.imp (pe_and h h2) fun σ H Q q => ?_
  obtain ⟨kp, own, at_, q⟩ := tE_iff.mp q
  refine sub finE (Same.refl H) at_ q fun d x H1 s r at1 q1 => ⟨d, r, ?_⟩
  cases d with
  | true =>
    refine tE_iff.mpr ⟨kp, own, at1, ?_⟩
    have q1 : FinE g.fm g.W own σ H md tBool Q m2 := q1
    cases m2 with
    | ok d => exact fun v H' s' r' => q1 v H' (s.trans s') r'
    | ex c => exact fun H' s' => q1 H' (s.trans s')
    | no => exact q1
  | false => exact q1 _ H1 s rfl
theorem ev_or {m1 m2 : M Bool} (h : EvE g L a md tBool m1) (h2 : EvE g L (.BoolOp .Or (b :: es) pos) md tBool m2) : EvE g L (.BoolOp .Or (a :: b :: es) pos) md tBool (m1.bind fun c => if c = true then .ok true else m2) := by
  refine PE.imp (pe_or h h2) fun σ H Q q => ?_
  obtain ⟨kp, own, at_, q⟩ := tE_iff.mp q
  refine sub finE (Same.refl H) at_ q fun d x H1 s r at1 q1 => ⟨d, r, ?_⟩
  cases d with
  | false =>
    refine tE_iff.mpr ⟨kp, own, at1, ?_⟩
    have q1 : FinE g.fm g.W own σ H md tBool Q m2 := q1
    cases m2 with
    | ok d => exact fun v H' s' r' => q1 v H' (s.trans s') r'
    | ex c => exact fun H' s' => q1 H' (s.trans s')
    | no => exact q1
  | true => exact q1 _ H1 s rfl
theorem ev_andP {c d : Bool} (h : EvE g L a md tBool (.ok c)) (h2 : EvE g L (.BoolOp .And (b :: es) pos) md tBool (.ok d)) : EvE g L (.BoolOp .And (a :: b :: es) pos) md tBool (.ok (c && d)) := by
  have q := ev_and h h2
  rwa [M.bind_ok, if_tf] at q
theorem ev_orP {c d : Bool} (h : EvE g L a md tBool (.ok c)) (h2 : EvE g L (.BoolOp .Or (b :: es) pos) md tBool (.ok d)) : EvE g L (.BoolOp .Or (a :: b :: es) pos) md tBool (.ok (c || d)) := by
  have q := ev_or h h2
  rwa [M.bind_ok, if_ft] at q
theorem ev_not {m : M Bool} (h : EvE g L a md tBool m) : EvE g L (.UnaryOp .Not a pos) md' tBool (m.bind fun c => .ok (!c)) := by
  refine PE.imp (pe_not h) fun σ H Q q => ?_
  obtain ⟨kp, own, at_, q⟩ := tE_iff.mp q
  exact sub finE (Same.refl H) at_ q fun d x H1 s r at1 q1 => ⟨d, r, q1 _ H1 s rfl⟩
theorem ev_notP {c : Bool} (h : EvE g L a md tBool (.ok c)) : EvE g L (.UnaryOp .Not a pos) md' tBool (.ok (!c)) := ev_not h
/-- x if c else y -/
theorem ev_ifx {m1 m2 : M α} {mc : M Bool} (hc : EvT g L c mc) (ha : EvE g L a md S m1) (hb : EvE g L b md S m2) : EvE g L (.IfExp c a b pos) md S (mc.bind fun c => if c = true then m1 else m2) := by
  refine PE.imp (pe_ifExp hc ha hb) fun σ H Q q => ?_
  obtain ⟨kp, own, at_, q⟩ := tE_iff.mp q
  refine subT finE (Same.refl H) at_ q fun d H1 s at1 q1 => ?_
  have key : ∀ {m : M α}, FinE g.fm g.W own σ H md S Q m → tE g.fm g.W L md S m σ H1 Q := fun {m} z => by
    refine tE_iff.mpr ⟨kp, own, at1, ?_⟩
    cases m with
    | ok d => exact fun v H' s' r' => z v H' (s.trans s') (S.mono r' (RX.later s))
    | ex c => exact fun H' s' => z H' (s.trans s')
    | no => exact z
  cases d with
  | true => exact key q1
  | false => exact key q1

/-! argument lists, displays -/
theorem eva_nil : EvA g L [] md aNil (.ok ()) := PA.imp pa_nil fun σ H Q ⟨kp, own, at_, q⟩ => q [] H (Same.refl H) rfl
theorem eva_cons {m1 : M α} {m2 : M δ} (ha : EvE g L a md S m1) (hb : EvA g L es md A m2) (hs : starEach (a :: es) g.X.env = (false, eval a g.X.env) :: starEach es g.X.env := by rfl) : EvA g L (a :: es) md (aCons S A) (m1.bind fun d => m2.bind fun e => .ok (d, e)) := by
  refine PA.imp (pa_cons ha hb hs) fun σ H Q q => ?_
  obtain ⟨kp, own, at_, q⟩ := tA_iff.mp q
  exact sub finA (Same.refl H) at_ q fun d x H1 s1 r1 at1 q1 => subA finA s1 at1 q1 fun e xs H2 s2 r2 at2 q2 => q2 _ H2 (s1.trans s2) ⟨x, xs, rfl, S.mono r1 (RX.same s2), r2⟩
theorem eva_consP {d : α} {e : δ} (ha : EvE g L a md S (.ok d)) (hb : EvA g L es md A (.ok e)) (hs : starEach (a :: es) g.X.env = (false, eval a g.X.env) :: starEach es g.X.env := by rfl) : EvA g L (a :: es) md (aCons S A) (.ok (d, e)) := eva_cons ha hb hs
/-- items of one kind -/
theorem evs_nil : EvA g L [] md (aAll S) (.ok []) := PA.imp pa_nil fun σ H Q ⟨kp, own, at_, q⟩ => q [] H (Same.refl H) .nil
theorem evs_cons {m1 : M α} {m2 : M (List α)} (ha : EvE g L a md S m1) (hb : EvA g L es md (aAll S) m2) (hs : starEach (a :: es) g.X.env = (false, eval a g.X.env) :: starEach es g.X.env := by rfl) : EvA g L (a :: es) md (aAll S) (m1.bind fun d => m2.bind fun e => .ok (d :: e)) := by
  refine PA.imp (pa_cons ha hb hs) fun σ H Q q => ?_
  obtain ⟨kp, own, at_, q⟩ := tA_iff.mp q
  exact sub finA (Same.refl H) at_ q fun d x H1 s1 r1 at1 q1 => subA finA s1 at1 q1 fun e xs H2 s2 r2 at2 q2 => q2 _ H2 (s1.trans s2) (.cons (S.mono r1 (RX.same s2)) r2)
theorem evs_consP {d : α} {e : List α} (ha : EvE g L a md S (.ok d)) (hb : EvA g L es md (aAll S) (.ok e)) (hs : starEach (a :: es) g.X.env = (false, eval a g.X.env) :: starEach es g.X.env := by rfl) : EvA g L (a :: es) md (aAll S) (.ok (d :: e)) := evs_cons ha hb hs
theorem newSame {H : Hp} {p : Addr} {o : HO} (h : H p = none) : Same H (upd H p o) := .of fun b u e => by rw [upd_ne (ne_of_none e h)]; exact e
theorem newRX {fm : Fm} {kp : RdR} {own : List Addr} {σ : L2.St} {H H1 : Hp} {p : Addr} {o : HO} (at_ : At fm kp L σ H1 own) (s : Same H H1) (h : H1 p = none) (n : nt o = true := by rfl) : RX fm own H (upd H1 p o) md p o :=
  RX.fx md _ _ ⟨cl_of upd_same n, fun hp => (at_.new p hp).1 h, fun hz => at_.zin p hz h, at_.same.free h, s.free h⟩
/-- a tuple of written items (few enough: by rfl) -/
theorem ev_tup {m : M δ} {x1} (hl : ∀ d vs R, A.rep d vs R → vs.length ≤ 1000) (ha : EvA g L es md A m) : EvE g L (.Tuple es x1 pos) md (tTup A) m := by
  refine PE.imp (pe_tup ha) fun σ H Q q => ?_
  obtain ⟨kp, own, at_, q⟩ := tE_iff.mp q
  refine tA_iff.mpr ⟨kp, own, at_, ?_⟩
  cases m with
  | ok d => exact fun vs H1 s1 r1 => ⟨Nat.le_trans (hl _ _ _ r1) (by decide), fun p hp => q _ _ (s1.trans (newSame hp)) ⟨p, vs, rfl, newRX (at_.ext s1) s1 hp, A.mono r1 (RX.same (newSame hp))⟩⟩
  | ex c => exact q
  | no => exact q
theorem tupL_le {ds : List α} {vs : List V} {R : RdR} (h : (aAll S).rep ds vs R) : ds.length = vs.length := Reps.length h
/-- a list of written items; whatever the items are, the list is new -/
theorem ev_lst {m : M (List α)} (hl : ∀ ds, m = .ok ds → ds.length ≤ 1000) (ha : EvA g L es md (aAll S) m) : EvE g L (.List es pos) md (tList S) m := by
  refine PE.imp (pe_lst ha) fun σ H Q q => ?_
  obtain ⟨kp, own, at_, q⟩ := tE_iff.mp q
  refine tA_iff.mpr ⟨kp, own, at_, ?_⟩
  cases m with
  | ok d => exact fun vs H1 s1 r1 => ⟨Nat.le_trans (by rw [← tupL_le r1]; exact hl _ rfl) (by decide), fun p hp => q _ _ (s1.trans (newSame hp)) ⟨p, vs, rfl, newRX (at_.ext s1) s1 hp, Reps.mono r1 (RX.same (newSame hp))⟩⟩
  | ex c => exact q
  | no => exact q

/-! subscripts, slices, calls of built-ins -/
theorem ev_ix {r : R2} {f : α → β → M γ} {fr : Bool} {m1 : M α} {m2 : M β} (ok : Ok p sc NN VV GG k g) (ho : IxR g.X r) (F : Op2 p.K r S T U f fr) (hne : ∀ d e c, f d e ≠ .ex c) (hm : MdOk fr md md')
    (ha : EvE g L a md S m1) (hb : EvE g L b md T m2) (hs : PlainIx b := by exact fun _ _ => rfl) : EvE g L (.Subscript a b pos) md' U (m1.bind fun d => m2.bind fun e => f d e) := by
  refine PE.imp (pe_ix ho ha hb hs) fun σ H Q q => ?_
  obtain ⟨kp, own, at_, q⟩ := tE_iff.mp q
  refine sub finE (Same.refl H) at_ q fun d x H1 s1 r1 at1 q1 => sub finE s1 at1 q1 fun e y H2 s2 r2 at2 q2 => ?_
  rw [← ok.fmK] at F
  exact F.run (R := RX g.fm own H H2 md) RX.rdb (S.mono r1 (RX.same s2)) r2 (q2.fin hm (s1.trans s2) at2 (hne d e))
theorem ev_callB {x : Str} {j : Nat} {id : String} {r : List V → Hp → VK → Prop} {f : δ → M γ} {fr : Bool} {m : M δ} {pp : Pos} (ok : Ok p sc NN VV GG k g) (hc : CallR g.X (.builtin id) r) (F : OpC p.K r A U f fr) (hne : ∀ d c, f d ≠ .ex c) (hm : MdOk fr md md')
    (hG : GG[j]? = some x) (hmg : p.mg x = none) (hv : bootBuiltins x = some (.builtin id)) (ha : EvA g L (e :: es) md A m)
    (he : starEach (e :: es) g.X.env = (false, eval e g.X.env) :: starEach es g.X.env := by rfl) (hpl : (backTo pos (starEach es g.X.env)).any (·.1) = false := by rfl) : EvE g L (.Call (.Name x pp) (e :: es) [] pos) md' U (m.bind f) := by
  obtain ⟨hg, ho⟩ := ok.gl hG
  obtain ⟨h1, _, h3⟩ := okName_d ho
  refine PE.imp (pe_callB hc hg (by rw [ok.mg]; exact hmg) hv ha h3 h1 he hpl) fun σ H Q q => ?_
  obtain ⟨kp, own, at_, q⟩ := tE_iff.mp q
  refine subA finE (Same.refl H) at_ q fun d xs H1 s1 r1 at1 q1 => ?_
  rw [← ok.fmK] at F
  exact F.run (R := RX g.fm own H H1 md) RX.rdb r1 (q1.fin hm s1 at1 (hne d))
theorem ev_callTy {x : Str} {j : Nat} {id : String} {r : List V → Hp → VK → Prop} {f : δ → M γ} {fr : Bool} {m : M δ} {pp : Pos} (ok : Ok p sc NN VV GG k g) (hc : CallR g.X (.type id) r) (F : OpC p.K r A U f fr) (hne : ∀ d c, f d ≠ .ex c) (hm : MdOk fr md md')
    (hG : GG[j]? = some x) (hmg : p.mg x = none) (hv : bootBuiltins x = some (.type id)) (ha : EvA g L (e :: es) md A m)
    (he : starEach (e :: es) g.X.env = (false, eval e g.X.env) :: starEach es g.X.env := by rfl) (hpl : (backTo pos (starEach es g.X.env)).any (·.1) = false := by rfl) : EvE g L (.Call (.Name x pp) (e :: es) [] pos) md' U (m.bind f) := by
  obtain ⟨hg, ho⟩ := ok.gl hG
  obtain ⟨h1, _, h3⟩ := okName_d ho
  refine PE.imp (pe_callTy hc hg (by rw [ok.mg]; exact hmg) hv ha h3 h1 he hpl) fun σ H Q q => ?_
  obtain ⟨kp, own, at_, q⟩ := tE_iff.mp q
  refine subA finE (Same.refl H) at_ q fun d xs H1 s1 r1 at1 q1 => ?_
  rw [← ok.fmK] at F
  exact F.run (R := RX g.fm own H H1 md) RX.rdb r1 (q1.fin hm s1 at1 (hne d))
/-- a built-in type's method -/
theorem ev_bm {ty id : String} {name : Str} {r : V → List V → Hp → VK → Prop} {f : α → δ → M γ} {fr : Bool} {m1 : M α} {m2 : M δ} {apos : Pos} (ok : Ok p sc NN VV GG k g) (pa : PlainAttrs ty) (slot : PySem.Slot ty name id) (hty : typeOf (.builtin id) = pure (.type "method_descriptor"))
    (hmt : MtR g.X id r) (F : OpM p.K ty r S A U f fr) (hne : ∀ d e c, f d e ≠ .ex c) (hm : MdOk fr md md') (ho : EvE g L a md S m1) (ha : EvA g L (e :: es) md A m2)
    (hbase : attributeBase a name g.X.env (eval a g.X.env) = eval a g.X.env := by rfl)
    (hfew : ((backTo pos (starEach (e :: es) g.X.env)).all (fun x => !x.1) && (backToKw pos (keywordEach [] g.X.env)).all (fun x => x.1.isSome)
      && decide ((e :: es).length + ([] : List Keyword).length + (if ([] : List Keyword).isEmpty then 0 else 1) < 30)) = true := by rfl)
    (hs : starEach (e :: es) g.X.env = (false, eval e g.X.env) :: starEach es g.X.env := by rfl) (hline : (apos.endLine == pos.line) = true := by rfl) (hplain : (backTo pos (starEach es g.X.env)).any (·.1) = false := by rfl) :
    EvE g L (.Call (.Attribute a name apos) (e :: es) [] pos) md' U (m1.bind fun d => m2.bind fun e => f d e) := by
  refine PE.imp (pe_bm pa slot hty hmt ho ha (hbase := hbase) (hfew := hfew) (hline := hline) (hs := hs) (hplain := hplain)) fun σ H Q q => ?_
  obtain ⟨kp, own, at_, q⟩ := tE_iff.mp q
  rw [← ok.fmK] at F
  refine sub finE (Same.refl H) at_ q fun d x H1 s1 r1 at1 q1 => ⟨(ok.fmK.trans ok.K.symm) ▸ F.ty (R := RX g.fm own H H1 md) RX.rdb r1, subA finE s1 at1 q1 fun e xs H2 s2 r2 at2 q2 => ?_⟩
  exact F.run (R := RX g.fm own H H2 md) RX.rdb (S.mono r1 (RX.same s2)) r2 (q2.fin hm (s1.trans s2) at2 (hne d e))
end
end Hd

namespace Hd
open PySem PySem.Spec L2
section
variable {p : Pr} {sc : Scope} {NN VV GG : List Str} {k : Nat} {g : G} {L L' : List Slot} {a b c e e' : Expr} {es : List Expr} {md md' : Md} {α β γ δ : Type} {S : Ty α} {T : Ty β} {U : Ty γ} {A : Ar δ} {pos : Pos}
/-! ### new lists -/
theorem RX.add {fm : Fm} {own : List Addr} {H H1 : Hp} {q : Addr} {o' : HO} (hn : H1 q = none) : ∀ a o, RX fm own H H1 md a o → RX fm (q :: own) H (upd H1 q o') md a o := fun a o r => by
  have ne : H1 a ≠ none → a ≠ q := fun h e => h (by rw [e]; exact hn)
  cases md with
  | sh =>
    rcases r with ⟨r, h1, h2⟩ | r
    · have n := ne (Rd.some (Rd.raw r))
      refine .inl ⟨?_, fun z => ?_, h2⟩
      · unfold Rd
        rw [cl_upd_ne n]
        exact r
      · rcases List.mem_cons.mp z with z | z
        · exact n z
        · exact h1 z
    · exact .inr r
  | f0 =>
    have n := ne (by rw [cl_raw r.1]; exact fun z => by cases z)
    exact ⟨by rw [cl_upd_ne n]; exact r.1, fun z => (List.mem_cons.mp z).elim n r.2.1, r.2.2⟩
  | fx =>
    have n := ne (by rw [cl_raw r.1]; exact fun z => by cases z)
    exact ⟨by rw [cl_upd_ne n]; exact r.1, fun z => (List.mem_cons.mp z).elim n r.2.1, r.2.2⟩
theorem RX.drop1 {fm : Fm} {own : List Addr} {H H1 : Hp} {q : Addr} : ∀ a o, RX fm (q :: own) H H1 md a o → RX fm own H H1 md a o := RX.own fun p hp => List.mem_cons_of_mem _ hp
theorem newRX' {fm : Fm} {kp : RdR} {own : List Addr} {σ : L2.St} {H H' : Hp} {q : Addr} {o : HO} (at_ : At fm kp L σ H own) (h : H q = none) (h' : H' q = some o) (n : nt o = true := by rfl) : RX fm own H H' md q o :=
  RX.fx md _ _ ⟨cl_of h' n, fun hp => (at_.new q hp).1 h, fun hz => at_.zin q hz h, at_.same.free h, h⟩
/-- as a value -/
theorem ev_ofL {m : M (List α)} (h : EvL g L e md S m) : EvE g L e md (tList S) m :=
  PE.imp h fun σ H Q q => by
    obtain ⟨kp, own, at_, q⟩ := tE_iff.mp q
    refine tL_iff.mpr ⟨kp, own, at_, ?_⟩
    cases m with
    | ok d => exact fun p vs H' s n h' r => q _ H' s ⟨p, vs, rfl, newRX' at_ n h', r.mono RX.drop1⟩
    | ex c => exact q
    | no => exact q
theorem evl_flat {m : M (List α)} (hf : Flat S) (h : EvL g L e md S m) : EvL g L e md' S m :=
  PE.imp h fun σ H Q q => by
    obtain ⟨kp, own, at_, q⟩ := tL_iff.mp q
    refine tL_iff.mpr ⟨kp, own, at_, ?_⟩
    cases m with
    | ok d => exact fun p vs H' s n h' r => q p vs H' s n h' (r.flat hf)
    | ex c => exact q
    | no => exact q
theorem evl_lst {m : M (List α)} (hl : ∀ ds, m = .ok ds → ds.length ≤ 1000) (ha : EvA g L es md (aAll S) m) : EvL g L (.List es pos) md S m := by
  refine PE.imp (pe_lst ha) fun σ H Q q => ?_
  obtain ⟨kp, own, at_, q⟩ := tL_iff.mp q
  refine tA_iff.mpr ⟨kp, own, at_, ?_⟩
  cases m with
  | ok d => exact fun vs H1 s1 r1 => ⟨Nat.le_trans (by rw [← tupL_le r1]; exact hl _ rfl) (by decide), fun p hp => q p vs _ (s1.trans (newSame hp)) (s1.free hp) upd_same (Reps.mono r1 (RX.add hp))⟩
  | ex c => exact q
  | no => exact q
theorem evl_nil : EvL g L (.List [] pos) md S (.ok []) := evl_lst (fun ds h => by cases h; exact Nat.zero_le _) evs_nil
/-- operators that make a list: by a rule over what is told -/
structure LOp2 (K : PySem.W.Frag) (r : R2) (S : Ty α) (T : Ty β) (U : Ty γ) (f : α → β → M (List γ)) : Prop where
  run : ∀ {d e x y R H Q}, Rdb K R H → S.rep d x R → T.rep e y R → (match f d e with
    | .ok u => ∀ q vs H', H q = none → H' = upd H q (.lst vs) → Reps U R u vs → Q (.ref q) H'
    | _ => False) → r x y H Q

/-! ### blocks -/
structure OkS (p : Pr) (sc : Scope) (NN VV GG : List Str) (k : Nat) (g : G) : Prop extends Ok p sc NN VV GG k g where
  loc : ∀ {i : Nat} {x : Str}, VV[i]? = some x → L2.Loc g.X.env.scope x
  fnT : ∀ x, g.X.fn x = true
  psO : PassesOwn (model g.X.prog g.X.w) g.X.A g.X.env g.X.xe
  scp : g.X.env.scope = sc
  stk : g.X.stack = g.X.env :: g.X.outer
  frm : g.X.env.frame = some g.X.env.locals
  exn : g.X.ex = []
theorem PSs.ex {X : Cx} {ι : Type} {st : List Stmt} {t : ι → TS} (h : ∀ d, PSs X st (t d)) : PSs X st (fun E σ H => ∃ d, t d E σ H) := ⟨fun pins s σ H D I ⟨d, q⟩ => (h d).run pins s σ H D I q⟩
variable {st : List Stmt} {s0 : Stmt} {D : δ → Out} {d : δ}
theorem evb_nx (h : D d = .nx L') (w : Wk L L') : EvB g L [] D (.ok d) := by
  refine PSs.imp pss_nil fun E σ H ⟨kp, own, at_, q⟩ => ?_
  have q : OutOk g.fm kp E (D d) := q
  rw [h] at q
  obtain ⟨own', a', _⟩ := at_.weak w
  exact q σ H own' a'
theorem evb_go (h : D d = .go L') (w : Wk L L') : EvB g L [] D (.ok d) := by
  refine PSs.imp pss_nil fun E σ H ⟨kp, own, at_, q⟩ => ?_
  have q : OutOk g.fm kp E (D d) := q
  rw [h] at q
  obtain ⟨own', a', _⟩ := at_.weak w
  exact (q σ H own' a').1
theorem PSs.head {X : Cx} {t : TS} (h : PS X s0 t) : PSs X (s0 :: st) (fun E σ H => t { E with nx := fun _ _ => False } σ H) := by
  refine PSs.imp (pss_cons h (pss_never (sts := st))) fun E σ H q => q
theorem evb_cont (h : D d = .go L' ∨ D d = .ct L') (w : Wk L L') : EvB g L (.Continue pos :: st) D (.ok d) := by
  refine PSs.imp (PSs.head ps_continue) fun E σ H ⟨kp, own, at_, q⟩ => ?_
  have q : OutOk g.fm kp E (D d) := q
  obtain ⟨own', a', _⟩ := at_.weak w
  rcases h with h | h <;> rw [h] at q
  · exact (q σ H own' a').2
  · exact q σ H own' a'
theorem BOk.exx {kp : RdR} {E : Ends} {c : Ec} {σ : L2.St} {H : Hp} {own : List Addr} (wk : Wk L g.LX) (at_ : At g.fm kp L σ H own) (q : BOk g kp E D (.ex c)) : ∀ H', Same H H' → g.W c σ H' := fun H' s => by
  obtain ⟨own', a', _⟩ := (at_.ext s).weak wk
  exact q σ H' own' a'
/-- return e -/
inductive RtMd : Md → Bool → Prop where
  | sh {x : Md} : RtMd x false
  | f0 : RtMd .f0 true
  | fx : RtMd .fx true
theorem RtMd.rt {fm : Fm} {own : List Addr} {H H' : Hp} {bm : Bool} (h : RtMd md bm) : ∀ a o, RX fm own H H' md a o → RT fm H' bm none a o := fun a o r => by
  have r' := RX.own (own' := []) (fun _ z => nomatch z) a o r
  cases h with
  | sh =>
    have q := RX.sh a o r'
    exact q
  | f0 => exact r'
  | fx => exact RX.f0 (H := H) a o r'
theorem evb_retF {bm : Bool} {m : M α} {mk : α → δ} (wk : Wk L g.LX) (hm : RtMd md bm) (hD : ∀ d, D (mk d) = .rt bm S d) (he : EvE g L e md S m) : EvB g L (.Return (some e) pos :: st) D (m.bind fun d => .ok (mk d)) := by
  refine PSs.imp (PSs.head (ps_ret he)) fun E σ H ⟨kp, own, at_, q⟩ => ?_
  refine tE_iff.mpr ⟨kp, own, at_, ?_⟩
  cases m with
  | ok d =>
    have q : OutOk g.fm kp E (D (mk d)) := q
    rw [hD] at q
    exact fun v H' s r => q v H' (at_.same.trans s) (S.mono r hm.rt)
  | ex c => exact BOk.exx wk at_ q
  | no => exact q
theorem M.bind_id {α : Type} (m : M α) : m.bind (fun d => .ok d) = m := by cases m <;> rfl
theorem evb_ret {bm : Bool} {m : M α} {D : α → Out} (wk : Wk L g.LX) (hm : RtMd md bm) (hD : ∀ d, D d = .rt bm S d) (he : EvE g L e md S m) : EvB g L (.Return (some e) pos :: st) D m := by
  have h := evb_retF (mk := id) (st := st) (pos := pos) wk hm hD he
  rwa [show (m.bind fun d => .ok (id d)) = m from M.bind_id m] at h
theorem evb_retP {bm : Bool} {d : α} {D : δ → Out} {d' : δ} (hm : RtMd md bm) (hD : D d' = .rt bm S d) (he : EvE g L e md S (.ok d)) : EvB g L (.Return (some e) pos :: st) D (.ok d') := by
  refine PSs.imp (PSs.head (ps_ret he)) fun E σ H ⟨kp, own, at_, q⟩ => ?_
  refine tE_iff.mpr ⟨kp, own, at_, ?_⟩
  have q : OutOk g.fm kp E (D d') := q
  rw [hD] at q
  exact fun v H' s r => q v H' (at_.same.trans s) (S.mono r hm.rt)
theorem evb_retN {bm : Bool} {D : δ → Out} {d' : δ} (hD : D d' = .rt bm tNone ()) : EvB g L (.Return none pos :: st) D (.ok d') := by
  refine PSs.imp (PSs.head ps_retN) fun E σ H ⟨kp, own, at_, q⟩ => ?_
  have q : OutOk g.fm kp E (D d') := q
  rw [hD] at q
  exact q _ H at_.same rfl
theorem RX.rtL {fm : Fm} {own : List Addr} {H H' : Hp} {bm : Bool} {p : Addr} (h : RtMd md bm) : ∀ a o, RX fm (p :: own) H H' md a o → RT fm H' bm (some p) a o := fun a o r => by
  have r' := RX.own (own' := [p]) (fun x z => by rw [List.mem_singleton.mp z]; exact List.mem_cons_self) a o r
  cases h with
  | sh =>
    have q := RX.sh a o r'
    exact q
  | f0 => exact r'
  | fx => exact RX.f0 (H := H) a o r'
/-- return of a list just made -/
theorem evb_retLF {bm : Bool} {m : M (List α)} {mk : List α → δ} (wk : Wk L g.LX) (hm : RtMd md bm) (hD : ∀ d, D (mk d) = .rtL bm S d) (he : EvL g L e md S m) : EvB g L (.Return (some e) pos :: st) D (m.bind fun d => .ok (mk d)) := by
  refine PSs.imp (PSs.head (ps_ret he)) fun E σ H ⟨kp, own, at_, q⟩ => ?_
  refine tL_iff.mpr ⟨kp, own, at_, ?_⟩
  cases m with
  | ok d =>
    have q : OutOk g.fm kp E (D (mk d)) := q
    rw [hD] at q
    exact fun p vs H' s n h' r => q p vs H' (at_.same.trans s) (fun hz => at_.zin p hz n) (at_.same.free n) h' (r.mono (RX.rtL hm))
  | ex c => exact BOk.exx wk at_ q
  | no => exact q
theorem evb_retL {bm : Bool} {m : M (List α)} {D : List α → Out} (wk : Wk L g.LX) (hm : RtMd md bm) (hD : ∀ d, D d = .rtL bm S d) (he : EvL g L e md S m) : EvB g L (.Return (some e) pos :: st) D m := by
  have h := evb_retLF (mk := id) (st := st) (pos := pos) wk hm hD he
  rwa [show (m.bind fun d => .ok (id d)) = m from M.bind_id m] at h
theorem evb_retLP {bm : Bool} {d : List α} {D : δ → Out} {d' : δ} (hm : RtMd md bm) (hD : D d' = .rtL bm S d) (he : EvL g L e md S (.ok d)) : EvB g L (.Return (some e) pos :: st) D (.ok d') := by
  refine PSs.imp (PSs.head (ps_ret he)) fun E σ H ⟨kp, own, at_, q⟩ => ?_
  refine tL_iff.mpr ⟨kp, own, at_, ?_⟩
  have q : OutOk g.fm kp E (D d') := q
  rw [hD] at q
  exact fun p vs H' s n h' r => q p vs H' (at_.same.trans s) (fun hz => at_.zin p hz n) (at_.same.free n) h' (r.mono (RX.rtL hm))
/-- return of a list that a slot owns -/
theorem evb_retOwn {bm b : Bool} {ds : List α} {i j : Nat} {x : Str} {D : δ → Out} {d' : δ} {npos : Pos} (ok : Ok p sc NN VV GG k g) (hN : NN[i]? = some x) (hV : VV[j]? = some x) (hL : L[i]? = some (sOwn b S ds)) (hb : b = bm ∨ Flat S ∨ bm = false) (hD : D d' = .rtL bm S ds) :
    EvB g L (.Return (some (.Name x npos)) pos :: st) D (.ok d') := by
  obtain ⟨hv, ho⟩ := ok.vis hV
  obtain ⟨h1, h2, _⟩ := okName_d ho
  refine PSs.imp (PSs.head (ps_ret (pe_var (i := i) (by rw [ok.N]; exact hN) hv h1 h2))) fun E σ H ⟨kp, own, at_, q⟩ => ?_
  obtain ⟨Fs, hs, rfl⟩ := at_.sl
  obtain ⟨v, F, e1, e2, p, vs, rfl, rfl, hp, r⟩ := hs.get hL
  have q : OutOk g.fm kp E (D d') := q
  rw [hD] at q
  have pin : p ∈ Fs.flatten := List.mem_flatten.mpr ⟨[p], List.mem_of_getElem? e2, by simp⟩
  obtain ⟨n1, n2, n3⟩ := at_.new p pin
  have rr : Reps S (RX g.fm [p] H H (if b then .f0 else .sh)) ds vs := r.mono (RX.own (own' := [p]) (fun x z => by rw [List.mem_singleton.mp z]; exact pin))
  refine ⟨_, e1, q p vs H at_.same n3 n2 hp ?_⟩
  unfold RT
  rcases hb with rfl | hf | rfl
  · exact rr
  · exact rr.flat hf
  · exact rr.mono RX.sh
/-! ### assignments -/
inductive SlB : Md → Bool → Prop where
  | sh {x : Md} : SlB x false
  | f0 : SlB .f0 true
  | fx : SlB .fx true
theorem SlB.rb {fm : Fm} {own : List Addr} {H H' : Hp} {b : Bool} (h : SlB md b) : ∀ a o, RX fm own H H' md a o → RB fm own H' b a o := fun a o r => by
  cases h with
  | sh =>
    have q := RX.sh a o r
    exact q
  | f0 => exact r
  | fx => exact RX.f0 (H := H) a o r
variable {i j : Nat} {x : Str} {pos' : Pos}
theorem okS_fn (ok : OkS p sc NN VV GG k g) : g.X.fn x = true ∨ g.X.env.scope.names.lookup x = some .local := .inl (ok.fnT x)
theorem evb_set {b : Bool} {m : M α} {f : α → M δ} (ok : OkS p sc NN VV GG k g) (hN : NN[i]? = some x) (hV : VV[j]? = some x) (wk : Wk L g.LX) (hb : SlB md b) (he : EvE g L e md S m) (hr : ∀ d, EvB g (L.set i (sV b S d)) st D (f d))
    (hs : swapsWith e (some (.Name x pos')) pos.line g.X.env = pure false := by rfl) : EvB g L (.Assign [.Name x pos'] e pos :: st) D (m.bind f) := by
  refine PSs.imp (pss_cons (ps_set (i := i) (by rw [ok.N]; exact ok.nd) (by rw [ok.N]; exact hN) (ok.loc hV) he hs (okS_fn ok)) (PSs.ex hr)) fun E σ H ⟨kp, own, at_, q⟩ => ?_
  refine tE_iff.mpr ⟨kp, own, at_, ?_⟩
  cases m with
  | ok d =>
    intro v H' s r
    obtain ⟨own', a'⟩ := (at_.ext s).setV (i := i) (b := b) (S.mono r hb.rb)
    exact ⟨d, kp, own', a', q⟩
  | ex c => exact BOk.exx wk at_ q
  | no => exact q
theorem evb_setP {b : Bool} {d : α} {m : M δ} (ok : OkS p sc NN VV GG k g) (hN : NN[i]? = some x) (hV : VV[j]? = some x) (hb : SlB md b) (he : EvE g L e md S (.ok d)) (hr : EvB g (L.set i (sV b S d)) st D m)
    (hs : swapsWith e (some (.Name x pos')) pos.line g.X.env = pure false := by rfl) : EvB g L (.Assign [.Name x pos'] e pos :: st) D m := by
  refine PSs.imp (pss_cons (ps_set (i := i) (by rw [ok.N]; exact ok.nd) (by rw [ok.N]; exact hN) (ok.loc hV) he hs (okS_fn ok)) hr) fun E σ H ⟨kp, own, at_, q⟩ => ?_
  refine ⟨kp, own, at_, fun v H' s r => ?_⟩
  obtain ⟨own', a'⟩ := (at_.ext s).setV (i := i) (b := b) (S.mono r hb.rb)
  exact ⟨kp, own', a', q⟩
theorem set_own {Fs : List (List Addr)} {q : Addr} : ∀ {i : Nat}, ∀ x ∈ (Fs.set i [q]).flatten, x = q ∨ x ∈ Fs.flatten := by
  induction Fs with
  | nil => intro i x h; exact .inr h
  | cons F Fs ih =>
    intro i x h
    cases i with
    | zero =>
      simp only [List.set_cons_zero, List.flatten_cons, List.mem_append, List.mem_singleton] at h
      rcases h with h | h
      · exact .inl h
      · exact .inr (by simp only [List.flatten_cons, List.mem_append]; exact .inr h)
    | succ i =>
      simp only [List.set_cons_succ, List.flatten_cons, List.mem_append] at h
      rcases h with h | h
      · exact .inr (by simp only [List.flatten_cons, List.mem_append]; exact .inl h)
      · rcases ih x h with h | h
        · exact .inl h
        · exact .inr (by simp only [List.flatten_cons, List.mem_append]; exact .inr h)
theorem set_own_nd {Fs : List (List Addr)} {q : Addr} (hq : q ∉ Fs.flatten) (hn : Fs.flatten.Nodup) : ∀ {i : Nat}, (Fs.set i [q]).flatten.Nodup := by
  induction Fs with
  | nil => intro i; exact hn
  | cons F Fs ih =>
    intro i
    simp only [List.flatten_cons, List.mem_append, not_or] at hq
    rw [List.flatten_cons, List.nodup_append] at hn
    cases i with
    | zero =>
      simp only [List.set_cons_zero, List.flatten_cons]
      rw [List.nodup_append]
      refine ⟨by simp, hn.2.1, fun a ha b hb => ?_⟩
      rw [List.mem_singleton.mp ha]
      rintro rfl
      exact hq.2 hb
    | succ i =>
      simp only [List.set_cons_succ, List.flatten_cons]
      rw [List.nodup_append]
      refine ⟨hn.1, ih hq.2 hn.2.1, fun a ha b hb => ?_⟩
      rcases set_own b hb with rfl | hb
      · rintro rfl; exact hq.1 ha
      · exact hn.2.2 a ha b hb
/-- a new list becomes a slot's own -/
theorem At.setOwn {fm : Fm} {kp : RdR} {σ : L2.St} {H H' : Hp} {own : List Addr} {b : Bool} {ds : List α} {vs : List V} {q : Addr} (h : At fm kp L σ H own) (s : Same H H') (hn : H q = none) (h' : H' q = some (.lst vs))
    (r : Reps S (RB fm (q :: own) H' b) ds vs) : ∃ own', At fm kp (L.set i (sOwn b S ds)) (σ.set i (some (.ref q))) H' own' := by
  obtain ⟨h1, h2, ⟨Fs, h3, rfl⟩, h4, h5, h6⟩ := h
  have hq : q ∉ Fs.flatten := fun z => (h5 q z).1 hn
  have sub : ∀ x ∈ (Fs.set i [q]).flatten, x ∈ q :: Fs.flatten := fun x hx => (set_own x hx).elim (fun e => by rw [e]; exact List.mem_cons_self) (List.mem_cons_of_mem _)
  have key : ∀ (md : Md) a o, RX fm Fs.flatten H H md a o → RX fm (Fs.set i [q]).flatten H H' md a o := fun md a o z => by
    refine RX.own sub a o ?_
    have z1 := RX.add (o' := .lst []) hn a o z
    have na : a ≠ q ∨ KObj fm.K a o := by
      rcases RX.sh a o z with z | z
      · exact .inl fun e => Rd.some z.1 (by rw [e]; exact cl_none hn)
      · exact .inr z
    cases md with
    | sh =>
      rcases z1 with z1 | z1
      · rcases z with z | z
        · exact .inl ⟨Rd.same s z.1, z1.2⟩
        · exact .inr z
      · exact .inr z1
    | f0 => exact ⟨s.cl _ _ z.1, z1.2⟩
    | fx => exact ⟨s.cl _ _ z.1, z1.2⟩
  have keyB : ∀ (b : Bool) a o, RB fm Fs.flatten H b a o → RB fm (Fs.set i [q]).flatten H' b a o := fun b a o z => by
    cases b with
    | false => exact key .sh a o z
    | true => exact key .f0 a o z
  refine ⟨_, h1.trans s, fun a z n => h2 a z (s.free n), ⟨Fs.set i [q], (h3.st (H' := H') keyB fun p hp => ?_).set (s := sOwn b S ds) ⟨q, vs, rfl, rfl, h', r.mono fun a o z => ?_⟩ i, rfl⟩, set_own_nd hq h4, fun p hp => ?_, fun a o z => key .sh a o (h6 a o z)⟩
  · cases e : cl H p with
    | none => exact absurd e (h3.tb p hp)
    | some u => rw [cl_raw e]; exact s.keep _ _ (cl_raw e) (cl_nt e)
  · cases b <;> exact RX.own sub a o z
  · rcases set_own p hp with rfl | hp
    · exact ⟨by rw [h']; exact (fun z => by cases z), h1.free hn, fun z => h2 _ z hn⟩
    · exact ⟨fun e => (h5 p hp).1 (s.free e), (h5 p hp).2⟩
theorem evb_own {b : Bool} {m : M (List α)} {f : List α → M δ} (ok : OkS p sc NN VV GG k g) (hN : NN[i]? = some x) (hV : VV[j]? = some x) (wk : Wk L g.LX) (hb : SlB md b) (he : EvL g L e md S m) (hr : ∀ d, EvB g (L.set i (sOwn b S d)) st D (f d))
    (hs : swapsWith e (some (.Name x pos')) pos.line g.X.env = pure false := by rfl) : EvB g L (.Assign [.Name x pos'] e pos :: st) D (m.bind f) := by
  refine PSs.imp (pss_cons (ps_set (i := i) (by rw [ok.N]; exact ok.nd) (by rw [ok.N]; exact hN) (ok.loc hV) he hs (okS_fn ok)) (PSs.ex hr)) fun E σ H ⟨kp, own, at_, q⟩ => ?_
  cases m with
  | ok d =>
    refine ⟨kp, own, at_, fun v vs H' s n h' r => ?_⟩
    obtain ⟨own', a'⟩ := at_.setOwn (i := i) (b := b) s n h' (r.mono hb.rb)
    exact ⟨d, kp, own', a', q⟩
  | ex c => exact ⟨kp, own, at_, BOk.exx wk at_ q⟩
  | no => exact q.elim
theorem evb_ownP {b : Bool} {d : List α} {m : M δ} (ok : OkS p sc NN VV GG k g) (hN : NN[i]? = some x) (hV : VV[j]? = some x) (hb : SlB md b) (he : EvL g L e md S (.ok d)) (hr : EvB g (L.set i (sOwn b S d)) st D m)
    (hs : swapsWith e (some (.Name x pos')) pos.line g.X.env = pure false := by rfl) : EvB g L (.Assign [.Name x pos'] e pos :: st) D m := by
  refine PSs.imp (pss_cons (ps_set (i := i) (by rw [ok.N]; exact ok.nd) (by rw [ok.N]; exact hN) (ok.loc hV) he hs (okS_fn ok)) hr) fun E σ H ⟨kp, own, at_, q⟩ => ?_
  refine ⟨kp, own, at_, fun v vs H' s n h' r => ?_⟩
  obtain ⟨own', a'⟩ := at_.setOwn (i := i) (b := b) s n h' (r.mono hb.rb)
  exact ⟨kp, own', a', q⟩

/-- an expression whose worth is dropped -/
theorem evb_expr {m : M α} {f : α → M δ} (wk : Wk L g.LX) (he : EvE g L e md S m) (hr : ∀ d, EvB g L st D (f d)) (hs : swapsWith e none pos.line g.X.env = pure false := by rfl) : EvB g L (.Expr e pos :: st) D (m.bind f) := by
  refine PSs.imp (pss_cons (ps_expr he hs) (PSs.ex hr)) fun E σ H ⟨kp, own, at_, q⟩ => ?_
  cases m with
  | ok d => exact ⟨kp, own, at_, fun v H' s r => ⟨d, kp, own, at_.ext s, q⟩⟩
  | ex c => exact ⟨kp, own, at_, BOk.exx wk at_ q⟩
  | no => exact q.elim
theorem evb_pass {m : M δ} (hr : EvB g L st D m) : EvB g L (.Pass pos :: st) D m := PSs.imp (pss_cons ps_pass hr) fun E σ H q => q
theorem evb_drop {m : M δ} (w : Wk L L') (hr : EvB g L' st D m) : EvB g L st D m := PSs.imp hr fun E σ H ⟨kp, own, at_, q⟩ => by
  obtain ⟨own', a', _⟩ := at_.weak w
  exact ⟨kp, own', a', q⟩
/-- a slot's own list may be shared from here on -/
theorem At.freeze {fm : Fm} {kp : RdR} {σ : L2.St} {H : Hp} {own : List Addr} {b : Bool} {ds : List α} (h : At fm kp L σ H own) (hL : L[i]? = some (sOwn b S ds)) : ∃ own', At fm kp (L.set i (sV false (tList S) ds)) σ H own' ∧ ∀ p ∈ own', p ∈ own := by
  obtain ⟨h1, h2, ⟨Fs, h3, rfl⟩, h4, h5, h6⟩ := h
  obtain ⟨v, F, e1, e2, q, vs, rfl, rfl, hp, r⟩ := h3.get hL
  have qin : q ∈ Fs.flatten := List.mem_flatten.mpr ⟨[q], List.mem_of_getElem? e2, by simp⟩
  have kk : ∀ p ∈ (Fs.set i []).flatten, p ∈ Fs.flatten := fun p hp => (set_sub (i := i)).subset hp
  have qn : q ∉ (Fs.set i []).flatten := by
    have nd := h4
    clear h3 h5 h6 qin kk r hp
    induction Fs generalizing i L σ with
    | nil => simp at e2
    | cons F Fs ih =>
      rw [List.flatten_cons, List.nodup_append] at nd
      cases i with
      | zero =>
        simp at e2
        subst e2
        simp only [List.set_cons_zero, List.flatten_cons, List.nil_append]
        exact fun z => nd.2.2 q (by simp) q z rfl
      | succ i =>
        simp only [List.set_cons_succ, List.flatten_cons, List.mem_append, not_or]
        have e2' : Fs[i]? = some [q] := by simpa using e2
        refine ⟨fun z => nd.2.2 q z q (List.mem_flatten.mpr ⟨[q], List.mem_of_getElem? e2', by simp⟩) rfl, ?_⟩
        cases σ with
        | nil => simp at e1
        | cons s σ =>
          cases L with
          | nil => simp at hL
          | cons l L => exact ih (i := i) (L := L) (σ := σ) (hL := by simpa using hL) (e1 := by simpa using e1) (e2 := e2') (h4 := nd.2.1) (nd := nd.2.1)
  have σe : σ.set i (some (V.ref q)) = σ := by
    apply List.ext_getElem?
    intro n
    by_cases hn : n = i
    · subst hn
      rw [e1]
      have := (List.getElem?_eq_some_iff.mp e1).1
      rw [List.getElem?_set_self this]
    · rw [List.getElem?_set_ne (Ne.symm hn)]
  refine ⟨_, ⟨h1, h2, ⟨Fs.set i [], ?_, rfl⟩, h4.sublist set_sub, fun p hp => h5 p (kk p hp), fun a o z => RX.own (md := .sh) (H := H) kk a o (h6 a o z)⟩, kk⟩
  rw [← σe]
  refine (h3.st (RB.own kk) fun _ _ => rfl).set (s := sV false (tList S) ds) ⟨rfl, .ref q, rfl, q, vs, rfl, ?_, ?_⟩ i
  · exact .inl ⟨.inl (cl_of hp), qn, (h5 q qin).2.2⟩
  · exact r.mono fun a o z => RX.sh (H := H) a o (RB.own kk b a o z)
theorem evb_freeze {b : Bool} {ds : List α} {m : M δ} (hL : L[i]? = some (sOwn b S ds)) (hr : EvB g (L.set i (sV false (tList S) ds)) st D m) : EvB g L st D m := PSs.imp hr fun E σ H ⟨kp, own, at_, q⟩ => by
  obtain ⟨own', a', _⟩ := at_.freeze hL
  exact ⟨kp, own', a', q⟩
/-- an expression may read a slot's own list -/
theorem ev_borrow {b : Bool} {ds : List α} {m : M β} (hf : Flat T ∨ md = .fx) (hL : L[i]? = some (sOwn b S ds)) (h : EvE g (L.set i (sV false (tList S) ds)) e md T m) : EvE g L e md T m := PE.imp h fun σ H Q q => by
  obtain ⟨kp, own, at_, q⟩ := tE_iff.mp q
  obtain ⟨own', a', sub⟩ := at_.freeze hL
  refine tE_iff.mpr ⟨kp, own', a', ?_⟩
  cases m with
  | ok d =>
    refine fun v H' s r => q v H' s ?_
    rcases hf with hf | rfl
    · exact hf r
    · exact T.mono r fun a o z => ⟨z.1, fun y => (at_.new a y).1 z.2.2.2.2, z.2.2⟩
  | ex c => exact q
  | no => exact q
theorem evt_borrow {b : Bool} {ds : List α} {m : M Bool} (hL : L[i]? = some (sOwn b S ds)) (h : EvT g (L.set i (sV false (tList S) ds)) e m) : EvT g L e m := PT.imp h fun σ H Q q => by
  obtain ⟨kp, own, at_, q⟩ := tT_iff.mp q
  obtain ⟨own', a', sub⟩ := at_.freeze hL
  refine tT_iff.mpr ⟨kp, own', a', ?_⟩
  cases m <;> exact q
theorem evl_borrow {b : Bool} {ds : List α} {m : M (List β)} (hf : Flat T ∨ md = .fx) (hL : L[i]? = some (sOwn b S ds)) (h : EvL g (L.set i (sV false (tList S) ds)) e md T m) : EvL g L e md T m := PE.imp h fun σ H Q q => by
  obtain ⟨kp, own, at_, q⟩ := tL_iff.mp q
  obtain ⟨own', a', sub⟩ := at_.freeze hL
  refine tL_iff.mpr ⟨kp, own', a', ?_⟩
  cases m with
  | ok d =>
    refine fun p v H' s n h' r => q p v H' s n h' ?_
    rcases hf with hf | rfl
    · exact r.flat hf
    · exact r.mono fun a o z => ⟨z.1, fun y => (List.mem_cons.mp y).elim (fun e => z.2.1 (by rw [e]; exact List.mem_cons_self)) fun y => (at_.new a y).1 z.2.2.2.2, z.2.2⟩
  | ex c => exact q
  | no => exact q

/-! ### if -/
theorem if_bind {c : Bool} {m1 m2 : M α} {f : α → M β} : (if c = true then m1 else m2).bind f = if c = true then m1.bind f else m2.bind f := by cases c <;> rfl
/-- both ways go on to one state -/
theorem evb_if {mc : M Bool} {m1 m2 : M β} {f : β → M δ} {LJ : β → List Slot} {sa sb : List Stmt} (wk : Wk L g.LX) (hc : EvT g L c mc) (ha : EvB g L sa (fun s => .nx (LJ s)) m1) (hb : EvB g L sb (fun s => .nx (LJ s)) m2) (hr : ∀ s, EvB g (LJ s) st D (f s)) :
    EvB g L (.If c sa sb pos :: st) D (mc.bind fun c => (if c = true then m1 else m2).bind f) := by
  refine PSs.imp (pss_cons (ps_if hc ha hb) (PSs.ex hr)) fun E σ H ⟨kp, own, at_, q⟩ => ?_
  have key : ∀ {m : M β} {H1 : Hp}, Same H H1 → BOk g kp E D (m.bind f) → tB g L (fun s => .nx (LJ s)) m { E with nx := fun σ H => ∃ d, tB g (LJ d) D (f d) E σ H } σ H1 := fun {m H1} s q => by
    cases m with
    | ok d => exact ⟨kp, own, at_.ext s, fun σ' H' own' a' => ⟨d, kp, own', a', q⟩⟩
    | ex c => exact ⟨kp, own, at_.ext s, q⟩
    | no => exact q.elim
  cases mc with
  | ok c =>
    refine ⟨kp, own, at_, fun H1 s => ?_⟩
    cases c with
    | true => exact key s q
    | false => exact key s q
  | ex c => exact ⟨kp, own, at_, BOk.exx wk at_ q⟩
  | no => exact q.elim
theorem evb_ifP {c' : Bool} {m1 m2 : M β} {f : β → M δ} {LJ : β → List Slot} {sa sb : List Stmt} (wk : Wk L g.LX) (hc : EvT g L c (.ok c')) (ha : EvB g L sa (fun s => .nx (LJ s)) m1) (hb : EvB g L sb (fun s => .nx (LJ s)) m2) (hr : ∀ s, EvB g (LJ s) st D (f s)) :
    EvB g L (.If c sa sb pos :: st) D ((if c' = true then m1 else m2).bind f) := evb_if wk hc ha hb hr
def Out.isNx : Out → Bool
  | .nx _ => true
  | _ => false
theorem OutOk.cut {fm : Fm} {kp : RdR} {E E' : Ends} (hc : E'.ct = E.ct) (hr : E'.rt = E.rt) : ∀ {o : Out}, o.isNx = false → OutOk fm kp E o → OutOk fm kp E' o.cut := fun {o} hn q => by
  cases o with
  | nx L => cases hn
  | ct L => exact fun σ H own a => by rw [hc]; exact q σ H own a
  | go L => exact fun σ H own a => by rw [hc]; exact (q σ H own a).2
  | rt b T r => exact fun v H' s r => by rw [hr]; exact q v H' s r
  | rtL b T r => exact fun p vs H' s n1 n2 h r => by rw [hr]; exact q p vs H' s n1 n2 h r
  | bad => exact q
/-- one way leaves (return, raise, continue), the other goes on -/
theorem evb_ifx {mc : M Bool} {m1 m2 : M δ} {sa : List Stmt} (wk : Wk L g.LX) (hc : EvT g L c mc) (ha : EvB g L sa (fun d => (D d).cut) m1) (hr : EvB g L st D m2) (hn : ∀ d, (D d).isNx = false := by intro d; first | rfl | (cases d <;> first | rfl | (rename_i z; cases z <;> rfl))) :
    EvB g L (.If c sa [] pos :: st) D (mc.bind fun c => if c = true then m1 else m2) := by
  refine PSs.imp (pss_cons (ps_if hc ha pss_nil) hr) fun E σ H ⟨kp, own, at_, q⟩ => ?_
  cases mc with
  | ok c =>
    refine ⟨kp, own, at_, fun H1 s => ?_⟩
    cases c with
    | true =>
      have q : BOk g kp E D m1 := q
      refine ⟨kp, own, at_.ext s, ?_⟩
      cases m1 with
      | ok d => exact OutOk.cut (E := E) (E' := { E with nx := tB g L D m2 E }) rfl rfl (hn d) q
      | ex c => exact q
      | no => exact q
    | false => exact ⟨kp, own, at_.ext s, q⟩
  | ex c => exact ⟨kp, own, at_, BOk.exx wk at_ q⟩
  | no => exact q.elim
theorem evb_ifxP {c' : Bool} {m1 m2 : M δ} {sa : List Stmt} (hc : EvT g L c (.ok c')) (ha : EvB g L sa (fun d => (D d).cut) m1) (hr : EvB g L st D m2) (hn : ∀ d, (D d).isNx = false := by intro d; first | rfl | (cases d <;> first | rfl | (rename_i z; cases z <;> rfl))) :
    EvB g L (.If c sa [] pos :: st) D (if c' = true then m1 else m2) := by
  refine PSs.imp (pss_cons (ps_if hc ha pss_nil) hr) fun E σ H ⟨kp, own, at_, q⟩ => ?_
  refine ⟨kp, own, at_, fun H1 s => ?_⟩
  cases c' with
  | true =>
    have q : BOk g kp E D m1 := q
    refine ⟨kp, own, at_.ext s, ?_⟩
    cases m1 with
    | ok d => exact OutOk.cut (E := E) (E' := { E with nx := tB g L D m2 E }) rfl rfl (hn d) q
    | ex c => exact q
    | no => exact q
  | false => exact ⟨kp, own, at_.ext s, q⟩
/-- the last statement of a block: both ways end as the block does -/
theorem evb_ifl {mc : M Bool} {m1 m2 : M δ} {sa sb : List Stmt} (wk : Wk L g.LX) (hc : EvT g L c mc) (ha : EvB g L sa D m1) (hb : EvB g L sb D m2) : EvB g L [.If c sa sb pos] D (mc.bind fun c => if c = true then m1 else m2) := by
  refine PSs.imp (pss_one (ps_if hc ha hb)) fun E σ H ⟨kp, own, at_, q⟩ => ?_
  cases mc with
  | ok c =>
    refine ⟨kp, own, at_, fun H1 s => ?_⟩
    cases c with
    | true => exact ⟨kp, own, at_.ext s, q⟩
    | false => exact ⟨kp, own, at_.ext s, q⟩
  | ex c => exact ⟨kp, own, at_, BOk.exx wk at_ q⟩
  | no => exact q.elim
theorem evb_iflP {c' : Bool} {m1 m2 : M δ} {sa sb : List Stmt} (hc : EvT g L c (.ok c')) (ha : EvB g L sa D m1) (hb : EvB g L sb D m2) : EvB g L [.If c sa sb pos] D (if c' = true then m1 else m2) := by
  refine PSs.imp (pss_one (ps_if hc ha hb)) fun E σ H ⟨kp, own, at_, q⟩ => ?_
  refine ⟨kp, own, at_, fun H1 s => ?_⟩
  cases c' with
  | true => exact ⟨kp, own, at_.ext s, q⟩
  | false => exact ⟨kp, own, at_.ext s, q⟩

/-! ### loops -/
def forM {α β : Type} (f : β → α → M β) : β → List α → M β
  | s, [] => .ok s
  | s, x :: r => (f s x).bind fun s' => forM f s' r
/-- a turn's end: on, or out of the def -/
inductive Fl (β ρ : Type) where
  | nx (s : β)
  | rt (r : ρ)
universe u in
def Fl.el {β ρ : Type} {γ : Type u} (f : β → γ) (h : ρ → γ) : Fl β ρ → γ
  | .nx s => f s
  | .rt r => h r
def forF {α β ρ : Type} (f : β → α → M (Fl β ρ)) : β → List α → M (Fl β ρ)
  | s, [] => .ok (.nx s)
  | s, x :: r => (f s x).bind (Fl.el (fun s' => forF f s' r) fun r => .ok (.rt r))
def ItOk (K : PySem.W.Frag) (kp : RdR) (J : It) (T : Ty α) (xs : List α) : Prop :=
  ∀ H, Rdb K kp H → ∀ i, (∀ d, xs[i]? = some d → J.go i H ∧ ∀ x H', J.yld i H x H' → Same H H' ∧ T.rep d x (Nw false kp H H')) ∧ (xs[i]? = none → J.stop i H)
/-- what a for walks -/
def tI (fm : Fm) (W : Wx) (L : List Slot) (T : Ty α) (m : M (List α)) : TI := fun σ H R => ∃ kp own, At fm kp L σ H own ∧
  match m with
  | .ok xs => ∀ J H', Same H H' → ItOk fm.K (RD fm own H') J T xs → R J H'
  | .ex c => ∀ H', Same H H' → W c σ H'
  | .no => False
def EvI (g : G) (L : List Slot) (tg e : Expr) (T : Ty α) (m : M (List α)) : Prop := PI g.X tg e (tI g.fm g.W L T m)
theorem PI.imp {X : Cx} {tg e : Expr} {t t' : TI} (h : PI X tg e t) (k : ∀ σ H Q, t' σ H Q → t σ H Q) : PI X tg e t' := ⟨fun pins s σ H Q I q => h.run pins s σ H Q I (k _ _ _ q)⟩
/-- a target that is one name: its slot afterwards -/
def tG (fm : Fm) (T : Ty α) (L : List Slot) (Lt : α → List Slot) : TG := fun v σ H Q => ∃ kp own d, At fm kp L σ H own ∧ T.rep d v (RD fm own H) ∧ ∀ σ' own', At fm kp (Lt d) σ' H own' → (∀ p ∈ own', p ∈ own) → Q σ' H
def EvG (g : G) (tg : Expr) (T : Ty α) (L : List Slot) (Lt : α → List Slot) : Prop := PG g.X tg (tG g.fm T L Lt)
theorem PG.imp {X : Cx} {e : Expr} {t t' : TG} (h : PG X e t) (k : ∀ v σ H Q, t' v σ H Q → t v σ H Q) : PG X e t' := ⟨fun pins s σ H v u Q I r q => h.run pins s σ H v u Q I r (k _ _ _ _ q)⟩

theorem PG.ex {X : Cx} {ι : Type} {e : Expr} {t : ι → TG} (h : ∀ d, PG X e (t d)) : PG X e (fun v σ H Q => ∃ d, t d v σ H Q) := ⟨fun pins s σ H v u Q I r ⟨d, q⟩ => (h d).run pins s σ H v u Q I r q⟩
theorem evg_name (ok : OkS p sc NN VV GG k g) (hN : NN[i]? = some x) (hV : VV[j]? = some x) : EvG g (.Name x pos) T L (fun d => L.set i (sV false T d)) := by
  refine PG.imp (pg_name (i := i) (by rw [ok.N]; exact ok.nd) (by rw [ok.N]; exact hN) (ok.loc hV) (okS_fn ok)) fun v σ H Q ⟨kp, own, d, at_, r, q⟩ => ?_
  obtain ⟨h1, h2, ⟨Fs, h3, rfl⟩, h4, h5, h6⟩ := at_
  have kk : ∀ p ∈ (Fs.set i []).flatten, p ∈ Fs.flatten := fun p hp => (set_sub (i := i)).subset hp
  exact q _ _ ⟨h1, h2, ⟨Fs.set i [], (h3.st (RB.own kk) fun _ _ => rfl).set (s := sV false T d) ⟨rfl, v, rfl, T.mono r (RX.own (md := .sh) (H := H) kk)⟩ i, rfl⟩, h4.sublist set_sub, fun p hp => h5 p (kk p hp), fun a o q => RX.own (md := .sh) (H := H) kk a o (h6 a o q)⟩ kk
theorem Nw.rd {fm : Fm} {kp kp' : RdR} {own : List Addr} {σ : L2.St} {H H' : Hp} (at_ : At fm kp L σ H own) (k : ∀ a o, kp' a o → RD fm own H a o) (s : Same H H') : ∀ a o, Nw false kp' H H' a o → RD fm own H' a o := fun a o r => by
  rcases r with ⟨_, r⟩ | ⟨r, n⟩
  · exact RD.same s a o (k a o r)
  · exact .inl ⟨.inl r, fun hp => (at_.new a hp).1 n, fun hz => at_.zin a hz n⟩
theorem RD.rdb {fm : Fm} {own : List Addr} {H : Hp} : Rdb fm.K (RD fm own H) H := fun a o r => r.imp (fun h => Rd.raw h.1) id
theorem evb_for {m : M (List α)} {f : β → α → M β} {h : β → M δ} {LF : β → List Slot} {Lt : β → α → List Slot} {s0 : β} {tg it : Expr} {body : List Stmt} (ok : OkS p sc NN VV GG k g) (wk : Wk L g.LX) (hI : EvI g L tg it S m) (w0 : Wk L (LF s0))
    (hG : ∀ s, EvG g tg S (LF s) (Lt s)) (hb : ∀ s d, EvB g (Lt s d) body (fun s' => .go (LF s')) (f s d)) (hr : ∀ s, EvB g (LF s) st D (h s)) (hs : ∀ x, foldedSetIterable it g.X.env x = pure x := by intro _; rfl) :
    EvB g L (.For tg it body [] pos :: st) D (m.bind fun xs => (forM f s0 xs).bind h) := by
  refine PSs.imp (pss_cons (ps_for ok.psO ok.calm hI (PG.ex hG) (PSs.ex fun s => PSs.ex (hb s)) hs) (PSs.ex hr)) fun E σ H ⟨kp, own, at_, q⟩ => ?_
  cases m with
  | ex c => exact ⟨kp, own, at_, BOk.exx wk at_ q⟩
  | no => exact q.elim
  | ok xs =>
  refine ⟨kp, own, at_, fun J H1 s1 hJ => ?_⟩
  have at1 := at_.ext s1
  obtain ⟨own0, a0, sub0⟩ := at1.weak w0
  have q : BOk g kp E D ((forM f s0 xs).bind h) := q
  have kk : ∀ a o, kp a o → RD g.fm own H1 a o := at1.kept
  have a0' : At g.fm (RD g.fm own H1) (LF s0) σ H1 own0 := ⟨a0.same, a0.zin, a0.sl, a0.nd, a0.new, fun a o z => RX.own (md := .sh) (H := H1) sub0 a o z⟩
  refine ⟨fun i m σ H => m = xs.length - i ∧ i ≤ xs.length ∧ ∃ s own', At g.fm (RD g.fm own H1) (LF s) σ H own' ∧ BOk g kp E D ((forM f s (xs.drop i)).bind h), ⟨_, rfl, Nat.zero_le _, s0, own0, a0', q⟩, ?_⟩
  rintro i m σ H ⟨rfl, hi, s, own', a', q'⟩
  have rb : Rdb g.fm.K (RD g.fm own H1) H := fun a o z => (a'.kept a o z).imp (fun h => Rd.raw h.1) id
  obtain ⟨hgo, hst⟩ := hJ H rb i
  by_cases hlt : i < xs.length
  · have he : xs[i]? = some xs[i] := by simp [hlt]
    obtain ⟨go, yl⟩ := hgo _ he
    rw [List.drop_eq_getElem_cons hlt] at q'
    refine .inr ⟨go, fun σ' H' => ∃ s own', At g.fm (RD g.fm own H1) (LF s) σ' H' own' ∧ BOk g kp E D ((forM f s (xs.drop (i + 1))).bind h), fun σ' H' ⟨s', own'', a'', q''⟩ => ⟨xs.length - (i + 1), by omega, rfl, hlt, s', own'', a'', q''⟩, fun x H' y => ?_⟩
    obtain ⟨s2, r2⟩ := yl x H' y
    refine ⟨s, _, own', xs[i], a'.ext s2, S.mono r2 (Nw.rd a' a'.kept s2), fun σ' own'' a'' _ => ⟨s, xs[i], _, own'', a'', ?_⟩⟩
    have q2 : BOk g kp E D (((f s xs[i]).bind fun s' => forM f s' (xs.drop (i + 1))).bind h) := q'
    cases hf : f s xs[i] with
    | ok s' =>
      rw [hf] at q2
      exact fun σ3 H3 own3 a3 => ⟨⟨s', own3, a3, q2⟩, ⟨s', own3, a3, q2⟩⟩
    | ex c =>
      rw [hf] at q2
      exact fun σ3 H3 own3 a3 => q2 σ3 H3 own3 (a3.keep kk)
    | no => rw [hf] at q2; exact q2
  · have e : i = xs.length := by omega
    subst e
    rw [List.drop_length] at q'
    exact .inl ⟨hst (by simp), s, kp, own', a'.keep kk, q'⟩
def Out.isRt : Out → Bool
  | .rt _ _ _ => true
  | .rtL _ _ _ => true
  | _ => false
theorem OutOk.rt {fm : Fm} {kp kp' : RdR} {E E' : Ends} (hr : E'.rt = E.rt) : ∀ {o : Out}, o.isRt = true → OutOk fm kp E o → OutOk fm kp' E' o := fun {o} hn q => by
  cases o with
  | nx L => cases hn
  | ct L => cases hn
  | go L => cases hn
  | rt b T r => exact fun v H' s r => by rw [hr]; exact q v H' s r
  | rtL b T r => exact fun p vs H' s n1 n2 h r => by rw [hr]; exact q p vs H' s n1 n2 h r
  | bad => cases hn
/-- .. that may leave the def -/
theorem evb_forF {ρ : Type} {m : M (List α)} {f : β → α → M (Fl β ρ)} {h : β → M δ} {dr : ρ → δ} {LF : β → List Slot} {Lt : β → α → List Slot} {s0 : β} {tg it : Expr} {body : List Stmt} (ok : OkS p sc NN VV GG k g) (wk : Wk L g.LX) (hI : EvI g L tg it S m) (w0 : Wk L (LF s0))
    (hG : ∀ s, EvG g tg S (LF s) (Lt s)) (hb : ∀ s d, EvB g (Lt s d) body (Fl.el (fun s' => Out.go (LF s')) fun r => D (dr r)) (f s d)) (hr : ∀ s, EvB g (LF s) st D (h s)) (hD : ∀ r, (D (dr r)).isRt = true := by intro d; first | rfl | (cases d <;> rfl)) (hs : ∀ x, foldedSetIterable it g.X.env x = pure x := by intro _; rfl) :
    EvB g L (.For tg it body [] pos :: st) D (m.bind fun xs => (forF f s0 xs).bind (Fl.el h fun r => .ok (dr r))) := by
  refine PSs.imp (pss_cons (ps_for ok.psO ok.calm hI (PG.ex hG) (PSs.ex fun s => PSs.ex (hb s)) hs) (PSs.ex hr)) fun E σ H ⟨kp, own, at_, q⟩ => ?_
  cases m with
  | ex c => exact ⟨kp, own, at_, BOk.exx wk at_ q⟩
  | no => exact q.elim
  | ok xs =>
  refine ⟨kp, own, at_, fun J H1 s1 hJ => ?_⟩
  have at1 := at_.ext s1
  obtain ⟨own0, a0, sub0⟩ := at1.weak w0
  have q : BOk g kp E D ((forF f s0 xs).bind (Fl.el h fun r => .ok (dr r))) := q
  have kk : ∀ a o, kp a o → RD g.fm own H1 a o := at1.kept
  have a0' : At g.fm (RD g.fm own H1) (LF s0) σ H1 own0 := ⟨a0.same, a0.zin, a0.sl, a0.nd, a0.new, fun a o z => RX.own (md := .sh) (H := H1) sub0 a o z⟩
  refine ⟨fun i m σ H => m = xs.length - i ∧ i ≤ xs.length ∧ ∃ s own', At g.fm (RD g.fm own H1) (LF s) σ H own' ∧ BOk g kp E D ((forF f s (xs.drop i)).bind (Fl.el h fun r => .ok (dr r))), ⟨_, rfl, Nat.zero_le _, s0, own0, a0', q⟩, ?_⟩
  rintro i m σ H ⟨rfl, hi, s, own', a', q'⟩
  have rb : Rdb g.fm.K (RD g.fm own H1) H := fun a o z => (a'.kept a o z).imp (fun h => Rd.raw h.1) id
  obtain ⟨hgo, hst⟩ := hJ H rb i
  by_cases hlt : i < xs.length
  · have he : xs[i]? = some xs[i] := by simp [hlt]
    obtain ⟨go, yl⟩ := hgo _ he
    rw [List.drop_eq_getElem_cons hlt] at q'
    refine .inr ⟨go, fun σ' H' => ∃ s own', At g.fm (RD g.fm own H1) (LF s) σ' H' own' ∧ BOk g kp E D ((forF f s (xs.drop (i + 1))).bind (Fl.el h fun r => .ok (dr r))), fun σ' H' ⟨s', own'', a'', q''⟩ => ⟨xs.length - (i + 1), by omega, rfl, hlt, s', own'', a'', q''⟩, fun x H' y => ?_⟩
    obtain ⟨s2, r2⟩ := yl x H' y
    refine ⟨s, _, own', xs[i], a'.ext s2, S.mono r2 (Nw.rd a' a'.kept s2), fun σ' own'' a'' _ => ⟨s, xs[i], _, own'', a'', ?_⟩⟩
    have q2 : BOk g kp E D (((f s xs[i]).bind (Fl.el (fun s' => forF f s' (xs.drop (i + 1))) fun r => .ok (.rt r))).bind (Fl.el h fun r => .ok (dr r))) := q'
    cases hf : f s xs[i] with
    | ok s' =>
      rw [hf] at q2
      cases s' with
      | nx s' => exact fun σ3 H3 own3 a3 => ⟨⟨s', own3, a3, q2⟩, ⟨s', own3, a3, q2⟩⟩
      | rt r =>
        have q2 : OutOk g.fm kp E (D (dr r)) := q2
        show OutOk g.fm _ _ (D (dr r))
        refine OutOk.rt (E := E) ?_ (hD r) q2
        rfl
    | ex c =>
      rw [hf] at q2
      exact fun σ3 H3 own3 a3 => q2 σ3 H3 own3 (a3.keep kk)
    | no => rw [hf] at q2; exact q2
  · have e : i = xs.length := by omega
    subst e
    rw [List.drop_length] at q'
    exact .inl ⟨hst (by simp), s, kp, own', a'.keep kk, q'⟩
/-- while: fuel says how many turns at most -/
def whileM {β : Type} (t : β → M Bool) (f : β → M β) : Nat → β → M β
  | 0, _ => .no
  | n + 1, s => (t s).bind fun c => if c = true then (f s).bind (whileM t f n) else .ok s
def whileF {β ρ : Type} (t : β → M Bool) (f : β → M (Fl β ρ)) : Nat → β → M (Fl β ρ)
  | 0, _ => .no
  | n + 1, s => (t s).bind fun c => if c = true then (f s).bind (Fl.el (whileF t f n) fun r => .ok (.rt r)) else .ok (.nx s)
theorem PT.ex {X : Cx} {ι : Type} {e : Expr} {t : ι → TT} (h : ∀ d, PT X e (t d)) : PT X e (fun σ H Q => ∃ d, t d σ H Q) := ⟨fun pins s σ H Q I ⟨d, q⟩ => (h d).run pins s σ H Q I q⟩
theorem evb_while {n : Nat} {t : β → M Bool} {f : β → M β} {h : β → M δ} {LF : β → List Slot} {s0 : β} {body : List Stmt} (ok : OkS p sc NN VV GG k g) (wk : ∀ s, Wk (LF s) g.LX) (w0 : Wk L (LF s0))
    (hc : ∀ s, EvT g (LF s) c (t s)) (hb : ∀ s, EvB g (LF s) body (fun s' => .go (LF s')) (f s)) (hr : ∀ s, EvB g (LF s) st D (h s)) :
    EvB g L (.While c body [] pos :: st) D ((whileM t f n s0).bind h) := by
  refine PSs.imp (pss_cons (ps_while ok.psO (PT.ex hc) (PSs.ex hb)) (PSs.ex hr)) fun E σ H ⟨kp, own, at_, q⟩ => ?_
  obtain ⟨own0, a0, _⟩ := at_.weak w0
  refine ⟨fun m σ H => ∃ s own', At g.fm kp (LF s) σ H own' ∧ BOk g kp E D ((whileM t f m s).bind h), ⟨n, s0, own0, a0, q⟩, ?_⟩
  rintro m σ H ⟨s, own', a', q'⟩
  cases m with
  | zero => exact q'.elim
  | succ m =>
  refine ⟨s, tT_iff.mpr ⟨kp, own', a', ?_⟩⟩
  have q2 : BOk g kp E D (((t s).bind fun c => if c = true then (f s).bind (whileM t f m) else .ok s).bind h) := q'
  cases ht : t s with
  | ok c =>
    rw [ht] at q2
    intro H1 s1
    cases c with
    | true =>
      rw [if_pos rfl]
      refine ⟨fun σ' H' => ∃ s own', At g.fm kp (LF s) σ' H' own' ∧ BOk g kp E D ((whileM t f m s).bind h), fun σ' H' z => ⟨m, Nat.lt_succ_self m, z⟩, s, kp, own', a'.ext s1, ?_⟩
      have q3 : BOk g kp E D (((f s).bind (whileM t f m)).bind h) := q2
      cases hf : f s with
      | ok s' => rw [hf] at q3; exact fun σ3 H3 own3 a3 => ⟨⟨s', own3, a3, q3⟩, ⟨s', own3, a3, q3⟩⟩
      | ex c => rw [hf] at q3; exact q3
      | no => rw [hf] at q3; exact q3
    | false => exact ⟨s, kp, own', a'.ext s1, q2⟩
  | ex c => rw [ht] at q2; exact BOk.exx (wk s) a' q2
  | no => rw [ht] at q2; exact q2
theorem evb_whileF {ρ : Type} {n : Nat} {t : β → M Bool} {f : β → M (Fl β ρ)} {h : β → M δ} {dr : ρ → δ} {LF : β → List Slot} {s0 : β} {body : List Stmt} (ok : OkS p sc NN VV GG k g) (wk : ∀ s, Wk (LF s) g.LX) (w0 : Wk L (LF s0))
    (hc : ∀ s, EvT g (LF s) c (t s)) (hb : ∀ s, EvB g (LF s) body (Fl.el (fun s' => Out.go (LF s')) fun r => D (dr r)) (f s)) (hr : ∀ s, EvB g (LF s) st D (h s)) (hD : ∀ r, (D (dr r)).isRt = true := by intro d; first | rfl | (cases d <;> rfl)) :
    EvB g L (.While c body [] pos :: st) D ((whileF t f n s0).bind (Fl.el h fun r => .ok (dr r))) := by
  refine PSs.imp (pss_cons (ps_while ok.psO (PT.ex hc) (PSs.ex hb)) (PSs.ex hr)) fun E σ H ⟨kp, own, at_, q⟩ => ?_
  obtain ⟨own0, a0, _⟩ := at_.weak w0
  refine ⟨fun m σ H => ∃ s own', At g.fm kp (LF s) σ H own' ∧ BOk g kp E D ((whileF t f m s).bind (Fl.el h fun r => .ok (dr r))), ⟨n, s0, own0, a0, q⟩, ?_⟩
  rintro m σ H ⟨s, own', a', q'⟩
  cases m with
  | zero => exact q'.elim
  | succ m =>
  refine ⟨s, tT_iff.mpr ⟨kp, own', a', ?_⟩⟩
  have q2 : BOk g kp E D (((t s).bind fun c => if c = true then (f s).bind (Fl.el (whileF t f m) fun r => .ok (.rt r)) else .ok (.nx s)).bind (Fl.el h fun r => .ok (dr r))) := q'
  cases ht : t s with
  | ok c =>
    rw [ht] at q2
    intro H1 s1
    cases c with
    | true =>
      rw [if_pos rfl]
      refine ⟨fun σ' H' => ∃ s own', At g.fm kp (LF s) σ' H' own' ∧ BOk g kp E D ((whileF t f m s).bind (Fl.el h fun r => .ok (dr r))), fun σ' H' z => ⟨m, Nat.lt_succ_self m, z⟩, s, kp, own', a'.ext s1, ?_⟩
      have q3 : BOk g kp E D (((f s).bind (Fl.el (whileF t f m) fun r => .ok (.rt r))).bind (Fl.el h fun r => .ok (dr r))) := q2
      cases hf : f s with
      | ok s' =>
        rw [hf] at q3
        cases s' with
        | nx s' => exact fun σ3 H3 own3 a3 => ⟨⟨s', own3, a3, q3⟩, ⟨s', own3, a3, q3⟩⟩
        | rt r =>
          have q3 : OutOk g.fm kp E (D (dr r)) := q3
          show OutOk g.fm _ _ (D (dr r))
          refine OutOk.rt (E := E) ?_ (hD r) q3
          rfl
      | ex c => rw [hf] at q3; exact q3
      | no => rw [hf] at q3; exact q3
    | false => exact ⟨s, kp, own', a'.ext s1, q2⟩
  | ex c => rw [ht] at q2; exact BOk.exx (wk s) a' q2
  | no => rw [ht] at q2; exact q2
end
end Hd

namespace Hd
open PySem PySem.Spec L2
/-! ### a def and its calls -/
def RetOk (fm : Fm) (Q : VK) : Out → Prop
  | .rt md T r => ∀ v H', Same fm.H0 H' → T.rep r v (RT fm H' md) → Q v H'
  | .rtL md T r => ∀ p vs H', Same fm.H0 H' → ¬ fm.z p → fm.H0 p = none → H' p = some (.lst vs) → Reps T (RT fm H' md (some p)) r vs → Q (.ref p) H'
  | _ => False
/-- what a def promises: it comes to F -/
def spM (p : Pr) {δ ρ : Type} (A : Ar δ) (D : ρ → Out) (F : δ → M ρ) : Sp := fun vs H Q E => ∃ d z, ((∀ a, z a → H a ≠ none) ∧ ∀ P, p.T = some P → LamX.TabS H P lamQ) ∧ A.rep d vs (RD ⟨p.K, H, z⟩ [] H) ∧
  match F d with
  | .ok r => RetOk ⟨p.K, H, z⟩ Q (D r)
  | .ex c => ∀ H', Same H H' → E (.ref (p.C c)) none H'
  | .no => False
/-- the slots of the arguments -/
inductive ArS : {δ : Type} → Ar δ → Nat → (δ → List Slot) → Prop where
  | nil : ArS aNil 0 (fun _ => [])
  | cons {α δ : Type} {T : Ty α} {A : Ar δ} {n : Nat} {f : δ → List Slot} : ArS A n f → ArS (aCons T A) (n + 1) (fun d => sV false T d.1 :: f d.2)
theorem ArS.all {H : Hp} {R : Bool → RdR} {δ : Type} {A : Ar δ} {n : Nat} {f : δ → List Slot} (s : ArS A n f) : ∀ {d : δ} {vs : List V}, A.rep d vs (R false) → vs.length = n ∧ AllS H R (f d) (vs.map some) (List.replicate n []) := by
  induction s with
  | nil => intro d vs h; cases (show vs = [] from h); exact ⟨rfl, .nil⟩
  | cons _ ih =>
    intro d vs h
    obtain ⟨v, r, rfl, h1, h2⟩ := h
    obtain ⟨e, h3⟩ := ih h2
    exact ⟨by simp [e], .cons ⟨rfl, v, rfl, h1⟩ h3⟩
theorem AllS.append {H : Hp} {R : Bool → RdR} {L L' : List Slot} {σ σ' : L2.St} {Fs Fs' : List (List Addr)} (h : AllS H R L σ Fs) (h' : AllS H R L' σ' Fs') : AllS H R (L ++ L') (σ ++ σ') (Fs ++ Fs') := by
  induction h with
  | nil => exact h'
  | cons r _ ih => exact .cons r ih
theorem AllS.anys {H : Hp} {R : Bool → RdR} : ∀ n, AllS H R (List.replicate n sAny) (List.replicate n none) (List.replicate n [])
  | 0 => .nil
  | n + 1 => .cons rfl (AllS.anys n)
theorem flat_rep (n : Nat) : (List.replicate n ([] : List Addr)).flatten = [] := by induction n with
  | zero => rfl
  | succ n ih => simp
structure Sc (st : Stmt) (NN VV ps GG : List Str) : Prop where
  S : FnScope NN ps (defScope st)
  vis : VV.all (seenB (defScope st)) = true
  loc : VV.all (locB (defScope st)) = true
  gl : GG.all (glB (defScope st)) = true
section
variable {p : Pr} {sc : Scope} {NN VV GG : List Str} {k : Nat} {g : G} {L L' : List Slot} {a b c e e' : Expr} {es : List Expr} {md md' : Md} {α β γ δ ρ : Type} {S : Ty α} {T : Ty β} {U : Ty γ} {A : Ar δ} {pos : Pos}
/-- a def's body, as a judgement for all its arguments -/
def Body (p : Pr) (st : Stmt) (NN VV GG : List Str) (k : Nat) (L0 : δ → List Slot) (D : ρ → Out) (F : δ → M ρ) : Prop :=
  ∀ g, OkS p (defScope st) NN VV GG k g → g.LX = List.replicate NN.length sAny → ∀ d, EvB g (L0 d) (defBody st) D (F d)
/-- how Ends take a block's end that the promise tells as D -/
theorem fn_gen {x qual : Str} {st : Stmt} {f : Addr} {fd : FuncData} {ps : List Str} {L0 : δ → List Slot} {n m : Nat} {D D' : ρ → Out} {F : δ → M ρ} (hF : FunD p.K x qual (defArgs st) (defBody st) (defScope st) [] [] f fd) (hS : Sc st NN VV ps GG) (ha : ArS A n L0) (hn : ps.length = n) (hm : n + m = NN.length)
    (hD : ∀ (r : ρ) (fm : Fm) (Q : VK), RetOk fm Q (D r) → OutOk fm (fun _ _ => False) { nx := fun _ H' => Q .non H', rt := Q } (D' r))
    (hb : Body p st NN VV GG k (fun d => L0 d ++ List.replicate m sAny) D' F) :
    FnOk p.P p.w p.K p.mg p.base (L2.CX p.P p.w) (k + 1) f fd ps (spM p A D F) := by
  refine hF.ok hS.S (fun vs H Q E h => ?_) (fun cdv A' outer s H vs Q E hr h => ?_)
  · obtain ⟨d, z, hz, hrep, _⟩ := h
    exact (ha.all (H := H) (R := fun _ => RD ⟨p.K, H, z⟩ [] H) hrep).1.trans hn.symm
  · obtain ⟨d, z, ⟨hz, htab⟩, hrep, q⟩ := h
    have hlen : vs.length = n := (ha.all (H := H) (R := fun _ => RD ⟨p.K, H, z⟩ [] H) hrep).1
    let X : Cx := cxOf (L2.CX p.P p.w) p.P p.w p.K p.mg p.base NN qual (defScope st) f cdv A' outer s H E
    let g : G := ⟨X, ⟨p.K, H, z⟩, fun c _ H' => E (.ref (p.C c)) none H', List.replicate NN.length sAny⟩
    have hN : ∀ {j : Nat} {y : Str}, VV[j]? = some y → y ∈ VV := fun e => List.mem_of_getElem? e
    have ok : OkS p (defScope st) NN VV GG k g :=
      { prog := rfl, w := rfl, K := rfl, mg := rfl, base := rfl, N := rfl, fmK := rfl, tab := htab, room := hr, nd := hS.S.nd
        vis := fun e => let h := seenB_v (List.all_eq_true.mp hS.vis _ (hN e)); ⟨h.2, h.1⟩
        gl := fun e => let h := glB_v (List.all_eq_true.mp hS.gl _ (List.mem_of_getElem? e)); ⟨h.2, h.1⟩
        tk := Takes.imp (takes_of (X := X) rfl rfl rfl (E := E) rfl) (fun cls d σ H ⟨c, e1, e2, h⟩ => by subst e1; subst e2; exact h)
        calm := rfl
        blk := fun h => blkOk_by h
        loc := fun e => locB_v (List.all_eq_true.mp hS.loc _ (hN e))
        fnT := fun _ => rfl
        psO := passes_of (X := X) rfl
        scp := rfl
        stk := rfl
        frm := rfl
        exn := rfl }
    refine ⟨_, hb g ok rfl d, (fun _ _ => False), [], ?_, ?_⟩
    · refine ⟨Same.refl H, hz, ⟨List.replicate n [] ++ List.replicate m [], ?_, by simp [flat_rep]⟩, List.nodup_nil, (fun _ h => nomatch h), fun _ _ h => h.elim⟩
      have h1 := (ha.all (H := H) (R := RB ⟨p.K, H, z⟩ [] H) hrep).2
      have e : L2.start NN vs = vs.map some ++ List.replicate m none := by
        unfold L2.start
        rw [show NN.length - vs.length = m by omega]
      rw [e]
      exact h1.append (AllS.anys m)
    · cases hF' : F d with
      | ok r =>
        rw [hF'] at q
        exact hD r _ _ q
      | ex c =>
        rw [hF'] at q
        exact fun σ' H' own a' => q H' a'.same
      | no => rw [hF'] at q; exact q
theorem fn_rt {x qual : Str} {st : Stmt} {f : Addr} {fd : FuncData} {ps : List Str} {L0 : δ → List Slot} {n m : Nat} {bm : Bool} {T : Ty ρ} {F : δ → M ρ} (hF : FunD p.K x qual (defArgs st) (defBody st) (defScope st) [] [] f fd) (hS : Sc st NN VV ps GG) (ha : ArS A n L0) (hn : ps.length = n) (hm : n + m = NN.length)
    (hb : Body p st NN VV GG k (fun d => L0 d ++ List.replicate m sAny) (fun r => .rt bm T r) F) : FnOk p.P p.w p.K p.mg p.base (L2.CX p.P p.w) (k + 1) f fd ps (spM p A (fun r => .rt bm T r) F) :=
  fn_gen (D' := fun r => .rt bm T r) hF hS ha hn hm (fun r fm Q h => h) hb
theorem fn_rtL {x qual : Str} {st : Stmt} {f : Addr} {fd : FuncData} {ps : List Str} {L0 : δ → List Slot} {n m : Nat} {bm : Bool} {F : δ → M (List α)} (hF : FunD p.K x qual (defArgs st) (defBody st) (defScope st) [] [] f fd) (hS : Sc st NN VV ps GG) (ha : ArS A n L0) (hn : ps.length = n) (hm : n + m = NN.length)
    (hb : Body p st NN VV GG k (fun d => L0 d ++ List.replicate m sAny) (fun r => .rtL bm S r) F) : FnOk p.P p.w p.K p.mg p.base (L2.CX p.P p.w) (k + 1) f fd ps (spM p A (fun r => .rtL bm S r) F) :=
  fn_gen (D' := fun r => .rtL bm S r) hF hS ha hn hm (fun r fm Q h => h) hb
/-- a def that hands back None by coming to its end -/
theorem fn_nx {x qual : Str} {st : Stmt} {f : Addr} {fd : FuncData} {ps : List Str} {L0 : δ → List Slot} {n m : Nat} {LE : List Slot} {F : δ → M Unit} (hF : FunD p.K x qual (defArgs st) (defBody st) (defScope st) [] [] f fd) (hS : Sc st NN VV ps GG) (ha : ArS A n L0) (hn : ps.length = n) (hm : n + m = NN.length)
    (hb : Body p st NN VV GG k (fun d => L0 d ++ List.replicate m sAny) (fun _ => .nx LE) F) : FnOk p.P p.w p.K p.mg p.base (L2.CX p.P p.w) (k + 1) f fd ps (spM p A (fun r => .rt false tNone r) F) :=
  fn_gen (D' := fun _ => .nx LE) hF hS ha hn hm (fun r fm Q h => fun σ H' own at_ => h .non H' at_.same rfl) hb

/-- a def, as its callers know it -/
structure Fn (p : Pr) (k : Nat) (x : Str) (ps : List Str) (sp : Sp) : Prop where
  ex : ∃ (f : Addr) (fd : FuncData), FnOk p.P p.w p.K p.mg p.base (L2.CX p.P p.w) k f fd ps sp ∧ p.mg x = some (.ref f) ∧ PySem.W.keepIn p.K (.ref f) = true ∧ Binds p.K fd ps []
theorem tk_at (ok : Ok p sc NN VV GG k g) (σ : L2.St) : PassesAt (L2.CX g.X.prog g.X.w) g.X σ (fun cls d H => ∃ c, cls = .ref (p.C c) ∧ d = none ∧ g.W c σ H) := passAt ok.tk σ
theorem args_in {own : List Addr} {H H1 : Hp} {d : δ} {vs : List V} {fm : Fm} (r : A.rep d vs (RX fm own H H1 md)) : A.rep d vs (RD ⟨fm.K, H1, fun a => a ∈ own ∨ fm.z a⟩ [] H1) :=
  A.mono r fun a o z => by
    rcases RX.sh a o z with z | z
    · exact .inl ⟨z.1, (fun y => nomatch y), fun y => y.elim z.2.1 z.2.2⟩
    · exact .inr z
/-- how new a call's answer is -/
inductive CaMd : Bool → Md → Prop where
  | sh : CaMd false .sh
  | fx {x : Md} : CaMd true x
theorem CaMd.rx {fm : Fm} {own : List Addr} {H H1 H' : Hp} {bm : Bool} {q : Option Addr} (h : CaMd bm md) (s : Same H H1) (s0 : Same fm.H0 H) : ∀ a o, RT ⟨fm.K, H1, fun a => a ∈ own ∨ fm.z a⟩ H' bm q a o → RX fm (q.toList ++ own) H H' md a o := fun a o r => by
  cases h with
  | sh =>
    have r : RX ⟨fm.K, H1, fun a => a ∈ own ∨ fm.z a⟩ q.toList H' H' .sh a o := r
    rcases r with ⟨r1, r2, r3⟩ | r
    · exact .inl ⟨r1, fun y => (List.mem_append.mp y).elim r2 fun y => r3 (.inl y), fun y => r3 (.inr y)⟩
    · exact .inr r
  | fx =>
    have r : RX ⟨fm.K, H1, fun a => a ∈ own ∨ fm.z a⟩ q.toList H' H' .f0 a o := r
    obtain ⟨r1, r2, r3, r4⟩ := r
    exact RX.fx md a o ⟨r1, fun y => (List.mem_append.mp y).elim r2 fun y => r3 (.inl y), fun y => r3 (.inr y), s0.free (s.free r4), s.free r4⟩
theorem ev_call {x : Str} {j kf : Nat} {ps : List Str} {bm : Bool} {T : Ty ρ} {F : δ → M ρ} {m : M δ} {pp : Pos} (ok : Ok p sc NN VV GG k g) (hf : Fn p kf x ps (spM p A (fun r => .rt bm T r) F)) (hk : kf ≤ k) (hG : GG[j]? = some x) (hc : CaMd bm md')
    (ha : EvA g L (e :: es) md A m) (he : starEach (e :: es) g.X.env = (false, eval e g.X.env) :: starEach es g.X.env := by rfl) (hpl : (backTo pos (starEach es g.X.env)).any (·.1) = false := by rfl) :
    EvE g L (.Call (.Name x pp) (e :: es) [] pos) md' T (m.bind F) := by
  obtain ⟨f, fd, hF, hm, hkp, hbd⟩ := hf.ex
  obtain ⟨hg, ho⟩ := ok.gl hG
  rw [← ok.prog, ← ok.w, ← ok.base] at hF
  have hF' : FnOk g.X.prog g.X.w g.X.K g.X.mg g.X.base (L2.CX g.X.prog g.X.w) kf f fd ps (spM p A (fun r => .rt bm T r) F) := by rw [ok.K, ok.mg]; exact hF
  refine PE.imp (pe_callS hF' (ok.room.mono hk) hg (by rw [ok.mg]; exact hm) (by rw [ok.K]; exact hkp) (by rw [ok.K]; exact hbd) (tk_at ok) ha (okName_d ho).1 he hpl) fun σ H Q q => ?_
  obtain ⟨kp, own, at_, q⟩ := tE_iff.mp q
  refine subA finE (Same.refl H) at_ q fun d vs H1 s1 r1 at1 q1 => ⟨d, fun a => a ∈ own ∨ g.fm.z a, ⟨fun a z => ?_, fun P e => at1.same.tab P (ok.tab P e)⟩, ?_, ?_⟩
  · rcases z with z | z
    · exact (at1.new a z).1
    · exact at1.zin a z
  · rw [← ok.fmK]; exact args_in r1
  · rw [← ok.fmK]
    cases hd : F d with
    | ok r =>
      rw [hd] at q1
      exact fun v H' s r => q1 v H' (s1.trans s) (T.mono r (hc.rx s1 at_.same))
    | ex c =>
      rw [hd] at q1
      exact fun H' s => ⟨c, rfl, rfl, q1 H' (s1.trans s)⟩
    | no => rw [hd] at q1; exact q1
theorem evl_call {x : Str} {j kf : Nat} {ps : List Str} {bm : Bool} {F : δ → M (List α)} {m : M δ} {pp : Pos} (ok : Ok p sc NN VV GG k g) (hf : Fn p kf x ps (spM p A (fun r => .rtL bm S r) F)) (hk : kf ≤ k) (hG : GG[j]? = some x) (hc : CaMd bm md')
    (ha : EvA g L (e :: es) md A m) (he : starEach (e :: es) g.X.env = (false, eval e g.X.env) :: starEach es g.X.env := by rfl) (hpl : (backTo pos (starEach es g.X.env)).any (·.1) = false := by rfl) :
    EvL g L (.Call (.Name x pp) (e :: es) [] pos) md' S (m.bind F) := by
  obtain ⟨f, fd, hF, hm, hkp, hbd⟩ := hf.ex
  obtain ⟨hg, ho⟩ := ok.gl hG
  rw [← ok.prog, ← ok.w, ← ok.base] at hF
  have hF' : FnOk g.X.prog g.X.w g.X.K g.X.mg g.X.base (L2.CX g.X.prog g.X.w) kf f fd ps (spM p A (fun r => .rtL bm S r) F) := by rw [ok.K, ok.mg]; exact hF
  refine PE.imp (pe_callS hF' (ok.room.mono hk) hg (by rw [ok.mg]; exact hm) (by rw [ok.K]; exact hkp) (by rw [ok.K]; exact hbd) (tk_at ok) ha (okName_d ho).1 he hpl) fun σ H Q q => ?_
  obtain ⟨kp, own, at_, q⟩ := tL_iff.mp q
  refine subA finL (Same.refl H) at_ q fun d vs H1 s1 r1 at1 q1 => ⟨d, fun a => a ∈ own ∨ g.fm.z a, ⟨fun a z => ?_, fun P e => at1.same.tab P (ok.tab P e)⟩, ?_, ?_⟩
  · rcases z with z | z
    · exact (at1.new a z).1
    · exact at1.zin a z
  · rw [← ok.fmK]; exact args_in r1
  · rw [← ok.fmK]
    cases hd : F d with
    | ok r =>
      rw [hd] at q1
      exact fun p' vs' H' s n1 n2 h' r => q1 p' vs' H' (s1.trans s) (s1.free n2) h' (r.mono (hc.rx (q := some p') s1 at_.same))
    | ex c =>
      rw [hd] at q1
      exact fun H' s => ⟨c, rfl, rfl, q1 H' (s1.trans s)⟩
    | no => rw [hd] at q1; exact q1
/-! ### raise -/
/-- an own class of refusals -/
structure ExF (p : Pr) (x : Str) (c : Ec) : Prop where
  xP : PySem.W.excIn p.K (p.C c) [.type "ValueError", .type "Exception", .type "BaseException", .type "object"] "ValueError.__new__" = true
  gP : p.mg x = some (.ref (p.C c))
  kP : PySem.W.keepIn p.K (.ref (p.C c)) = true
  bP : PySem.W.subIn p.K (.ref (p.C c)) (.type "BaseException") = some true
  tP : PySem.W.typeIn p.K (.ref (p.C c)) = some (.type "type")
variable {st : List Stmt} {D : δ → Out} {d : δ}
theorem evb_raise {x : Str} {c : Ec} {j jj : Nat} {msg : Str} {pp p2 p3 : Pos} (ok : OkS p sc NN VV GG k g) (wk : Wk L g.LX) (X : ExF p x c) (hG : GG[j]? = some x) :
    EvB g L (.Raise (some (.Call (.Name x pp) [.Constant (.str msg) jj p2] [] p3)) none pos :: st) D (.ex c) := by
  obtain ⟨hg, ho⟩ := ok.gl hG
  refine PSs.imp (PSs.head (ps_raise ok.calm ok.tk (pmk_own PySem.F.excBase_ValueError (by rw [ok.K]; exact X.xP) (by rw [ok.mg]; exact X.gP) (by rw [ok.K]; exact X.kP) (raises_own (by rw [ok.K]; exact X.bP) (by rw [ok.K]; exact X.tP)) hg (okName_d ho).1))) fun E σ H ⟨kp, own, at_, q⟩ => ?_
  exact ⟨c, rfl, rfl, BOk.exx wk at_ q H (Same.refl H)⟩
end
end Hd

namespace Hd
open PySem PySem.Spec L2
section
variable {p : Pr} {sc : Scope} {NN VV GG : List Str} {k : Nat} {g : G} {L L' : List Slot} {a b c e e' : Expr} {es : List Expr} {md md' : Md} {α β γ δ ρ : Type} {S : Ty α} {T : Ty β} {U : Ty γ} {A : Ar δ} {pos : Pos} {K : PySem.W.Frag}
/-! ### whole numbers -/
def mulM (x y : Int) : M Int := if x.natAbs < 2 ^ 10000 ∧ y.natAbs < 2 ^ 10000 then .ok (x * y) else .no
def modM (x y : Int) : M Int := if 0 < y then .ok (x % y) else .no
def divM (x y : Int) : M Int := if 0 < y ∧ y.natAbs < 2 ^ 1000 then .ok (x / y) else .no
theorem o_add : Op2 K (rI0 fun i j => .int (i + j)) tInt tInt tInt (fun x y => .ok (x + y)) true := ⟨fun rb rx ry q => ⟨_, _, rx, ry, q _ _ (Same.refl _) rfl⟩⟩
theorem o_sub : Op2 K (rI0 fun i j => .int (i - j)) tInt tInt tInt (fun x y => .ok (x - y)) true := ⟨fun rb rx ry q => ⟨_, _, rx, ry, q _ _ (Same.refl _) rfl⟩⟩
theorem o_mul : Op2 K (rI CMulW fun i j => .int (i * j)) tInt tInt tInt mulM true := ⟨fun {d e x y R H Q} rb rx ry q => by
  unfold mulM at q
  split at q
  · rename_i h
    exact ⟨_, _, rx, ry, wide_mul h.1 h.2 (by decide) (by decide) (by decide), q _ _ (Same.refl _) rfl⟩
  · exact q.elim⟩
theorem o_mod : Op2 K (rI (fun _ j => 0 < j) fun i j => .int (i % j)) tInt tInt tInt modM true := ⟨fun {d e x y R H Q} rb rx ry q => by
  unfold modM at q
  split at q
  · rename_i h
    exact ⟨_, _, rx, ry, h, q _ _ (Same.refl _) rfl⟩
  · exact q.elim⟩
theorem o_div : Op2 K (rI CDivW fun i j => .int (i / j)) tInt tInt tInt divM true := ⟨fun {d e x y R H Q} rb rx ry q => by
  unfold divM at q
  split at q
  · rename_i h
    exact ⟨_, _, rx, ry, wide_div h.1 h.2 (by decide) (by decide), q _ _ (Same.refl _) rfl⟩
  · exact q.elim⟩
theorem mulM_ne {x y : Int} {c : Ec} : mulM x y ≠ .ex c := by unfold mulM; split <;> exact fun h => nomatch h
theorem modM_ne {x y : Int} {c : Ec} : modM x y ≠ .ex c := by unfold modM; split <;> exact fun h => nomatch h
theorem divM_ne {x y : Int} {c : Ec} : divM x y ≠ .ex c := by unfold divM; split <;> exact fun h => nomatch h
variable {m1 m2 : M Int} {x y : Int}
theorem ev_add (ok : Ok p sc NN VV GG k g) (ha : EvE g L a md tInt m1) (hb : EvE g L b md tInt m2) : EvE g L (.BinOp a .Add b pos) md' tInt (m1.bind fun x => m2.bind fun y => .ok (x + y)) := ev_op2 ok op_add o_add (fun _ _ _ h => nomatch h) .fresh ha hb
theorem ev_addP (ok : Ok p sc NN VV GG k g) (ha : EvE g L a md tInt (.ok x)) (hb : EvE g L b md tInt (.ok y)) : EvE g L (.BinOp a .Add b pos) md' tInt (.ok (x + y)) := ev_add ok ha hb
theorem ev_subt (ok : Ok p sc NN VV GG k g) (ha : EvE g L a md tInt m1) (hb : EvE g L b md tInt m2) : EvE g L (.BinOp a .Sub b pos) md' tInt (m1.bind fun x => m2.bind fun y => .ok (x - y)) := ev_op2 ok op_sub o_sub (fun _ _ _ h => nomatch h) .fresh ha hb
theorem ev_subtP (ok : Ok p sc NN VV GG k g) (ha : EvE g L a md tInt (.ok x)) (hb : EvE g L b md tInt (.ok y)) : EvE g L (.BinOp a .Sub b pos) md' tInt (.ok (x - y)) := ev_subt ok ha hb
theorem ev_mul (ok : Ok p sc NN VV GG k g) (ha : EvE g L a md tInt m1) (hb : EvE g L b md tInt m2) : EvE g L (.BinOp a .Mult b pos) md' tInt (m1.bind fun x => m2.bind fun y => mulM x y) := ev_op2 ok op_mulW o_mul (fun _ _ _ => mulM_ne) .fresh ha hb
theorem ev_mulP (ok : Ok p sc NN VV GG k g) (ha : EvE g L a md tInt (.ok x)) (hb : EvE g L b md tInt (.ok y)) : EvE g L (.BinOp a .Mult b pos) md' tInt (mulM x y) := ev_mul ok ha hb
theorem ev_mod (ok : Ok p sc NN VV GG k g) (ha : EvE g L a md tInt m1) (hb : EvE g L b md tInt m2) : EvE g L (.BinOp a .Mod b pos) md' tInt (m1.bind fun x => m2.bind fun y => modM x y) := ev_op2 ok op_mod o_mod (fun _ _ _ => modM_ne) .fresh ha hb
theorem ev_modP (ok : Ok p sc NN VV GG k g) (ha : EvE g L a md tInt (.ok x)) (hb : EvE g L b md tInt (.ok y)) : EvE g L (.BinOp a .Mod b pos) md' tInt (modM x y) := ev_mod ok ha hb
theorem ev_div (ok : Ok p sc NN VV GG k g) (ha : EvE g L a md tInt m1) (hb : EvE g L b md tInt m2) : EvE g L (.BinOp a .FloorDiv b pos) md' tInt (m1.bind fun x => m2.bind fun y => divM x y) := ev_op2 ok op_fdivW o_div (fun _ _ _ => divM_ne) .fresh ha hb
theorem ev_divP (ok : Ok p sc NN VV GG k g) (ha : EvE g L a md tInt (.ok x)) (hb : EvE g L b md tInt (.ok y)) : EvE g L (.BinOp a .FloorDiv b pos) md' tInt (divM x y) := ev_div ok ha hb
/-- the one number c -/
def tLit (c : Int) : Ty Unit := ⟨fun _ v _ => v = .int c, fun h _ => h⟩
theorem ev_lit (h : EvE g L e md tInt (.ok x)) : EvE g L e md (tLit x) (.ok ()) := ev_asP (fun v R r => r) h
theorem ev_mulC (ok : Ok p sc NN VV GG k g) (hc : y.natAbs < 2 ^ 64) (ha : EvE g L a md tInt m1) (hb : EvE g L b md tInt (.ok y)) : EvE g L (.BinOp a .Mult b pos) md' tInt (m1.bind fun x => .ok (x * y)) :=
  ev_op2 (f := fun x _ => .ok (x * y)) ok op_mul ⟨fun rb rx ry q => ⟨_, _, rx, ry, .inr ⟨by omega, by omega⟩, q _ _ (Same.refl _) rfl⟩⟩ (fun _ _ _ h => nomatch h) (.fresh : MdOk true md md') ha (ev_lit hb)
theorem ev_mulCP (ok : Ok p sc NN VV GG k g) (hc : y.natAbs < 2 ^ 64) (ha : EvE g L a md tInt (.ok x)) (hb : EvE g L b md tInt (.ok y)) : EvE g L (.BinOp a .Mult b pos) md' tInt (.ok (x * y)) := ev_mulC ok hc ha hb
theorem ev_mulL (ok : Ok p sc NN VV GG k g) (hc : x.natAbs < 2 ^ 64) (ha : EvE g L a md tInt (.ok x)) (hb : EvE g L b md tInt m2) : EvE g L (.BinOp a .Mult b pos) md' tInt (m2.bind fun y => .ok (x * y)) :=
  ev_op2 (f := fun _ y => .ok (x * y)) (m1 := .ok ()) ok op_mul ⟨fun rb rx ry q => ⟨_, _, rx, ry, .inl ⟨by omega, by omega⟩, q _ _ (Same.refl _) rfl⟩⟩ (fun _ _ _ h => nomatch h) (.fresh : MdOk true md md') (ev_lit ha) hb
theorem ev_mulLP (ok : Ok p sc NN VV GG k g) (hc : x.natAbs < 2 ^ 64) (ha : EvE g L a md tInt (.ok x)) (hb : EvE g L b md tInt (.ok y)) : EvE g L (.BinOp a .Mult b pos) md' tInt (.ok (x * y)) := ev_mulL ok hc ha hb
theorem ev_modC (ok : Ok p sc NN VV GG k g) (hc : 0 < y) (ha : EvE g L a md tInt m1) (hb : EvE g L b md tInt (.ok y)) : EvE g L (.BinOp a .Mod b pos) md' tInt (m1.bind fun x => .ok (x % y)) :=
  ev_op2 (f := fun x _ => .ok (x % y)) ok op_mod ⟨fun rb rx ry q => ⟨_, _, rx, ry, hc, q _ _ (Same.refl _) rfl⟩⟩ (fun _ _ _ h => nomatch h) (.fresh : MdOk true md md') ha (ev_lit hb)
theorem ev_modCP (ok : Ok p sc NN VV GG k g) (hc : 0 < y) (ha : EvE g L a md tInt (.ok x)) (hb : EvE g L b md tInt (.ok y)) : EvE g L (.BinOp a .Mod b pos) md' tInt (.ok (x % y)) := ev_modC ok hc ha hb
theorem ev_divC (ok : Ok p sc NN VV GG k g) (hc : 0 < y) (hb' : y.natAbs < 2 ^ 1000) (ha : EvE g L a md tInt m1) (hb : EvE g L b md tInt (.ok y)) : EvE g L (.BinOp a .FloorDiv b pos) md' tInt (m1.bind fun x => .ok (x / y)) :=
  ev_op2 (f := fun x _ => .ok (x / y)) ok op_fdivW ⟨fun rb rx ry q => ⟨_, _, rx, ry, wide_div hc hb' (by decide) (by decide), q _ _ (Same.refl _) rfl⟩⟩ (fun _ _ _ h => nomatch h) (.fresh : MdOk true md md') ha (ev_lit hb)
theorem ev_divCP (ok : Ok p sc NN VV GG k g) (hc : 0 < y) (hb' : y.natAbs < 2 ^ 1000) (ha : EvE g L a md tInt (.ok x)) (hb : EvE g L b md tInt (.ok y)) : EvE g L (.BinOp a .FloorDiv b pos) md' tInt (.ok (x / y)) := ev_divC ok hc hb' ha hb
/-- a written power -/
theorem ev_powC {n : Nat} (ok : Ok p sc NN VV GG k g) (hx : x.natAbs < 2 ^ 64) (hy : n ≤ 1000000) (ha : EvE g L a md tInt (.ok x)) (hb : EvE g L b md tInt (.ok (n : Int))) : EvE g L (.BinOp a .Pow b pos) md' tInt (.ok (x ^ n)) :=
  ev_op2 (f := fun _ _ => .ok (x ^ n)) (m1 := .ok ()) (m2 := .ok ()) ok op_pow ⟨fun rb rx ry q => ⟨_, _, rx, ry, ⟨by omega, by omega, hx⟩, q _ _ (Same.refl _) (by show V.int (x ^ ((n : Int)).toNat) = V.int (x ^ n); rw [Int.toNat_natCast])⟩⟩ (fun _ _ _ h => nomatch h) (.fresh : MdOk true md md') (ev_lit ha) (ev_lit hb)
theorem ev_neg (ok : Ok p sc NN VV GG k g) (ha : EvE g L a md tInt m1) : EvE g L (.UnaryOp .USub a pos) md' tInt (m1.bind fun x => .ok (-x)) :=
  ev_un ok un_neg (f := fun x => .ok (-x)) (fr := true) ⟨fun rb rx q => ⟨_, rx, q _ _ (Same.refl _) rfl⟩⟩ (fun _ _ h => nomatch h) .fresh ha
theorem ev_negP (ok : Ok p sc NN VV GG k g) (ha : EvE g L a md tInt (.ok x)) : EvE g L (.UnaryOp .USub a pos) md' tInt (.ok (-x)) := ev_neg ok ha
/-! ### comparisons -/
/-- a comparison that always tells -/
structure CmpOk (p : Pr) (X : Cx) (op : CmpOp) (S : Ty α) (T : Ty β) (f : α → β → Bool) : Prop where
  ex : ∃ r, OpR X (compareOp op) r ∧ Op2 p.K r S T tBool (fun x y => .ok (f x y)) true
section
variable {op : CmpOp} {f : α → β → Bool} {ma : M α} {mb : M β} {da : α} {db : β}
theorem ev_c (ok : Ok p sc NN VV GG k g) (F : CmpOk p g.X op S T f) (ha : EvE g L a md S ma) (hb : EvE g L b md T mb) (hk : behindInMarks op b = false := by first | exact nomark _ (by decide) (by decide) | rfl) : EvE g L (.Compare a [op] [b] pos) md' tBool (ma.bind fun x => mb.bind fun y => .ok (f x y)) := by
  obtain ⟨r, h1, h2⟩ := F.ex
  exact ev_cmp ok h1 h2 (fun _ _ _ h => nomatch h) .fresh ha hb hk
theorem ev_cP (ok : Ok p sc NN VV GG k g) (F : CmpOk p g.X op S T f) (ha : EvE g L a md S (.ok da)) (hb : EvE g L b md T (.ok db)) (hk : behindInMarks op b = false := by first | exact nomark _ (by decide) (by decide) | rfl) : EvE g L (.Compare a [op] [b] pos) md' tBool (.ok (f da db)) := ev_c ok F ha hb hk
theorem evt_c (ok : Ok p sc NN VV GG k g) (F : CmpOk p g.X op S T f) (ha : EvE g L a md S ma) (hb : EvE g L b md T mb) (hk : behindInMarks op b = false := by first | exact nomark _ (by decide) (by decide) | rfl) : EvT g L (.Compare a [op] [b] pos) (ma.bind fun x => mb.bind fun y => .ok (f x y)) := by
  obtain ⟨r, h1, h2⟩ := F.ex
  exact evt_cmp ok h1 h2 (fun _ _ _ h => nomatch h) ha hb hk
theorem evt_cP (ok : Ok p sc NN VV GG k g) (F : CmpOk p g.X op S T f) (ha : EvE g L a md S (.ok da)) (hb : EvE g L b md T (.ok db)) (hk : behindInMarks op b = false := by first | exact nomark _ (by decide) (by decide) | rfl) : EvT g L (.Compare a [op] [b] pos) (.ok (f da db)) := evt_c ok F ha hb hk
end
variable {X : Cx}
theorem c_lt : CmpOk p X .Lt tInt tInt (fun x y => decide (x < y)) := ⟨_, op_lt, ⟨fun rb rx ry q => ⟨_, _, rx, ry, q _ _ (Same.refl _) rfl⟩⟩⟩
theorem c_le : CmpOk p X .LtE tInt tInt (fun x y => decide (x ≤ y)) := ⟨_, op_le, ⟨fun rb rx ry q => ⟨_, _, rx, ry, q _ _ (Same.refl _) rfl⟩⟩⟩
theorem c_gt : CmpOk p X .Gt tInt tInt (fun x y => decide (y < x)) := ⟨_, op_gt, ⟨fun rb rx ry q => ⟨_, _, rx, ry, q _ _ (Same.refl _) rfl⟩⟩⟩
theorem c_ge : CmpOk p X .GtE tInt tInt (fun x y => decide (y ≤ x)) := ⟨_, op_ge, ⟨fun rb rx ry q => ⟨_, _, rx, ry, q _ _ (Same.refl _) rfl⟩⟩⟩
/-- kinds that are told apart by value -/
structure Scal (S : Ty α) : Prop where
  sc : ∀ {d e v w R}, S.rep d v R → S.rep e w R → scal v w = true ∧ (v = w ↔ d = e)
theorem s_int : Scal tInt := ⟨fun {d e v w R} h1 h2 => by cases h1; cases h2; exact ⟨rfl, fun h => by injection h, fun h => by rw [h]⟩⟩
theorem s_bool : Scal tBool := ⟨fun {d e v w R} h1 h2 => by cases h1; cases h2; exact ⟨rfl, fun h => by injection h, fun h => by rw [h]⟩⟩
theorem s_str : Scal tStr := ⟨fun {d e v w R} h1 h2 => by cases h1.1; cases h2.1; exact ⟨rfl, fun h => toS_inj (by injection h), fun h => by rw [h]⟩⟩
theorem c_eq [DecidableEq α] (h : Scal S) : CmpOk p X .Eq S S (fun x y => decide (x = y)) := ⟨_, op_eq, ⟨fun {d e x y R H Q} rb rx ry q => by
  obtain ⟨h1, h2⟩ := h.sc rx ry
  refine ⟨h1, q _ _ (Same.refl _) ?_⟩
  show _ = V.bl _
  congr 1
  exact decide_eq_decide.mpr h2⟩⟩
theorem c_ne [DecidableEq α] (h : Scal S) : CmpOk p X .NotEq S S (fun x y => !decide (x = y)) := ⟨_, op_ne, ⟨fun {d e x y R H Q} rb rx ry q => by
  obtain ⟨h1, h2⟩ := h.sc rx ry
  refine ⟨h1, q _ _ (Same.refl _) ?_⟩
  show _ = V.bl _
  congr 2
  exact decide_eq_decide.mpr h2⟩⟩
/-- .. with a heap: lists, tuples -/
structure Deep (S : Ty α) where
  pd : α → PyData
  dp : Nat
  rep : ∀ {K d v R H}, Rdb K R H → S.rep d v R → Dp K H v (pd d) ∧ (pd d).canLay0 = true
  dep : ∀ d, (pd d).depth ≤ dp
  eqv : ∀ d e, PyData.eqv (pd d) (pd e) = true ↔ d = e
theorem Deep.sh {D : Deep S} (h : D.dp ≤ 64) {d : α} (hl : (D.pd d).canLay0 = true) : SeqAt.shaped (D.pd d) = true := by
  unfold SeqAt.shaped
  rw [hl, Bool.true_and]
  exact decide_eq_true (Nat.le_trans (D.dep d) h)
theorem Deep.bq [DecidableEq α] (D : Deep S) (d e : α) : PyData.eqv (D.pd d) (D.pd e) = decide (d = e) := by
  cases hh : PyData.eqv (D.pd d) (D.pd e) with
  | true => exact (decide_eq_true ((D.eqv d e).mp hh)).symm
  | false => exact (decide_eq_false fun z => by rw [(D.eqv d e).mpr z] at hh; cases hh).symm
theorem c_eqD [DecidableEq α] (ok : Ok p sc NN VV GG k g) (D : Deep S) (hd : D.dp ≤ 64) : CmpOk p g.X .Eq S S (fun x y => decide (x = y)) := ⟨rEqD p.K, by rw [← ok.K]; exact op_eqD ok.room.units, ⟨fun {d e x y R H Q} rb rx ry q => by
  obtain ⟨a1, a2⟩ := D.rep rb rx
  obtain ⟨b1, b2⟩ := D.rep rb ry
  exact ⟨_, _, a1, b1, D.sh hd a2, D.sh hd b2, q _ _ (Same.refl _) (by show _ = V.bl _; rw [D.bq])⟩⟩⟩
theorem c_neD [DecidableEq α] (ok : Ok p sc NN VV GG k g) (D : Deep S) (hd : D.dp ≤ 64) : CmpOk p g.X .NotEq S S (fun x y => !decide (x = y)) := ⟨rNeD p.K, by rw [← ok.K]; exact op_neD ok.room.units, ⟨fun {d e x y R H Q} rb rx ry q => by
  obtain ⟨a1, a2⟩ := D.rep rb rx
  obtain ⟨b1, b2⟩ := D.rep rb ry
  exact ⟨_, _, a1, b1, D.sh hd a2, D.sh hd b2, q _ _ (Same.refl _) (by show _ = V.bl _; rw [D.bq])⟩⟩⟩
def dInt : Deep tInt := ⟨.int, 0, fun rb h => by cases h; exact ⟨.int _, rfl⟩, fun _ => by simp [PyData.depth], fun d e => by simp [PyData.eqv]⟩
def dBool : Deep tBool := ⟨.bool, 0, fun rb h => by cases h; exact ⟨.bl _, rfl⟩, fun _ => by simp [PyData.depth], fun d e => by simp [PyData.eqv]⟩
def dStr : Deep tStr := ⟨fun x => .str (toS x), 0, fun {K d v R H} rb h => by
    obtain ⟨rfl, h⟩ := h
    refine ⟨.str _, ?_⟩
    show PyData.strOk (toS d) = true
    simp only [PyData.strOk, toS, List.all_toArray, List.all_eq_true, decide_eq_true_eq]
    exact h.2, fun _ => by simp [PyData.depth], fun d e => by
    simp only [PyData.eqv, beq_iff_eq]
    exact ⟨toS_inj, fun h => by rw [h]⟩⟩
theorem eqvAll_map {pd : α → PyData} (h : ∀ d e, PyData.eqv (pd d) (pd e) = true ↔ d = e) : ∀ ds es : List α, PyData.eqvAll (ds.map pd) (es.map pd) = true ↔ ds = es
  | [], [] => by simp [PyData.eqvAll]
  | [], _ :: _ => by simp [PyData.eqvAll]
  | _ :: _, [] => by simp [PyData.eqvAll]
  | d :: ds, e :: es => by simp [PyData.eqvAll, h d e, eqvAll_map h ds es]
theorem depthAll_map {pd : α → PyData} {n : Nat} (h : ∀ d, (pd d).depth ≤ n) : ∀ ds : List α, PyData.depthAll (ds.map pd) ≤ n
  | [] => by simp [PyData.depthAll]
  | d :: ds => by simp only [List.map_cons, PyData.depthAll]; have := h d; have := depthAll_map h ds; omega
theorem Deep.all (D : Deep S) {R : RdR} {H : Hp} (rb : Rdb K R H) {ds : List α} {vs : List V} (r : Reps S R ds vs) : DpAll K H vs (ds.map D.pd) ∧ PyData.canLayAll0 (ds.map D.pd) = true := by
  induction r with
  | nil => exact ⟨.nil, rfl⟩
  | cons r _ ih =>
    obtain ⟨h1, h2⟩ := D.rep rb r
    exact ⟨.cons h1 ih.1, by simp only [List.map_cons, PyData.canLayAll0, h2, ih.2, Bool.and_self]⟩
def dList (D : Deep S) : Deep (tList S) := ⟨fun ds => .list (ds.map D.pd), D.dp + 1, fun {K ds v R H} rb ⟨a, vs, e, h, r⟩ => by
    subst e
    obtain ⟨h1, h2⟩ := D.all rb r
    exact ⟨.lst (.inl ((rb _ _ h).resolve_right fun z => z)) h1, h2⟩, fun ds => by simp only [PyData.depth]; have := depthAll_map D.dep ds; omega, fun d e => by
    simp only [PyData.eqv]
    exact eqvAll_map D.eqv d e⟩
def dTupL (D : Deep S) : Deep (tTupL S) := ⟨fun ds => .tuple (ds.map D.pd), D.dp + 1, fun {K ds v R H} rb ⟨a, vs, e, h, r⟩ => by
    subst e
    obtain ⟨h1, h2⟩ := D.all rb r
    exact ⟨.tup ((rb _ _ h).imp id id) h1, h2⟩, fun ds => by simp only [PyData.depth]; have := depthAll_map D.dep ds; omega, fun d e => by
    simp only [PyData.eqv]
    exact eqvAll_map D.eqv d e⟩
/-! ### subscripts -/
def getM {α : Type} (xs : List α) (i : Int) : M α := match L2.atI xs i with | some d => .ok d | none => .no
def getS (x : Tx) (i : Int) : M Tx := match L2.atI x i with | some c => .ok [c] | none => .no
theorem getM_ne {xs : List α} {i : Int} {c : Ec} : getM xs i ≠ .ex c := by unfold getM; split <;> exact fun h => nomatch h
theorem getS_ne {x : Tx} {i : Int} {c : Ec} : getS x i ≠ .ex c := by unfold getS; split <;> exact fun h => nomatch h
theorem Reps.at {R : RdR} {ds : List α} {vs : List V} (r : Reps S R ds vs) {i : Int} {d : α} (h : L2.atI ds i = some d) : ∃ v, L2.atI vs i = some v ∧ S.rep d v R := by
  unfold L2.atI at h ⊢
  rw [r.length] at h
  cases hj : L2.ixN vs.length i with
  | none => rw [hj] at h; cases h
  | some j => rw [hj] at h; exact r.get h
theorem sq_of {R : RdR} {H : Hp} {a : Addr} {vs : List V} (rb : Rdb K R H) (h : R a (.lst vs)) : SqL K H a vs := .inl ((rb _ _ h).resolve_right fun z => z)
theorem rd_of {R : RdR} {H : Hp} {a : Addr} {vs : List V} (rb : Rdb K R H) (h : R a (.lst vs)) : Rd H a (.lst vs) := (rb _ _ h).resolve_right fun z => z
theorem st_of {R : RdR} {H : Hp} {a : Addr} {vs : List V} (rb : Rdb K R H) (h : R a (.tup vs)) : SqT K H a vs := (rb _ _ h).imp id id
theorem Nw.old {fr : Bool} {R : RdR} {H : Hp} (h : fr = false) : ∀ a o, R a o → Nw fr R H H a o := fun _ _ r => .inl ⟨h, r⟩
theorem o_ixL : Op2 K (rIxL K) (tList S) tInt S getM false := ⟨fun {d e x y R H Q} rb ⟨a, vs, ex, h, r⟩ ry q => by
  unfold getM at q
  cases hj : L2.atI d e with
  | none => rw [hj] at q; exact q.elim
  | some u =>
    rw [hj] at q
    obtain ⟨v, h1, h2⟩ := r.at hj
    exact ⟨a, vs, e, v, ex, ry, sq_of rb h, h1, q _ _ (Same.refl _) (S.mono h2 (Nw.old rfl))⟩⟩
theorem o_ixT : Op2 K (rIxT K) (tTupL S) tInt S getM false := ⟨fun {d e x y R H Q} rb ⟨a, vs, ex, h, r⟩ ry q => by
  unfold getM at q
  cases hj : L2.atI d e with
  | none => rw [hj] at q; exact q.elim
  | some u =>
    rw [hj] at q
    obtain ⟨v, h1, h2⟩ := r.at hj
    exact ⟨a, vs, e, v, ex, ry, st_of rb h, h1, q _ _ (Same.refl _) (S.mono h2 (Nw.old rfl))⟩⟩
theorem atI_mem {xs : List α} {i : Int} {d : α} (h : L2.atI xs i = some d) : d ∈ xs := by
  unfold L2.atI at h
  cases hj : L2.ixN xs.length i with
  | none => rw [hj] at h; cases h
  | some j => rw [hj] at h; exact List.mem_of_getElem? h
theorem o_ixS : Op2 K rIxS tStr tInt tStr getS true := ⟨fun {d e x y R H Q} rb rx ry q => by
  unfold getS at q
  cases hj : L2.atI d e with
  | none => rw [hj] at q; exact q.elim
  | some u =>
    rw [hj] at q
    refine ⟨toS d, e, u, rx.1, ry, by rw [toS_len]; exact rx.2.1, by rw [show (toS d).cps.toList = d from by simp [toS]]; exact hj, q _ _ (Same.refl _) ⟨rfl, (by show 1 ≤ sizeLine; decide), fun c hc => by rw [List.mem_singleton.mp hc]; exact rx.2.2 _ (atI_mem hj)⟩⟩⟩
section
variable {mx : M (List α)} {mi : M Int} {xs : List α} {i : Int} {mt : M Tx} {t : Tx}
theorem ev_ixL (ok : Ok p sc NN VV GG k g) (ha : EvE g L a md (tList S) mx) (hb : EvE g L b md tInt mi) (hs : PlainIx b := by exact fun _ _ => rfl) : EvE g L (.Subscript a b pos) md S (mx.bind fun xs => mi.bind fun i => getM xs i) := ev_ix (r := rIxL p.K) ok (by rw [← ok.K]; exact ix_list) o_ixL (fun _ _ _ => getM_ne) .same ha hb hs
theorem ev_ixLP (ok : Ok p sc NN VV GG k g) (ha : EvE g L a md (tList S) (.ok xs)) (hb : EvE g L b md tInt (.ok i)) (hs : PlainIx b := by exact fun _ _ => rfl) : EvE g L (.Subscript a b pos) md S (getM xs i) := ev_ixL ok ha hb hs
theorem ev_ixS (ok : Ok p sc NN VV GG k g) (ha : EvE g L a md tStr mt) (hb : EvE g L b md tInt mi) (hs : PlainIx b := by exact fun _ _ => rfl) : EvE g L (.Subscript a b pos) md' tStr (mt.bind fun xs => mi.bind fun i => getS xs i) := ev_ix (r := rIxS) ok ix_str o_ixS (fun _ _ _ => getS_ne) .fresh ha hb hs
theorem ev_ixSP (ok : Ok p sc NN VV GG k g) (ha : EvE g L a md tStr (.ok t)) (hb : EvE g L b md tInt (.ok i)) (hs : PlainIx b := by exact fun _ _ => rfl) : EvE g L (.Subscript a b pos) md' tStr (getS t i) := ev_ixS ok ha hb hs
end
/-! ### len -/
theorem ev_lenL {j : Nat} {mx : M (List α)} {pp : Pos} (ok : Ok p sc NN VV GG k g) (hG : GG[j]? = some "len") (hmg : p.mg "len" = none) (ha : EvE g L e md (tList S) mx) (hs : starEach [e] g.X.env = (false, eval e g.X.env) :: starEach [] g.X.env := by rfl) : EvE g L (.Call (.Name "len" pp) [e] [] pos) md' tInt (mx.bind fun xs => .ok (xs.length : Int)) := by
  have h := ev_callB (md' := md') (U := tInt) (A := aCons (tList S) aNil) (f := fun d => .ok (d.1.length : Int)) (fr := true) (pos := pos) (pp := pp) ok call_len_seq ⟨fun {d xs R H Q} rb ⟨v, r, e1, ⟨a, vs, e2, h, rr⟩, e3⟩ q => by
    subst e1; cases (show r = [] from e3)
    exact ⟨a, vs, by rw [e2], .inl (by rw [ok.K]; exact sq_of rb h), q _ _ (Same.refl _) (by show _ = V.int _; rw [rr.length])⟩⟩ (fun _ _ h => nomatch h) .fresh hG hmg PySem.boot_len (eva_cons ha eva_nil hs) hs rfl
  have e : (mx.bind fun d => (M.ok ()).bind fun e => M.ok (d, e)).bind (fun d => M.ok (d.1.length : Int)) = mx.bind fun xs => .ok (xs.length : Int) := by cases mx <;> rfl
  rwa [e] at h
theorem ev_lenLP {j : Nat} {xs : List α} {pp : Pos} (ok : Ok p sc NN VV GG k g) (hG : GG[j]? = some "len") (hmg : p.mg "len" = none) (ha : EvE g L e md (tList S) (.ok xs)) (hs : starEach [e] g.X.env = (false, eval e g.X.env) :: starEach [] g.X.env := by rfl) : EvE g L (.Call (.Name "len" pp) [e] [] pos) md' tInt (.ok (xs.length : Int)) := ev_lenL ok hG hmg ha hs
theorem ev_lenS {j : Nat} {mx : M Tx} {pp : Pos} (ok : Ok p sc NN VV GG k g) (hG : GG[j]? = some "len") (hmg : p.mg "len" = none) (ha : EvE g L e md tStr mx) (hs : starEach [e] g.X.env = (false, eval e g.X.env) :: starEach [] g.X.env := by rfl) : EvE g L (.Call (.Name "len" pp) [e] [] pos) md' tInt (mx.bind fun xs => .ok (xs.length : Int)) := by
  have h := ev_callB (md' := md') (U := tInt) (A := aCons tStr aNil) (f := fun d => .ok (d.1.length : Int)) (fr := true) (pos := pos) (pp := pp) ok call_len_str ⟨fun {d xs R H Q} rb ⟨v, r, e1, e2, e3⟩ q => by
    subst e1; cases (show r = [] from e3)
    exact ⟨toS d.1, by rw [e2.1], by rw [toS_len]; exact e2.2.1, q _ _ (Same.refl _) (by show _ = V.int _; rw [toS_len])⟩⟩ (fun _ _ h => nomatch h) .fresh hG hmg PySem.boot_len (eva_cons ha eva_nil hs) hs rfl
  have e : (mx.bind fun d => (M.ok ()).bind fun e => M.ok (d, e)).bind (fun d => M.ok (d.1.length : Int)) = mx.bind fun xs => .ok (xs.length : Int) := by cases mx <;> rfl
  rwa [e] at h
theorem ev_lenSP {j : Nat} {xs : Tx} {pp : Pos} (ok : Ok p sc NN VV GG k g) (hG : GG[j]? = some "len") (hmg : p.mg "len" = none) (ha : EvE g L e md tStr (.ok xs)) (hs : starEach [e] g.X.env = (false, eval e g.X.env) :: starEach [] g.X.env := by rfl) : EvE g L (.Call (.Name "len" pp) [e] [] pos) md' tInt (.ok (xs.length : Int)) := ev_lenS ok hG hmg ha hs
/-! ### texts -/
def catS (x y : Tx) : M Tx := if x.length + y.length ≤ sizeLine then .ok (x ++ y) else .no
theorem catS_ne {x y : Tx} {c : Ec} : catS x y ≠ .ex c := by unfold catS; split <;> exact fun h => nomatch h
theorem toS_app (x y : Tx) : toS (x ++ y) = toS x ++ toS y := by
  show (⟨(x ++ y).toArray⟩ : Str) = _
  rw [← List.append_toArray]
  rfl
theorem ev_catS {ma mb : M Tx} (ok : Ok p sc NN VV GG k g) (ha : EvE g L a md tStr ma) (hb : EvE g L b md tStr mb) : EvE g L (.BinOp a .Add b pos) md' tStr (ma.bind fun x => mb.bind fun y => catS x y) :=
  ev_op2 (fr := true) ok op_add_str ⟨fun {d e x y R H Q} rb rx ry q => by
    unfold catS at q
    split at q
    · rename_i h
      exact ⟨_, _, rx.1, ry.1, by rw [toS_len, toS_len]; exact h, q _ _ (Same.refl _) ⟨by rw [toS_app], by rw [List.length_append]; exact h, fun c hc => (List.mem_append.mp hc).elim (rx.2.2 c) (ry.2.2 c)⟩⟩
    · exact q.elim⟩ (fun _ _ _ => catS_ne) .fresh ha hb
theorem ev_catSP {x y : Tx} (ok : Ok p sc NN VV GG k g) (ha : EvE g L a md tStr (.ok x)) (hb : EvE g L b md tStr (.ok y)) : EvE g L (.BinOp a .Add b pos) md' tStr (catS x y) := ev_catS ok ha hb
/-! ### isinstance: known kinds -/
structure IsT (S : Ty α) (ty : String) : Prop where
  t : ∀ {K d v R H}, Rdb K R H → S.rep d v R → TyX K H v (.type ty)
/-! ### list(..) -/
theorem evl_copy {j : Nat} {mx : M (List α)} {pp : Pos} (ok : Ok p sc NN VV GG k g) (hG : GG[j]? = some "list") (hmg : p.mg "list" = none) (ha : EvE g L e md (tList S) mx) (hs : starEach [e] g.X.env = (false, eval e g.X.env) :: starEach [] g.X.env := by rfl) : EvL g L (.Call (.Name "list" pp) [e] [] pos) md S mx := by
  obtain ⟨hg, ho⟩ := ok.gl hG
  obtain ⟨h1, _, h3⟩ := okName_d ho
  refine PE.imp (pe_callTy call_list_of hg (by rw [ok.mg]; exact hmg) (by decide +kernel) (eva_cons ha eva_nil hs) h3 h1 hs rfl) fun σ H Q q => ?_
  obtain ⟨kp, own, at_, q⟩ := tL_iff.mp q
  refine tA_iff.mpr ⟨kp, own, at_, ?_⟩
  cases mx with
  | ok d =>
    rintro vs H1 s1 ⟨v, r, rfl, ⟨a, ws, rfl, h, rr⟩, e3⟩
    cases (show r = [] from e3)
    exact ⟨a, ws, rfl, .inl ((ok.fmK.trans ok.K.symm) ▸ RX.list h), fun l hl => q l ws _ (s1.trans (newSame hl)) (s1.free hl) upd_same (rr.mono (RX.add hl))⟩
  | ex c => exact q
  | no => exact q
end
end Hd

namespace Hd
open PySem PySem.Spec L2
section
variable {p : Pr} {sc : Scope} {NN VV GG : List Str} {k : Nat} {g : G} {L L' : List Slot} {a b c e e' : Expr} {es : List Expr} {md md' : Md} {α β γ δ ρ : Type} {S : Ty α} {T : Ty β} {U : Ty γ} {A : Ar δ} {pos : Pos} {K : PySem.W.Frag} {tg : Expr}
/-! ### isinstance of known kinds -/
theorem RX.tyx {R : RdR} {H : Hp} {a : Addr} {vs : List V} (rb : Rdb K R H) (h : R a (.lst vs)) : TyX K H (.ref a) (.type "list") := by
  rcases rb _ _ h with (h | ⟨o, h⟩) | h
  · exact .base (.lst h)
  · exact .base (.frz h)
  · exact h.elim
theorem RX.tyt {R : RdR} {H : Hp} {a : Addr} {vs : List V} (rb : Rdb K R H) (h : R a (.tup vs)) : TyX K H (.ref a) (.type "tuple") := by
  rcases rb _ _ h with (h | ⟨o, h⟩) | h
  · exact .base (.tup h)
  · exact .fTuple h
  · obtain ⟨o, its, n, h1, h2, _⟩ := (show ∃ (o : Obj) (its : Array Value) (n : Nat), K.lookup a = some o ∧ o.cls = .type "tuple" ∧ o.data = .seq its n ∧ its.size ≤ sizeLine ∧ Vals vs its.toList from h)
    exact .kTuple h1 h2
theorem i_int : IsT tInt "int" := ⟨fun rb h => by cases h; exact .base (.int _)⟩
theorem i_bool : IsT tBool "bool" := ⟨fun rb h => by cases h; exact .base (.bl _)⟩
theorem i_str : IsT tStr "str" := ⟨fun rb h => by cases h.1; exact .base (.str _)⟩
theorem i_none : IsT tNone "NoneType" := ⟨fun rb h => by cases h; exact .base .non⟩
theorem i_list : IsT (tList S) "list" := ⟨fun rb ⟨a, vs, e, h, _⟩ => by subst e; exact RX.tyx rb h⟩
theorem i_tupL : IsT (tTupL S) "tuple" := ⟨fun rb ⟨a, vs, e, h, _⟩ => by subst e; exact RX.tyt rb h⟩
theorem i_tup : IsT (tTup A) "tuple" := ⟨fun rb ⟨a, vs, e, h, _⟩ => by subst e; exact RX.tyt rb h⟩
/-- a built-in class by its name -/
def tTy (n : String) : Ty Unit := ⟨fun _ v _ => v = .ty n, fun h _ => h⟩
theorem ev_ty {j : Nat} {x : Str} {n : String} (ok : Ok p sc NN VV GG k g) (hG : GG[j]? = some x) (hmg : p.mg x = none) (hv : bootBuiltins x = some (.type n)) : EvE g L (.Name x pos) md (tTy n) (.ok ()) := by
  obtain ⟨hg, ho⟩ := ok.gl hG
  obtain ⟨h1, _, h3⟩ := okName_d ho
  exact PE.imp (pe_bltn (v := .ty n) hg (by rw [ok.mg]; exact hmg) hv rfl h3 h1) fun σ H Q ⟨kp, own, at_, q⟩ => q _ H (Same.refl H) rfl
theorem ev_isi {j : Nat} {ty n : String} {r : Bool} {m : M α} {pp : Pos} (ok : Ok p sc NN VV GG k g) (hG : GG[j]? = some "isinstance") (hmg : p.mg "isinstance" = none) (hT : IsT S ty) (hr : kitB ty n = some r) (ha : EvE g L a md S m) (hb : EvE g L b md (tTy n) (.ok ()))
    (hs1 : starEach (a :: [b]) g.X.env = (false, eval a g.X.env) :: starEach [b] g.X.env := by rfl) (hs2 : starEach [b] g.X.env = (false, eval b g.X.env) :: starEach [] g.X.env := by rfl) (hpl : (backTo pos (starEach [b] g.X.env)).any (·.1) = false := by rfl) :
    EvE g L (.Call (.Name "isinstance" pp) [a, b] [] pos) md' tBool (m.bind fun _ => .ok r) := by
  have h := ev_callB (md' := md') (U := tBool) (A := aCons S (aCons (tTy n) aNil)) (f := fun _ => .ok r) (fr := true) (pos := pos) (pp := pp) ok (id := "isinstance") call_isi ⟨fun {d xs R H Q} rb ⟨v, w, e1, h1, v2, w2, e2, h2, e3⟩ q => by
    subst e1; subst e2; cases (show w2 = [] from e3); cases h2
    exact ⟨v, .ty n, .type ty, .type n, r, rfl, .ty n, hT.t (by rw [ok.K]; exact rb) h1, kit_ty hr, q _ _ (Same.refl _) rfl⟩⟩ (fun _ _ h => nomatch h) .fresh hG hmg (by decide +kernel) (eva_cons ha (eva_cons hb eva_nil hs2) hs1) hs1 hpl
  have e : (m.bind fun d => ((M.ok ()).bind fun d => (M.ok ()).bind fun e => M.ok (d, e)).bind fun e => M.ok (d, e)).bind (fun d => M.ok r) = m.bind fun _ => .ok r := by cases m <;> rfl
  rwa [e] at h
theorem ev_isiP {j : Nat} {ty n : String} {r : Bool} {d : α} {pp : Pos} (ok : Ok p sc NN VV GG k g) (hG : GG[j]? = some "isinstance") (hmg : p.mg "isinstance" = none) (hT : IsT S ty) (hr : kitB ty n = some r) (ha : EvE g L a md S (.ok d)) (hb : EvE g L b md (tTy n) (.ok ()))
    (hs1 : starEach (a :: [b]) g.X.env = (false, eval a g.X.env) :: starEach [b] g.X.env := by rfl) (hs2 : starEach [b] g.X.env = (false, eval b g.X.env) :: starEach [] g.X.env := by rfl) (hpl : (backTo pos (starEach [b] g.X.env)).any (·.1) = false := by rfl) :
    EvE g L (.Call (.Name "isinstance" pp) [a, b] [] pos) md' tBool (.ok r) := ev_isi ok hG hmg hT hr ha hb hs1 hs2 hpl
/-! ### what a for walks -/
theorem evi_list {m : M (List α)} (ok : Ok p sc NN VV GG k g) (he : EvE g L e md (tList S) m) : EvI g L tg e S m := by
  refine PI.imp (pi_list he) fun σ H R ⟨kp, own, at_, q⟩ => ?_
  refine tE_iff.mpr ⟨kp, own, at_, ?_⟩
  cases m with
  | ok xs =>
    rintro v H' s ⟨a, vs, rfl, h, r⟩
    have hk : RD g.fm own H' a (.lst vs) := RX.sh a _ h
    refine ⟨a, rfl, ⟨vs, (ok.fmK.trans ok.K.symm) ▸ RX.list h⟩, ?_⟩
    rw [show Itl g.X.K a = Itl g.fm.K a from by rw [ok.K, ok.fmK]]
    refine q (Itl g.fm.K a) H' s fun H2 rb i => ?_
    have hs : SqL g.fm.K H2 a vs := sq_of rb hk
    refine ⟨fun d hd => ?_, fun hn => ⟨vs, hs, ?_⟩⟩
    · obtain ⟨v, h1, h2⟩ := r.get hd
      refine ⟨⟨vs, v, hs, h1⟩, fun x H3 ⟨e, hx⟩ => ?_⟩
      subst e
      have := hx vs hs
      rw [h1] at this
      cases this
      exact ⟨Same.refl _, S.mono h2 fun a o z => .inl ⟨rfl, RX.sh a o z⟩⟩
    · rw [List.getElem?_eq_none_iff, r.length] at hn
      exact hn
  | ex c => exact q
  | no => exact q
theorem evi_str {m : M Tx} (he : EvE g L e md tStr m) : EvI g L tg e tStr (m.bind fun x => .ok (x.map fun c => [c])) := by
  refine PI.imp (pi_str he) fun σ H R ⟨kp, own, at_, q⟩ => ?_
  refine tE_iff.mpr ⟨kp, own, at_, ?_⟩
  cases m with
  | ok xs =>
    rintro v H' s ⟨rfl, hok⟩
    refine ⟨toS xs, rfl, q (Its (toS xs)) H' s fun H2 rb i => ?_⟩
    refine ⟨fun d hd => ?_, fun hn => ?_⟩
    · rw [List.getElem?_map] at hd
      cases hi : xs[i]? with
      | none => rw [hi] at hd; cases hd
      | some c =>
        rw [hi] at hd
        cases hd
        have hlt := (List.getElem?_eq_some_iff.mp hi).1
        refine ⟨by show i < xs.toArray.size; simpa using hlt, fun x H3 ⟨e, c', h1, h2⟩ => ?_⟩
        subst e
        have : c' = c := by
          have h1' : xs.toArray[i]? = some c' := h1
          rw [List.getElem?_toArray, hi] at h1'
          exact (Option.some.inj h1').symm
        subst this
        exact ⟨Same.refl _, h2, by show 1 ≤ sizeLine; decide, fun c2 hc2 => by rw [List.mem_singleton.mp hc2]; exact hok.2 _ (List.mem_of_getElem? hi)⟩
    · rw [List.getElem?_eq_none_iff, List.length_map] at hn
      show xs.toArray.size ≤ i
      simpa using hn
  | ex c => exact q
  | no => exact q
/-- the whole numbers from lo on, n many -/
def upFrom (lo : Int) : Nat → List Int
  | 0 => []
  | n + 1 => lo :: upFrom (lo + 1) n
theorem upFrom_get (n : Nat) : ∀ (lo : Int) (i : Nat), (upFrom lo n)[i]? = if i < n then some (lo + i) else none := by
  induction n with
  | zero => intro lo i; simp [upFrom]
  | succ n ih =>
    intro lo i
    cases i with
    | zero => simp [upFrom]
    | succ i =>
      rw [upFrom, List.getElem?_cons_succ, ih]
      by_cases h : i < n
      · rw [if_pos h, if_pos (by omega)]
        congr 1
        push_cast
        omega
      · rw [if_neg h, if_neg (by omega)]
theorem upFrom_len (n : Nat) : ∀ lo : Int, (upFrom lo n).length = n := by
  induction n with
  | zero => intro lo; rfl
  | succ n ih => intro lo; simp [upFrom, ih]
/-- range(lo, hi) -/
def rangeM (lo hi : Int) : M (List Int) := if -(2 ^ 62) ≤ lo ∧ lo < 2 ^ 62 ∧ -(2 ^ 62) ≤ hi ∧ hi < 2 ^ 62 then .ok (upFrom lo (hi - lo).toNat) else .no
theorem itr_ok {kp : RdR} {lo : Int} {n : Nat} : ItOk K kp (Itr lo n) tInt (upFrom lo n) := fun H rb i => by
  rw [upFrom_get]
  refine ⟨fun d hd => ?_, fun hn => ?_⟩
  · by_cases h : i < n
    · rw [if_pos h] at hd
      cases hd
      exact ⟨h, fun x H' ⟨e, hx⟩ => by subst e; exact ⟨Same.refl _, hx⟩⟩
    · rw [if_neg h] at hd; cases hd
  · by_cases h : i < n
    · rw [if_pos h] at hn; cases hn
    · exact Nat.le_of_not_lt h
theorem evi_range1 {j : Nat} {m : M Int} {pp : Pos} (ok : Ok p sc NN VV GG k g) (hG : GG[j]? = some "range") (hmg : p.mg "range" = none) (ha : EvE g L a md tInt m) (hs : starEach [a] g.X.env = (false, eval a g.X.env) :: starEach [] g.X.env := by rfl) :
    EvI g L tg (.Call (.Name "range" pp) [a] [] pos) tInt (m.bind fun n => rangeM 0 n) := by
  obtain ⟨hg, ho⟩ := ok.gl hG
  refine PI.imp (pi_range1 hg (by rw [ok.mg]; exact hmg) (eva_cons ha eva_nil hs) hs) fun σ H R ⟨kp, own, at_, q⟩ => ?_
  refine tA_iff.mpr ⟨kp, own, at_, ?_⟩
  cases m with
  | ok n =>
    rintro vs H' s ⟨v, r, rfl, rfl, e3⟩
    cases (show r = [] from e3)
    simp only [M.bind_ok] at q
    unfold rangeM at q
    split at q
    · rename_i xs h1
      split at h1
      · rename_i h
        cases h1
        refine ⟨n, rfl, h.2.2.1, h.2.2.2, q _ H' s ?_⟩
        rw [Int.sub_zero]
        exact itr_ok
      · cases h1
    · rename_i h1; split at h1 <;> cases h1
    · exact q.elim
  | ex c => exact q
  | no => exact q
theorem evi_range2 {j : Nat} {m1 m2 : M Int} {pp : Pos} (ok : Ok p sc NN VV GG k g) (hG : GG[j]? = some "range") (hmg : p.mg "range" = none) (ha : EvE g L a md tInt m1) (hb : EvE g L b md tInt m2)
    (hs1 : starEach [a, b] g.X.env = (false, eval a g.X.env) :: starEach [b] g.X.env := by rfl) (hs2 : starEach [b] g.X.env = (false, eval b g.X.env) :: starEach [] g.X.env := by rfl) :
    EvI g L tg (.Call (.Name "range" pp) [a, b] [] pos) tInt (m1.bind fun lo => m2.bind fun hi => rangeM lo hi) := by
  obtain ⟨hg, ho⟩ := ok.gl hG
  refine PI.imp (pi_range2 hg (by rw [ok.mg]; exact hmg) (eva_cons ha (eva_cons hb eva_nil hs2) hs1) (by rw [hs1, hs2]; rfl) (by rw [hs2]; rfl)) fun σ H R ⟨kp, own, at_, q⟩ => ?_
  refine tA_iff.mpr ⟨kp, own, at_, ?_⟩
  cases m1 with
  | ok lo =>
    cases m2 with
    | ok hi =>
      rintro vs H' s ⟨v, r, rfl, rfl, v2, r2, rfl, rfl, e3⟩
      cases (show r2 = [] from e3)
      simp only [M.bind_ok] at q
      unfold rangeM at q
      split at q
      · rename_i xs h1
        split at h1
        · rename_i h
          cases h1
          exact ⟨lo, hi, rfl, h, q _ H' s itr_ok⟩
        · cases h1
      · rename_i h1; split at h1 <;> cases h1
      · exact q.elim
    | ex c => exact q
    | no => exact q
  | ex c => exact q
  | no => exact q
/-! ### changing a list of one's own -/
theorem At.mut {fm : Fm} {kp : RdR} {σ : L2.St} {H : Hp} {own : List Addr} {b : Bool} {ds : List α} {i : Nat} (h : At fm kp L σ H own) (hL : L[i]? = some (sOwn b S ds)) :
    ∃ p vs, σ[i]? = some (some (.ref p)) ∧ H p = some (.lst vs) ∧ Reps S (RB fm own H b) ds vs ∧ ∀ ds' vs', Reps S (RB fm own H b) ds' vs' → At fm kp (L.set i (sOwn b S ds')) σ (upd H p (.lst vs')) own := by
  obtain ⟨h1, h2, ⟨Fs, h3, rfl⟩, h4, h5, h6⟩ := h
  obtain ⟨v, F, e1, e2, q, vs, rfl, rfl, hp, r⟩ := h3.get hL
  have qin : q ∈ Fs.flatten := List.mem_flatten.mpr ⟨[q], List.mem_of_getElem? e2, by simp⟩
  refine ⟨q, vs, e1, hp, r, fun ds' vs' r' => ?_⟩
  have key : ∀ (md : Md) a o, RX fm Fs.flatten H H md a o → RX fm Fs.flatten (upd H q (.lst vs')) (upd H q (.lst vs')) md a o ∨ md = .fx := fun md a o z => by
    cases md with
    | sh =>
      rcases z with z | z
      · have n : a ≠ q := fun e => z.2.1 (by rw [e]; exact qin)
        refine .inl (.inl ⟨?_, z.2⟩)
        unfold Rd
        rw [cl_upd_ne n]
        exact z.1
      · exact .inl (.inr z)
    | f0 =>
      have n : a ≠ q := fun e => z.2.1 (by rw [e]; exact qin)
      exact .inl ⟨by rw [cl_upd_ne n]; exact z.1, z.2⟩
    | fx => exact .inr rfl
  have keyB : ∀ (b : Bool) a o, RB fm Fs.flatten H b a o → RB fm Fs.flatten (upd H q (.lst vs')) b a o := fun b a o z => by
    cases b with
    | false => exact (key .sh a o z).resolve_right (fun e => nomatch e)
    | true => exact (key .f0 a o z).resolve_right (fun e => nomatch e)
  have up : ∀ a, H a ≠ none → upd H q (.lst vs') a ≠ none := fun a n => by
    by_cases e : a = q
    · rw [e, upd_same]; exact fun z => by cases z
    · rw [upd_ne e]; exact n
  refine ⟨h1.wr (h5 q qin).2.1 hp (fun _ z => nomatch z) rfl, fun a z => up a (h2 a z), ⟨Fs, ?_, rfl⟩, h4, fun x hx => ⟨up x (h5 x hx).1, (h5 x hx).2⟩, fun a o z => (key .sh a o (h6 a o z)).resolve_right (fun e => nomatch e)⟩
  · -- the slots
    have gen : ∀ {L : List Slot} {σ : L2.St} {Fs' : List (List Addr)}, AllS H (RB fm Fs.flatten H) L σ Fs' → Fs'.flatten.Nodup → ∀ {i : Nat}, Fs'[i]? = some [q] → L[i]? = some (sOwn b S ds) → σ[i]? = some (some (V.ref q)) →
        AllS (upd H q (.lst vs')) (RB fm Fs.flatten (upd H q (.lst vs'))) (L.set i (sOwn b S ds')) σ Fs' := by
      intro L σ Fs' hA
      induction hA with
      | nil => intro _ i e _ _; simp at e
      | @cons sl L v σ F Fs' r t ih =>
        intro nd i e eL eσ
        rw [List.flatten_cons, List.nodup_append] at nd
        cases i with
        | zero =>
          simp at e eL eσ
          subst e; subst eL; subst eσ
          refine .cons ⟨q, vs', rfl, rfl, upd_same, r'.mono (keyB b)⟩ (t.st keyB fun x hx => ?_)
          exact upd_ne fun z => nd.2.2 q (by simp) x hx z.symm
        | succ i =>
          have e' : Fs'[i]? = some [q] := by simpa using e
          refine .cons (sl.st r keyB fun x hx => upd_ne fun z => nd.2.2 x hx q (List.mem_flatten.mpr ⟨[q], List.mem_of_getElem? e', by simp⟩) z) (ih nd.2.1 e' (by simpa using eL) (by simpa using eσ))
    exact gen h3 h4 e2 hL e1
def lim : Nat := sizeLine
def pushM {α : Type} (xs : List α) (d : α) : M (List α) := if xs.length < sizeLine then .ok (xs ++ [d]) else .no
def setM {α : Type} (xs : List α) (i : Int) (d : α) : M (List α) := match L2.ixN xs.length i with | some j => .ok (xs.set j d) | none => .no
variable {st : List Stmt} {D : δ → Out} {i j : Nat} {x : Str}
theorem evb_append {bb : Bool} {ds : List α} {m : M α} {f : List α → M δ} {p1 ap cp : Pos} (ok : OkS p sc NN VV GG k g) (wk : Wk L g.LX) (hN : NN[i]? = some x) (hV : VV[j]? = some x) (hL : L[i]? = some (sOwn bb S ds)) (hb : SlB md bb)
    (he : EvE g L e md S m) (hr : ∀ ds', EvB g (L.set i (sOwn bb S ds')) st D (f ds'))
    (hs : swapsWith (.Call (.Attribute (.Name x p1) "append" ap) [e] [] cp) none pos.line g.X.env = pure false := by rfl)
    (hbase : attributeBase (.Name x p1) "append" g.X.env (eval (.Name x p1) g.X.env) = eval (.Name x p1) g.X.env := by rfl)
    (hfew : ((backTo cp (starEach [e] g.X.env)).all (fun x => !x.1) && (backToKw cp (keywordEach [] g.X.env)).all (fun x => x.1.isSome)
      && decide (([e] : List Expr).length + ([] : List Keyword).length + (if ([] : List Keyword).isEmpty then 0 else 1) < 30)) = true := by rfl)
    (hline : (ap.endLine == cp.line) = true := by rfl) (hst : starEach [e] g.X.env = (false, eval e g.X.env) :: starEach [] g.X.env := by rfl) (hpl : (backTo cp (starEach [] g.X.env)).any (·.1) = false := by rfl) :
    EvB g L (.Expr (.Call (.Attribute (.Name x p1) "append" ap) [e] [] cp) pos :: st) D (m.bind fun d => (pushM ds d).bind f) := by
  obtain ⟨hv, ho⟩ := ok.vis hV
  obtain ⟨h1, h2, _⟩ := okName_d ho
  refine PSs.imp (pss_cons (ps_expr (pe_bm PySem.F.plainAttrs_list PySem.F.slot_list_append PySem.F.type_list_append mt_append (pe_var (i := i) (by rw [ok.N]; exact hN) hv h1 h2) (pa_cons he pa_nil hst) (hbase := hbase) (hfew := hfew) (hline := hline) (hs := hst) (hplain := hpl)) hs) (PSs.ex hr)) fun E σ H ⟨kp, own, at_, q⟩ => ?_
  obtain ⟨p', vs, e1, hp, r, mu⟩ := at_.mut hL
  refine ⟨_, e1, Or.inl ⟨rfl, _, SqL.of hp⟩, tE_iff.mpr ⟨kp, own, at_, ?_⟩⟩
  cases m with
  | ok d =>
    intro v H1 s1 r1
    have a1 := at_.ext s1
    obtain ⟨p2, vs2, e12, hp2, rr2, mu2⟩ := a1.mut hL
    rw [e1] at e12
    cases e12
    have q : BOk g kp E D ((pushM ds d).bind f) := q
    unfold pushM at q
    split at q
    · rename_i hlt
      refine ⟨_, vs2, v, rfl, rfl, hp2, by rw [← rr2.length]; exact hlt, ds ++ [d], kp, own, mu2 _ _ (rr2.append (.cons (S.mono r1 hb.rb) .nil)), q⟩
    · exact q.elim
  | ex c => exact BOk.exx wk at_ q
  | no => exact q
theorem evb_setitem {bb : Bool} {ds : List α} {m : M α} {mi : M Int} {f : List α → M δ} {ix : Expr} {p1 p2 : Pos} (ok : OkS p sc NN VV GG k g) (wk : Wk L g.LX) (hN : NN[i]? = some x) (hV : VV[j]? = some x) (hL : L[i]? = some (sOwn bb S ds)) (hb : SlB md bb)
    (he : EvE g L e md S m) (hi : EvE g L ix md' tInt mi) (hr : ∀ ds', EvB g (L.set i (sOwn bb S ds')) st D (f ds'))
    (hs : swapsWith e (some (.Subscript (.Name x p1) ix p2)) pos.line g.X.env = pure false := by rfl)
    (hsub : ∀ v, assign (.Subscript (.Name x p1) ix p2) g.X.env v = (do
      let ov ← holding [v] (eval (.Name x p1) g.X.env)
      let iv ← holding [v, ov] (eval ix g.X.env)
      standAt p2
      holding [v, ov, iv] (setItem ov iv v)
      release [v, ov, iv] []) := by intro _; rfl)
    (hs' : swapsWithSole [.Subscript (.Name x p1) ix p2] e pos.line g.X.env = pure false := by rfl) (hw : swappedStores [.Subscript (.Name x p1) ix p2] e g.X.env = pure none := by rfl) (ha1 : (assignEach [.Subscript (.Name x p1) ix p2] g.X.env).map (·.2) = [assign (.Subscript (.Name x p1) ix p2) g.X.env] := by rfl) :
    EvB g L (.Assign [.Subscript (.Name x p1) ix p2] e pos :: st) D (m.bind fun d => mi.bind fun i => (setM ds i d).bind f) := by
  obtain ⟨hv, ho⟩ := ok.vis hV
  obtain ⟨h1, h2, _⟩ := okName_d ho
  refine PSs.imp (pss_cons (ps_asg he (pg_sub (pe_var (i := i) (by rw [ok.N]; exact hN) hv h1 h2) hi set_list hsub) hs' hw ha1) (PSs.ex hr)) fun E σ H ⟨kp, own, at_, q⟩ => ?_
  refine tE_iff.mpr ⟨kp, own, at_, ?_⟩
  cases m with
  | ok d =>
    intro v H1 s1 r1
    have a1 := at_.ext s1
    obtain ⟨p', vs, e1, hp, r, mu⟩ := a1.mut hL
    refine ⟨_, e1, tE_iff.mpr ⟨kp, own, a1, ?_⟩⟩
    cases mi with
    | ok n =>
      intro v2 H2 s2 r2
      have a2 := a1.ext s2
      obtain ⟨p2, vs2, e12, hp2, rr2, mu2⟩ := a2.mut hL
      rw [e1] at e12
      cases e12
      have q : BOk g kp E D ((setM ds n d).bind f) := q
      unfold setM at q
      split at q
      · rename_i jj hj
        refine ⟨_, vs2, n, jj, rfl, r2, hp2, by rw [← rr2.length]; exact hj, ds.set jj d, kp, own, mu2 _ _ (rr2.set (S.mono r1 fun a o z => RB.same s2 bb a o (hb.rb a o z)) jj), q⟩
      · exact q.elim
    | ex c => exact BOk.exx wk a1 q
    | no => exact q
  | ex c => exact BOk.exx wk at_ q
  | no => exact q
end
end Hd

namespace Hd
open PySem PySem.Spec L2
section
variable {p : Pr} {sc : Scope} {NN VV GG VV' GG' : List Str} {k : Nat} {g : G} {L L' : List Slot} {a b c e e' : Expr} {es : List Expr} {md md' : Md} {α β γ δ ρ : Type} {S : Ty α} {T : Ty β} {U : Ty γ} {A : Ar δ} {pos : Pos} {K : PySem.W.Frag} {tg : Expr}
/-! ### several targets -/
def tGs (fm : Fm) (A : Ar δ) (L : List Slot) (Lt : δ → List Slot) : TGs := fun vs σ H Q => ∃ kp own d, At fm kp L σ H own ∧ A.rep d vs (RD fm own H) ∧ ∀ σ' own', At fm kp (Lt d) σ' H own' → (∀ p ∈ own', p ∈ own) → Q σ' H
def EvGs (g : G) (es : List Expr) (A : Ar δ) (L : List Slot) (Lt : δ → List Slot) : Prop := PGs g.X es (tGs g.fm A L Lt)
theorem PGs.imp {X : Cx} {es : List Expr} {t t' : TGs} (h : PGs X es t) (k : ∀ v σ H Q, t' v σ H Q → t v σ H Q) : PGs X es t' := ⟨fun pins s σ H v u Q I r q => h.run pins s σ H v u Q I r (k _ _ _ _ q)⟩
theorem PGs.ex {X : Cx} {ι : Type} {es : List Expr} {t : ι → TGs} (h : ∀ d, PGs X es (t d)) : PGs X es (fun v σ H Q => ∃ d, t d v σ H Q) := ⟨fun pins s σ H v u Q I r ⟨d, q⟩ => (h d).run pins s σ H v u Q I r q⟩
theorem evgs_nil : EvGs g [] aNil L (fun _ => L) := by
  refine PGs.imp pgs_nil fun v σ H Q ⟨kp, own, d, at_, r, q⟩ => ⟨r, q σ own at_ fun _ h => h⟩
theorem evgs_cons {Lt1 : α → List Slot} {Lt2 : α → δ → List Slot} (h1 : EvG g e S L Lt1) (h2 : ∀ d, EvGs g es A (Lt1 d) (Lt2 d)) (hs : (assignEach (e :: es) g.X.env).map (·.2) = assign e g.X.env :: (assignEach es g.X.env).map (·.2) := by rfl) :
    EvGs g (e :: es) (aCons S A) L (fun d => Lt2 d.1 d.2) := by
  refine PGs.imp (pgs_cons h1 (PGs.ex h2) hs) fun vs σ H Q ⟨kp, own, d, at_, ⟨v, r, e1, r1, r2⟩, q⟩ => ?_
  refine ⟨v, r, e1, kp, own, d.1, at_, r1, fun σ' own' a' sub => ⟨d.1, kp, own', d.2, a', A.mono r2 (RX.own (md := .sh) (H := H) sub), fun σ2 own2 a2 sub2 => q σ2 own2 a2 fun p hp => sub p (sub2 p hp)⟩⟩
theorem evg_tup {Lt : δ → List Slot} {n k' : Nat} (ok : Ok p sc NN VV GG k g) (hl : ∀ {d vs R}, A.rep d vs R → vs.length = n) (h : EvGs g es A L Lt)
    (hn : (assignEach es g.X.env).length = n := by rfl) (hst : (assignEach es g.X.env).findIdx? (·.1) = none := by rfl) : EvG g (.Tuple es k' pos) (tTup A) L Lt := by
  refine PG.imp (pg_tup ok.calm h hn hst) fun v σ H Q ⟨kp, own, d, at_, ⟨a, vs, e, hr, rr⟩, q⟩ => ?_
  subst e
  exact ⟨a, vs, rfl, (ok.fmK.trans ok.K.symm) ▸ RX.tup (md := .sh) (H := H) hr, hl rr, kp, own, d, at_, rr, q⟩
theorem len0 {d : Unit} {vs : List V} {R : RdR} (h : aNil.rep d vs R) : vs.length = 0 := by cases (show vs = [] from h); rfl
theorem lenS {n : Nat} (h : ∀ {d vs R}, A.rep d vs R → vs.length = n) {d : α × δ} {vs : List V} {R : RdR} (q : (aCons S A).rep d vs R) : vs.length = n + 1 := by
  obtain ⟨v, r, e, _, h2⟩ := q
  rw [e, List.length_cons, h h2]
variable {st : List Stmt} {D : δ → Out} {i j : Nat} {x : Str}
/-- a, b = e -/
theorem evb_asg {m : M α} {Lt : α → List Slot} {f : α → M δ} (ok : OkS p sc NN VV GG k g) (wk : Wk L g.LX) (he : EvE g L e md S m) (hG : EvG g tg S L Lt) (hr : ∀ d, EvB g (Lt d) st D (f d))
    (hs : swapsWithSole [tg] e pos.line g.X.env = pure false := by rfl) (hw : swappedStores [tg] e g.X.env = pure none := by rfl) (h1 : (assignEach [tg] g.X.env).map (·.2) = [assign tg g.X.env] := by rfl) :
    EvB g L (.Assign [tg] e pos :: st) D (m.bind f) := by
  refine PSs.imp (pss_cons (ps_asg he hG hs hw h1) (PSs.ex hr)) fun E σ H ⟨kp, own, at_, q⟩ => ?_
  refine tE_iff.mpr ⟨kp, own, at_, ?_⟩
  cases m with
  | ok d => exact fun v H' s r => ⟨kp, own, d, at_.ext s, S.mono r RX.sh, fun σ' own' a' _ => ⟨d, kp, own', a', q⟩⟩
  | ex c => exact BOk.exx wk at_ q
  | no => exact q
/-! ### comprehensions -/
def compG {α β : Type} (h : α → M (Option β)) : List α → M (List β)
  | [] => .ok []
  | x :: r => (h x).nox.bind fun o => (compG h r).bind fun l => .ok (o.toList ++ l)
def compM {α β : Type} (h : α → M (Option β)) (xs : List α) : M (List β) := if xs.length ≤ sizeLine then compG h xs else .no
theorem At.setAny {fm : Fm} {kp : RdR} {σ : L2.St} {H : Hp} {own : List Addr} (h : At fm kp L σ H own) : ∃ own', At fm kp (L.set i sAny) (σ.set i none) H own' ∧ ∀ p ∈ own', p ∈ own := by
  obtain ⟨h1, h2, ⟨Fs, h3, rfl⟩, h4, h5, h6⟩ := h
  have kk : ∀ p ∈ (Fs.set i []).flatten, p ∈ Fs.flatten := fun p hp => (set_sub (i := i)).subset hp
  exact ⟨_, ⟨h1, h2, ⟨Fs.set i [], (h3.st (RB.own kk) fun _ _ => rfl).set (s := sAny) rfl i, rfl⟩, h4.sublist set_sub, fun p hp => h5 p (kk p hp), fun a o q => RX.own (md := .sh) (H := H) kk a o (h6 a o q)⟩, kk⟩
theorem At.setSh {fm : Fm} {kp : RdR} {σ : L2.St} {H : Hp} {own : List Addr} {d : α} {v : V} (h : At fm kp L σ H own) (r : S.rep d v (RD fm own H)) : ∃ own', At fm kp (L.set i (sV false S d)) (σ.set i (some v)) H own' ∧ ∀ p ∈ own', p ∈ own := by
  obtain ⟨h1, h2, ⟨Fs, h3, rfl⟩, h4, h5, h6⟩ := h
  have kk : ∀ p ∈ (Fs.set i []).flatten, p ∈ Fs.flatten := fun p hp => (set_sub (i := i)).subset hp
  exact ⟨_, ⟨h1, h2, ⟨Fs.set i [], (h3.st (RB.own kk) fun _ _ => rfl).set (s := sV false S d) ⟨rfl, v, rfl, S.mono r (RX.own (md := .sh) (H := H) kk)⟩ i, rfl⟩, h4.sublist set_sub, fun p hp => h5 p (kk p hp), fun a o q => RX.own (md := .sh) (H := H) kk a o (h6 a o q)⟩, kk⟩
theorem lookup_rl {env : Env} {x : Str} : ∀ {names : List (Str × NameKind)} {kd : NameKind}, names.lookup x = some kd →
    (names.map fun (n, k) => if (k == NameKind.free && env.scope.kind == .function && env.kindOf n == some .cell) then (n, NameKind.cell) else (n, k)).lookup x = some kd ∨
      (kd = .free ∧ (names.map fun (n, k) => if (k == NameKind.free && env.scope.kind == .function && env.kindOf n == some .cell) then (n, NameKind.cell) else (n, k)).lookup x = some .cell)
  | [], _, h => by simp at h
  | (n, k') :: r, kd, h => by
    rw [List.lookup_cons] at h
    rw [List.map_cons]
    by_cases e : x == n
    · rw [e] at h
      cases h
      dsimp only
      split
      · rename_i hh
        refine .inr ⟨?_, by rw [List.lookup_cons, e]⟩
        simp only [Bool.and_eq_true, beq_iff_eq] at hh
        exact hh.1.1
      · exact .inl (by rw [List.lookup_cons, e])
    · have e : (x == n) = false := by simpa using e
      rw [e] at h
      dsimp only
      have ih := lookup_rl (env := env) (x := x) (names := r) h
      split <;> (rw [List.lookup_cons, e]; exact ih)
theorem vis_rl {scope : Scope} {env : Env} {x : Str} (h : Vis scope x) : Vis (relabel scope env) x := by
  rcases h with h | h | h <;> rcases lookup_rl (env := env) h with q | ⟨q, q2⟩
  · exact .inl q
  · cases q
  · exact .inr (.inl q)
  · cases q
  · exact .inr (.inr q)
  · exact .inr (.inl q2)
theorem gl_rl {scope : Scope} {env : Env} {x : Str} (h : scope.names.lookup x = some .globalImplicit) : (relabel scope env).names.lookup x = some .globalImplicit := by
  rcases lookup_rl (env := env) h with q | ⟨q, q2⟩
  · exact q
  · cases q
theorem _root_.L2.BlkOk.relab {N : List Str} {sc scope : Scope} {env : Env} {own : List (Str × Nat)} (h : BlkOk N sc scope own) : BlkOk N (relabel sc env) scope own :=
  ⟨h.kind, h.uniq, h.ix, fun y hy e => by
    rcases h.free y hy e with q | q <;> rcases lookup_rl (env := env) q with z | ⟨z, z2⟩
    · exact .inl z
    · cases z
    · exact .inr z
    · exact .inl z2, h.own⟩
/-- where the inner part of a comprehension stands -/
theorem blk_ok (ok : Ok p sc NN VV GG k g) {scope : Scope} {s : Shared} {H : Hp} {C : Addr} {cl : List (Str × Addr)} {fp : List Addr} {fm : Fm} (hK : fm.K = p.K ∧ ∀ P, p.T = some P → LamX.TabS fm.H0 P lamQ) (hv : VV'.all (seenB scope) = true) (hg : GG'.all (glB scope) = true) :
    Ok p scope NN VV' GG' k ⟨g.X.blk s H scope (compEnvC scope cl C g.X.env) fp, fm, fun _ _ _ => False, []⟩ :=
  { prog := ok.prog, w := ok.w, K := ok.K, mg := ok.mg, base := ok.base, N := ok.N, fmK := hK.1, tab := hK.2, room := ok.room, nd := ok.nd
    vis := fun e => let h := seenB_v (List.all_eq_true.mp hv _ (List.mem_of_getElem? e)); ⟨vis_rl h.2, h.1⟩
    gl := fun e => let h := glB_v (List.all_eq_true.mp hg _ (List.mem_of_getElem? e)); ⟨gl_rl h.2, h.1⟩
    tk := Takes.imp takes0 (fun cls d σ H ⟨c, e1, e2, h⟩ => h)
    calm := ok.calm
    blk := fun h => (blkOk_by h).relab }
theorem wipe1 {σ : L2.St} {v : V} : wipe ((wipe σ [i]).set i (some v)) [i] = wipe σ [i] := by
  show ((σ.set i none).set i (some v)).set i none = σ.set i none
  rw [List.set_set, List.set_set]
def NoOwn (s : Slot) : Prop := ∀ {v H R F}, s.ok v H R F → F = []
theorem no_any : NoOwn sAny := fun h => h
theorem no_v {b : Bool} {d : α} : NoOwn (sV b S d) := fun h => h.1
theorem At.setN {fm : Fm} {kp : RdR} {σ : L2.St} {H : Hp} {own : List Addr} {s s' : Slot} {v : Option V} (h : At fm kp L σ H own) (hL : L[i]? = some s) (hs : NoOwn s) (r : s'.ok v H (RB fm own H) []) : At fm kp (L.set i s') (σ.set i v) H own := by
  obtain ⟨h1, h2, ⟨Fs, h3, rfl⟩, h4, h5, h6⟩ := h
  obtain ⟨v0, F, e1, e2, r0⟩ := h3.get hL
  have e : (Fs.set i []).flatten = Fs.flatten := set_same_nil (by rw [e2, hs r0])
  exact ⟨h1, h2, ⟨Fs.set i [], h3.set r i, e.symm⟩, h4, h5, h6⟩
theorem PTs.ex {X : Cx} {ι : Type} {ifs : List Expr} {t : ι → TT} (h : ∀ d, PTs X ifs (t d)) : PTs X ifs (fun σ H Q => ∃ d, t d σ H Q) := ⟨fun pins s σ H Q I ⟨d, q⟩ => (h d).run pins s σ H Q I q⟩
theorem PE.ex {X : Cx} {ι : Type} {e : Expr} {t : ι → TE} (h : ∀ d, PE X e (t d)) : PE X e (fun σ H Q => ∃ d, t d σ H Q) := ⟨fun pins s σ H Q I ⟨d, q⟩ => (h d).run pins s σ H Q I q⟩
theorem M.bind_assoc {α β γ : Type} (m : M α) (f : α → M β) (h : β → M γ) : (m.bind f).bind h = m.bind fun x => (f x).bind h := by cases m <;> rfl
theorem PS.imp {X : Cx} {e : Stmt} {t t' : TS} (h : PS X e t) (k : ∀ E σ H, t' E σ H → t E σ H) : PS X e t' := ⟨fun pins s σ H D I q => h.run pins s σ H D I (k _ _ _ q)⟩
/-- [elt for x in it if c] -/
theorem evl_lc2 {scope : Scope} {it elt : Expr} {m : M (List α)} {cm : α → M Bool} {f : α → M β} {tp : Pos} {ifs : List Expr} {s₀ : Slot} (ok : Ok p sc NN VV GG k g) (hI : EvI g L (.Name x tp) it S m) (hN : NN[i]? = some x) (hLi : L[i]? = some s₀) (hs₀ : NoOwn s₀) (hb : blkC NN sc scope [(x, i)] = true)
    (hv : VV'.all (seenB scope) = true) (hg : GG'.all (glB scope) = true) (hx : locB scope x = true)
    (hc : ∀ g', Ok p scope NN VV' GG' k g' → ∀ d, PTs g'.X ifs (tT g'.fm g'.W (L.set i (sV false S d)) (cm d)))
    (he : ∀ g', Ok p scope NN VV' GG' k g' → ∀ d, EvE g' (L.set i (sV false S d)) elt md T (f d)) (hs : ∀ x, foldedSetIterable it g.X.env x = pure x := by intro _; rfl) :
    (EvL g L (.ListComp elt [⟨.Name x tp, it, ifs, 0⟩] scope pos) md T (m.bind fun xs => compM (fun d => (cm d).bind fun c => if c = true then (f d).bind fun y => .ok (some y) else .ok none) xs)) ∧
    (∀ {y : Str} {i2 : Nat} {py spos : Pos}, NN[i2]? = some y → g.X.env.scope.names.lookup y = some .local → swapsWith (.ListComp elt [⟨.Name x tp, it, ifs, 0⟩] scope pos) (some (.Name y py)) spos.line g.X.env = pure true →
      PS g.X (.Assign [.Name y py] (.ListComp elt [⟨.Name x tp, it, ifs, 0⟩] scope pos) spos) (tAsg (tL g.fm g.W L md T (m.bind fun xs => compM (fun d => (cm d).bind fun c => if c = true then (f d).bind fun y => .ok (some y) else .ok none) xs)) (gName i2))) := by
  have loc : ∀ (s : Shared) (H : Hp) (C : Addr) (cl : List (Str × Addr)) (fp : List Addr), L2.Loc (g.X.blk s H scope (compEnvC scope cl C g.X.env) fp).env.scope x ∧ ((g.X.blk s H scope (compEnvC scope cl C g.X.env) fp).fn x = true ∨ (g.X.blk s H scope (compEnvC scope cl C g.X.env) fp).env.scope.names.lookup x = some .local) := by
    intro s H C cl fp
    rcases locB_v hx with h | h
    · have q : (relabel scope g.X.env).names.lookup x = some .local := by
        rcases lookup_rl (env := g.X.env) h with q | ⟨q, _⟩
        · exact q
        · cases q
      exact ⟨.inl q, .inr q⟩
    · have q : (relabel scope g.X.env).names.lookup x = some .cell := by
        rcases lookup_rl (env := g.X.env) h with q | ⟨q, _⟩
        · exact q
        · cases q
      refine ⟨.inr q, .inl ?_⟩
      show (scope.names.lookup x == some .cell) = true
      rw [h]; rfl
  have BODY : ∀ σ H Q, tL g.fm g.W L md T (m.bind fun xs => compM (fun d => (cm d).bind fun c => if c = true then (f d).bind fun y => .ok (some y) else .ok none) xs) σ H Q →
      tLc (tI g.fm g.W L S m) (gName i) (fun σ H Q => ∃ z : {fm' : Fm // fm'.K = p.K ∧ ∀ P, p.T = some P → LamX.TabS fm'.H0 P lamQ} × α, tT z.1.1 (fun _ _ _ => False) (L.set i (sV false S z.2)) (cm z.2) σ H Q)
        (fun σ H Q => ∃ z : {fm' : Fm // fm'.K = p.K ∧ ∀ P, p.T = some P → LamX.TabS fm'.H0 P lamQ} × α, tE z.1.1 (fun _ _ _ => False) (L.set i (sV false S z.2)) md T (f z.2) σ H Q) ([(x, i)].map (·.2)) σ H Q := by
    intro σ H Q q
    obtain ⟨kp, own, at_, q⟩ := tL_iff.mp q
    cases m with
    | ex c => exact ⟨kp, own, at_, q⟩
    | no => exact q.elim
    | ok xs =>
    refine ⟨kp, own, at_, fun J H1 s1 hJ D hD => ?_⟩
    have at1 := at_.ext s1
    have hHD : H D = none := s1.free hD
    -- the inner frame
    let fm' : Fm := ⟨g.fm.K, g.fm.H0, fun a => a = D ∨ g.fm.z a⟩
    let hh : α → M (Option β) := fun d => (cm d).bind fun c => if c = true then (f d).bind fun y => .ok (some y) else .ok none
    have q : FinL g.fm g.W own σ H md T Q (compM hh xs) := q
    unfold compM at q
    split at q
    case isFalse => exact q.elim
    rename_i hlen
    have aw : At g.fm kp (L.set i sAny) (σ.set i none) H1 own := at1.setN hLi hs₀ rfl
    have rdD : ∀ (md : Md) (H0 : Hp) a o, RX g.fm own H0 H1 md a o → RX fm' own H0 (upd H1 D (.lst [])) md a o := fun md H0 a o z => by
      have z2 := RX.add (o' := .lst []) hD a o z
      cases md with
      | sh => exact z2.imp (fun ⟨a1, a2, a3⟩ => ⟨a1, fun y => a2 (List.mem_cons_of_mem _ y), fun y => y.elim (fun e => a2 (by rw [e]; exact List.mem_cons_self)) a3⟩) id
      | f0 => exact ⟨z2.1, fun y => z2.2.1 (List.mem_cons_of_mem _ y), fun y => y.elim (fun e => z2.2.1 (by rw [e]; exact List.mem_cons_self)) z2.2.2.1, z2.2.2.2⟩
      | fx => exact ⟨z2.1, fun y => z2.2.1 (List.mem_cons_of_mem _ y), fun y => y.elim (fun e => z2.2.1 (by rw [e]; exact List.mem_cons_self)) z2.2.2.1, z2.2.2.2⟩
    have a0 : At fm' (RD g.fm own H1) (L.set i sAny) (wipe σ [i]) (upd H1 D (.lst [])) own := by
      obtain ⟨h1, h2, ⟨Fs, h3, e⟩, h4, h5, h6⟩ := aw
      refine ⟨h1.trans (newSame hD), fun a z => ?_, ⟨Fs, h3.st (fun b a o z => ?_) fun y hy => ?_, e⟩, h4, fun y hy => ⟨fun n => (h5 y hy).1 ((newSame hD).free n), (h5 y hy).2.1, fun z => z.elim (fun e => (h5 y hy).1 (by rw [e]; exact hD)) (h5 y hy).2.2⟩, fun a o z => rdD .sh H1 a o z⟩
      · rcases z with z | z
        · rw [z, upd_same]; exact fun n => by cases n
        · exact fun n => h2 a z ((newSame hD).free n)
      · cases b with
        | false => exact rdD .sh H1 a o z
        | true => exact rdD .f0 H1 a o z
      · exact upd_ne fun e' => (h5 y (by rw [e]; exact hy)).1 (by rw [e']; exact hD)
    have upR : ∀ (md : Md) {H5 : Hp} {vs' : List V}, ∀ a o, RX g.fm (D :: own) H H5 md a o → RX g.fm (D :: own) H (upd H5 D (.lst vs')) md a o := fun md {H5 vs'} a o z => by
      have ne : a ∉ D :: own → a ≠ D := fun h e => h (by rw [e]; exact List.mem_cons_self)
      cases md with
      | sh =>
        refine z.imp (fun ⟨a1, a2, a3⟩ => ⟨?_, a2, a3⟩) id
        unfold Rd
        rw [cl_upd_ne (ne a2)]
        exact a1
      | f0 => exact ⟨by rw [cl_upd_ne (ne z.2.1)]; exact z.1, z.2⟩
      | fx => exact ⟨by rw [cl_upd_ne (ne z.2.1)]; exact z.1, z.2⟩
    refine ⟨fun n mm H' => mm = xs.length - n ∧ n ≤ xs.length ∧ ∃ vs ds, H' D = some (.lst vs) ∧ vs.length ≤ n ∧ Same H H' ∧ Reps T (RX g.fm (D :: own) H H' md) ds vs ∧ At fm' (RD g.fm own H1) (L.set i sAny) (wipe σ [i]) H' own ∧
      FinL g.fm g.W own σ H md T Q ((compG hh (xs.drop n)).bind fun l => .ok (ds ++ l)), ⟨_, rfl, Nat.zero_le _, [], [], upd_same, Nat.zero_le _, s1.trans (newSame hD), .nil, a0, ?_⟩, ?_⟩
    · rw [List.drop_zero]
      have e : ((compG hh xs).bind fun l => M.ok ([] ++ l)) = compG hh xs := by cases compG hh xs <;> rfl
      rw [e]; exact q
    rintro n mm H' ⟨rfl, hn, vs, ds, hDv, hvl, sH, rr, a', q'⟩
    have rb : Rdb g.fm.K (RD g.fm own H1) H' := fun a o z => (a'.kept a o z).imp (fun h => Rd.raw h.1) id
    obtain ⟨hgo, hst⟩ := hJ H' rb n
    by_cases hlt : n < xs.length
    · have hx' : xs[n]? = some xs[n] := by simp [hlt]
      obtain ⟨go, yl⟩ := hgo _ hx'
      refine .inr ⟨go, fun H6 => ∃ vs ds, H6 D = some (.lst vs) ∧ vs.length ≤ n + 1 ∧ Same H H6 ∧ Reps T (RX g.fm (D :: own) H H6 md) ds vs ∧ At fm' (RD g.fm own H1) (L.set i sAny) (wipe σ [i]) H6 own ∧
        FinL g.fm g.W own σ H md T Q ((compG hh (xs.drop (n + 1))).bind fun l => .ok (ds ++ l)), fun H6 z => ⟨xs.length - (n + 1), by omega, rfl, hlt, z⟩, fun y H3 hy => ?_⟩
      obtain ⟨s3, r3⟩ := yl y H3 hy
      have a3 := a'.ext s3
      have ry : S.rep xs[n] y (RD fm' own H3) := S.mono r3 (Nw.rd a' a'.kept s3)
      have hLw : (L.set i sAny)[i]? = some sAny := by
        have hlt' := (List.getElem?_eq_some_iff.mp hLi).1
        rw [List.getElem?_set_self hlt']
      have a4 : At fm' (RD g.fm own H1) (L.set i (sV false S xs[n])) ((wipe σ [i]).set i (some y)) H3 own := by
        have := a3.setN (s' := sV false S xs[n]) (v := some y) hLw no_any ⟨rfl, y, rfl, ry⟩
        rwa [List.set_set] at this
      rw [List.drop_eq_getElem_cons hlt] at q'
      refine ⟨wipe1, ⟨⟨fm', ok.fmK, ok.tab⟩, xs[n]⟩, _, own, a4, ?_⟩
      have q2 : FinL g.fm g.W own σ H md T Q (((hh xs[n]).nox.bind fun o => (compG hh (xs.drop (n + 1))).bind fun l => .ok (o.toList ++ l)).bind fun l => .ok (ds ++ l)) := q'
      cases hcm : cm xs[n] with
      | ex c => rw [show hh xs[n] = .ex c from by show (cm xs[n]).bind _ = _; rw [hcm]; rfl] at q2; exact q2.elim
      | no => rw [show hh xs[n] = .no from by show (cm xs[n]).bind _ = _; rw [hcm]; rfl] at q2; exact q2.elim
      | ok c =>
        intro H4 s4
        cases c with
        | false =>
          rw [show hh xs[n] = .ok none from by show (cm xs[n]).bind _ = _; rw [hcm]; rfl] at q2
          refine (if_neg (by decide)).mpr ?_
          have a5 : At fm' (RD g.fm own H1) (L.set i sAny) (wipe σ [i]) H4 own := a3.ext s4
          refine ⟨vs, ds, s4.keep _ _ (s3.keep _ _ hDv rfl) rfl, Nat.le_succ_of_le hvl, (sH.trans s3).trans s4, rr.mono (RX.same (s3.trans s4)), a5, ?_⟩
          have e : (((M.ok (none : Option β)).nox.bind fun o => (compG hh (xs.drop (n + 1))).bind fun l => M.ok (o.toList ++ l)).bind fun l => M.ok (ds ++ l)) = (compG hh (xs.drop (n + 1))).bind fun l => M.ok (ds ++ l) := by
            cases compG hh (xs.drop (n + 1)) <;> rfl
          rw [e] at q2; exact q2
        | true =>
          refine (if_pos rfl).mpr ⟨⟨⟨fm', ok.fmK, ok.tab⟩, xs[n]⟩, _, own, a4.ext s4, ?_⟩
          cases hf : f xs[n] with
          | ex c => rw [show hh xs[n] = .ex c from by show (cm xs[n]).bind _ = _; rw [hcm]; show (f xs[n]).bind _ = _; rw [hf]; rfl] at q2; exact q2.elim
          | no => rw [show hh xs[n] = .no from by show (cm xs[n]).bind _ = _; rw [hcm]; show (f xs[n]).bind _ = _; rw [hf]; rfl] at q2; exact q2.elim
          | ok w =>
            rw [show hh xs[n] = .ok (some w) from by show (cm xs[n]).bind _ = _; rw [hcm]; show (f xs[n]).bind _ = _; rw [hf]; rfl] at q2
            intro v H5 s5 r5
            have s35 : Same H' H5 := (s3.trans s4).trans s5
            have sHH5 : Same H H5 := sH.trans s35
            have nw : ∀ a o, RX fm' own H4 H5 md a o → RX g.fm (D :: own) H H5 md a o := fun a o z => by
              have nd : ¬ fm'.z a → a ≠ D ∧ ¬ g.fm.z a := fun h => ⟨fun e => h (.inl e), fun e => h (.inr e)⟩
              cases md with
              | sh => exact z.imp (fun ⟨a1, a2, a3⟩ => ⟨a1, fun y => (List.mem_cons.mp y).elim (nd a3).1 a2, (nd a3).2⟩) id
              | f0 => exact ⟨z.1, fun y => (List.mem_cons.mp y).elim (nd z.2.2.1).1 z.2.1, (nd z.2.2.1).2, z.2.2.2⟩
              | fx => exact ⟨z.1, fun y => (List.mem_cons.mp y).elim (nd z.2.2.1).1 z.2.1, (nd z.2.2.1).2, z.2.2.2.1, ((sH.trans s3).trans s4).free z.2.2.2.2⟩
            refine ⟨vs, s35.keep _ _ hDv rfl, by omega, vs ++ [v], ds ++ [w], upd_same, by rw [List.length_append, List.length_singleton]; omega, sHH5.wr hHD (s35.keep _ _ hDv rfl) (fun _ z => nomatch z) rfl, ?_, ?_, ?_⟩
            · exact ((rr.mono (RX.same s35)).append (.cons (T.mono r5 nw) .nil)).mono (upR md)
            · -- the slots at the changed heap
              have a5 : At fm' (RD g.fm own H1) (L.set i sAny) (wipe σ [i]) H5 own := a'.ext s35
              obtain ⟨h1, h2, ⟨Fs, h3, e⟩, h4, h5, h6⟩ := a5
              have ne : ∀ {a : Addr}, ¬ fm'.z a → a ≠ D := fun h e => h (.inl e)
              have k0 : ∀ (md : Md) a o, RX fm' own H5 H5 md a o → md = .fx ∨ RX fm' own (upd H5 D (.lst (vs ++ [v]))) (upd H5 D (.lst (vs ++ [v]))) md a o := fun md a o z => by
                cases md with
                | sh =>
                  refine .inr (z.imp (fun ⟨a1, a2, a3⟩ => ⟨?_, a2, a3⟩) id)
                  unfold Rd
                  rw [cl_upd_ne (ne a3)]
                  exact a1
                | f0 => exact .inr ⟨by rw [cl_upd_ne (ne z.2.2.1)]; exact z.1, z.2⟩
                | fx => exact .inl rfl
              have up : ∀ a, H5 a ≠ none → upd H5 D (.lst (vs ++ [v])) a ≠ none := fun a hne => by
                by_cases e : a = D
                · rw [e, upd_same]; exact fun z => by cases z
                · rw [upd_ne e]; exact hne
              refine ⟨h1.wr (at_.same.free hHD) (s35.keep _ _ hDv rfl) (fun _ z => nomatch z) rfl, fun a z => up a (h2 a z), ⟨Fs, h3.st (fun b a o z => ?_) fun y hy => ?_, e⟩, h4, fun y hy => ⟨up y (h5 y hy).1, (h5 y hy).2⟩, fun a o z => (k0 .sh a o (h6 a o z)).resolve_left fun e => nomatch e⟩
              · cases b with
                | false => exact (k0 .sh a o z).resolve_left fun e => nomatch e
                | true => exact (k0 .f0 a o z).resolve_left fun e => nomatch e
              · exact upd_ne (ne (h5 y (by rw [e]; exact hy)).2.2)
            · have e : (((M.ok (some w)).nox.bind fun o => (compG hh (xs.drop (n + 1))).bind fun l => M.ok (o.toList ++ l)).bind fun l => M.ok (ds ++ l)) = (compG hh (xs.drop (n + 1))).bind fun l => M.ok ((ds ++ [w]) ++ l) := by
                cases compG hh (xs.drop (n + 1)) <;> simp [M.nox, M.bind]
              rw [e] at q2; exact q2
    · have e : n = xs.length := by omega
      subst e
      rw [List.drop_length] at q'
      refine .inl ⟨hst (by simp), ?_⟩
      have q2 : FinL g.fm g.W own σ H md T Q (.ok (ds ++ [])) := q'
      rw [List.append_nil] at q2
      exact q2 D vs H' sH hHD hDv rr
  refine ⟨PE.imp (pe_lc (own := [(x, i)]) ok.calm (by rw [ok.N]; exact ok.nd) hI (by rw [ok.N]; exact ok.blk hb) (fun s H C cl fp => pg_name (i := i) (by show g.X.N.Nodup; rw [ok.N]; exact ok.nd) (by show g.X.N[i]? = _; rw [ok.N]; exact hN) (loc s H C cl fp).1 (loc s H C cl fp).2)
    (fun s H C cl fp => PTs.ex (t := fun (z : {fm' : Fm // fm'.K = p.K ∧ ∀ P, p.T = some P → LamX.TabS fm'.H0 P lamQ} × α) => tT z.1.1 (fun _ _ _ => False) (L.set i (sV false S z.2)) (cm z.2)) fun z => hc ⟨g.X.blk s H scope (compEnvC scope cl C g.X.env) fp, z.1.1, fun _ _ _ => False, []⟩ (blk_ok ok z.1.2 hv hg) z.2) (fun s H C cl fp => PE.ex (t := fun (z : {fm' : Fm // fm'.K = p.K ∧ ∀ P, p.T = some P → LamX.TabS fm'.H0 P lamQ} × α) => tE z.1.1 (fun _ _ _ => False) (L.set i (sV false S z.2)) md T (f z.2)) fun z => he ⟨g.X.blk s H scope (compEnvC scope cl C g.X.env) fp, z.1.1, fun _ _ _ => False, []⟩ (blk_ok ok z.1.2 hv hg) z.2) hs) BODY, fun {y i2 py spos} hy hyl hsw => ?_⟩
  exact PS.imp (ps_setLc (own := [(x, i)]) ok.calm (by rw [ok.N]; exact ok.nd) (by rw [ok.N]; exact hy) hyl hsw hI (by rw [ok.N]; exact ok.blk hb) (fun s H C cl fp => pg_name (i := i) (by show g.X.N.Nodup; rw [ok.N]; exact ok.nd) (by show g.X.N[i]? = _; rw [ok.N]; exact hN) (loc s H C cl fp).1 (loc s H C cl fp).2)
    (fun s H C cl fp => PTs.ex (t := fun (z : {fm' : Fm // fm'.K = p.K ∧ ∀ P, p.T = some P → LamX.TabS fm'.H0 P lamQ} × α) => tT z.1.1 (fun _ _ _ => False) (L.set i (sV false S z.2)) (cm z.2)) fun z => hc ⟨g.X.blk s H scope (compEnvC scope cl C g.X.env) fp, z.1.1, fun _ _ _ => False, []⟩ (blk_ok ok z.1.2 hv hg) z.2) (fun s H C cl fp => PE.ex (t := fun (z : {fm' : Fm // fm'.K = p.K ∧ ∀ P, p.T = some P → LamX.TabS fm'.H0 P lamQ} × α) => tE z.1.1 (fun _ _ _ => False) (L.set i (sV false S z.2)) md T (f z.2)) fun z => he ⟨g.X.blk s H scope (compEnvC scope cl C g.X.env) fp, z.1.1, fun _ _ _ => False, []⟩ (blk_ok ok z.1.2 hv hg) z.2) hs) fun E σ H q => BODY σ H _ q
/-- [elt for x in it if c] -/
theorem evl_lc {scope : Scope} {it elt : Expr} {m : M (List α)} {cm : α → M Bool} {f : α → M β} {tp : Pos} {ifs : List Expr} {s₀ : Slot} (ok : Ok p sc NN VV GG k g) (hI : EvI g L (.Name x tp) it S m) (hN : NN[i]? = some x) (hLi : L[i]? = some s₀) (hs₀ : NoOwn s₀) (hb : blkC NN sc scope [(x, i)] = true)
    (hv : VV'.all (seenB scope) = true) (hg : GG'.all (glB scope) = true) (hx : locB scope x = true)
    (hc : ∀ g', Ok p scope NN VV' GG' k g' → ∀ d, PTs g'.X ifs (tT g'.fm g'.W (L.set i (sV false S d)) (cm d)))
    (he : ∀ g', Ok p scope NN VV' GG' k g' → ∀ d, EvE g' (L.set i (sV false S d)) elt md T (f d)) (hs : ∀ x, foldedSetIterable it g.X.env x = pure x := by intro _; rfl) :
    EvL g L (.ListComp elt [⟨.Name x tp, it, ifs, 0⟩] scope pos) md T (m.bind fun xs => compM (fun d => (cm d).bind fun c => if c = true then (f d).bind fun y => .ok (some y) else .ok none) xs) := (evl_lc2 ok hI hN hLi hs₀ hb hv hg hx hc he hs).1
end
end Hd

namespace Hd
open PySem PySem.Spec L2
section
variable {p : Pr} {sc : Scope} {NN VV GG VV' GG' : List Str} {k : Nat} {g : G} {L L' : List Slot} {a b c e e' : Expr} {es : List Expr} {md md' : Md} {α β γ δ ρ : Type} {S : Ty α} {T : Ty β} {U : Ty γ} {A : Ar δ} {pos : Pos} {K : PySem.W.Frag} {tg : Expr} {i j : Nat} {x : Str}
/-- all slots forgotten -/
theorem wkX {n : Nat} (h : g.LX = List.replicate n sAny) (e : L.length = n) : Wk L g.LX := h ▸ Wk.anys e
theorem ev_gint {i : Int} (ok : Ok p sc NN VV GG k g) (hG : GG[j]? = some x) (h : ∃ t, p.mg x = some (.int i t)) : EvE g L (.Name x pos) md tInt (.ok i) := by
  obtain ⟨t, h⟩ := h
  exact ev_glob (v := .int i) ok hG h ⟨t, rfl⟩ (fun _ => rfl)
theorem ev_gstr {s : String} (ok : Ok p sc NN VV GG k g) (hG : GG[j]? = some x) (h : ∃ t, p.mg x = some (.str (Str.ofString s) t)) (hl : okTxB (tx s) = true) : EvE g L (.Name x pos) md tStr (.ok (tx s)) := by
  obtain ⟨t, h⟩ := h
  exact ev_glob (v := .str (Str.ofString s)) ok hG h ⟨t, rfl⟩ (fun _ => ⟨by rw [toS_tx], okTx_of hl⟩)
/-! ### built-ins of one, of two arguments -/
theorem ev_b1 {id : String} {r : List V → Hp → VK → Prop} {f : α → M γ} {fr : Bool} {m : M α} {pp : Pos} (ok : Ok p sc NN VV GG k g) (hc : CallR g.X (.builtin id) r)
    (F : ∀ {d v R H Q}, Rdb p.K R H → S.rep d v R → OpEnd U fr R H Q (f d) → r [v] H Q) (hne : ∀ d c, f d ≠ .ex c) (hm : MdOk fr md md')
    (hG : GG[j]? = some x) (hmg : p.mg x = none) (hv : bootBuiltins x = some (.builtin id)) (ha : EvE g L e md S m) (hs : starEach [e] g.X.env = (false, eval e g.X.env) :: starEach [] g.X.env := by rfl) : EvE g L (.Call (.Name x pp) [e] [] pos) md' U (m.bind f) := by
  have h := ev_callB (md' := md') (U := U) (A := aCons S aNil) (f := fun d => f d.1) (fr := fr) (pos := pos) (pp := pp) ok hc ⟨fun {d xs R H Q} rb ⟨v, r, e1, h1, e3⟩ q => by
    subst e1; cases (show r = [] from e3); exact F rb h1 q⟩ (fun d c => hne d.1 c) hm hG hmg hv (eva_cons ha eva_nil hs) hs rfl
  have e : (m.bind fun d => (M.ok ()).bind fun e => M.ok (d, e)).bind (fun d => f d.1) = m.bind f := by cases m <;> rfl
  rwa [e] at h
theorem ev_t1 {id : String} {r : List V → Hp → VK → Prop} {f : α → M γ} {fr : Bool} {m : M α} {pp : Pos} (ok : Ok p sc NN VV GG k g) (hc : CallR g.X (.type id) r)
    (F : ∀ {d v R H Q}, Rdb p.K R H → S.rep d v R → OpEnd U fr R H Q (f d) → r [v] H Q) (hne : ∀ d c, f d ≠ .ex c) (hm : MdOk fr md md')
    (hG : GG[j]? = some x) (hmg : p.mg x = none) (hv : bootBuiltins x = some (.type id)) (ha : EvE g L e md S m) (hs : starEach [e] g.X.env = (false, eval e g.X.env) :: starEach [] g.X.env := by rfl) : EvE g L (.Call (.Name x pp) [e] [] pos) md' U (m.bind f) := by
  have h := ev_callTy (md' := md') (U := U) (A := aCons S aNil) (f := fun d => f d.1) (fr := fr) (pos := pos) (pp := pp) ok hc ⟨fun {d xs R H Q} rb ⟨v, r, e1, h1, e3⟩ q => by
    subst e1; cases (show r = [] from e3); exact F rb h1 q⟩ (fun d c => hne d.1 c) hm hG hmg hv (eva_cons ha eva_nil hs) hs rfl
  have e : (m.bind fun d => (M.ok ()).bind fun e => M.ok (d, e)).bind (fun d => f d.1) = m.bind f := by cases m <;> rfl
  rwa [e] at h
theorem ev_b2 {id : String} {r : List V → Hp → VK → Prop} {f : α → β → M γ} {fr : Bool} {m1 : M α} {m2 : M β} {pp : Pos} (ok : Ok p sc NN VV GG k g) (hc : CallR g.X (.builtin id) r)
    (F : ∀ {d e v w R H Q}, Rdb p.K R H → S.rep d v R → T.rep e w R → OpEnd U fr R H Q (f d e) → r [v, w] H Q) (hne : ∀ d e c, f d e ≠ .ex c) (hm : MdOk fr md md')
    (hG : GG[j]? = some x) (hmg : p.mg x = none) (hv : bootBuiltins x = some (.builtin id)) (ha : EvE g L a md S m1) (hb : EvE g L b md T m2)
    (hs1 : starEach [a, b] g.X.env = (false, eval a g.X.env) :: starEach [b] g.X.env := by rfl) (hs2 : starEach [b] g.X.env = (false, eval b g.X.env) :: starEach [] g.X.env := by rfl)
    (hpl : (backTo pos (starEach [b] g.X.env)).any (·.1) = false := by rfl) : EvE g L (.Call (.Name x pp) [a, b] [] pos) md' U (m1.bind fun d => m2.bind fun e => f d e) := by
  have h := ev_callB (md' := md') (U := U) (A := aCons S (aCons T aNil)) (f := fun d => f d.1 d.2.1) (fr := fr) (pos := pos) (pp := pp) ok hc ⟨fun {d xs R H Q} rb ⟨v, r, e1, h1, w, r2, e2, h2, e3⟩ q => by
    subst e1; subst e2; cases (show r2 = [] from e3); exact F rb h1 h2 q⟩ (fun d c => hne d.1 d.2.1 c) hm hG hmg hv (eva_cons ha (eva_cons hb eva_nil hs2) hs1) hs1 hpl
  have e : (m1.bind fun d => (m2.bind fun d => (M.ok ()).bind fun e => M.ok (d, e)).bind fun e => M.ok (d, e)).bind (fun d => f d.1 d.2.1) = m1.bind fun d => m2.bind fun e => f d e := by cases m1 <;> cases m2 <;> rfl
  rwa [e] at h
variable {m1 m2 : M Int} {pp : Pos}
theorem ev_abs (ok : Ok p sc NN VV GG k g) (hG : GG[j]? = some "abs") (hmg : p.mg "abs" = none) (ha : EvE g L a md tInt m1) (hs : starEach [a] g.X.env = (false, eval a g.X.env) :: starEach [] g.X.env := by rfl) : EvE g L (.Call (.Name "abs" pp) [a] [] pos) md' tInt (m1.bind fun x => .ok (x.natAbs : Int)) :=
  ev_b1 (fr := true) ok call_abs (fun {d v R H Q} rb h q => by
    refine ⟨d, by rw [h], q _ _ (Same.refl _) ?_⟩
    show V.int _ = V.int _
    congr 1
    split <;> omega) (fun _ _ h => nomatch h) .fresh hG hmg (by decide +kernel) ha hs
theorem ev_max2 (ok : Ok p sc NN VV GG k g) (hG : GG[j]? = some "max") (hmg : p.mg "max" = none) (ha : EvE g L a md tInt m1) (hb : EvE g L b md tInt m2)
    (hs1 : starEach [a, b] g.X.env = (false, eval a g.X.env) :: starEach [b] g.X.env := by rfl) (hs2 : starEach [b] g.X.env = (false, eval b g.X.env) :: starEach [] g.X.env := by rfl)
    (hpl : (backTo pos (starEach [b] g.X.env)).any (·.1) = false := by rfl) : EvE g L (.Call (.Name "max" pp) [a, b] [] pos) md' tInt (m1.bind fun x => m2.bind fun y => .ok (max x y)) :=
  ev_b2 (fr := true) (f := fun x y => .ok (max x y)) ok (call_max2 ok.calm) (fun {d e v w R H Q} rb h1 h2 q => by
    refine ⟨d, e, by rw [h1, h2], q _ _ (Same.refl _) ?_⟩
    show V.int _ = V.int _
    congr 1
    split <;> omega) (fun _ _ _ h => nomatch h) .fresh hG hmg (by decide +kernel) ha hb hs1 hs2 hpl
theorem ev_min2 (ok : Ok p sc NN VV GG k g) (hG : GG[j]? = some "min") (hmg : p.mg "min" = none) (ha : EvE g L a md tInt m1) (hb : EvE g L b md tInt m2)
    (hs1 : starEach [a, b] g.X.env = (false, eval a g.X.env) :: starEach [b] g.X.env := by rfl) (hs2 : starEach [b] g.X.env = (false, eval b g.X.env) :: starEach [] g.X.env := by rfl)
    (hpl : (backTo pos (starEach [b] g.X.env)).any (·.1) = false := by rfl) : EvE g L (.Call (.Name "min" pp) [a, b] [] pos) md' tInt (m1.bind fun x => m2.bind fun y => .ok (min x y)) :=
  ev_b2 (fr := true) (f := fun x y => .ok (min x y)) ok (call_min2 ok.calm) (fun {d e v w R H Q} rb h1 h2 q => by
    refine ⟨d, e, by rw [h1, h2], q _ _ (Same.refl _) ?_⟩
    show V.int _ = V.int _
    congr 1
    split <;> omega) (fun _ _ _ h => nomatch h) .fresh hG hmg (by decide +kernel) ha hb hs1 hs2 hpl
def bInt (b : Bool) : Int := if b then 1 else 0
theorem ev_intB {m : M Bool} (ok : Ok p sc NN VV GG k g) (hG : GG[j]? = some "int") (hmg : p.mg "int" = none) (ha : EvE g L a md tBool m) (hs : starEach [a] g.X.env = (false, eval a g.X.env) :: starEach [] g.X.env := by rfl) : EvE g L (.Call (.Name "int" pp) [a] [] pos) md' tInt (m.bind fun x => .ok (bInt x)) :=
  ev_t1 (fr := true) ok call_int1 (fun {d v R H Q} rb h q => .inr ⟨d, by rw [h], q _ _ (Same.refl _) rfl⟩) (fun _ _ h => nomatch h) .fresh hG hmg (by decide +kernel) ha hs
theorem ev_intI (ok : Ok p sc NN VV GG k g) (hG : GG[j]? = some "int") (hmg : p.mg "int" = none) (ha : EvE g L a md tInt m1) (hs : starEach [a] g.X.env = (false, eval a g.X.env) :: starEach [] g.X.env := by rfl) : EvE g L (.Call (.Name "int" pp) [a] [] pos) md' tInt (m1.bind fun x => .ok x) :=
  ev_t1 (fr := true) ok call_int1 (fun {d v R H Q} rb h q => .inl ⟨d, by rw [h], q _ _ (Same.refl _) rfl⟩) (fun _ _ h => nomatch h) .fresh hG hmg (by decide +kernel) ha hs
/-! ### lists of flat things -/
theorem Reps.ints {R : RdR} {ds : List Int} {vs : List V} (r : Reps tInt R ds vs) : vs = ds.map V.int := by
  induction r with
  | nil => rfl
  | cons h _ ih => cases h; rw [ih]; rfl
theorem Reps.bools {R : RdR} {ds : List Bool} {vs : List V} (r : Reps tBool R ds vs) : vs = ds.map V.bl := by
  induction r with
  | nil => rfl
  | cons h _ ih => cases h; rw [ih]; rfl
theorem Reps.strs {R : RdR} {ds : List Tx} {vs : List V} (r : Reps tStr R ds vs) : vs = (ds.map toS).map V.str ∧ ∀ d ∈ ds, OkTx d := by
  induction r with
  | nil => exact ⟨rfl, fun _ h => nomatch h⟩
  | cons h _ ih =>
    obtain ⟨e, h⟩ := h
    subst e
    refine ⟨by rw [ih.1]; rfl, fun d hd => ?_⟩
    rcases List.mem_cons.mp hd with e | hd
    · rw [e]; exact h
    · exact ih.2 d hd
theorem ev_sum {m : M (List Int)} (ok : Ok p sc NN VV GG k g) (hG : GG[j]? = some "sum") (hmg : p.mg "sum" = none) (ha : EvE g L a md (tList tInt) m) (hs : starEach [a] g.X.env = (false, eval a g.X.env) :: starEach [] g.X.env := by rfl) : EvE g L (.Call (.Name "sum" pp) [a] [] pos) md' tInt (m.bind fun x => .ok x.sum) :=
  ev_b1 (S := tList tInt) (fr := true) ok (cr_sum ok.calm) (fun {d v R H Q} rb ⟨a, vs, e, h, r⟩ q => ⟨a, d, by rw [e], by rw [← r.ints, ok.K]; exact sq_of rb h, q _ _ (Same.refl _) rfl⟩) (fun _ _ h => nomatch h) .fresh hG hmg (by decide +kernel) ha hs
theorem ev_all {m : M (List Bool)} (ok : Ok p sc NN VV GG k g) (hG : GG[j]? = some "all") (hmg : p.mg "all" = none) (ha : EvE g L a md (tList tBool) m) (hs : starEach [a] g.X.env = (false, eval a g.X.env) :: starEach [] g.X.env := by rfl) : EvE g L (.Call (.Name "all" pp) [a] [] pos) md' tBool (m.bind fun x => .ok (x.all id)) :=
  ev_b1 (S := tList tBool) (fr := true) ok (cr_all ok.calm) (fun {d v R H Q} rb ⟨a, vs, e, h, r⟩ q => ⟨a, d, by rw [e], by rw [← r.bools, ok.K]; exact sq_of rb h, q _ _ (Same.refl _) rfl⟩) (fun _ _ h => nomatch h) .fresh hG hmg (by decide +kernel) ha hs
theorem ev_any {m : M (List Bool)} (ok : Ok p sc NN VV GG k g) (hG : GG[j]? = some "any") (hmg : p.mg "any" = none) (ha : EvE g L a md (tList tBool) m) (hs : starEach [a] g.X.env = (false, eval a g.X.env) :: starEach [] g.X.env := by rfl) : EvE g L (.Call (.Name "any" pp) [a] [] pos) md' tBool (m.bind fun x => .ok (x.any id)) :=
  ev_b1 (S := tList tBool) (fr := true) ok (cr_any ok.calm) (fun {d v R H Q} rb ⟨a, vs, e, h, r⟩ q => ⟨a, d, by rw [e], by rw [← r.bools, ok.K]; exact sq_of rb h, q _ _ (Same.refl _) rfl⟩) (fun _ _ h => nomatch h) .fresh hG hmg (by decide +kernel) ha hs
def maxM : List Int → M Int
  | [] => .no
  | x :: r => .ok (r.foldl max x)
def minM : List Int → M Int
  | [] => .no
  | x :: r => .ok (r.foldl min x)
theorem foldl_max_le : ∀ (r : List Int) (x : Int), x ≤ r.foldl max x ∧ (∀ y ∈ r, y ≤ r.foldl max x) ∧ (r.foldl max x = x ∨ r.foldl max x ∈ r)
  | [], x => ⟨Int.le_refl _, (fun _ h => nomatch h), .inl rfl⟩
  | y :: r, x => by
    obtain ⟨h1, h2, h3⟩ := foldl_max_le r (max x y)
    rw [List.foldl_cons]
    refine ⟨by omega, fun z hz => ?_, ?_⟩
    · rcases List.mem_cons.mp hz with e | hz
      · subst e; omega
      · exact h2 z hz
    · rcases h3 with h | h
      · rw [h]
        by_cases q : x ≤ y
        · exact .inr (by rw [show max x y = y by omega]; exact List.mem_cons_self)
        · exact .inl (by omega)
      · exact .inr (List.mem_cons_of_mem _ h)
theorem foldl_min_le : ∀ (r : List Int) (x : Int), r.foldl min x ≤ x ∧ (∀ y ∈ r, r.foldl min x ≤ y) ∧ (r.foldl min x = x ∨ r.foldl min x ∈ r)
  | [], x => ⟨Int.le_refl _, (fun _ h => nomatch h), .inl rfl⟩
  | y :: r, x => by
    obtain ⟨h1, h2, h3⟩ := foldl_min_le r (min x y)
    rw [List.foldl_cons]
    refine ⟨by omega, fun z hz => ?_, ?_⟩
    · rcases List.mem_cons.mp hz with e | hz
      · subst e; omega
      · exact h2 z hz
    · rcases h3 with h | h
      · rw [h]
        by_cases q : y ≤ x
        · exact .inr (by rw [show min x y = y by omega]; exact List.mem_cons_self)
        · exact .inl (by omega)
      · exact .inr (List.mem_cons_of_mem _ h)
theorem ev_max1 {m : M (List Int)} (ok : Ok p sc NN VV GG k g) (hG : GG[j]? = some "max") (hmg : p.mg "max" = none) (ha : EvE g L a md (tList tInt) m) (hs : starEach [a] g.X.env = (false, eval a g.X.env) :: starEach [] g.X.env := by rfl) : EvE g L (.Call (.Name "max" pp) [a] [] pos) md' tInt (m.bind maxM) :=
  ev_b1 (S := tList tInt) (fr := true) ok (cr_max ok.calm) (fun {d v R H Q} rb ⟨a, vs, e, h, rp⟩ q => by
    refine ⟨a, d, by rw [e], by rw [← rp.ints, ok.K]; exact sq_of rb h, ?_⟩
    cases d with
    | nil => exact q.elim
    | cons x r =>
      refine ⟨by simp, fun m hm hle => ?_⟩
      obtain ⟨h1, h2, h3⟩ := foldl_max_le r x
      have e : m = r.foldl max x := by
        have a1 : r.foldl max x ≤ m := hle _ (by rcases h3 with h | h; rw [h]; exact List.mem_cons_self; exact List.mem_cons_of_mem _ h)
        have a2 : m ≤ r.foldl max x := by rcases List.mem_cons.mp hm with e | hm; rw [e]; exact h1; exact h2 m hm
        omega
      rw [e]
      exact q _ _ (Same.refl _) rfl) (fun d c h => by cases d <;> cases h) .fresh hG hmg (by decide +kernel) ha hs
theorem ev_min1 {m : M (List Int)} (ok : Ok p sc NN VV GG k g) (hG : GG[j]? = some "min") (hmg : p.mg "min" = none) (ha : EvE g L a md (tList tInt) m) (hs : starEach [a] g.X.env = (false, eval a g.X.env) :: starEach [] g.X.env := by rfl) : EvE g L (.Call (.Name "min" pp) [a] [] pos) md' tInt (m.bind minM) :=
  ev_b1 (S := tList tInt) (fr := true) ok (cr_min ok.calm) (fun {d v R H Q} rb ⟨a, vs, e, h, rp⟩ q => by
    refine ⟨a, d, by rw [e], by rw [← rp.ints, ok.K]; exact sq_of rb h, ?_⟩
    cases d with
    | nil => exact q.elim
    | cons x r =>
      refine ⟨by simp, fun m hm hle => ?_⟩
      obtain ⟨h1, h2, h3⟩ := foldl_min_le r x
      have e : m = r.foldl min x := by
        have a1 : m ≤ r.foldl min x := hle _ (by rcases h3 with h | h; rw [h]; exact List.mem_cons_self; exact List.mem_cons_of_mem _ h)
        have a2 : r.foldl min x ≤ m := by rcases List.mem_cons.mp hm with e | hm; rw [e]; exact h1; exact h2 m hm
        omega
      rw [e]
      exact q _ _ (Same.refl _) rfl) (fun d c h => by cases d <;> cases h) .fresh hG hmg (by decide +kernel) ha hs
/-! ### texts of numbers -/
def itx (i : Int) : Tx := tx (toString i)
def strM (i : Int) : M Tx := if -(10 ^ 100) < i ∧ i < 10 ^ 100 then .ok (itx i) else .no
theorem tx_ok (s : String) (h : (Str.ofString s).length ≤ sizeLine) : OkTx (tx s) := by
  refine ⟨?_, fun c hc => ?_⟩
  · have e : (tx s).length = (Str.ofString s).length := by show (Str.ofString s).cps.toList.length = (Str.ofString s).cps.size; simp
    rw [e]; exact h
  · unfold tx at hc
    rw [PySem.Str.ofString_eq_toList] at hc
    simp only [List.mem_map] at hc
    obtain ⟨ch, _, rfl⟩ := hc
    have := ch.valid
    show ch.val.toNat < 0x110000
    rcases this with h | h
    · have : ch.val.toNat < 0xd800 := h
      omega
    · exact h.2
set_option exponentiation.threshold 3000 in
theorem ev_strI (ok : Ok p sc NN VV GG k g) (hG : GG[j]? = some "str") (hmg : p.mg "str" = none) (ha : EvE g L a md tInt m1) (hs : starEach [a] g.X.env = (false, eval a g.X.env) :: starEach [] g.X.env := by rfl) : EvE g L (.Call (.Name "str" pp) [a] [] pos) md' tStr (m1.bind strM) :=
  ev_t1 (fr := true) ok call_str_int (fun {d v R H Q} rb h q => by
    unfold strM at q
    split at q
    · rename_i hb
      have hlt : d.natAbs < 10 ^ 100 := by omega
      have hl : d.natAbs.log2 < 1920 := by
        by_cases h0 : d.natAbs = 0
        · rw [h0]; decide
        · exact (Nat.log2_lt h0).mpr (Nat.lt_of_lt_of_le hlt (by decide))
      refine ⟨d, by rw [h], hl, q _ _ (Same.refl _) ⟨?_, tx_ok _ (int_text_fits hl)⟩⟩
      show V.str _ = V.str _
      rw [show itx d = tx (toString d) from rfl, toS_tx]
    · exact q.elim) (fun d c h => by unfold strM at h; split at h <;> cases h) .fresh hG hmg (by decide +kernel) ha hs
end
end Hd

namespace Hd
open PySem PySem.Spec L2
theorem lstR {X : Cx} {pins : List (Addr × Obj)} {σ : L2.St} {H : Hp} {s : Shared} {l : Addr} {xs : List V} (I : Inv X pins σ H s) (h : Rd H l (.lst xs)) : xs.length ≤ sizeLine ∧ ∃ (its : List Value) (n : Nat), Vals xs its ∧ xs.length = its.length ∧ s.heap.get? l = some { cls := .type "list", data := .seq its.toArray n } := by
  obtain ⟨z, its, n, r, e⟩ := h.ok I.hok
  exact ⟨z, its, n, r, r.length, e⟩
def rCatR : R2 := fun x y H Q => ∃ l b xs zs, x = .ref l ∧ y = .ref b ∧ Rd H l (.lst xs) ∧ Rd H b (.lst zs) ∧ xs.length + zs.length ≤ sizeLine ∧ ∀ p, H p = none → Q (.ref p) (upd H p (.lst (xs ++ zs)))
theorem op_catR {X : Cx} : OpR X (binaryOp .Add) rCatR := by
  intro pins s σ H x y v u Q I rx ry h
  obtain ⟨l, b, xs, zs, rfl, rfl, hH, hB, hz, q⟩ := h
  cases rx
  cases ry
  obtain ⟨z, its, n, r, hl, e⟩ := lstR I hH
  obtain ⟨z2, its2, n2, r2, hl2, e2⟩ := lstR I hB
  refine PySem.P.add_list e e2 ?_ (by rw [List.size_toArray, List.size_toArray]; omega)
  have ea : its.toArray ++ its2.toArray = (its ++ its2).toArray := by simp
  rw [ea]
  exact ⟨.ref _, _, I.lnew (t' := s.toks) (r.append r2) (by rw [List.length_append]; omega), rfl, q _ I.fresh⟩
def rExtR : V → List V → Hp → VK → Prop := fun x vs H Q => ∃ l b xs zs, x = .ref l ∧ vs = [.ref b] ∧ H l = some (.lst xs) ∧ Rd H b (.lst zs) ∧ xs.length + zs.length ≤ sizeLine ∧ Q .non (upd H l (.lst (xs ++ zs)))
theorem mt_extR {X : Cx} : MtR X "list.extend" rExtR := by
  intro pins s σ H x vs v us Q I rx rv h
  obtain ⟨l, b, xs, zs, rfl, rfl, hH, hB, hz, q⟩ := h
  cases rx
  obtain ⟨u, rfl, ru⟩ := rv.one
  cases ru
  obtain ⟨z, its, n, r, hl, e⟩ := I.lstM hH
  obtain ⟨z2, its2, n2, r2, hl2, e2⟩ := lstR I hB
  have hsz : its.toArray.size + its2.toArray.size ≤ sizeLine := by rw [List.size_toArray, List.size_toArray]; omega
  have hlong : ¬ (!its.toArray.isEmpty && Builtin.List.listTooLong (its.toArray.size + its2.toArray.size)) = true := by
    rw [notLongL hsz, Bool.and_false]
    exact Bool.false_ne_true
  refine call_meets F.slot_list_extend ⟨_, e, rfl⟩ F.entry_list_extend (F.args_list_extend_2 _ _)
    (AutoSeq1.list_extend_list_list_0 l its.toArray n b its2.toArray n2 hlong (by rw [List.size_toArray]; omega) (by omega)) ⟨e, e2, ?_⟩
  refine ⟨.non, _, I.lset (its' := its ++ its2) hH e (by simp) (r.append r2) ?_, rfl, q⟩
  rw [List.length_append]
  omega
section
variable {p : Pr} {sc : Scope} {NN VV GG VV' GG' : List Str} {k : Nat} {g : G} {L L' : List Slot} {a b c e e' : Expr} {es : List Expr} {md md' : Md} {α β γ δ ρ : Type} {S : Ty α} {T : Ty β} {U : Ty γ} {A : Ar δ} {pos : Pos} {K : PySem.W.Frag} {tg : Expr} {i j : Nat} {x : Str}
/-! ### methods of texts -/
theorem ev_sm1 {id : String} {name : Str} {r : V → List V → Hp → VK → Prop} {f : Tx → β → M γ} {m1 : M Tx} {m2 : M β} {apos : Pos} (ok : Ok p sc NN VV GG k g) (slot : PySem.Slot "str" name id) (hty : typeOf (.builtin id) = pure (.type "method_descriptor")) (hmt : MtR g.X id r)
    (F : ∀ {d e y R H Q}, Rdb p.K R H → OkTx d → T.rep e y R → OpEnd U true R H Q (f d e) → r (.str (toS d)) [y] H Q) (hne : ∀ d e c, f d e ≠ .ex c) (ha : EvE g L a md tStr m1) (hb : EvE g L b md T m2)
    (hs : starEach [b] g.X.env = [(false, eval b g.X.env)] := by rfl) (hbase : attributeBase a name g.X.env (eval a g.X.env) = eval a g.X.env := by rfl) (hline : (apos.endLine == pos.line) = true := by rfl) :
    EvE g L (.Call (.Attribute a name apos) [b] [] pos) md' U (m1.bind fun d => m2.bind fun e => f d e) := by
  refine PE.imp (pe_m1 slot hty hmt ha hb hs hbase hline) fun σ H Q q => ?_
  obtain ⟨kp, own, at_, q⟩ := tE_iff.mp q
  refine sub finE (Same.refl H) at_ q fun d x H1 s1 r1 at1 q1 => ⟨⟨_, r1.1⟩, sub finE s1 at1 q1 fun e y H2 s2 r2 at2 q2 => ?_⟩
  rw [r1.1]
  rw [← ok.fmK] at F
  exact F (R := RX g.fm own H H2 md) RX.rdb r1.2 r2 (q2.fin (MdOk.fresh : MdOk true md md') (s1.trans s2) at2 (hne d e))
theorem ev_sm0 {id : String} {name : Str} {r : V → List V → Hp → VK → Prop} {f : Tx → M γ} {m1 : M Tx} {apos : Pos} (ok : Ok p sc NN VV GG k g) (slot : PySem.Slot "str" name id) (hty : typeOf (.builtin id) = pure (.type "method_descriptor")) (hmt : MtR g.X id r)
    (F : ∀ {d R H Q}, Rdb p.K R H → OkTx d → OpEnd U true R H Q (f d) → r (.str (toS d)) [] H Q) (hne : ∀ d c, f d ≠ .ex c) (ha : EvE g L a md tStr m1)
    (hbase : attributeBase a name g.X.env (eval a g.X.env) = eval a g.X.env := by rfl) (hline : (apos.endLine == pos.line) = true := by rfl) :
    EvE g L (.Call (.Attribute a name apos) [] [] pos) md' U (m1.bind f) := by
  refine PE.imp (pe_m0 slot hty hmt ha hbase hline) fun σ H Q q => ?_
  obtain ⟨kp, own, at_, q⟩ := tE_iff.mp q
  refine sub finE (Same.refl H) at_ q fun d x H1 s1 r1 at1 q1 => ⟨⟨_, r1.1⟩, ?_⟩
  rw [r1.1]
  rw [← ok.fmK] at F
  exact F (R := RX g.fm own H H1 md) RX.rdb r1.2 (q1.fin (MdOk.fresh : MdOk true md md') s1 at1 (hne d))
/-- sep.join(xs) -/
def joinM (s : Tx) (xs : List Tx) : M Tx := if (xs.map List.length).sum + xs.length * s.length ≤ 16777216 then .ok (TL.joinL s xs) else .no
theorem joinM_ne {s : Tx} {xs : List Tx} {c : Ec} : joinM s xs ≠ .ex c := by unfold joinM; split <;> exact fun h => nomatch h
theorem joinL_len (s : Tx) : ∀ xs : List Tx, (TL.joinL s xs).length ≤ (xs.map List.length).sum + xs.length * s.length
  | [] => by simp [TL.joinL]
  | [x] => by simp [TL.joinL]
  | x :: y :: r => by
    have := joinL_len s (y :: r)
    simp only [TL.joinL, List.length_append, List.map_cons, List.sum_cons, List.length_cons] at this ⊢
    rw [Nat.add_mul, Nat.add_mul] at *
    omega
theorem joinL_mem (s : Tx) {c : Nat} : ∀ xs : List Tx, c ∈ TL.joinL s xs → c ∈ s ∨ ∃ x ∈ xs, c ∈ x
  | [], h => nomatch h
  | [x], h => .inr ⟨x, List.mem_cons_self, h⟩
  | x :: y :: r, h => by
    simp only [TL.joinL, List.mem_append] at h
    rcases h with h | h | h
    · exact .inr ⟨x, List.mem_cons_self, h⟩
    · exact .inl h
    · rcases joinL_mem s (y :: r) h with h | ⟨z, hz, h⟩
      · exact .inl h
      · exact .inr ⟨z, List.mem_cons_of_mem _ hz, h⟩
theorem tl_toS (x : Tx) : TL.tl (toS x) = x := by simp [TL.tl, toS]
theorem ev_join {m1 : M Tx} {m2 : M (List Tx)} {apos : Pos} (ok : Ok p sc NN VV GG k g) (ha : EvE g L a md tStr m1) (hb : EvE g L b md (tList tStr) m2)
    (hs : starEach [b] g.X.env = [(false, eval b g.X.env)] := by rfl) (hbase : attributeBase a "join" g.X.env (eval a g.X.env) = eval a g.X.env := by rfl) (hline : (apos.endLine == pos.line) = true := by rfl) :
    EvE g L (.Call (.Attribute a "join" apos) [b] [] pos) md' tStr (m1.bind fun s => m2.bind fun xs => joinM s xs) :=
  ev_sm1 (T := tList tStr) ok PySem.F.slot_str_join PySem.F.type_str_join mt_join (fun {d e y R H Q} rb hd ⟨a, vs, ey, h, r⟩ q => by
    obtain ⟨ev, ho⟩ := r.strs
    unfold joinM at q
    split at q
    · rename_i hz
      refine ⟨toS d, a, e.map toS, rfl, by rw [ey], .inl (by rw [← ev, ok.K]; exact sq_of rb h), ?_, ?_⟩
      · rw [List.map_map, show (fun x : Str => x.length) ∘ toS = List.length from funext toS_len, List.length_map, toS_len]; exact hz
      · refine q _ _ (Same.refl _) ⟨?_, Nat.le_trans (joinL_len d e) (Nat.le_trans hz (by decide)), fun c hc => ?_⟩
        · show V.str _ = V.str _
          congr 1
          rw [TL.join_eq]
          refine TL.ext_tl ?_
          rw [TL.tl_join, tl_toS, tl_toS, List.map_map, show TL.tl ∘ toS = id from funext tl_toS, List.map_id]
        · rcases joinL_mem d e hc with h | ⟨z, hz, h⟩
          · exact hd.2 c h
          · exact (ho z hz).2 c h
    · exact q.elim) (fun _ _ _ => joinM_ne) ha hb hs hbase hline
/-! ### slices -/
def tO (fm : Fm) (W : Wx) (L : List Slot) (m : M (Option Int)) : TO := fun σ H Q => ∃ kp own, At fm kp L σ H own ∧
  match m with
  | .ok d => ∀ H', Same H H' → Q d H'
  | .ex c => ∀ H', Same H H' → W c σ H'
  | .no => False
def EvO (g : G) (L : List Slot) (e : Option Expr) (m : M (Option Int)) : Prop := PO g.X e (tO g.fm g.W L m)
theorem PO.imp {X : Cx} {e : Option Expr} {t t' : TO} (h : PO X e t) (k : ∀ σ H Q, t' σ H Q → t σ H Q) : PO X e t' := ⟨fun pins s σ H Q I q => h.run pins s σ H Q I (k _ _ _ q)⟩
theorem evo_none : EvO g L none (.ok none) := PO.imp po_none fun σ H Q ⟨kp, own, at_, q⟩ => q H (Same.refl H)
theorem evo_some {m : M Int} (h : EvE g L e md tInt m) : EvO g L (some e) (m.bind fun i => .ok (some i)) := PO.imp (po_some h) fun σ H Q q => by
  cases m with
  | ok d => obtain ⟨kp, own, at_, q⟩ := q; exact ⟨kp, own, at_, fun v H' s r => ⟨d, r, q H' s⟩⟩
  | ex c => exact q
  | no => exact q
def FinO (W : Wx) (σ : L2.St) (H : Hp) (Q : Option Int → Hp → Prop) : M (Option Int) → Prop
  | .ok d => ∀ H', Same H H' → Q d H'
  | .ex c => ∀ H', Same H H' → W c σ H'
  | .no => False
theorem tO_iff {fm : Fm} {W : Wx} {m : M (Option Int)} {σ : L2.St} {H : Hp} {Q : Option Int → Hp → Prop} : tO fm W L m σ H Q ↔ ∃ kp own, At fm kp L σ H own ∧ FinO W σ H Q m := by
  cases m <;> exact Iff.rfl
theorem subO {fm : Fm} {W : Wx} {kp : RdR} {own : List Addr} {σ : L2.St} {H0 H : Hp} {F : M β → Prop} {m : M (Option Int)} {f : Option Int → M β} {K : Option Int → Hp → Prop} (hF : Fin W σ H0 F) (s0 : Same H0 H) (at_ : At fm kp L σ H own) (q : F (m.bind f))
    (h : ∀ d H1, Same H H1 → At fm kp L σ H1 own → F (f d) → K d H1) : tO fm W L m σ H K := by
  refine tO_iff.mpr ⟨kp, own, at_, ?_⟩
  cases m with
  | ok d => exact fun H1 s => h d H1 s (at_.ext s) q
  | ex c => exact fun H' s => hF.ex q H' (s0.trans s)
  | no => exact hF.no q
def cutL {α : Type} (xs : List α) (lo hi : Option Int) : List α := (xs.drop (HT.sIx xs.length 0 lo)).take (HT.sIx xs.length xs.length hi - HT.sIx xs.length 0 lo)
theorem Reps.cut {R : RdR} {ds : List α} {vs : List V} (h : Reps S R ds vs) (lo hi : Option Int) : Reps S R (cutL ds lo hi) (L2.cutV vs lo hi) := by
  unfold cutL L2.cutV
  rw [h.length]
  exact (h.drop _).take _
theorem cutL_len {xs : List α} {lo hi : Option Int} : (cutL xs lo hi).length ≤ xs.length := by
  unfold cutL
  rw [List.length_take, List.length_drop]
  omega
theorem cutL_mem {xs : List α} {lo hi : Option Int} {d : α} (h : d ∈ cutL xs lo hi) : d ∈ xs := List.mem_of_mem_drop (List.mem_of_mem_take h)
variable {lo hi : Option Expr} {ml mh : M (Option Int)} {p2 : Pos}
theorem ev_slS {m : M Tx} (ok : Ok p sc NN VV GG k g) (ha : EvE g L a md tStr m) (hl : EvO g L lo ml) (hh : EvO g L hi mh) : EvE g L (.Subscript a (.Slice lo hi none p2) pos) md' tStr (m.bind fun x => ml.bind fun l => mh.bind fun h => .ok (cutL x l h)) := by
  refine PE.imp (pe_slice sl_str ha hl hh) fun σ H Q q => ?_
  obtain ⟨kp, own, at_, q⟩ := tE_iff.mp q
  refine sub finE (Same.refl H) at_ q fun d x H1 s1 r1 at1 q1 => subO finE s1 at1 q1 fun l H2 s2 at2 q2 => subO finE (s1.trans s2) at2 q2 fun h H3 s3 at3 q3 => ?_
  refine ⟨toS d, r1.1, by rw [toS_len]; exact r1.2.1, q3 _ H3 ((s1.trans s2).trans s3) ⟨?_, Nat.le_trans cutL_len r1.2.1, fun c hc => r1.2.2 c (cutL_mem hc)⟩⟩
  show V.str _ = V.str _
  congr 1
theorem evl_slL {m : M (List α)} (ok : Ok p sc NN VV GG k g) (ha : EvE g L a md (tList S) m) (hl : EvO g L lo ml) (hh : EvO g L hi mh) : EvL g L (.Subscript a (.Slice lo hi none p2) pos) md S (m.bind fun x => ml.bind fun l => mh.bind fun h => .ok (cutL x l h)) := by
  refine PE.imp (pe_slice sl_list ha hl hh) fun σ H Q q => ?_
  obtain ⟨kp, own, at_, q⟩ := tL_iff.mp q
  refine sub finL (Same.refl H) at_ q fun d x H1 s1 r1 at1 q1 => subO finL s1 at1 q1 fun l H2 s2 at2 q2 => subO finL (s1.trans s2) at2 q2 fun h H3 s3 at3 q3 => ?_
  obtain ⟨ad, vs, e, h1, rr⟩ := r1
  have h3 : RX g.fm own H H3 md ad (.lst vs) := RX.same (s2.trans s3) _ _ h1
  refine ⟨ad, vs, e, (ok.fmK.trans ok.K.symm) ▸ RX.list h3, fun q hq => q3 q (L2.cutV vs l h) _ (((s1.trans s2).trans s3).trans (newSame hq)) (((s1.trans s2).trans s3).free hq) upd_same ?_⟩
  exact ((rr.mono (RX.same (s2.trans s3))).cut l h).mono (RX.add hq)
/-! ### lists by operators -/
def repM {α : Type} (xs : List α) (n : Int) : M (List α) := if -(2 ^ 63) ≤ n ∧ n < 2 ^ 63 ∧ xs.length * n.toNat ≤ sizeLine then .ok (List.replicate n.toNat xs).flatten else .no
theorem Reps.rep {R : RdR} {ds : List α} {vs : List V} (h : Reps S R ds vs) : ∀ n : Nat, Reps S R (List.replicate n ds).flatten (List.replicate n vs).flatten
  | 0 => .nil
  | n + 1 => by rw [List.replicate_succ, List.flatten_cons, List.replicate_succ, List.flatten_cons]; exact h.append (Reps.rep h n)
theorem RX.drop1' {fm : Fm} {own : List Addr} {H H1 : Hp} {q : Addr} : ∀ a o, RX fm (q :: own) H H1 md a o → RX fm own H H1 md a o := RX.drop1
/-- xs * n: xs just made -/
theorem evl_rep {m : M (List α)} {mn : M Int} (ok : Ok p sc NN VV GG k g) (ha : EvL g L a md S m) (hb : EvE g L b md tInt mn) : EvL g L (.BinOp a .Mult b pos) md S (m.bind fun x => mn.bind fun n => repM x n) := by
  refine PE.imp (pe_op op_rep ha hb) fun σ H Q q => ?_
  obtain ⟨kp, own, at_, q⟩ := tL_iff.mp q
  refine tL_iff.mpr ⟨kp, own, at_, ?_⟩
  cases m with
  | ex c => exact q
  | no => exact q.elim
  | ok xs =>
  intro q1 vs H1 s1 n1 h1 r1
  have at1 := at_.ext s1
  have q' : FinL g.fm g.W own σ H md S Q (mn.bind fun n => repM xs n) := q
  refine sub finL s1 at1 q' fun n y H2 s2 r2 at2 q2 => ?_
  have q2 : FinL g.fm g.W own σ H md S Q (repM xs n) := q2
  unfold repM at q2
  split at q2
  · rename_i hz
    refine ⟨q1, n, vs, rfl, r2, s2.keep _ _ h1 rfl, hz.1, hz.2.1, by rw [← r1.length]; exact hz.2.2, fun z hz => q2 z _ _ ((s1.trans s2).trans (newSame hz)) ((s1.trans s2).free hz) upd_same ?_⟩
    exact ((r1.mono fun a o w => RX.same s2 a o (RX.drop1 a o w)).rep _).mono (RX.add hz)
  · exact q2.elim
/-- xs + ys -/
def catL {α : Type} (xs ys : List α) : M (List α) := if xs.length + ys.length ≤ sizeLine then .ok (xs ++ ys) else .no
theorem evl_cat {m1 m2 : M (List α)} (ok : Ok p sc NN VV GG k g) (ha : EvE g L a md (tList S) m1) (hb : EvE g L b md (tList S) m2) : EvL g L (.BinOp a .Add b pos) md S (m1.bind fun x => m2.bind fun y => catL x y) := by
  refine PE.imp (pe_op op_catR ha hb) fun σ H Q q => ?_
  obtain ⟨kp, own, at_, q⟩ := tL_iff.mp q
  refine sub finL (Same.refl H) at_ q fun d x H1 s1 r1 at1 q1 => sub finL s1 at1 q1 fun e y H2 s2 r2 at2 q2 => ?_
  obtain ⟨a1, vs1, rfl, h1, rr1⟩ := r1
  obtain ⟨a2, vs2, rfl, h2, rr2⟩ := r2
  unfold catL at q2
  split at q2
  · rename_i hz
    have rb : Rdb g.fm.K (RX g.fm own H H2 md) H2 := RX.rdb
    refine ⟨a1, a2, vs1, vs2, rfl, rfl, rd_of rb (RX.same s2 _ _ h1), rd_of rb h2, by rw [← rr1.length, ← rr2.length]; exact hz, fun z hz => q2 z _ _ ((s1.trans s2).trans (newSame hz)) ((s1.trans s2).free hz) upd_same ?_⟩
    exact ((rr1.mono (RX.same s2)).append rr2).mono (RX.add hz)
  · exact q2.elim
/-! ### in -/
structure FlatV (S : Ty α) : Prop where
  fl : ∀ {d v R}, S.rep d v R → flatV v = true
  eq : ∀ {d e v w R R'}, S.rep d v R → S.rep e w R' → (eqV v w = true ↔ d = e)
theorem f_int : FlatV tInt := ⟨fun h => by cases h; rfl, fun h1 h2 => by cases h1; cases h2; exact beq_iff_eq⟩
theorem f_str : FlatV tStr := ⟨fun h => by cases h.1; rfl, fun h1 h2 => by
  cases h1.1; cases h2.1
  exact ⟨fun h => toS_inj (beq_iff_eq.mp h), fun h => by rw [h]; exact beq_self_eq_true _⟩⟩
theorem f_bool : FlatV tBool := ⟨fun h => by cases h; rfl, fun h1 h2 => by cases h1; cases h2; exact beq_iff_eq⟩
theorem Reps.allFlat {R : RdR} {ds : List α} {vs : List V} (hf : FlatV S) (h : Reps S R ds vs) : vs.all flatV = true := by
  induction h with
  | nil => rfl
  | cons r _ ih => rw [List.all_cons, hf.fl r, ih]; rfl
theorem Reps.inV [DecidableEq α] {R R' : RdR} {ds : List α} {vs : List V} (hf : FlatV S) (h : Reps S R ds vs) {d : α} {v : V} (r : S.rep d v R') : L2.inV v vs = decide (d ∈ ds) := by
  induction h with
  | nil => simp [L2.inV]
  | @cons d' ds v' vs r' _ ih =>
    unfold L2.inV at ih ⊢
    rw [List.any_cons, ih]
    by_cases e : d = d'
    · have : eqV v' v = true := (hf.eq r' r).mpr e.symm
      rw [this]; simp [e]
    · have : eqV v' v = false := by
        cases q : eqV v' v with
        | true => exact absurd ((hf.eq r' r).mp q).symm e
        | false => rfl
      rw [this]; simp [e]
theorem c_in [DecidableEq α] {X : Cx} (hX : X.K = p.K) (hf : FlatV S) : CmpOk p X .In S (tList S) (fun x xs => decide (x ∈ xs)) := ⟨rIn p.K false, by rw [← hX]; exact op_in_seq, ⟨fun {d e x y R H Q} rb rx ⟨a, vs, ey, h, r⟩ q => by
  subst ey
  exact ⟨a, vs, rfl, .inl (sq_of rb h), hf.fl rx, r.allFlat hf, q _ _ (Same.refl _) (by show _ = V.bl _; rw [r.inV hf rx]; rfl)⟩⟩⟩
theorem c_notin [DecidableEq α] {X : Cx} (hX : X.K = p.K) (hf : FlatV S) : CmpOk p X .NotIn S (tList S) (fun x xs => !decide (x ∈ xs)) := ⟨rIn p.K true, by rw [← hX]; exact op_notIn_seq, ⟨fun {d e x y R H Q} rb rx ⟨a, vs, ey, h, r⟩ q => by
  subst ey
  exact ⟨a, vs, rfl, .inl (sq_of rb h), hf.fl rx, r.allFlat hf, q _ _ (Same.refl _) (by show _ = V.bl _; rw [r.inV hf rx]; rfl)⟩⟩⟩
/-- one sign in a text -/
def inSM (x s : Tx) : M Bool := match x with
  | [c] => .ok (decide (c ∈ s))
  | _ => .no
def notinSM (x s : Tx) : M Bool := match x with
  | [c] => .ok (!decide (c ∈ s))
  | _ => .no
theorem inSM_ne {x s : Tx} {c : Ec} : inSM x s ≠ .ex c := by unfold inSM; split <;> exact fun h => nomatch h
theorem notinSM_ne {x s : Tx} {c : Ec} : notinSM x s ≠ .ex c := by unfold notinSM; split <;> exact fun h => nomatch h
theorem o_inS {X : Cx} : OpR X (compareOp .In) (fun x y H Q => ∃ (c : Nat) (z : Str), x = .str ⟨#[c]⟩ ∧ y = .str z ∧ Q (.bl (decide (c ∈ z.cps.toList))) H) := op_in_sign
theorem ev_inS {m1 m2 : M Tx} (ok : Ok p sc NN VV GG k g) (ha : EvE g L a md tStr m1) (hb : EvE g L b md tStr m2) (hk : behindInMarks .In b = false := by first | exact nomark _ (by decide) (by decide) | rfl) : EvE g L (.Compare a [.In] [b] pos) md' tBool (m1.bind fun x => m2.bind fun y => inSM x y) :=
  ev_cmp (fr := true) ok op_in_sign ⟨fun {d e x y R H Q} rb rx ry q => by
    unfold inSM at q
    split at q
    · rename_i c
      exact ⟨c, toS e, rx.1, ry.1, q _ _ (Same.refl _) (by show V.bl _ = V.bl _; rw [show (toS e).cps.toList = e from tl_toS e])⟩
    · exact q.elim⟩ (fun _ _ _ => inSM_ne) .fresh ha hb hk
theorem ev_notinS {m1 m2 : M Tx} (ok : Ok p sc NN VV GG k g) (ha : EvE g L a md tStr m1) (hb : EvE g L b md tStr m2) (hk : behindInMarks .NotIn b = false := by first | exact nomark _ (by decide) (by decide) | rfl) : EvE g L (.Compare a [.NotIn] [b] pos) md' tBool (m1.bind fun x => m2.bind fun y => notinSM x y) :=
  ev_cmp (fr := true) ok op_notIn_sign ⟨fun {d e x y R H Q} rb rx ry q => by
    unfold notinSM at q
    split at q
    · rename_i c
      exact ⟨c, toS e, rx.1, ry.1, q _ _ (Same.refl _) (by show V.bl _ = V.bl _; rw [show (toS e).cps.toList = e from tl_toS e])⟩
    · exact q.elim⟩ (fun _ _ _ => notinSM_ne) .fresh ha hb hk
/-! ### tuples by place -/
inductive ArAt : {δ α : Type} → Ar δ → Int → Ty α → (δ → α) → Prop where
  | z {α δ : Type} {T : Ty α} {A : Ar δ} : ArAt (aCons T A) 0 T (fun d => d.1)
  | s {α β δ : Type} {T : Ty α} {S : Ty β} {A : Ar δ} {n : Int} {f : δ → α} : ArAt A n T f → ArAt (aCons S A) (n + 1) T (fun d => f d.2)
theorem ArAt.nat {n : Int} {f : δ → α} (h : ArAt A n S f) : 0 ≤ n := by
  induction h with
  | z => omega
  | s _ ih => omega
theorem ArAt.get {n : Int} {f : δ → α} (h : ArAt A n S f) : ∀ {d : δ} {vs : List V} {R : RdR}, A.rep d vs R → ∃ v, vs[n.toNat]? = some v ∧ S.rep (f d) v R := by
  induction h with
  | z => intro d vs R ⟨v, r, e, h1, h2⟩; subst e; exact ⟨v, rfl, h1⟩
  | s h ih =>
    intro d vs R ⟨v, r, e, h1, h2⟩
    subst e
    obtain ⟨w, h3, h4⟩ := ih h2
    have := h.nat
    refine ⟨w, ?_, h4⟩
    rename_i n _
    rw [show (n + 1).toNat = n.toNat + 1 by omega, List.getElem?_cons_succ]
    exact h3
theorem ev_ixA {n : Int} {f : δ → α} {m : M δ} (ok : Ok p sc NN VV GG k g) (hA : ArAt A n S f) (ha : EvE g L a md (tTup A) m) (hb : EvE g L b md tInt (.ok n)) (hs : PlainIx b := by exact fun _ _ => rfl) : EvE g L (.Subscript a b pos) md S (m.bind fun t => .ok (f t)) :=
  ev_ix (S := tTup A) (r := rIxT p.K) (m2 := .ok ()) (f := fun t _ => .ok (f t)) (T := tLit n) (fr := false) ok (by rw [← ok.K]; exact ix_tup) ⟨fun {d e x y R H Q} rb ⟨a, vs, ex, h, r⟩ ry q => by
    obtain ⟨v, h1, h2⟩ := hA.get r
    refine ⟨a, vs, n, v, ex, ry, st_of rb h, ?_, q _ _ (Same.refl _) (S.mono h2 (Nw.old rfl))⟩
    have := atI_nat (xs := vs) (j := n.toNat) h1
    rwa [Int.toNat_of_nonneg hA.nat] at this⟩ (fun _ _ _ h => nomatch h) .same ha (ev_lit hb) hs
/-! ### blocks -/
variable {st : List Stmt} {D : δ → Out} {d : δ}
/-- if c: raise X("..") -/
theorem evb_ifr {mc : M Bool} {m2 : M δ} {y : Str} {ec : Ec} {jj : Nat} {msg : Str} {q1 q2 q3 q4 : Pos} (ok : OkS p sc NN VV GG k g) (wk : Wk L g.LX) (X : ExF p y ec) (hG : GG[j]? = some y) (hc : EvT g L c mc) (hr : EvB g L st D m2) :
    EvB g L (.If c [.Raise (some (.Call (.Name y q1) [.Constant (.str msg) jj q2] [] q3)) none q4] [] pos :: st) D (mc.bind fun c => if c = true then .ex ec else m2) := by
  refine PSs.imp (pss_cons (ps_if hc (evb_raise (D := fun _ : Unit => Out.bad) (st := []) (pos := q4) (msg := msg) (jj := jj) (pp := q1) (p2 := q2) (p3 := q3) ok wk X hG) pss_nil) hr) fun E σ H ⟨kp, own, at_, q⟩ => ?_
  cases mc with
  | ok c =>
    refine ⟨kp, own, at_, fun H1 s => ?_⟩
    cases c with
    | true => exact ⟨kp, own, at_.ext s, q⟩
    | false => exact ⟨kp, own, at_.ext s, q⟩
  | ex c => exact ⟨kp, own, at_, BOk.exx wk at_ q⟩
  | no => exact q.elim
/-- ways that leave and ways that go on -/
theorem evb_ifF {ρ : Type} {mc : M Bool} {m1 m2 : M (Fl β ρ)} {h : β → M δ} {dr : ρ → δ} {LJ : β → List Slot} {sa sb : List Stmt} (wk : Wk L g.LX) (hc : EvT g L c mc) (ha : EvB g L sa (Fl.el (fun s => Out.nx (LJ s)) fun r => (D (dr r)).cut) m1)
    (hb : EvB g L sb (Fl.el (fun s => Out.nx (LJ s)) fun r => (D (dr r)).cut) m2) (hr : ∀ s, EvB g (LJ s) st D (h s)) (hn : ∀ r, (D (dr r)).isNx = false := by intro d; first | rfl | (cases d <;> first | rfl | (rename_i z; cases z <;> rfl))) :
    EvB g L (.If c sa sb pos :: st) D (mc.bind fun c => (if c = true then m1 else m2).bind (Fl.el h fun r => .ok (dr r))) := by
  refine PSs.imp (pss_cons (ps_if hc ha hb) (PSs.ex hr)) fun E σ H ⟨kp, own, at_, q⟩ => ?_
  have key : ∀ {m : M (Fl β ρ)} {H1 : Hp}, Same H H1 → BOk g kp E D (m.bind (Fl.el h fun r => .ok (dr r))) → tB g L (Fl.el (fun s => Out.nx (LJ s)) fun r => (D (dr r)).cut) m { E with nx := fun σ H => ∃ d, tB g (LJ d) D (h d) E σ H } σ H1 := fun {m H1} s q => by
    cases m with
    | ok d =>
      cases d with
      | nx s' => exact ⟨kp, own, at_.ext s, fun σ' H' own' a' => ⟨s', kp, own', a', q⟩⟩
      | rt r =>
        refine ⟨kp, own, at_.ext s, ?_⟩
        have q : OutOk g.fm kp E (D (dr r)) := q
        show OutOk g.fm kp _ (D (dr r)).cut
        exact OutOk.cut (E := E) (E' := { E with nx := fun σ H => ∃ d, tB g (LJ d) D (h d) E σ H }) rfl rfl (hn r) q
    | ex c => exact ⟨kp, own, at_.ext s, q⟩
    | no => exact q.elim
  cases mc with
  | ok c =>
    refine ⟨kp, own, at_, fun H1 s => ?_⟩
    cases c with
    | true => exact key s q
    | false => exact key s q
  | ex c => exact ⟨kp, own, at_, BOk.exx wk at_ q⟩
  | no => exact q.elim
end
end Hd

namespace Hd
open PySem PySem.Spec L2
section
variable {p : Pr} {sc : Scope} {NN VV GG VV' GG' : List Str} {k : Nat} {g : G} {L L' : List Slot} {a b c e e' : Expr} {es : List Expr} {md md' : Md} {α β γ δ ρ : Type} {S : Ty α} {T : Ty β} {U : Ty γ} {A : Ar δ} {pos : Pos} {K : PySem.W.Frag} {tg : Expr} {i j : Nat} {x : Str}
/-- a list of the written part -/
def KList (K : PySem.W.Frag) (a : Addr) (xs : List V) : Prop := ∃ (o : Obj) (its : Array Value) (n : Nat), K.lookup a = some o ∧ o.cls = .type "list" ∧ o.dict = none ∧ o.data = .seq its n ∧ its.size ≤ sizeLine ∧ Vals xs its.toList
/-- a list that is but read -/
def tListK {α : Type} (K : PySem.W.Frag) (T : Ty α) : Ty (List α) := ⟨fun ds v R => ∃ a vs, v = .ref a ∧ (R a (.lst vs) ∨ KList K a vs) ∧ Reps T R ds vs, fun ⟨a, vs, e, r, h⟩ s => ⟨a, vs, e, r.imp (s _ _) id, h.mono s⟩⟩
structure IsSq (K : PySem.W.Frag) (Q : Ty (List α)) (S : Ty α) : Prop where
  sq : ∀ {d v R H}, Rdb K R H → Q.rep d v R → ∃ a vs, v = .ref a ∧ SqL K H a vs ∧ Reps S R d vs
theorem sq_l : IsSq K (tList S) S := ⟨fun rb ⟨a, vs, e, h, r⟩ => ⟨a, vs, e, sq_of rb h, r⟩⟩
theorem sq_k : IsSq K (tListK K S) S := ⟨fun rb ⟨a, vs, e, h, r⟩ => ⟨a, vs, e, h.elim (sq_of rb) .inr, r⟩⟩
variable {Q : Ty (List α)}
theorem ev_ixQ {mx : M (List α)} {mi : M Int} (ok : Ok p sc NN VV GG k g) (hq : IsSq p.K Q S) (ha : EvE g L a md Q mx) (hb : EvE g L b md tInt mi) (hs : PlainIx b := by exact fun _ _ => rfl) : EvE g L (.Subscript a b pos) md S (mx.bind fun xs => mi.bind fun i => getM xs i) :=
  ev_ix (S := Q) (r := rIxL p.K) (fr := false) ok (by rw [← ok.K]; exact ix_list) ⟨fun {d e x y R H W} rb rx ry q => by
    obtain ⟨a, vs, ex, h, r⟩ := hq.sq rb rx
    unfold getM at q
    cases hj : L2.atI d e with
    | none => rw [hj] at q; exact q.elim
    | some u =>
      rw [hj] at q
      obtain ⟨v, h1, h2⟩ := r.at hj
      exact ⟨a, vs, e, v, ex, ry, h, h1, q _ _ (Same.refl _) (S.mono h2 (Nw.old rfl))⟩⟩ (fun _ _ _ => getM_ne) .same ha hb hs
theorem ev_lenQ {mx : M (List α)} {pp : Pos} (ok : Ok p sc NN VV GG k g) (hq : IsSq p.K Q S) (hG : GG[j]? = some "len") (hmg : p.mg "len" = none) (ha : EvE g L e md Q mx) (hs : starEach [e] g.X.env = (false, eval e g.X.env) :: starEach [] g.X.env := by rfl) : EvE g L (.Call (.Name "len" pp) [e] [] pos) md' tInt (mx.bind fun xs => .ok (xs.length : Int)) :=
  ev_b1 (S := Q) (fr := true) ok call_len_seq (fun {d v R H W} rb h q => by
    obtain ⟨a, vs, e, hs, r⟩ := hq.sq rb h
    exact ⟨a, vs, by rw [e], .inl (by rw [ok.K]; exact hs), q _ _ (Same.refl _) (by show _ = V.int _; rw [r.length])⟩) (fun _ _ h => nomatch h) .fresh hG hmg PySem.boot_len ha hs
theorem evi_seq {m : M (List α)} (ok : Ok p sc NN VV GG k g) (hq : IsSq p.K Q S) (he : EvE g L e md Q m) : EvI g L tg e S m := by
  refine PI.imp (pi_list he) fun σ H R ⟨kp, own, at_, q⟩ => ?_
  refine tE_iff.mpr ⟨kp, own, at_, ?_⟩
  cases m with
  | ok xs =>
    intro v H' s rx
    have rx' : Q.rep xs v (RD g.fm own H') := Q.mono rx RX.sh
    have rb0 : Rdb p.K (RD g.fm own H') H' := by rw [← ok.fmK]; exact RD.rdb
    obtain ⟨a, vs, rfl, h, r⟩ := hq.sq rb0 rx'
    refine ⟨a, rfl, ⟨vs, by rw [ok.K]; exact h⟩, ?_⟩
    rw [show Itl g.X.K a = Itl g.fm.K a from by rw [ok.K, ok.fmK]]
    refine q (Itl g.fm.K a) H' s fun H2 rb i => ?_
    obtain ⟨a', vs', e', hs, r2⟩ := hq.sq (by rw [← ok.fmK]; exact rb) rx'
    cases e'
    rw [← ok.fmK] at hs
    refine ⟨fun d hd => ?_, fun hn => ⟨vs', hs, ?_⟩⟩
    · obtain ⟨v, h1, h2⟩ := r2.get hd
      refine ⟨⟨vs', v, hs, h1⟩, fun x H3 ⟨e, hx⟩ => ?_⟩
      subst e
      have := hx vs' hs
      rw [h1] at this
      cases this
      exact ⟨Same.refl _, S.mono h2 fun a o z => .inl ⟨rfl, z⟩⟩
    · rw [List.getElem?_eq_none_iff, r2.length] at hn
      exact hn
  | ex c => exact q
  | no => exact q
variable {lo hi : Option Expr} {ml mh : M (Option Int)} {p2 : Pos}
theorem evl_slQ {m : M (List α)} (ok : Ok p sc NN VV GG k g) (hq : IsSq p.K Q S) (ha : EvE g L a md Q m) (hl : EvO g L lo ml) (hh : EvO g L hi mh) : EvL g L (.Subscript a (.Slice lo hi none p2) pos) md S (m.bind fun x => ml.bind fun l => mh.bind fun h => .ok (cutL x l h)) := by
  refine PE.imp (pe_slice sl_list ha hl hh) fun σ H W q => ?_
  obtain ⟨kp, own, at_, q⟩ := tL_iff.mp q
  refine sub finL (Same.refl H) at_ q fun d x H1 s1 r1 at1 q1 => subO finL s1 at1 q1 fun l H2 s2 at2 q2 => subO finL (s1.trans s2) at2 q2 fun h H3 s3 at3 q3 => ?_
  have r3 : Q.rep d x (RX g.fm own H H3 md) := Q.mono r1 (RX.same (s2.trans s3))
  obtain ⟨ad, vs, e, h3, rr⟩ := hq.sq (by rw [← ok.fmK]; exact RX.rdb) r3
  refine ⟨ad, vs, e, by rw [ok.K]; exact h3, fun z hz => q3 z (L2.cutV vs l h) _ (((s1.trans s2).trans s3).trans (newSame hz)) (((s1.trans s2).trans s3).free hz) upd_same ?_⟩
  exact (rr.cut l h).mono (RX.add hz)
theorem evl_copyQ {mx : M (List α)} {pp : Pos} (ok : Ok p sc NN VV GG k g) (hq : IsSq p.K Q S) (hG : GG[j]? = some "list") (hmg : p.mg "list" = none) (ha : EvE g L e md Q mx) (hs : starEach [e] g.X.env = (false, eval e g.X.env) :: starEach [] g.X.env := by rfl) : EvL g L (.Call (.Name "list" pp) [e] [] pos) md S mx := by
  obtain ⟨hg, ho⟩ := ok.gl hG
  obtain ⟨h1, _, h3⟩ := okName_d ho
  refine PE.imp (pe_callTy call_list_of hg (by rw [ok.mg]; exact hmg) (by decide +kernel) (eva_cons ha eva_nil hs) h3 h1 hs rfl) fun σ H W q => ?_
  obtain ⟨kp, own, at_, q⟩ := tL_iff.mp q
  refine tA_iff.mpr ⟨kp, own, at_, ?_⟩
  cases mx with
  | ok d =>
    rintro vs H1 s1 ⟨v, r, rfl, rx, e3⟩
    cases (show r = [] from e3)
    obtain ⟨a, ws, rfl, h, rr⟩ := hq.sq (by rw [← ok.fmK]; exact RX.rdb) rx
    exact ⟨a, ws, rfl, .inl (by rw [ok.K]; exact h), fun l hl => q l ws _ (s1.trans (newSame hl)) (s1.free hl) upd_same (rr.mono (RX.add hl))⟩
  | ex c => exact q
  | no => exact q
/-! ### tests of a comprehension -/
theorem evpts_nil : PTs g.X [] (tT g.fm g.W L (.ok true)) := ⟨fun pins s σ H Q I ⟨kp, own, at_, q⟩ => pts_nil.run pins s σ H Q I (q H (Same.refl H))⟩
theorem evpts_one {m : M Bool} (h : EvT g L c m) : PTs g.X [c] (tT g.fm g.W L m) := pts_one h
/-! ### blocks -/
variable {st : List Stmt} {D : δ → Out} {d : δ}
/-- one way leaves, the other goes on, where the block itself is a way of an if -/
theorem evb_ifxJ {mc : M Bool} {m1 : M ρ} {m2 : M δ} {dr : ρ → δ} {sa : List Stmt} (wk : Wk L g.LX) (hc : EvT g L c mc) (ha : EvB g L sa (fun d => (D (dr d)).cut) m1) (hr : EvB g L st D m2) (hn : ∀ r, (D (dr r)).isNx = false := by intro d; first | rfl | (cases d <;> first | rfl | (rename_i z; cases z <;> rfl))) :
    EvB g L (.If c sa [] pos :: st) D (mc.bind fun c => if c = true then m1.bind (fun r => .ok (dr r)) else m2) := by
  refine PSs.imp (pss_cons (ps_if hc ha pss_nil) hr) fun E σ H ⟨kp, own, at_, q⟩ => ?_
  cases mc with
  | ok c =>
    refine ⟨kp, own, at_, fun H1 s => ?_⟩
    cases c with
    | true =>
      have q : BOk g kp E D (m1.bind fun r => .ok (dr r)) := q
      refine ⟨kp, own, at_.ext s, ?_⟩
      cases m1 with
      | ok d => exact OutOk.cut (E := E) (E' := { E with nx := tB g L D m2 E }) rfl rfl (hn d) q
      | ex c => exact q
      | no => exact q
    | false => exact ⟨kp, own, at_.ext s, q⟩
  | ex c => exact ⟨kp, own, at_, BOk.exx wk at_ q⟩
  | no => exact q.elim
/-- where a loop's head knows less of a slot -/
theorem evb_weak {m : M δ} (w : Wk L L') (hr : EvB g L' st D m) : EvB g L st D m := evb_drop w hr
/-! ### perhaps None -/
structure NotNon (S : Ty α) : Prop where
  nn : ∀ {d v R}, S.rep d v R → v ≠ .non
theorem nn_int : NotNon tInt := ⟨fun h => by cases h; exact fun z => nomatch z⟩
theorem nn_bool : NotNon tBool := ⟨fun h => by cases h; exact fun z => nomatch z⟩
theorem nn_str : NotNon tStr := ⟨fun h => by cases h.1; exact fun z => nomatch z⟩
theorem nn_list : NotNon (tList S) := ⟨fun ⟨a, vs, e, _⟩ => by subst e; exact fun z => nomatch z⟩
theorem nn_tup : NotNon (tTup A) := ⟨fun ⟨a, vs, e, _⟩ => by subst e; exact fun z => nomatch z⟩
theorem ev_some {m : M α} (hn : NotNon S) (h : EvE g L e md S m) : EvE g L e md (tOpt S) (m.bind fun d => .ok (some d)) :=
  ev_as (T := tOpt S) (d2 := some) (fun d v R r => ⟨r, hn.nn r⟩) h
theorem ev_isN {m : M (Option α)} {j1 : Nat} {p1 : Pos} (ok : Ok p sc NN VV GG k g) (ha : EvE g L a md (tOpt S) m) : EvE g L (.Compare a [.Is] [.Constant .none j1 p1] pos) md' tBool (m.bind fun d => .ok d.isNone) := by
  have h := ev_cmp (pos := pos) (md' := md') (S := tOpt S) (T := tNone) (U := tBool) (fr := true) (f := fun d _ => .ok d.isNone) ok op_isN ⟨fun {d e x y R H W} rb rx ry q => ⟨ry, q _ _ (Same.refl _) (by
    show _ = V.bl _
    cases d with
    | none => cases (show x = .non from rx); rfl
    | some d => rw [decide_eq_false rx.2]; rfl)⟩⟩ (fun _ _ _ h => nomatch h) .fresh ha (ev_none (j := j1) (pos := p1)) (by first | exact nomark _ (by decide) (by decide) | rfl)
  have e : (m.bind fun d => (M.ok ()).bind fun _ => M.ok d.isNone) = m.bind fun d => .ok d.isNone := by cases m <;> rfl
  rwa [e] at h
theorem ev_notN {m : M (Option α)} {j1 : Nat} {p1 : Pos} (ok : Ok p sc NN VV GG k g) (ha : EvE g L a md (tOpt S) m) : EvE g L (.Compare a [.IsNot] [.Constant .none j1 p1] pos) md' tBool (m.bind fun d => .ok d.isSome) := by
  have h := ev_cmp (pos := pos) (md' := md') (S := tOpt S) (T := tNone) (U := tBool) (fr := true) (f := fun d _ => .ok d.isSome) ok op_notN ⟨fun {d e x y R H W} rb rx ry q => ⟨ry, q _ _ (Same.refl _) (by
    show _ = V.bl _
    cases d with
    | none => cases (show x = .non from rx); rfl
    | some d => rw [decide_eq_false rx.2]; rfl)⟩⟩ (fun _ _ _ h => nomatch h) .fresh ha (ev_none (j := j1) (pos := p1)) (by first | exact nomark _ (by decide) (by decide) | rfl)
  have e : (m.bind fun d => (M.ok ()).bind fun _ => M.ok d.isSome) = m.bind fun d => .ok d.isSome := by cases m <;> rfl
  rwa [e] at h
def unM {α : Type} : Option α → M α
  | some d => .ok d
  | none => .no
/-- what is known not to be None -/
theorem ev_un1 {m : M (Option α)} (h : EvE g L e md (tOpt S) m) : EvE g L e md S (m.bind unM) := PE.imp h fun σ H Q q => by
  obtain ⟨kp, own, at_, q⟩ := tE_iff.mp q
  refine tE_iff.mpr ⟨kp, own, at_, ?_⟩
  cases m with
  | ok d =>
    cases d with
    | none => exact q.elim
    | some d => exact fun v H' s r => q v H' s r.1
  | ex c => exact q
  | no => exact q
end
end Hd

namespace Hd
open PySem PySem.Spec L2
def fuel : Nat := 1000000000
theorem M.bok {α β : Type} (a : α) (f : α → M β) : M.bind (.ok a) f = f a := by
  have h : ∀ m : M α, m = .ok a → M.bind m f = f a := fun m e => by rw [e]; rfl
  exact h _ rfl
section
variable {p : Pr} {sc : Scope} {NN VV GG VV' GG' : List Str} {k : Nat} {g : G} {L L' : List Slot} {a b c e e' : Expr} {es : List Expr} {md md' : Md} {α β γ δ ρ : Type} {S : Ty α} {T : Ty β} {U : Ty γ} {A : Ar δ} {pos : Pos} {K : PySem.W.Frag} {tg : Expr} {i j : Nat} {x : Str}
/-- how many items -/
def LenM (n : Nat) (m : M (List α)) : Prop := ∀ ds, m = .ok ds → ds.length = n
theorem ln0 : LenM 0 (.ok ([] : List α)) := fun ds h => by cases h; rfl
theorem lnS {n : Nat} {m1 : M α} {m2 : M (List α)} (h : LenM n m2) : LenM (n + 1) (m1.bind fun d => m2.bind fun e => .ok (d :: e)) := fun ds q => by
  cases m1 with
  | ok d =>
    cases m2 with
    | ok e => cases q; rw [List.length_cons, h e rfl]
    | ex c => cases q
    | no => cases q
  | ex c => cases q
  | no => cases q
theorem evl_lstN {n : Nat} {m : M (List α)} (h : LenM n m) (hn : n ≤ 1000) (ha : EvA g L es md (aAll S) m) : EvL g L (.List es pos) md S m := evl_lst (fun ds q => by rw [h ds q]; exact hn) ha
/-! ### a comprehension given to a name -/
def isLoc (sc : Scope) (y : Str) : Bool := (match sc.kind with | .function => true | _ => false) && match sc.names.lookup y with | some .local => true | _ => false
def isCell (sc : Scope) (y : Str) : Bool := match sc.names.lookup y with | some .cell => true | _ => false
theorem isLoc_k {sc : Scope} {y : Str} (h : isLoc sc y = true) : sc.kind = .function ∧ sc.names.lookup y = some .local := by
  unfold isLoc at h
  rw [Bool.and_eq_true] at h
  obtain ⟨h1, h2⟩ := h
  constructor
  · split at h1
    · assumption
    · cases h1
  · split at h2
    · assumption
    · cases h2
theorem isCell_k {sc : Scope} {y : Str} (h : isCell sc y = true) : sc.names.lookup y = some .cell := by
  unfold isCell at h
  split at h
  · assumption
  · cases h
theorem sw_cell {elt : Expr} {gs : List Comprehension} {scope : Scope} {pos py : Pos} {y : Str} {l : Nat} {env : Env} (hy : env.scope.names.lookup y = some .cell) : swapsWith (.ListComp elt gs scope pos) (some (.Name y py)) l env = pure false := by
  have ky : env.kindOf y = some .cell := hy
  unfold swapsWith
  simp only [ky]
  have e : (some NameKind.cell == some NameKind.local) = false := rfl
  simp only [e, Bool.and_false, Bool.false_and]
theorem sw_own {elt : Expr} {gs : List Comprehension} {scope : Scope} {pos py : Pos} {y : Str} {l : Nat} {env : Env} (ha : (scope.names.any fun (n, k) => n == y && (k == .local || k == .cell)) = true) : swapsWith (.ListComp elt gs scope pos) (some (.Name y py)) l env = pure false := by
  unfold swapsWith
  simp only [ha, Bool.not_true, Bool.and_false]
variable {st : List Stmt} {D : δ → Out} {y : Str} {py spos cpos : Pos} {elt it : Expr} {ifs : List Expr} {scope : Scope} {tp : Pos} {s₀ : Slot}
theorem sw_loc (ok : OkS p sc NN VV GG k g) {gs : List Comprehension} (hy : isLoc sc y = true) (hl : (py.line == cpos.line) = true) (ha : (scope.names.any fun (n, k) => n == y && (k == .local || k == .cell)) = false) :
    g.X.env.scope.names.lookup y = some .local ∧ swapsWith (.ListComp elt gs scope cpos) (some (.Name y py)) spos.line g.X.env = pure true := by
  obtain ⟨h1, h2⟩ := isLoc_k hy
  have e1 : g.X.env.scope.kind = .function := by rw [ok.scp]; exact h1
  have e2 : g.X.env.scope.names.lookup y = some .local := by rw [ok.scp]; exact h2
  exact ⟨e2, sw_true e1 e2 hl ha⟩
/-- y = [elt for x in it if c], y its owner -/
theorem evb_ownC {m : M (List α)} {cm : α → M Bool} {f : α → M β} {h : List β → M δ} {b : Bool} {i2 : Nat} (ok : OkS p sc NN VV GG k g) (hN2 : NN[i2]? = some y) (wk : Wk L g.LX) (hbb : SlB md b) (hy : isLoc sc y = true) (hl : (py.line == cpos.line) = true) (ha : (scope.names.any fun (n, k) => n == y && (k == .local || k == .cell)) = false)
    (hI : EvI g L (.Name x tp) it S m) (hN : NN[i]? = some x) (hLi : L[i]? = some s₀) (hs₀ : NoOwn s₀) (hb : blkC NN sc scope [(x, i)] = true) (hv : VV'.all (seenB scope) = true) (hg : GG'.all (glB scope) = true) (hx : locB scope x = true)
    (hc : ∀ g', Ok p scope NN VV' GG' k g' → ∀ d, PTs g'.X ifs (tT g'.fm g'.W (L.set i (sV false S d)) (cm d))) (he : ∀ g', Ok p scope NN VV' GG' k g' → ∀ d, EvE g' (L.set i (sV false S d)) elt md T (f d))
    (hr : ∀ d, EvB g (L.set i2 (sOwn b T d)) st D (h d)) (hs : ∀ x, foldedSetIterable it g.X.env x = pure x := by intro _; rfl) :
    EvB g L (.Assign [.Name y py] (.ListComp elt [⟨.Name x tp, it, ifs, 0⟩] scope cpos) spos :: st) D ((m.bind fun xs => compM (fun d => (cm d).bind fun c => if c = true then (f d).bind fun y => .ok (some y) else .ok none) xs).bind h) := by
  obtain ⟨e1, e2⟩ := sw_loc (elt := elt) (spos := spos) (gs := [⟨.Name x tp, it, ifs, 0⟩]) ok hy hl ha
  refine PSs.imp (pss_cons ((evl_lc2 ok.toOk hI hN hLi hs₀ hb hv hg hx hc he hs).2 hN2 e1 e2) (PSs.ex hr)) fun E σ H ⟨kp, own, at_, q⟩ => ?_
  unfold tSeq tAsg
  refine tL_iff.mpr ⟨kp, own, at_, ?_⟩
  generalize (m.bind fun xs => compM (fun d => (cm d).bind fun c => if c = true then (f d).bind fun y => .ok (some y) else .ok none) xs) = mm at q ⊢
  cases mm with
  | ok d =>
    intro v vs H' s n h' r
    obtain ⟨own', a'⟩ := at_.setOwn (i := i2) (b := b) s n h' (r.mono hbb.rb)
    exact ⟨d, kp, own', a', q⟩
  | ex c => exact BOk.exx wk at_ q
  | no => exact q
theorem evb_setC {m : M (List α)} {cm : α → M Bool} {f : α → M β} {h : List β → M δ} {i2 : Nat} (ok : OkS p sc NN VV GG k g) (hN2 : NN[i2]? = some y) (wk : Wk L g.LX) (hy : isLoc sc y = true) (hl : (py.line == cpos.line) = true) (ha : (scope.names.any fun (n, k) => n == y && (k == .local || k == .cell)) = false)
    (hI : EvI g L (.Name x tp) it S m) (hN : NN[i]? = some x) (hLi : L[i]? = some s₀) (hs₀ : NoOwn s₀) (hb : blkC NN sc scope [(x, i)] = true) (hv : VV'.all (seenB scope) = true) (hg : GG'.all (glB scope) = true) (hx : locB scope x = true)
    (hc : ∀ g', Ok p scope NN VV' GG' k g' → ∀ d, PTs g'.X ifs (tT g'.fm g'.W (L.set i (sV false S d)) (cm d))) (he : ∀ g', Ok p scope NN VV' GG' k g' → ∀ d, EvE g' (L.set i (sV false S d)) elt md T (f d))
    (hr : ∀ d, EvB g (L.set i2 (sV false (tList T) d)) st D (h d)) (hs : ∀ x, foldedSetIterable it g.X.env x = pure x := by intro _; rfl) :
    EvB g L (.Assign [.Name y py] (.ListComp elt [⟨.Name x tp, it, ifs, 0⟩] scope cpos) spos :: st) D ((m.bind fun xs => compM (fun d => (cm d).bind fun c => if c = true then (f d).bind fun y => .ok (some y) else .ok none) xs).bind h) := by
  obtain ⟨e1, e2⟩ := sw_loc (elt := elt) (spos := spos) (gs := [⟨.Name x tp, it, ifs, 0⟩]) ok hy hl ha
  refine PSs.imp (pss_cons ((evl_lc2 ok.toOk hI hN hLi hs₀ hb hv hg hx hc he hs).2 hN2 e1 e2) (PSs.ex hr)) fun E σ H ⟨kp, own, at_, q⟩ => ?_
  unfold tSeq tAsg
  refine tL_iff.mpr ⟨kp, own, at_, ?_⟩
  generalize (m.bind fun xs => compM (fun d => (cm d).bind fun c => if c = true then (f d).bind fun y => .ok (some y) else .ok none) xs) = mm at q ⊢
  cases mm with
  | ok d =>
    intro v vs H' s n h' r
    obtain ⟨own', a'⟩ := (at_.ext s).setV (i := i2) (b := false) (T := tList T) (d := d) (v := .ref v) ⟨v, vs, rfl, RX.sh (H := H) _ _ (newRX' (md := .sh) at_ n h'), r.mono fun a o z => RX.sh (H := H) a o (RX.drop1 a o z)⟩
    exact ⟨d, kp, own', a', q⟩
  | ex c => exact BOk.exx wk at_ q
  | no => exact q
/-! ### what is worth a known value -/
theorem pureT {m : M Bool} {v : Bool} (h : EvT g L e m) (q : m = .ok v) : EvT g L e (.ok v) := q ▸ h
theorem pureW {m : M Bool} {v : Bool} (h : EvW g L e m) (q : m = .ok v) : EvW g L e (.ok v) := q ▸ h
theorem pureE {m : M α} {v : α} (h : EvE g L e md S m) (q : m = .ok v) : EvE g L e md S (.ok v) := q ▸ h
end
end Hd

namespace Hd
open PySem PySem.Spec L2
/-! ### the end -/
theorem fnCx {P : Program} {w : World} {K : PySem.W.Frag} {mg : Str → Option Value} {base : Heap} {CX CX' : CXT} {k : Nat} {f : Addr} {fd : FuncData} {ps : List Str} {sp : Sp} (F : FnOk P w K mg base CX k f fd ps sp)
    (h : ∀ outer H s E u s', CX outer H s E u s' → CX' outer H s E u s') : FnOk P w K mg base CX' k f fd ps sp :=
  ⟨F.len, fun A outer s H args us vs Q E hr he hb hv hs => codeAny_mono (F.run A outer s H args us vs Q E hr he hb hv hs) fun r s' q => by
    cases r with
    | error e => exact h _ _ _ _ _ _ q
    | ok fl => cases fl <;> exact q⟩
def CXw (P : Program) : CXT := fun outer H s E u s' => ∃ w, L2.CX P w outer H s E u s'
def ecName : Ec → Str
  | .weave => "WeaveError"
  | .noRow => "NoRow"
  | .tooLarge => "TooLarge"
  | .noCloth => "NoCloth"
  | .noDraft => "NoDraft"
  | .noStrand => "NoStrand"
  | .noDeed => "NoDeed"
  | .noLaying => "NoLaying"
  | .noShuttle => "NoShuttle"
  | .noColour => "NoColour"
  | .noBlock => "NoBlock"
  | .noPattern => "NoPattern"
  | .unknown => "Unknown"
  | .twice => "Twice"
theorem reps_ints {R : RdR} : ∀ ns : List Int, Reps tInt R ns (ns.map V.int)
  | [] => .nil
  | n :: r => .cons rfl (reps_ints r)
theorem law_end {l : PySem.W.OpenLaw} {k : Nat} {q : Program} {loose : List Str} {XP : (Str → Option Value) → Heap → Prop} {YP : World → Heap → Prop} {d : DefRec} {cl : List Int × Unit → M Bool}
    (hn : l.most = some 63) (hdf : d.params.defaults = []) (hr : Room k callerA)
    (F : ∀ (w : World) (mg : Str → Option Value) (fa : Addr) (h : Heap), YP w h → h.Ns mainGlobals mg → mg d.name = some (.ref fa) →
      ∃ (K : PySem.W.Frag) (fd : FuncData) (C : Ec → Addr), K.In h ∧ (∀ (s : Shared) (u : Value), BindsTo s fd ⟨[u], []⟩ [("script", u)]) ∧
        ∀ base : Heap, FnOk l.prog w K mg base (L2.CX l.prog w) k fa fd ["script"] (spM ⟨l.prog, w, K, mg, base, C, none⟩ (aCons (tListK K tInt) aNil) (fun r => .rt false tBool r) cl))
    (math : ∀ ns : List Int, ns.length ≤ 63 → cl (ns, ()) = .ok true) : PySem.W.WalkO q loose XP YP l.row.toRowW d [] (fun f vs => PySem.call f vs) := by
  refine L2.walk_ofE (CX := CXw l.prog) (x := "script") (k := k) hn (by decide) hdf hr (fun w mg fa h Y G hm => ?_) (fun H s e s' z => ?_)
  · obtain ⟨K, fd, C, KX, hb, hF⟩ := F w mg fa h Y G hm
    refine ⟨K, fd, spM ⟨l.prog, w, K, mg, h, C, none⟩ (aCons (tListK K tInt) aNil) (fun r => .rt false tBool r) cl, KX, hb, fun H a ns hl hO hS => ?_, fun base _ _ => fnCx (hF base) fun _ _ _ _ _ _ z => ⟨w, z⟩⟩
    refine ⟨(ns, ()), fun _ => False, ⟨fun _ z => z.elim, fun P e => nomatch e⟩, ⟨.ref a, [], rfl, ⟨a, ns.map V.int, rfl, hS.imp (fun r => .inl ⟨Rd.clo r, (fun z => nomatch z), fun z => z⟩) id, reps_ints ns⟩, rfl⟩, ?_⟩
    rw [math ns hl]
    exact fun v H' s r => r
  · obtain ⟨w, a, B, H', cls, d, _, _, _, _, _, _, _, z⟩ := z
    exact z
theorem exF {K : PySem.W.Frag} {h : Heap} {mg : Str → Option Value} {P : Program} {w : World} {base : Heap} {T : Option Addr} (X : K.In h) (G : h.Ns mainGlobals mg) {x : Str} {c : Ec} (e : ecName c = x) (c1 : (He.Fa.glo x).ok K = true) (c2 : (He.Fa.exc x).ok K = true) : ExF ⟨P, w, K, mg, base, fun c => He.ga K (ecName c), T⟩ x c := by
  subst e
  obtain ⟨h1, h2, h3, h4⟩ := He.exc_ok c2
  exact ⟨h1, He.glo_ok X G c1, h2, h3, h4⟩
theorem L2_bindsA {K : PySem.W.Frag} {x qual : Str} {params : Arguments} {body : List Stmt} {scope : Scope} {f : Addr} {fd : FuncData} (F : FunD K x qual params body scope [] [] f fd) (s : Shared) (v : Value)
    (h : ∀ (kV doc pm : Value) (an : Option Addr) (cdv ct : Value) (us : List Value), us.length = (["script"] : List Str).length → bindArgs (PySem.W.fnOf x qual params body scope .none kV doc pm an cdv ct) ⟨us, []⟩ = pure ((["script"] : List Str).zip us) := by
      exact fun _ _ _ _ _ _ us hl => match us, hl with | [_], _ => rfl) : BindsTo s fd ⟨[v], []⟩ [("script", v)] := F.bindsA (ps := ["script"]) h s [v] rfl
end Hd

namespace Hd
open PySem PySem.Spec L2
section
variable {p : Pr} {sc : Scope} {NN VV GG VV' GG' : List Str} {k : Nat} {g : G} {L L' : List Slot} {a b c e e' : Expr} {es : List Expr} {md md' : Md} {α β γ δ ρ : Type} {S : Ty α} {T : Ty β} {U : Ty γ} {A : Ar δ} {pos : Pos} {K : PySem.W.Frag} {tg : Expr} {i j : Nat} {x : Str} {pp : Pos}
/-! ### counting -/
theorem cnt_count (c : Nat) : ∀ l : List Nat, PyProof.Rows.cnt c l = (l.count c : Int)
  | [] => rfl
  | n :: r => by
    rw [PyProof.Rows.cnt_cons, cnt_count c r, List.count_cons]
    by_cases h : n = c
    · subst h; simp; omega
    · simp [h]
def countS (x y : Tx) : M Int := match y with
  | [c] => .ok (x.count c : Int)
  | _ => .no
theorem countS_ne {x y : Tx} {c : Ec} : countS x y ≠ .ex c := by unfold countS; split <;> exact fun h => nomatch h
theorem ev_countS {m1 m2 : M Tx} {apos : Pos} (ok : Ok p sc NN VV GG k g) (ha : EvE g L a md tStr m1) (hb : EvE g L b md tStr m2)
    (hs : starEach [b] g.X.env = [(false, eval b g.X.env)] := by rfl) (hbase : attributeBase a "count" g.X.env (eval a g.X.env) = eval a g.X.env := by rfl) (hline : (apos.endLine == pos.line) = true := by rfl) :
    EvE g L (.Call (.Attribute a "count" apos) [b] [] pos) md' tInt (m1.bind fun s => m2.bind fun y => countS s y) :=
  ev_sm1 (T := tStr) ok PySem.F.slot_str_count PySem.F.type_str_count mt_count (fun {d e y R H Q} rb hd hy q => by
    unfold countS at q
    split at q
    · rename_i c
      refine ⟨toS d, toS [c], rfl, by rw [hy.1], q _ _ (Same.refl _) ?_⟩
      show V.int _ = V.int _
      congr 1
      rw [show toS [c] = (⟨#[c]⟩ : Str) from rfl, PyProof.Rows.count_cnt, cnt_count]
      rw [show (toS d).cps.toList = d from tl_toS d]
    · exact q.elim) (fun _ _ _ => countS_ne) ha hb hs hbase hline
theorem ev_countI {m1 : M (List Int)} {m2 : M Int} {apos : Pos} (ok : Ok p sc NN VV GG k g) (ha : EvE g L a md (tList tInt) m1) (hb : EvE g L b md tInt m2)
    (hbase : attributeBase a "count" g.X.env (eval a g.X.env) = eval a g.X.env := by rfl)
    (hfew : ((backTo pos (starEach [b] g.X.env)).all (fun x => !x.1) && (backToKw pos (keywordEach [] g.X.env)).all (fun x => x.1.isSome)
      && decide (([b] : List Expr).length + ([] : List Keyword).length + (if ([] : List Keyword).isEmpty then 0 else 1) < 30)) = true := by rfl)
    (hs : starEach [b] g.X.env = (false, eval b g.X.env) :: starEach [] g.X.env := by rfl) (hline : (apos.endLine == pos.line) = true := by rfl) (hplain : (backTo pos (starEach [] g.X.env)).any (·.1) = false := by rfl) :
    EvE g L (.Call (.Attribute a "count" apos) [b] [] pos) md' tInt (m1.bind fun s => m2.bind fun y => .ok (s.count y : Int)) := by
  have h := ev_bm (md' := md') (S := tList tInt) (A := aCons tInt aNil) (U := tInt) (f := fun s y => .ok (s.count y.1 : Int)) (fr := true) ok PySem.F.plainAttrs_list PySem.F.slot_list_count PySem.F.type_list_count mt_lcount
    ⟨fun {d x R H} rb ⟨ad, vs, ex, hh, r⟩ => by subst ex; exact .inl ⟨rfl, _, sq_of rb hh⟩, fun {d e x xs R H Q} rb ⟨ad, vs, ex, hh, r⟩ ⟨v, w, e1, e2, e3⟩ q => by
      subst e1; cases (show w = [] from e3)
      exact ⟨ad, d, e.1, by rw [ex], by rw [e2], by rw [← r.ints, ok.K]; exact sq_of rb hh, q _ _ (Same.refl _) rfl⟩⟩ (fun _ _ _ h => nomatch h) .fresh ha (eva_cons hb eva_nil hs) hbase hfew hs hline hplain
  have e : (m1.bind fun d => (m2.bind fun d => (M.ok ()).bind fun e => M.ok (d, e)).bind fun e => M.ok (d.count e.1 : Int)) = m1.bind fun s => m2.bind fun y => .ok (s.count y : Int) := by cases m1 <;> cases m2 <;> rfl
  rwa [e] at h
/-- xs.index(y): the first place -/
def indexM [DecidableEq α] (xs : List α) (y : α) : M Int := if y ∈ xs then .ok (xs.idxOf y : Int) else .no
theorem indexM_ne [DecidableEq α] {xs : List α} {y : α} {c : Ec} : indexM xs y ≠ .ex c := by unfold indexM; split <;> exact fun h => nomatch h
theorem ev_index [DecidableEq α] {m1 : M (List α)} {m2 : M α} {apos : Pos} (ok : Ok p sc NN VV GG k g) (hf : FlatV S) (ha : EvE g L a md (tList S) m1) (hb : EvE g L b md S m2)
    (hbase : attributeBase a "index" g.X.env (eval a g.X.env) = eval a g.X.env := by rfl)
    (hfew : ((backTo pos (starEach [b] g.X.env)).all (fun x => !x.1) && (backToKw pos (keywordEach [] g.X.env)).all (fun x => x.1.isSome)
      && decide (([b] : List Expr).length + ([] : List Keyword).length + (if ([] : List Keyword).isEmpty then 0 else 1) < 30)) = true := by rfl)
    (hs : starEach [b] g.X.env = (false, eval b g.X.env) :: starEach [] g.X.env := by rfl) (hline : (apos.endLine == pos.line) = true := by rfl) (hplain : (backTo pos (starEach [] g.X.env)).any (·.1) = false := by rfl) :
    EvE g L (.Call (.Attribute a "index" apos) [b] [] pos) md' tInt (m1.bind fun s => m2.bind fun y => indexM s y) := by
  have h := ev_bm (md' := md') (S := tList S) (A := aCons S aNil) (U := tInt) (f := fun s y => indexM s y.1) (fr := true) ok PySem.F.plainAttrs_list PySem.F.slot_list_index PySem.F.type_list_index mt_index
    ⟨fun {d x R H} rb ⟨ad, vs, ex, hh, r⟩ => by subst ex; exact .inl ⟨rfl, _, sq_of rb hh⟩, fun {d e x xs R H Q} rb ⟨ad, vs, ex, hh, r⟩ ⟨v, w, e1, e2, e3⟩ q => by
      subst e1; cases (show w = [] from e3)
      unfold indexM at q
      split at q
      · rename_i hm
        have hlt := List.idxOf_lt_length_of_mem hm
        have hget : d[d.idxOf e.1]? = some e.1 := by rw [List.getElem?_eq_getElem hlt]; congr 1; exact List.getElem_idxOf hlt
        obtain ⟨z, hz1, hz2⟩ := r.get hget
        refine ⟨ad, vs, v, d.idxOf e.1, z, ex, rfl, by rw [ok.K]; exact sq_of rb hh, hf.fl e2, r.allFlat hf, hz1, (hf.eq hz2 e2).mpr rfl, fun m z' hm' hz' => ?_, q _ _ (Same.refl _) rfl⟩
        obtain ⟨d', hd1, hd2⟩ := r.get' hz'
        cases hq : eqV z' v with
        | false => rfl
        | true =>
          have e5 := (hf.eq hd2 e2).mp hq
          subst e5
          have hlt' : m < d.length := (List.getElem?_eq_some_iff.mp hd1).1
          have := List.not_of_lt_findIdx (xs := d) (p := (· == e.1)) (i := m) (by exact hm')
          rw [List.getElem?_eq_getElem hlt'] at hd1
          have e6 : d[m] = e.1 := Option.some.inj hd1
          simp [e6] at this
      · exact q.elim⟩ (fun _ _ _ => indexM_ne) .fresh ha (eva_cons hb eva_nil hs) hbase hfew hs hline hplain
  have e : (m1.bind fun d => (m2.bind fun d => (M.ok ()).bind fun e => M.ok (d, e)).bind fun e => indexM d e.1) = m1.bind fun s => m2.bind fun y => indexM s y := by cases m1 <;> cases m2 <;> rfl
  rwa [e] at h
/-! ### an item of an own list -/
theorem ev_ixOwn {bb : Bool} {ds : List α} {mi : M Int} {npos : Pos} (ok : Ok p sc NN VV GG k g) (hN : NN[i]? = some x) (hV : VV[j]? = some x) (hL : L[i]? = some (sOwn bb S ds)) (hb : EvE g L b .sh tInt mi) (hs : PlainIx b := by exact fun _ _ => rfl) :
    EvE g L (.Subscript (.Name x npos) b pos) .sh S (mi.bind fun i => getM ds i) := by
  obtain ⟨hv, ho⟩ := ok.vis hV
  obtain ⟨h1, h2, _⟩ := okName_d ho
  refine PE.imp (pe_ix ix_list (pe_var (i := i) (by rw [ok.N]; exact hN) hv h1 h2) hb hs) fun σ H Q q => ?_
  obtain ⟨kp, own, at_, q⟩ := tE_iff.mp q
  obtain ⟨Fs, hA, rfl⟩ := at_.sl
  obtain ⟨v, F, e1, e2, pp, vs, rfl, rfl, hp, r⟩ := hA.get hL
  refine ⟨_, e1, sub finE (Same.refl H) at_ q fun n y H2 s2 r2 at2 q2 => ?_⟩
  unfold getM at q2
  cases hj : L2.atI ds n with
  | none => rw [hj] at q2; exact q2.elim
  | some u =>
    rw [hj] at q2
    obtain ⟨w, w1, w2⟩ := r.at hj
    refine ⟨pp, vs, n, w, rfl, r2, .inl (.inl (s2.keep _ _ hp rfl)), w1, q2 w H2 s2 (S.mono w2 fun a o z => ?_)⟩
    have z1 : RX g.fm Fs.flatten H H (if bb then .f0 else .sh) a o := z
    exact RX.same s2 a o (RX.sh a o z1)
/-! ### None or a thing of a kind -/
theorem ev_isiO {ty n : String} {r : Bool} {m : M (Option α)} (ok : Ok p sc NN VV GG k g) (hG : GG[j]? = some "isinstance") (hmg : p.mg "isinstance" = none) (hT : IsT S ty) (hr : kitB ty n = some r) (hn : kitB "NoneType" n = some false) (ha : EvE g L a md (tOpt S) m) (hb : EvE g L b md (tTy n) (.ok ()))
    (hs1 : starEach (a :: [b]) g.X.env = (false, eval a g.X.env) :: starEach [b] g.X.env := by rfl) (hs2 : starEach [b] g.X.env = (false, eval b g.X.env) :: starEach [] g.X.env := by rfl) (hpl : (backTo pos (starEach [b] g.X.env)).any (·.1) = false := by rfl) :
    EvE g L (.Call (.Name "isinstance" pp) [a, b] [] pos) md' tBool (m.bind fun d => .ok (d.isSome && r)) := by
  have h := ev_callB (md' := md') (U := tBool) (A := aCons (tOpt S) (aCons (tTy n) aNil)) (f := fun d => .ok (d.1.isSome && r)) (fr := true) (pos := pos) (pp := pp) ok (id := "isinstance") call_isi ⟨fun {d xs R H Q} rb ⟨v, w, e1, h1, v2, w2, e2, h2, e3⟩ q => by
    subst e1; subst e2; cases (show w2 = [] from e3); cases h2
    obtain ⟨d1, d2⟩ := d
    cases d1 with
    | none =>
      cases (show v = .non from h1)
      exact ⟨.non, .ty n, .type "NoneType", .type n, false, rfl, .ty n, .base .non, kit_ty hn, q _ _ (Same.refl _) rfl⟩
    | some d =>
      exact ⟨v, .ty n, .type ty, .type n, r, rfl, .ty n, hT.t (by rw [ok.K]; exact rb) h1.1, kit_ty hr, q _ _ (Same.refl _) (by show V.bl r = V.bl _; simp)⟩⟩ (fun _ _ h => nomatch h) .fresh hG hmg (by decide +kernel) (eva_cons ha (eva_cons hb eva_nil hs2) hs1) hs1 hpl
  have e : (m.bind fun d => ((M.ok ()).bind fun d => (M.ok ()).bind fun e => M.ok (d, e)).bind fun e => M.ok (d, e)).bind (fun d => M.ok (d.1.isSome && r)) = m.bind fun d => .ok (d.isSome && r) := by cases m <;> rfl
  rwa [e] at h
/-! ### walks -/
theorem upFrom_get0 (n i : Nat) : (upFrom 0 n)[i]? = if i < n then some (i : Int) else none := by rw [upFrom_get]; simp
variable {Q : Ty (List α)}
theorem evi_rev {m : M (List α)} (ok : Ok p sc NN VV GG k g) (hq : IsSq p.K Q S) (hG : GG[j]? = some "reversed") (hmg : p.mg "reversed" = none) (ha : EvE g L a md Q m) (hs : starEach [a] g.X.env = (false, eval a g.X.env) :: starEach [] g.X.env := by rfl) :
    EvI g L tg (.Call (.Name "reversed" pp) [a] [] pos) S (m.bind fun xs => .ok xs.reverse) := by
  obtain ⟨hg, ho⟩ := ok.gl hG
  refine PI.imp (pi_reversed hg (by rw [ok.mg]; exact hmg) (eva_cons ha eva_nil hs) hs) fun σ H R ⟨kp, own, at_, q⟩ => ?_
  refine tA_iff.mpr ⟨kp, own, at_, ?_⟩
  cases m with
  | ok xs =>
    rintro vs H' s ⟨v, r, rfl, rx, e3⟩
    cases (show r = [] from e3)
    have rx' : Q.rep xs v (RD g.fm own H') := Q.mono rx RX.sh
    have rb0 : Rdb p.K (RD g.fm own H') H' := by rw [← ok.fmK]; exact RD.rdb
    obtain ⟨ad, vs, rfl, h, r⟩ := hq.sq rb0 rx'
    refine ⟨ad, vs, rfl, by rw [ok.K]; exact h, ?_⟩
    rw [show Itv g.X.K ad = Itv g.fm.K ad from by rw [ok.K, ok.fmK]]
    refine q _ H' s fun H2 rb i => ?_
    obtain ⟨a', vs', e', hs', r2⟩ := hq.sq (by rw [← ok.fmK]; exact rb) rx'
    cases e'
    rw [← ok.fmK] at hs'
    have hl : vs.length = xs.length := r.length.symm
    have hl' : vs'.length = xs.length := r2.length.symm
    refine ⟨fun d hd => ?_, fun hn => ?_⟩
    · have hlt : i < xs.length := by have := (List.getElem?_eq_some_iff.mp hd).1; rwa [List.length_reverse] at this
      rw [List.getElem?_reverse hlt] at hd
      obtain ⟨v, h1, h2⟩ := r2.get hd
      have h1' : vs'[vs.length - 1 - i]? = some v := by rw [hl]; exact h1
      refine ⟨⟨by rw [hl]; exact hlt, vs', v, hs', h1'⟩, fun x H3 ⟨e, hx⟩ => ?_⟩
      subst e
      have := hx vs' hs'
      rw [h1'] at this
      cases this
      exact ⟨Same.refl _, S.mono h2 fun a o z => .inl ⟨rfl, z⟩⟩
    · rw [List.getElem?_eq_none_iff, List.length_reverse] at hn
      show vs.length ≤ i
      omega
  | ex c => exact q
  | no => exact q
def enumL {α : Type} (xs : List α) : List (Int × α × Unit) := xs.mapIdx fun i d => ((i : Int), d, ())
theorem evi_enum {m : M (List α)} {elts : List Expr} {kk : Nat} {tpos : Pos} (ok : Ok p sc NN VV GG k g) (hq : IsSq p.K Q S) (hG : GG[j]? = some "enumerate") (hmg : p.mg "enumerate" = none) (ha : EvE g L a md Q m) (hs : starEach [a] g.X.env = (false, eval a g.X.env) :: starEach [] g.X.env := by rfl) :
    EvI g L (.Tuple elts kk tpos) (.Call (.Name "enumerate" pp) [a] [] pos) (tTup (aCons tInt (aCons S aNil))) (m.bind fun xs => .ok (enumL xs)) := by
  obtain ⟨hg, ho⟩ := ok.gl hG
  refine PI.imp (pi_enum hg (by rw [ok.mg]; exact hmg) (eva_cons ha eva_nil hs) hs) fun σ H R ⟨kp, own, at_, q⟩ => ?_
  refine tA_iff.mpr ⟨kp, own, at_, ?_⟩
  cases m with
  | ok xs =>
    rintro vs H' s ⟨v, r, rfl, rx, e3⟩
    cases (show r = [] from e3)
    have rx' : Q.rep xs v (RD g.fm own H') := Q.mono rx RX.sh
    have rb0 : Rdb p.K (RD g.fm own H') H' := by rw [← ok.fmK]; exact RD.rdb
    obtain ⟨ad, vs, rfl, h, r⟩ := hq.sq rb0 rx'
    refine ⟨ad, vs, rfl, by rw [ok.K]; exact h, ?_⟩
    rw [show Ite g.X.K ad = Ite g.fm.K ad from by rw [ok.K, ok.fmK]]
    refine q _ H' s fun H2 rb i => ?_
    obtain ⟨a', vs', e', hs', r2⟩ := hq.sq (by rw [← ok.fmK]; exact rb) rx'
    cases e'
    rw [← ok.fmK] at hs'
    unfold enumL
    rw [List.getElem?_mapIdx]
    refine ⟨fun d hd => ?_, fun hn => ⟨vs', hs', ?_⟩⟩
    · cases hx : xs[i]? with
      | none => rw [hx] at hd; cases hd
      | some d0 =>
        rw [hx] at hd
        cases hd
        obtain ⟨v, h1, h2⟩ := r2.get hx
        refine ⟨⟨vs', v, hs', h1⟩, fun x H3 ⟨T, y, e1, e2, e3, hy⟩ => ?_⟩
        subst e1; subst e3
        have := hy vs' hs'
        rw [h1] at this
        cases this
        refine ⟨newSame e2, T, _, rfl, .inr ⟨cl_of upd_same, e2⟩, .int (i : Nat), _, rfl, rfl, _, [], rfl, S.mono h2 fun a o z => .inl ⟨rfl, z⟩, rfl⟩
    · cases hx : xs[i]? with
      | none => rw [List.getElem?_eq_none_iff] at hx; rw [← r2.length]; exact hx
      | some d0 => rw [hx] at hn; cases hn
  | ex c => exact q
  | no => exact q
variable {Q2 : Ty (List β)}
def zipL {α β : Type} (xs : List α) (ys : List β) : List (α × β × Unit) := (xs.zip ys).map fun q => (q.1, q.2, ())
theorem evi_zip {m1 : M (List α)} {m2 : M (List β)} {elts : List Expr} {kk : Nat} {tpos : Pos} (ok : Ok p sc NN VV GG k g) (hq : IsSq p.K Q S) (hq2 : IsSq p.K Q2 T) (hG : GG[j]? = some "zip") (hmg : p.mg "zip" = none) (ha : EvE g L a md Q m1) (hb : EvE g L b md Q2 m2)
    (hs1 : starEach [a, b] g.X.env = (false, eval a g.X.env) :: starEach [b] g.X.env := by rfl) (hs2 : starEach [b] g.X.env = (false, eval b g.X.env) :: starEach [] g.X.env := by rfl) (hpl : (backTo pos (starEach [b] g.X.env)).any (·.1) = false := by rfl) :
    EvI g L (.Tuple elts kk tpos) (.Call (.Name "zip" pp) [a, b] [] pos) (tTup (aCons S (aCons T aNil))) (m1.bind fun xs => m2.bind fun ys => .ok (zipL xs ys)) := by
  obtain ⟨hg, ho⟩ := ok.gl hG
  refine PI.imp (pi_zip hg (by rw [ok.mg]; exact hmg) (eva_cons ha (eva_cons hb eva_nil hs2) hs1) hs1 hpl) fun σ H R ⟨kp, own, at_, q⟩ => ?_
  refine tA_iff.mpr ⟨kp, own, at_, ?_⟩
  cases m1 with
  | ok xs =>
    cases m2 with
    | ok ys =>
      rintro vs H' s ⟨v, r, rfl, rx, v2, r2, rfl, ry, e3⟩
      cases (show r2 = [] from e3)
      have rx' : Q.rep xs v (RD g.fm own H') := Q.mono rx RX.sh
      have ry' : Q2.rep ys v2 (RD g.fm own H') := Q2.mono ry RX.sh
      have rb0 : Rdb p.K (RD g.fm own H') H' := by rw [← ok.fmK]; exact RD.rdb
      obtain ⟨ad, vs, rfl, h, r⟩ := hq.sq rb0 rx'
      obtain ⟨bd, ws, rfl, h', r'⟩ := hq2.sq rb0 ry'
      refine ⟨ad, bd, vs, ws, rfl, by rw [ok.K]; exact h, by rw [ok.K]; exact h', ?_⟩
      rw [show Itz g.X.K ad bd = Itz g.fm.K ad bd from by rw [ok.K, ok.fmK]]
      refine q _ H' s fun H2 rb i => ?_
      obtain ⟨a', vs', e', hs', r2⟩ := hq.sq (by rw [← ok.fmK]; exact rb) rx'
      cases e'
      obtain ⟨b', ws', e'', hs'', r3⟩ := hq2.sq (by rw [← ok.fmK]; exact rb) ry'
      cases e''
      rw [← ok.fmK] at hs' hs''
      unfold zipL
      rw [List.getElem?_map]
      refine ⟨fun d hd => ?_, fun hn => ⟨vs', ws', hs', hs'', ?_⟩⟩
      · cases hx : (xs.zip ys)[i]? with
        | none => rw [hx] at hd; cases hd
        | some d0 =>
          rw [hx] at hd
          cases hd
          obtain ⟨hx1, hx2⟩ := List.getElem?_zip_eq_some.mp hx
          obtain ⟨v, h1, h2⟩ := r2.get hx1
          obtain ⟨w, h3, h4⟩ := r3.get hx2
          refine ⟨⟨vs', ws', v, w, hs', hs'', h1, h3⟩, fun x H3 ⟨T', y, z, e1, e2, e3, hy, hz⟩ => ?_⟩
          subst e1; subst e3
          have q1 := hy vs' hs'
          rw [h1] at q1
          cases q1
          have q2 := hz ws' hs''
          rw [h3] at q2
          cases q2
          refine ⟨newSame e2, T', _, rfl, .inr ⟨cl_of upd_same, e2⟩, _, _, rfl, S.mono h2 fun a o z => .inl ⟨rfl, z⟩, _, [], rfl, T.mono h4 fun a o z => .inl ⟨rfl, z⟩, rfl⟩
      · cases hx : (xs.zip ys)[i]? with
        | none =>
          rw [List.getElem?_eq_none_iff, List.length_zip] at hx
          rw [← r2.length, ← r3.length]
          omega
        | some d0 => rw [hx] at hn; cases hn
    | ex c => exact q
    | no => exact q
  | ex c => exact q
  | no => exact q
/-! ### tuples compared -/
structure DeepA (A : Ar δ) where
  pd : δ → List PyData
  dp : Nat
  rep : ∀ {K d vs R H}, Rdb K R H → A.rep d vs R → DpAll K H vs (pd d) ∧ PyData.canLayAll0 (pd d) = true
  dep : ∀ d, PyData.depthAll (pd d) ≤ dp
  eqv : ∀ d e, PyData.eqvAll (pd d) (pd e) = true ↔ d = e
def dNil : DeepA aNil := ⟨fun _ => [], 0, fun rb h => by cases (show _ = [] from h); exact ⟨.nil, rfl⟩, fun _ => by simp [PyData.depthAll], fun d e => by simp [PyData.eqvAll]⟩
def dCons (D : Deep S) (E : DeepA A) : DeepA (aCons S A) := ⟨fun d => D.pd d.1 :: E.pd d.2, max D.dp E.dp, fun {K d vs R H} rb ⟨v, r, e, h1, h2⟩ => by
    subst e
    obtain ⟨a1, a2⟩ := D.rep rb h1
    obtain ⟨b1, b2⟩ := E.rep rb h2
    exact ⟨.cons a1 b1, by simp only [PyData.canLayAll0, a2, b2, Bool.and_self]⟩, fun d => by
    have h1 := D.dep d.1
    have h2 := E.dep d.2
    simp only [PyData.depthAll]
    omega, fun d e => by
    simp only [PyData.eqvAll, Bool.and_eq_true, D.eqv, E.eqv]
    exact ⟨fun h => Prod.ext h.1 h.2, fun h => by rw [h]; exact ⟨rfl, rfl⟩⟩⟩
def dTup (E : DeepA A) : Deep (tTup A) := ⟨fun d => .tuple (E.pd d), E.dp + 1, fun {K ds v R H} rb ⟨a, vs, e, h, r⟩ => by
    subst e
    obtain ⟨h1, h2⟩ := E.rep rb r
    exact ⟨.tup ((rb _ _ h).imp id id) h1, h2⟩, fun ds => by simp only [PyData.depth]; have := E.dep ds; omega, fun d e => by
    simp only [PyData.eqv]
    exact E.eqv d e⟩
/-! ### a < b < c -/
structure ChI (op : CmpOp) (f : Int → Int → Bool) : Prop where
  ex : ∀ {K : PySem.W.Frag} {X : Cx}, ∃ r, OpR X (compareOp op) r ∧ Op2 K r tInt tInt tBool (fun x y => .ok (f x y)) false
theorem ch_lt : ChI .Lt (fun x y => decide (x < y)) := ⟨⟨_, op_lt, ⟨fun rb rx ry q => ⟨_, _, rx, ry, q _ _ (Same.refl _) rfl⟩⟩⟩⟩
theorem ch_le : ChI .LtE (fun x y => decide (x ≤ y)) := ⟨⟨_, op_le, ⟨fun rb rx ry q => ⟨_, _, rx, ry, q _ _ (Same.refl _) rfl⟩⟩⟩⟩
theorem evt_chainI {op op' : CmpOp} {f f' : Int → Int → Bool} {m1 m2 m3 : M Int} {d1 d2 d3 : Int} (ok : Ok p sc NN VV GG k g) (F : ChI op f) (F' : ChI op' f') (ha : EvE g L a md tInt m1) (hb : EvE g L b md tInt m2) (hc : EvE g L c md tInt m3) (e1 : m1 = .ok d1) (e2 : m2 = .ok d2) (e3 : m3 = .ok d3)
    (hm : lastMarks [op, op'] [b, c] = false := by with_unfolding_all rfl) : EvT g L (.Compare a [op, op'] [b, c] pos) (.ok (f d1 d2 && f' d2 d3)) := by
  subst e1; subst e2; subst e3
  obtain ⟨r, h1, h2⟩ := F.ex (K := p.K) (X := g.X)
  obtain ⟨r', h1', h2'⟩ := F'.ex (K := p.K) (X := g.X)
  exact evt_chain ok h1 h1' h2 h2' ha hb hc hm
/-! ### xs.extend(ys) -/
variable {st : List Stmt} {D : δ → Out} {d : δ}
theorem evb_extend {bb : Bool} {ds : List α} {m : M (List α)} {f : List α → M δ} {p1 ap cp : Pos} (ok : OkS p sc NN VV GG k g) (wk : Wk L g.LX) (hN : NN[i]? = some x) (hV : VV[j]? = some x) (hL : L[i]? = some (sOwn bb S ds)) (hb : SlB md bb)
    (he : EvE g L e md (tList S) m) (hr : ∀ ds', EvB g (L.set i (sOwn bb S ds')) st D (f ds'))
    (hs : swapsWith (.Call (.Attribute (.Name x p1) "extend" ap) [e] [] cp) none pos.line g.X.env = pure false := by rfl)
    (hbase : attributeBase (.Name x p1) "extend" g.X.env (eval (.Name x p1) g.X.env) = eval (.Name x p1) g.X.env := by rfl)
    (hfew : ((backTo cp (starEach [e] g.X.env)).all (fun x => !x.1) && (backToKw cp (keywordEach [] g.X.env)).all (fun x => x.1.isSome)
      && decide (([e] : List Expr).length + ([] : List Keyword).length + (if ([] : List Keyword).isEmpty then 0 else 1) < 30)) = true := by rfl)
    (hline : (ap.endLine == cp.line) = true := by rfl) (hst : starEach [e] g.X.env = (false, eval e g.X.env) :: starEach [] g.X.env := by rfl) (hpl : (backTo cp (starEach [] g.X.env)).any (·.1) = false := by rfl) :
    EvB g L (.Expr (.Call (.Attribute (.Name x p1) "extend" ap) [e] [] cp) pos :: st) D (m.bind fun d => (catL ds d).bind f) := by
  obtain ⟨hv, ho⟩ := ok.vis hV
  obtain ⟨h1, h2, _⟩ := okName_d ho
  refine PSs.imp (pss_cons (ps_expr (pe_bm PySem.F.plainAttrs_list PySem.F.slot_list_extend PySem.F.type_list_extend mt_extR (pe_var (i := i) (by rw [ok.N]; exact hN) hv h1 h2) (pa_cons he pa_nil hst) (hbase := hbase) (hfew := hfew) (hline := hline) (hs := hst) (hplain := hpl)) hs) (PSs.ex hr)) fun E σ H ⟨kp, own, at_, q⟩ => ?_
  obtain ⟨p', vs, e1, hp, r, mu⟩ := at_.mut hL
  refine ⟨_, e1, Or.inl ⟨rfl, _, SqL.of hp⟩, tE_iff.mpr ⟨kp, own, at_, ?_⟩⟩
  cases m with
  | ok d =>
    rintro v H1 s1 ⟨ad, ws, rfl, h3, r3⟩
    have a1 := at_.ext s1
    obtain ⟨p2, vs2, e12, hp2, rr2, mu2⟩ := a1.mut hL
    rw [e1] at e12
    cases e12
    have q : BOk g kp E D ((catL ds d).bind f) := q
    unfold catL at q
    split at q
    · rename_i hlt
      have rb : Rdb g.fm.K (RX g.fm own H H1 md) H1 := RX.rdb
      refine ⟨_, ad, vs2, ws, rfl, rfl, hp2, rd_of rb h3, by rw [← rr2.length, ← r3.length]; exact hlt, ds ++ d, kp, own, mu2 _ _ (rr2.append (r3.mono hb.rb)), q⟩
    · exact q.elim
  | ex c => exact BOk.exx wk at_ q
  | no => exact q
end
end Hd

namespace Hd
open PySem PySem.Spec L2
/-! ### a caught refusal, kept as a value (the rule for the statement goes the way of the layer's ps_try_as; here what was caught stays known behind the suite) -/
def ExQ (cls : Value) (a : Addr) : HO := .ext fun h => ∃ (oe : Obj) (vs : Array Value), h.get? a = some oe ∧ Zc cls none oe ∧ oe.data = .fields vs
theorem exQ_ok {P : Program} {w : World} {H : Hp} {h : Heap} {a : Addr} {cls : Value} {oe : Obj} {vs : Array Value} (e : h.get? a = some oe) (z : Zc cls none oe) (dd : oe.data = .fields vs) : ObjOk P w H h a (ExQ cls a) :=
  ⟨⟨oe, vs, e, z, dd⟩, ⟨oe, e⟩, fun _ _ ⟨o, v, q, r⟩ k => ⟨o, v, k o q, r⟩⟩
section
variable {X : Cx} {pins : List (Addr × Obj)} {σ : L2.St} {H : Hp} {s : Shared}
theorem track {a : Addr} {oe : Obj} {vs : Array Value} {cls : Value} (I : Inv X pins σ H s) (he : s.heap.get? a = some oe) (hz : Zc cls none oe) (hd : oe.data = .fields vs) (na : H a = none) (nL : a ≠ X.env.locals)
    (nC : ∀ y z, X.env.cells.lookup y = some z → z ≠ a) (nP : ∀ r ∈ X.pn ++ pins, r.1 ≠ a) (n0 : X.s_0.heap.get? a = none) : Inv X pins σ (upd H a (ExQ cls a)) s := by
  have ne : ∀ {b : Addr} {u : HO}, H b = some u → b ≠ a := fun e z => by rw [z, na] at e; cases e
  refine ⟨I.ok, I.os, I.bare, ⟨I.base.keep, I.base.slot, fun b o e n hx => ?_, I.base.there, fun b xs e => ?_, fun b o u e => ?_, fun b ps e => ?_⟩, I.loc, I.cell, ?_, fun y z e => ?_, fun r hr => ?_, fun b o e => ?_, I.len⟩
  · rw [upd_ne (fun z => by rw [z, n0] at e; cases e)]; exact I.base.free b o e n hx
  · have := I.base.tups b xs e
    rw [upd_ne (ne this)]; exact this
  · have := I.base.frzs b o u e
    rw [upd_ne (ne this)]; exact this
  · obtain ⟨more, this⟩ := I.base.tbls b ps e
    exact ⟨more, by rw [upd_ne (ne this)]; exact this⟩
  · rw [upd_ne (Ne.symm nL)]; exact I.free
  · rw [upd_ne (nC y z e)]; exact I.freeC y z e
  · obtain ⟨p1, p2, p3⟩ := I.pin r hr
    exact ⟨p1, by rw [upd_ne (nP r hr)]; exact p2, p3⟩
  · by_cases hb : b = a
    · subst hb
      rw [upd_same] at e
      cases e
      exact exQ_ok he hz hd
    · rw [upd_ne hb] at e
      exact (I.hok b o e).stay (fun c v _ q => q) (fun c q => by rw [upd_ne (ne q)]; exact q) fun c xs q => by rw [upd_ne (ne q)]; exact q
end
/-- what the clause wishes of an exception of the body -/
def wKp (K : PySem.W.Frag) (c : Value) (i : Nat) (ts : Addr → Value → Option Addr → TS) (Wout : WX) (D : Ends) : WX := fun cls dd σ H =>
  ∃ b, PySem.W.exmOne K cls c = some b ∧ (b = true → dd = none ∧ ∀ a, H a = none → ts a cls dd { nx := fun τ Hq => D.nx (τ.set i none) (upd Hq a (ExQ cls a)), rt := fun _ _ => False, bk := fun _ _ => False, ct := fun _ _ => False } (σ.set i (some (.ref a))) H) ∧ (b = false → Wout cls dd σ H)
section
variable {Y : Cx} {x n : Str} {c : Value} {i : Nat} {body suite : List Stmt} {b₀ : Stmt} {np pos pos' : Pos} {tb : WX → TS} {ts : Addr → Value → Option Addr → TS} {Wout : WX}
theorem ps_keep (hs : Y.stack = Y.env :: Y.outer) (hf : Y.env.frame = some Y.env.locals) (hex : Y.ex = []) (hN : Y.N.Nodup) (hi : Y.N[i]? = some n) (hln : Y.env.kindOf n = some .local) (hc : Names Y x c) (tk : Takes Y Wout)
    (hb : ∀ (W : WX) (pn : List (Addr × Obj)) (xe : Value → Shared → Prop), Takes (Y.tr pn xe) W → PassesOwn (model Y.prog Y.w) Y.A Y.env xe → PSs (Y.tr pn xe) body (tb W))
    (hsu : ∀ (ad : Addr) (oE : Obj) (cl : Value) (dd : Option Addr) (pn : List (Addr × Obj)), Zc cl dd oE → (∃ vs, oE.data = .fields vs) → PSs (Y.suite ad ((ad, oE) :: pn)) (b₀ :: suite) (ts ad cl dd)) :
    PS Y (.Try body [.ExceptHandler (some (.Name x np)) (some n) (b₀ :: suite) pos'] [] [] pos) (fun D σ H => tb (wKp Y.K c i ts Wout D) D σ H) := by
  refine ⟨fun pz s σ H D I h => ?_⟩
  have oK := I.ok
  have hfR : Y.A.frames = some (Y.env :: Y.outer) := by rw [oK.frames, hs]
  have hlC : Loc Y.env.scope n := .inl hln
  refine wpAny_Try_except ?_
  refine wpAny_mono ((hb (wKp Y.K c i ts Wout D) (Y.pn ++ pz) (fun e s₁ => wpAny (model Y.prog Y.w) Y.A (noteFrame e Y.env) (fun _ s₂ => wpAny (model Y.prog Y.w) Y.A (setFlight e none) (fun _ s₃ =>
    wpAny (model Y.prog Y.w) Y.A (handleBy e Y.env [.ExceptHandler (some (.Name x np)) (some n) (b₀ :: suite) pos']) (SP Y pz D) Y.xe s₃) Y.xe s₂) Y.xe s₁) (fun u sq xx => ?_) PassesOwn.looking).run [] s σ H D (I.toTry _) h) (fun f s1 hp => ?_) (fun e s1 hE => hE)
  · -- the catch
    obtain ⟨ad, B, sJ, py, τ, Hq, cl, dd, rfl, Jq, nB, uP, sKy, nA, oS, aG, b, bb1, hY, hN0⟩ := xx
    have Jz : Inv Y pz τ Hq sJ := Jq.ofTry oK
    have sKq : Sky B (Y.env :: Y.outer) ad (Zc cl dd) Y.env.locals sq.heap := by rw [← hs]; exact sKy
    show wpAny (model Y.prog Y.w) Y.A (noteFrame (.ref ad) Y.env) _ _ _
    refine Sky.land Zc.steady hfR hf sKq fun k3 fL uQ => ?_
    have Jt : Inv Y pz τ Hq { sq with heap := k3 } := Jz.landed nB fL.1 (uP.trans uQ) oS aG
    obtain ⟨oT, vT, eT, zT, dT⟩ := fL.there
    have nFr : ∀ {h : Heap} {o : Obj} {vs : Array Value}, h.FunFrames B (Y.env :: Y.outer) → h.get? ad = some o → o.data = .fields vs → ad ∉ frs (Y.env :: Y.outer) := fun {h o vs} ff e dd hm => by
      obtain ⟨_, o', e', hnf⟩ := ff.mem hm
      rw [e] at e'; cases e'
      exact hnf _ dd
    have nfq := nFr fL.2.2.1 eT dT
    have nL : ad ≠ Y.env.locals := fun z => nfq (List.mem_filterMap.mpr ⟨Y.env, List.mem_cons_self, by rw [hf, z]⟩)
    have nF : ad ∉ Y.fs := fun hm => by
      obtain ⟨e, hE, q⟩ := List.mem_filterMap.mp hm
      exact nfq (List.mem_filterMap.mpr ⟨e, List.mem_cons_of_mem _ hE, q⟩)
    have St := Jt.suite eT dT nA nL nF
    refine wpAny_handleBy_cons (codeAny_handlers_test ?_) (by intro q; cases q)
    have lT : PySem.W.Looks (model Y.prog Y.w) k3 (typeOf (.ref ad)) cl := fun A Q E s k q => wpAny_typeOf_ref (k _ _ eT) (by rw [zT.1]; exact q)
    have lM := PySem.W.exm_one (M := model Y.prog Y.w) (Jt.kIn) lT bb1
    have tst : ∀ {Q : Value → Shared → Prop} {E : Value → Shared → Prop}, Q c { sq with heap := k3 } → wpAny (model Y.prog Y.w) (Y.A.mark (some (.ref ad))) (eval (.Name x np) Y.env) Q E { sq with heap := k3 } := fun {Q E} q => by
      obtain ⟨hg, hdbg, hm | ⟨hm, hv, hnn⟩⟩ := hc
      · exact ld_glob (X := Y.suite ad ((ad, oT) :: (Y.pn ++ pz))) St hg hm q hdbg
      · exact ld_blt (X := Y.suite ad ((ad, oT) :: (Y.pn ++ pz))) St hg hm hv q hnn hdbg
    refine tst (lM.here ?_)
    cases b with
    | true =>
      obtain rfl := (hY rfl).1
      refine codeAny_handlers_suite_as ?_
      refine HandSPX.lands_againZ fL fun k4 fM uR => ?_
      have Ju : Inv Y pz τ Hq { sq with heap := k4 } := Jz.landed nB fM.1 ((uP.trans uQ).trans uR) oS aG
      obtain ⟨oU, vU, eU, zU, dU⟩ := fM.there
      have Su := Ju.suite eU dU nA nL nF
      refine store_ok (X := Y.suite ad ((ad, oU) :: (Y.pn ++ pz))) (v := .ref ad) Su hN hi hlC rfl (fun sv Sv => ?_) (.inr hln)
      refine wpAny_mono ((hsu ad oU cl none (Y.pn ++ pz) zU ⟨_, dU⟩).run [] sv _ Hq _ Sv ((hY rfl).2 ad nA)) (fun f sw hp => ?_) (fun _ _ z => False.elim z)
      have none_ : ∀ o, sJ.heap.get? ad = some o → False := fun o e => by
        have z := nB ad o e (by rw [hs]; exact nfq)
        rw [fM.2.1] at z
        cases z
      have n0 : Y.s_0.heap.get? ad = none := by
        cases e : Y.s_0.heap.get? ad with
        | none => rfl
        | some o =>
          obtain ⟨o2, e2⟩ := Jz.base.there ad o e (by rw [hex]; exact fun z => nomatch z)
          exact (none_ o2 e2).elim
      have nC : ∀ y z, Y.env.cells.lookup y = some z → z ≠ ad := fun y z e w => by
        obtain ⟨v, o, e2, _⟩ := Jz.cell y z e
        rw [w] at e2
        exact none_ o e2
      have nP : ∀ r ∈ Y.pn ++ pz, r.1 ≠ ad := fun r hr w => by
        have e2 := (Jz.pin r hr).1
        rw [w] at e2
        exact none_ _ e2
      cases f with
      | next =>
        obtain ⟨τw, Hw, Sw, qw⟩ := hp
        obtain ⟨g1, g2, _⟩ := Sw.pin (ad, oU) (List.mem_append.mpr (.inl List.mem_cons_self))
        exact gone_ok (track (Sw.unsuite oK) g1 zU dU g2 nL nC nP n0) hN hi hln fun sx Jx => ⟨_, _, Jx, qw⟩
      | brk =>
        obtain ⟨τw, Hw, Sw, qw⟩ := hp
        exact qw.elim
      | cont =>
        obtain ⟨τw, Hw, Sw, qw⟩ := hp
        exact qw.elim
      | ret u =>
        obtain ⟨v6, τw, Hw, Sw, r6, qw⟩ := hp
        exact qw.elim
    | false =>
      show wpAny _ Y.A (handleBy (.ref ad) Y.env []) _ _ _
      refine wpAny_handleBy_nil ?_
      obtain ⟨_, _, _, oE, vs, T, oT, _, hE, hz, hd, h1, hr⟩ := id fL
      unfold PySem.passOn
      refine wpAny_bind (wpAny_field hE hd h1 ?_)
      rw [if_neg (show ¬ ((Value.ref T == Value.none) = true) from by simp)]
      have fIn : wpAny (model Y.prog Y.w) Y.A (setFlight (.ref ad) Y.env.frame) (fun _ s4 => wpAny (model Y.prog Y.w) Y.A (throw (.ref ad) : Sem Flow) (SP Y pz D) Y.xe s4) Y.xe { sq with heap := k3 } := by
        rw [hf]
        refine HandSPX.setFlight_upZ fL fun k4 hh4 uR => wpAny_throw (tk _ _ ?_)
        exact ⟨ad, B, sJ, pz, τ, Hq, cl, dd, rfl, Jz, nB, (uP.trans uQ).trans uR, .inr (.inr (by rw [hs]; exact hh4)), nA, oS, aG, hN0 rfl⟩
      first
        | exact wpAny_bind (wpAny_pure (wpAny_bind fIn))
        | exact wpAny_bind fIn
  · cases f with
    | next =>
      obtain ⟨τ, Hq, Jq, q⟩ := hp
      exact wpAny_execs_nil ⟨τ, Hq, Jq.ofTry oK, q⟩
    | brk =>
      obtain ⟨τ, Hq, Jq, q⟩ := hp
      exact ⟨τ, Hq, Jq.ofTry oK, q⟩
    | cont =>
      obtain ⟨τ, Hq, Jq, q⟩ := hp
      exact ⟨τ, Hq, Jq.ofTry oK, q⟩
    | ret u =>
      obtain ⟨v, τ, Hq, Jq, r, q⟩ := hp
      exact ⟨v, τ, Hq, Jq.ofTry oK, r, q⟩
end
end Hd

namespace Hd
open PySem PySem.Spec L2
/-- c stands under d -/
def isB (c d : Ec) : Bool := decide (d = c) || decide (d = .weave)
/-- a caught refusal -/
def tExc (p : Pr) : Ty Ec := ⟨fun c v R => ∃ a, v = .ref a ∧ R a (ExQ (.ref (p.C c)) a), fun ⟨a, e, h⟩ s => ⟨a, e, s _ _ h⟩⟩
/-- a class of refusals, as a value -/
def tCls (p : Pr) : Ty Ec := ⟨fun c v _ => v = .ref (p.C c), fun h _ => h⟩
/-- what the head tells of the classes -/
structure Kn (p : Pr) (kn : List Ec) : Prop where
  isc : ∀ c ∈ kn, ExcC p.K (p.C c)
  exm : ∀ c ∈ kn, ∀ d ∈ kn, PySem.W.exmOne p.K (.ref (p.C c)) (.ref (p.C d)) = some (isB c d)
  kit : ∀ c ∈ kn, ∀ d ∈ kn, PySem.W.kitOne p.K (.ref (p.C c)) (.ref (p.C d)) = some (isB c d)
  kitV : ∀ c ∈ kn, PySem.W.kitOne p.K (.ref (p.C c)) (.type "ValueError") = some true
  kitN : ∀ c ∈ kn, PySem.W.kitOne p.K (.type "NoneType") (.ref (p.C c)) = some false
def tryM {β : Type} (kn : List Ec) (cx : Ec) (mb : M β) (h : Ec → β) : M β := match mb with
  | .ok s => .ok s
  | .ex c => if c ∈ kn then (if isB c cx = true then .ok (h c) else .ex c) else .no
  | .no => .no
theorem nn_exc {p : Pr} : NotNon (tExc p) := ⟨fun ⟨a, e, _⟩ => by subst e; exact fun z => nomatch z⟩
section
variable {p : Pr} {sc : Scope} {NN VV GG VV' GG' : List Str} {k : Nat} {g : G} {L L' : List Slot} {a b c e e' : Expr} {es : List Expr} {md md' : Md} {α β γ δ ρ : Type} {S : Ty α} {T : Ty β} {U : Ty γ} {A : Ar δ} {pos : Pos} {K : PySem.W.Frag} {tg : Expr} {i j : Nat} {x : Str} {pp : Pos}
theorem At.setAnyV {fm : Fm} {kp : RdR} {σ : L2.St} {H : Hp} {own : List Addr} {v : Option V} (h : At fm kp L σ H own) : ∃ own', At fm kp (L.set i sAny) (σ.set i v) H own' ∧ ∀ p ∈ own', p ∈ own := by
  obtain ⟨h1, h2, ⟨Fs, h3, rfl⟩, h4, h5, h6⟩ := h
  have kk : ∀ p ∈ (Fs.set i []).flatten, p ∈ Fs.flatten := fun p hp => (set_sub (i := i)).subset hp
  exact ⟨_, ⟨h1, h2, ⟨Fs.set i [], (h3.st (RB.own kk) fun _ _ => rfl).set (s := sAny) (v := v) rfl i, rfl⟩, h4.sublist set_sub, fun p hp => h5 p (kk p hp), fun a o q => RX.own (md := .sh) (H := H) kk a o (h6 a o q)⟩, kk⟩
theorem wkL (h : g.LX = L') (w : Wk L L') : Wk L g.LX := h ▸ w
variable {st : List Stmt} {D : δ → Out} {d : δ}
/-- try: body / except X as e: y = e -/
theorem evb_tryA {kn : List Ec} {cx : Ec} {mb : M β} {h : Ec → β} {f : β → M δ} {LJ : β → List Slot} {body : List Stmt} {n y : Str} {iE iC jE jC : Nat} {np pos' p1 p2 p3 : Pos} (ok : OkS p sc NN VV GG k g) (wk : Wk L g.LX) (hkn : Kn p kn) (hcx : cx ∈ kn) (hx : p.mg x = some (.ref (p.C cx))) (hG : GG[j]? = some x)
    (hNE : NN[iE]? = some n) (hVE : VV[jE]? = some n) (hlE : isLoc sc n = true) (hNC : NN[iC]? = some y) (hVC : VV[jC]? = some y) {s₀ : Slot} (hLE : L[iE]? = some s₀)
    (hb : ∀ g', OkS p sc NN VV GG k g' → g'.LX = L → EvB g' L body (fun s => .nx (LJ s)) mb)
    (hh : ∀ c, Wk (((L.set iE sAny).set iC (sV false (tOpt (tExc p)) (some c))).set iE sAny) (LJ (h c))) (hr : ∀ s, EvB g (LJ s) st D (f s)) (hs : ∀ Y : Cx, swapsWith (.Name n p1) (some (.Name y p2)) p3.line Y.env = pure false := by intro _; rfl) :
    EvB g L (.Try body [.ExceptHandler (some (.Name x np)) (some n) [.Assign [.Name y p2] (.Name n p1) p3] pos'] [] [] pos :: st) D ((tryM kn cx mb h).bind f) := by
  obtain ⟨hg, ho⟩ := ok.gl hG
  obtain ⟨hvE, hoE⟩ := ok.vis hVE
  obtain ⟨n1, n2, _⟩ := okName_d hoE
  obtain ⟨_, hlE2⟩ := isLoc_k hlE
  have elE : g.X.env.scope.names.lookup n = some .local := by rw [ok.scp]; exact hlE2
  refine PSs.imp (pss_cons (ps_keep (i := iE) (c := .ref (p.C cx)) (tb := fun W D σ H => ∃ q : {W'' : Wx // ∀ c σ H, W'' c σ H → W (.ref (p.C c)) none σ H}, tB ⟨g.X, g.fm, q.1, L⟩ L (fun s => Out.nx (LJ s)) mb D σ H)
    (ts := fun ad cl dd => tAsg (tVar iE) (gName iC)) (Wout := fun cls d σ H => ∃ c, cls = .ref (p.C c) ∧ d = none ∧ g.W c σ H) ok.stk ok.frm ok.exn (by rw [ok.N]; exact ok.nd) (by rw [ok.N]; exact hNE) elE ⟨hg, (okName_d ho).1, .inl (by rw [ok.mg]; exact hx)⟩ ok.tk
    (fun W pn xe tkW psO => ?_) (fun ad oE cl dd pn _ _ => ?_)) (PSs.ex hr)) fun E σ H ⟨kp, own, at_, q⟩ => ?_
  · refine PSs.ex (t := fun (q : {W'' : Wx // ∀ c σ H, W'' c σ H → W (.ref (p.C c)) none σ H}) => tB ⟨g.X, g.fm, q.1, L⟩ L (fun s => Out.nx (LJ s)) mb) fun q => ?_
    exact hb ⟨g.X.tr pn xe, g.fm, q.1, L⟩
      { prog := ok.prog, w := ok.w, K := ok.K, mg := ok.mg, base := ok.base, N := ok.N, fmK := ok.fmK, tab := ok.tab, room := ok.room, nd := ok.nd, vis := ok.vis, gl := ok.gl
        tk := Takes.imp tkW fun cls d σ H ⟨c, e1, e2, z⟩ => by subst e1; subst e2; exact q.2 c σ H z
        calm := ok.calm, blk := ok.blk, loc := ok.loc, fnT := ok.fnT, psO := psO, scp := ok.scp, stk := ok.stk, frm := ok.frm, exn := ok.exn } rfl
  · exact pss_one (ps_set (i := iC) (by show g.X.N.Nodup; rw [ok.N]; exact ok.nd) (by show g.X.N[iC]? = _; rw [ok.N]; exact hNC) (ok.loc hVC) (pe_var (i := iE) (by show g.X.N[iE]? = _; rw [ok.N]; exact hNE) hvE n1 n2) (hs _) (.inl (ok.fnT y)))
  · have cont : ∀ c σ' H', c ∈ kn → isB c cx = true → (∃ own', At g.fm kp L σ' H' own') → BOk g kp E D (f (h c)) → ∀ ad, H' ad = none →
        ∃ d, tB g (LJ d) D (f d) E (((σ'.set iE (some (.ref ad))).set iC (some (.ref ad))).set iE none) (upd H' ad (ExQ (.ref (p.C c)) ad)) := fun c σ' H' _ _ ⟨own', a'⟩ qc ad hn => by
      have a1 := a'.ext (newSame (o := ExQ (.ref (p.C c)) ad) hn)
      obtain ⟨own2, a2, k2⟩ := At.setAnyV (i := iE) (v := some (.ref ad)) a1
      have hrep : (tOpt (tExc p)).rep (some c) (.ref ad) (RB g.fm own2 (upd H' ad (ExQ (.ref (p.C c)) ad)) false) := by
        refine ⟨⟨ad, rfl, .inl ⟨.inl (cl_of upd_same), fun z => ?_, fun z => ?_⟩⟩, fun z => nomatch z⟩
        · exact (a'.new ad (k2 ad z)).1 hn
        · exact a'.zin ad z hn
      obtain ⟨own3, a3⟩ := a2.setV (i := iC) (b := false) (T := tOpt (tExc p)) (d := some c) (v := .ref ad) hrep
      obtain ⟨own4, a4, _⟩ := At.setAnyV (i := iE) (v := none) a3
      obtain ⟨own5, a5, _⟩ := a4.weak (hh c)
      exact ⟨h c, kp, own5, a5, qc⟩
    refine ⟨⟨fun c σ' H' => (c ∈ kn → isB c cx = true → ∀ ad, H' ad = none → ∃ d, tB g (LJ d) D (f d) E (((σ'.set iE (some (.ref ad))).set iC (some (.ref ad))).set iE none) (upd H' ad (ExQ (.ref (p.C c)) ad))) ∧ (c ∈ kn) ∧ (isB c cx = false → g.W c σ' H') ∧ iE < σ'.length, fun c σ' H' ⟨z1, z2, z3, z4⟩ => ?_⟩, kp, own, at_, ?_⟩
    · refine ⟨isB c cx, by rw [ok.K]; exact hkn.exm c z2 cx hcx, fun hB => ⟨rfl, fun ad hn => ⟨.ref ad, by rw [List.getElem?_set_self z4], z1 z2 hB ad hn⟩⟩, fun hB => ⟨c, rfl, rfl, z3 hB⟩⟩
    · cases mb with
      | ok s => exact fun σ' H' own' a' => ⟨s, kp, own', a', q⟩
      | no => exact q.elim
      | ex c =>
        intro σ' H' own' a'
        have q : BOk g kp E D (((if c ∈ kn then (if isB c cx = true then M.ok (h c) else .ex c) else .no) : M β).bind f) := q
        by_cases hc : c ∈ kn
        · rw [if_pos hc] at q
          have hlen : iE < σ'.length := by rw [a'.len]; exact (List.getElem?_eq_some_iff.mp hLE).1
          refine ⟨fun _ hB ad hn => ?_, hc, fun hB => ?_, hlen⟩
          · rw [if_pos hB] at q
            exact cont c σ' H' hc hB ⟨own', a'⟩ q ad hn
          · rw [if_neg (by rw [hB]; exact Bool.false_ne_true)] at q
            obtain ⟨own2, a2, _⟩ := a'.weak wk
            exact q σ' H' own2 a2
        · rw [if_neg hc] at q; exact q.elim
/-! ### what kind of refusal -/
def KitQ (K : PySem.W.Frag) (H : Hp) (v : V) (t : Value) : Prop := (v = .non ∧ t = .type "NoneType") ∨ ∃ a D, v = .ref a ∧ t = .ref D ∧ ExcC K D ∧ Rd H a (ExQ (.ref D) a)
theorem kit_q {X : Cx} {pins : List (Addr × Obj)} {σ : L2.St} {H : Hp} {s : Shared} {v : V} {u t : Value} (I : Inv X pins σ H s) (rx : RelV v u) (q : KitQ X.K H v t) : ∃ P : Heap → Prop, PySem.W.KitX X.K u t P ∧ P s.heap ∧ u ≠ .builtin "__main__.__loader__#opaque" := by
  rcases q with ⟨rfl, rfl⟩ | ⟨a, D, rfl, rfl, C, h⟩
  · cases (show u = Value.none from rx)
    exact ⟨_, PySem.W.kitx_none, True.intro, fun z => nomatch z⟩
  · cases (show u = Value.ref a from rx)
    obtain ⟨⟨oe, vs, he, hz, hd⟩, _⟩ := (show ObjOk X.prog X.w H s.heap a (ExQ (.ref D) a) from h.ok I.hok)
    have J : PySem.W.InstAt s.heap a oe D none := by
      obtain ⟨oc, od, oda, osl⟩ := oe
      obtain ⟨h1, h2⟩ := hz
      dsimp only at h1 h2 hd
      subst h1 h2 hd
      exact ⟨he, rfl, rfl, trivial⟩
    exact ⟨_, PySem.W.handS_kitx_exc C.hg C.hk C.hs C.hd C.ha C.hn C.ht C.hm, J, fun z => nomatch z⟩
def rIsQ (K : PySem.W.Frag) : List V → Hp → VK → Prop := fun xs H Q => ∃ (x c : V) (t u : Value) (b : Bool), xs = [x, c] ∧ ClsV c u ∧ KitQ K H x t ∧ PySem.W.kitOne K t u = some b ∧ Q (.bl b) H
theorem call_isQ {X : Cx} : CallR X (.builtin "isinstance") (rIsQ X.K) := by
  intro pins s σ H xs us Q I r h
  obtain ⟨x, c, t, u, b, rfl, k, ty, e, q⟩ := h
  cases r with
  | cons r1 rr =>
    cases rr with
    | cons r2 rr =>
      cases rr
      have e2 := k.eq r2
      subst e2
      obtain ⟨P, Z, hP, hx⟩ := kit_q I r1 ty
      exact PySem.W.kia_one Z I.kIn hP e hx fun tk => ⟨.bl b, H, I.tok tk, rfl, q⟩
def rIsQT (K : PySem.W.Frag) : List V → Hp → VK → Prop := fun xs H Q => ∃ (x : V) (tp : Addr) (cs : List V) (t : Value) (us : List Value) (b : Bool), xs = [x, .ref tp] ∧ SqT K H tp cs ∧ Paired ClsV cs us ∧ KitQ K H x t ∧ PySem.W.kitAny K t us = some b ∧ Q (.bl b) H
theorem call_isQT {X : Cx} : CallR X (.builtin "isinstance") (rIsQT X.K) := by
  intro pins s σ H xs us Q I r h
  obtain ⟨x, tp, cs, t, ws, b, rfl, hT, k, ty, e, q⟩ := h
  cases r with
  | cons r1 rr =>
    cases rr with
    | @cons _ u2 _ _ r2 rr =>
      cases rr
      cases (show u2 = Value.ref tp from r2)
      obtain ⟨P, Z, hP, hx⟩ := kit_q I r1 ty
      obtain ⟨its, rv, ⟨o, h1, h2, n, h3⟩, _⟩ := I.tuple hT
      have e3 := ClsV.all k rv
      subst e3
      obtain ⟨oc, od, dt, sl⟩ := o
      simp only at h2 h3
      subst h2 h3
      exact PySem.W.kia_tup Z I.kIn hP h1 e hx fun tk => ⟨.bl b, H, I.tok tk, rfl, q⟩
/-- isinstance(caught, X), X a class of refusals -/
def isEM (kn : List Ec) (c : Option Ec) (d : Ec) : M Bool := match c with
  | none => .ok false
  | some c => if c ∈ kn then .ok (isB c d) else .no
theorem isEM_ne {kn : List Ec} {c : Option Ec} {d : Ec} {z : Ec} : isEM kn c d ≠ .ex z := by unfold isEM; split <;> (try split) <;> exact fun h => nomatch h
/-- isinstance(caught, (X, Y, ..)) -/
def isEsM (kn : List Ec) (c : Option Ec) (ds : List Ec) : M Bool := match c with
  | none => .ok false
  | some c => if c ∈ kn then .ok (ds.any fun d => isB c d) else .no
theorem isEsM_ne {kn : List Ec} {c : Option Ec} {ds : List Ec} {z : Ec} : isEsM kn c ds ≠ .ex z := by unfold isEsM; split <;> (try split) <;> exact fun h => nomatch h
/-- isinstance(caught, ValueError) -/
def isVM (kn : List Ec) (c : Option Ec) : M Bool := match c with
  | none => .ok false
  | some c => if c ∈ kn then .ok true else .no
theorem isVM_ne {kn : List Ec} {c : Option Ec} {z : Ec} : isVM kn c ≠ .ex z := by unfold isVM; split <;> (try split) <;> exact fun h => nomatch h
theorem ev_cls {cc : Ec} (ok : Ok p sc NN VV GG k g) (hG : GG[j]? = some x) (hx : p.mg x = some (.ref (p.C cc))) : EvE g L (.Name x pos) md (tCls p) (.ok cc) := ev_glob (v := .ref (p.C cc)) ok hG hx rfl (fun _ => rfl)
theorem kitQ_some {kn : List Ec} (hkn : Kn p kn) {c : Ec} (hc : c ∈ kn) {R : RdR} {H : Hp} {v : V} (rb : Rdb p.K R H) (h : (tExc p).rep c v R) : KitQ p.K H v (.ref (p.C c)) := by
  obtain ⟨a, e, h⟩ := h
  exact .inr ⟨a, p.C c, e, rfl, hkn.isc c hc, (rb _ _ h).resolve_right fun z => z⟩
theorem ev_isE {kn : List Ec} {dd : Ec} {m : M (Option Ec)} (ok : Ok p sc NN VV GG k g) (hkn : Kn p kn) (hd : dd ∈ kn) (hG : GG[j]? = some "isinstance") (hmg : p.mg "isinstance" = none) (ha : EvE g L a md (tOpt (tExc p)) m) (hb : EvE g L b md (tCls p) (.ok dd))
    (hs1 : starEach [a, b] g.X.env = (false, eval a g.X.env) :: starEach [b] g.X.env := by rfl) (hs2 : starEach [b] g.X.env = (false, eval b g.X.env) :: starEach [] g.X.env := by rfl)
    (hpl : (backTo pos (starEach [b] g.X.env)).any (·.1) = false := by rfl) : EvE g L (.Call (.Name "isinstance" pp) [a, b] [] pos) md' tBool (m.bind fun c => isEM kn c dd) := by
  have h := ev_b2 (S := tOpt (tExc p)) (T := (⟨fun _ v _ => v = .ref (p.C dd), fun h _ => h⟩ : Ty Unit)) (md' := md') (U := tBool) (f := fun c _ => isEM kn c dd) (m2 := .ok ()) (fr := true) (pp := pp) (pos := pos) ok call_isQ (fun {d e v w R H W} rb h1 h2 q => by
    unfold isEM at q
    cases d with
    | none =>
      cases (show v = .non from h1)
      exact ⟨.non, w, .type "NoneType", .ref (p.C dd), false, rfl, by rw [h2]; exact .own _, .inl ⟨rfl, rfl⟩, by rw [ok.K]; exact hkn.kitN dd hd, q _ _ (Same.refl _) rfl⟩
    | some c =>
      by_cases hc : c ∈ kn
      · simp only [if_pos hc] at q
        exact ⟨v, w, .ref (p.C c), .ref (p.C dd), isB c dd, rfl, by rw [h2]; exact .own _, by rw [ok.K]; exact kitQ_some hkn hc rb h1.1, by rw [ok.K]; exact hkn.kit c hc dd hd, q _ _ (Same.refl _) rfl⟩
      · simp only [if_neg hc] at q
        exact q.elim) (fun _ _ _ => isEM_ne) .fresh hG hmg (by decide +kernel) ha (ev_asP (T := (⟨fun _ v _ => v = .ref (p.C dd), fun h _ => h⟩ : Ty Unit)) (d2 := ()) (fun v R r => r) hb) hs1 hs2 hpl
  have e : (m.bind fun d => (M.ok ()).bind fun _ => isEM kn d dd) = m.bind fun c => isEM kn c dd := by cases m <;> rfl
  rwa [e] at h
theorem ev_isV {kn : List Ec} {m : M (Option Ec)} (ok : Ok p sc NN VV GG k g) (hkn : Kn p kn) (hG : GG[j]? = some "isinstance") (hmg : p.mg "isinstance" = none) (ha : EvE g L a md (tOpt (tExc p)) m) (hb : EvE g L b md (tTy "ValueError") (.ok ()))
    (hs1 : starEach [a, b] g.X.env = (false, eval a g.X.env) :: starEach [b] g.X.env := by rfl) (hs2 : starEach [b] g.X.env = (false, eval b g.X.env) :: starEach [] g.X.env := by rfl)
    (hpl : (backTo pos (starEach [b] g.X.env)).any (·.1) = false := by rfl) : EvE g L (.Call (.Name "isinstance" pp) [a, b] [] pos) md' tBool (m.bind fun c => isVM kn c) := by
  have h := ev_b2 (S := tOpt (tExc p)) (T := tTy "ValueError") (md' := md') (U := tBool) (f := fun c _ => isVM kn c) (m2 := .ok ()) (fr := true) (pp := pp) (pos := pos) ok call_isQ (fun {d e v w R H W} rb h1 h2 q => by
    unfold isVM at q
    cases d with
    | none =>
      cases (show v = .non from h1)
      exact ⟨.non, w, .type "NoneType", .type "ValueError", false, rfl, by rw [h2]; exact .ty _, .inl ⟨rfl, rfl⟩, kit_ty (by decide +kernel), q _ _ (Same.refl _) rfl⟩
    | some c =>
      by_cases hc : c ∈ kn
      · simp only [if_pos hc] at q
        exact ⟨v, w, .ref (p.C c), .type "ValueError", true, rfl, by rw [h2]; exact .ty _, by rw [ok.K]; exact kitQ_some hkn hc rb h1.1, by rw [ok.K]; exact hkn.kitV c hc, q _ _ (Same.refl _) rfl⟩
      · simp only [if_neg hc] at q
        exact q.elim) (fun _ _ _ => isVM_ne) .fresh hG hmg (by decide +kernel) ha hb hs1 hs2 hpl
  have e : (m.bind fun d => (M.ok ()).bind fun _ => isVM kn d) = m.bind fun c => isVM kn c := by cases m <;> rfl
  rwa [e] at h
theorem kitAny_map {kn : List Ec} (hkn : Kn p kn) {c : Ec} (hc : c ∈ kn) : ∀ ds : List Ec, (∀ d ∈ ds, d ∈ kn) → PySem.W.kitAny p.K (.ref (p.C c)) (ds.map fun d => .ref (p.C d)) = some (ds.any fun d => isB c d)
  | [], _ => rfl
  | d :: ds, h => by
    rw [List.map_cons, List.any_cons]
    refine kitAny_cons (b := isB c d) (hkn.kit c hc d (h d List.mem_cons_self)) (fun e => ?_) fun e => by rw [e]; rfl
    rw [e, Bool.false_or]
    exact kitAny_map hkn hc ds fun z hz => h z (List.mem_cons_of_mem _ hz)
theorem kitAny_none {kn : List Ec} (hkn : Kn p kn) : ∀ ds : List Ec, (∀ d ∈ ds, d ∈ kn) → PySem.W.kitAny p.K (.type "NoneType") (ds.map fun d => .ref (p.C d)) = some false
  | [], _ => rfl
  | d :: ds, h => by
    rw [List.map_cons]
    exact kitAny_cons (hkn.kitN d (h d List.mem_cons_self)) (fun _ => kitAny_none hkn ds fun z hz => h z (List.mem_cons_of_mem _ hz)) fun e => by cases e
theorem reps_cls {R : RdR} {ds : List Ec} {vs : List V} (r : Reps (tCls p) R ds vs) : Paired ClsV vs (ds.map fun d => .ref (p.C d)) := by
  induction r with
  | nil => exact .nil
  | cons h _ ih => cases h; exact .cons (.own _) ih
/-- a tuple of things of one kind -/
theorem ev_tupL {n : Nat} {m : M (List α)} {x1} (h : LenM n m) (hn : n ≤ 1000) (ha : EvA g L es md (aAll S) m) : EvE g L (.Tuple es x1 pos) md (tTupL S) m := by
  refine PE.imp (pe_tup ha) fun σ H Q q => ?_
  obtain ⟨kp, own, at_, q⟩ := tE_iff.mp q
  refine tA_iff.mpr ⟨kp, own, at_, ?_⟩
  cases m with
  | ok d => exact fun vs H1 s1 r1 => ⟨Nat.le_trans (by rw [← tupL_le r1, h d rfl]; exact hn) (by decide), fun p hp => q _ _ (s1.trans (newSame hp)) ⟨p, vs, rfl, newRX (at_.ext s1) s1 hp, Reps.mono r1 (RX.same (newSame hp))⟩⟩
  | ex c => exact q
  | no => exact q
theorem ev_isEs {kn ds : List Ec} {m : M (Option Ec)} {mt : M (List Ec)} (ok : Ok p sc NN VV GG k g) (hkn : Kn p kn) (hd : ∀ d ∈ ds, d ∈ kn) (hG : GG[j]? = some "isinstance") (hmg : p.mg "isinstance" = none) (ha : EvE g L a md (tOpt (tExc p)) m) (hb : EvE g L b md (tTupL (tCls p)) mt) (hmt : mt = .ok ds)
    (hs1 : starEach [a, b] g.X.env = (false, eval a g.X.env) :: starEach [b] g.X.env := by rfl) (hs2 : starEach [b] g.X.env = (false, eval b g.X.env) :: starEach [] g.X.env := by rfl)
    (hpl : (backTo pos (starEach [b] g.X.env)).any (·.1) = false := by rfl) : EvE g L (.Call (.Name "isinstance" pp) [a, b] [] pos) md' tBool (m.bind fun c => isEsM kn c ds) := by
  subst hmt
  have hb' : EvE g L b md (⟨fun _ v R => (tTupL (tCls p)).rep ds v R, fun h s => (tTupL (tCls p)).mono h s⟩ : Ty Unit) (.ok ()) := ev_asP (fun v R r => r) hb
  have h := ev_b2 (S := tOpt (tExc p)) (md' := md') (U := tBool) (f := fun c _ => isEsM kn c ds) (fr := true) (pp := pp) (pos := pos) ok call_isQT (fun {d e v w R H W} rb h1 h2 q => by
    obtain ⟨tp, ws, ew, ht, rt⟩ := h2
    have hT : SqT g.X.K H tp ws := by rw [ok.K]; exact st_of rb ht
    unfold isEsM at q
    cases d with
    | none =>
      cases (show v = .non from h1)
      exact ⟨.non, tp, ws, .type "NoneType", _, false, by rw [ew], hT, reps_cls rt, .inl ⟨rfl, rfl⟩, by rw [ok.K]; exact kitAny_none hkn ds hd, q _ _ (Same.refl _) rfl⟩
    | some c =>
      by_cases hc : c ∈ kn
      · simp only [if_pos hc] at q
        exact ⟨v, tp, ws, .ref (p.C c), _, _, by rw [ew], hT, reps_cls rt, by rw [ok.K]; exact kitQ_some hkn hc rb h1.1, by rw [ok.K]; exact kitAny_map hkn hc ds hd, q _ _ (Same.refl _) rfl⟩
      · simp only [if_neg hc] at q
        exact q.elim) (fun _ _ _ => isEsM_ne) .fresh hG hmg (by decide +kernel) ha hb' hs1 hs2 hpl
  have e : (m.bind fun d => (M.ok ()).bind fun _ => isEsM kn d ds) = m.bind fun c => isEsM kn c ds := by cases m <;> rfl
  rwa [e] at h
end
end Hd

namespace Hd
open PySem PySem.Spec L2
section
variable {p : Pr} {sc : Scope} {NN VV GG VV' GG' : List Str} {k : Nat} {g : G} {L L' : List Slot} {a b c e e' : Expr} {es : List Expr} {md md' : Md} {α β γ δ ρ : Type} {S : Ty α} {T : Ty β} {U : Ty γ} {A : Ar δ} {pos : Pos} {K : PySem.W.Frag} {tg : Expr} {i j : Nat} {x : Str} {pp : Pos}
variable {st : List Stmt} {D : δ → Out} {d : δ}
/-- try: body / except X: y = a written thing -/
theorem evb_tryC {kn : List Ec} {cx : Ec} {mb : M β} {h : β} {f : β → M δ} {LJ : β → List Slot} {body : List Stmt} {y : Str} {iC jC : Nat} {np pos' p2 p3 : Pos} {v : V} {dv : α} (ok : OkS p sc NN VV GG k g) (wk : Wk L g.LX) (hkn : Kn p kn) (hcx : cx ∈ kn) (hx : p.mg x = some (.ref (p.C cx))) (hG : GG[j]? = some x)
    (hNC : NN[iC]? = some y) (hVC : VV[jC]? = some y) (he : ∀ Y : Cx, PE Y e (fun σ H Q => Q v H)) (hrep : ∀ R, S.rep dv v R)
    (hb : ∀ g', OkS p sc NN VV GG k g' → g'.LX = L → EvB g' L body (fun s => .nx (LJ s)) mb)
    (hh : Wk (L.set iC (sV false S dv)) (LJ h)) (hr : ∀ s, EvB g (LJ s) st D (f s)) (hs : ∀ Y : Cx, swapsWith e (some (.Name y p2)) p3.line Y.env = pure false := by intro _; rfl) :
    EvB g L (.Try body [.ExceptHandler (some (.Name x np)) none [.Assign [.Name y p2] e p3] pos'] [] [] pos :: st) D ((tryM kn cx mb fun _ => h).bind f) := by
  obtain ⟨hg, ho⟩ := ok.gl hG
  refine PSs.imp (pss_cons (ps_try_only (c := .ref (p.C cx)) (tb := fun W D σ H => ∃ q : {W'' : Wx // ∀ c σ H, W'' c σ H → W (.ref (p.C c)) none σ H}, tB ⟨g.X, g.fm, q.1, L⟩ L (fun s => Out.nx (LJ s)) mb D σ H)
    (ts := fun ad cl dd => tAsg (fun σ H Q => Q v H) (gName iC)) (Wout := fun cls d σ H => ∃ c, cls = .ref (p.C c) ∧ d = none ∧ g.W c σ H) ok.stk ok.frm ⟨hg, (okName_d ho).1, .inl (by rw [ok.mg]; exact hx)⟩ ok.tk
    (fun W pn xe tkW psO => ?_) (fun ad oE cl dd pn _ _ => ?_)) (PSs.ex hr)) fun E σ H ⟨kp, own, at_, q⟩ => ?_
  · refine PSs.ex (t := fun (q : {W'' : Wx // ∀ c σ H, W'' c σ H → W (.ref (p.C c)) none σ H}) => tB ⟨g.X, g.fm, q.1, L⟩ L (fun s => Out.nx (LJ s)) mb) fun q => ?_
    exact hb ⟨g.X.tr pn xe, g.fm, q.1, L⟩
      { prog := ok.prog, w := ok.w, K := ok.K, mg := ok.mg, base := ok.base, N := ok.N, fmK := ok.fmK, tab := ok.tab, room := ok.room, nd := ok.nd, vis := ok.vis, gl := ok.gl
        tk := Takes.imp tkW fun cls d σ H ⟨c, e1, e2, z⟩ => by subst e1; subst e2; exact q.2 c σ H z
        calm := ok.calm, blk := ok.blk, loc := ok.loc, fnT := ok.fnT, psO := psO, scp := ok.scp, stk := ok.stk, frm := ok.frm, exn := ok.exn } rfl
  · exact pss_one (ps_set (i := iC) (by show g.X.N.Nodup; rw [ok.N]; exact ok.nd) (by show g.X.N[iC]? = _; rw [ok.N]; exact hNC) (ok.loc hVC) (he _) (hs _) (.inl (ok.fnT y)))
  · refine ⟨⟨fun c σ' H' => (c ∈ kn → isB c cx = true → ∃ d, tB g (LJ d) D (f d) E (σ'.set iC (some v)) H') ∧ (c ∈ kn) ∧ (isB c cx = false → g.W c σ' H'), fun c σ' H' ⟨z1, z2, z3⟩ => ?_⟩, kp, own, at_, ?_⟩
    · exact ⟨isB c cx, by rw [ok.K]; exact hkn.exm c z2 cx hcx, fun hB ad hn => z1 z2 hB, fun hB => ⟨c, rfl, rfl, z3 hB⟩⟩
    · cases mb with
      | ok s => exact fun σ' H' own' a' => ⟨s, kp, own', a', q⟩
      | no => exact q.elim
      | ex c =>
        intro σ' H' own' a'
        have q : BOk g kp E D (((if c ∈ kn then (if isB c cx = true then M.ok h else .ex c) else .no) : M β).bind f) := q
        by_cases hc : c ∈ kn
        · rw [if_pos hc] at q
          refine ⟨fun _ hB => ?_, hc, fun hB => ?_⟩
          · rw [if_pos hB] at q
            obtain ⟨own3, a3⟩ := a'.setV (i := iC) (b := false) (T := S) (d := dv) (v := v) (hrep _)
            obtain ⟨own5, a5, _⟩ := a3.weak hh
            exact ⟨h, kp, own5, a5, q⟩
          · rw [if_neg (by rw [hB]; exact Bool.false_ne_true)] at q
            obtain ⟨own2, a2, _⟩ := a'.weak wk
            exact q σ' H' own2 a2
        · rw [if_neg hc] at q; exact q.elim
/-! ### called() -/
def tAny : Ty Unit := ⟨fun _ _ _ => True, fun h _ => h⟩
structure Cl (p : Pr) (c : Ec) (t : Tx) : Prop where
  ex : ∃ (f : Addr) (fd : FuncData), FnOk p.P p.w p.K p.mg p.base (L2.CX p.P p.w) 1 f fd ["self"] (spM p (aCons tAny aNil) (fun r => .rt false tStr r) (fun _ => .ok t)) ∧ Meth p.K (p.C c) "called" f ∧ Binds p.K fd ["self"] []
def calledM (kc : List (Ec × Tx)) (c : Ec) : M Tx := match kc.lookup c with
  | some t => .ok t
  | none => .no
theorem calledM_ne {kc : List (Ec × Tx)} {c z : Ec} : calledM kc c ≠ .ex z := by unfold calledM; split <;> exact fun h => nomatch h
theorem getm {X : Cx} {pins : List (Addr × Obj)} {σ : L2.St} {H : Hp} {s : Shared} {ad D f : Addr} {pl : Sem Bool} {Q : Value × List Value → Shared → Prop} {A : Around} {E : Value → Shared → Prop} (I : Inv X pins σ H s) (h : Rd H ad (ExQ (.ref D) ad)) (C : ExcC X.K D) (m : Meth X.K D "called" f)
    (hq : Q (.ref f, [.ref ad]) s) : wpAny (model X.prog X.w) A (getMethod (.ref ad) "called" pl) Q E s := by
  obtain ⟨⟨oe, vs, he, hz, hd⟩, _⟩ := (show ObjOk X.prog X.w H s.heap ad (ExQ (.ref D) ad) from h.ok I.hok)
  have J : PySem.W.InstAt s.heap ad oe D none := by
    obtain ⟨oc, od, oda, osl⟩ := oe
    obtain ⟨h1, h2⟩ := hz
    dsimp only at h1 h2 hd
    subst h1 h2 hd
    exact ⟨he, rfl, rfl, trivial⟩
  obtain ⟨m', F⟩ := I.fr
  exact PySem.W.method_exc0 F I.mod.kin J C.hg C.hk m.at_ m.fn hq
def tCalled (X : Cx) (ta : TE) : TE := fun σ H Q => ta σ H fun v H1 => ∃ (ad D f : Addr) (fd : FuncData) (sp : Sp), v = .ref ad ∧ Rd H1 ad (ExQ (.ref D) ad) ∧ ExcC X.K D ∧ Meth X.K D "called" f ∧ FnOk X.prog X.w X.K X.mg X.base (L2.CX X.prog X.w) 1 f fd ["self"] sp ∧ Binds X.K fd ["self"] [] ∧ sp [.ref ad] H1 Q fun _ _ _ => False
theorem pe_called {X : Cx} {o : Expr} {ta : TE} {apos : Pos} {pl : Sem Bool} (he : PE X o ta) (hr : Room 1 X.A)
    (ht : eval (.Call (.Attribute o "called" apos) [] [] pos) X.env = (do
      let ov ← eval o X.env
      standAt apos.atName
      let (f, first) ← holding [ov] (getMethod ov "called" pl)
      callWith pos f first (backTo pos (starEach [] X.env)) (backToKw pos (keywordEach [] X.env))) := by rfl) :
    PE X (.Call (.Attribute o "called" apos) [] [] pos) (tCalled X ta) := by
  refine ⟨fun pins s σ H Q I h => ?_⟩
  refine PySem.W.methodCall_KW (pl := pl) (thn (he.run pins s σ H _ I h) fun u s1 ⟨x, H1, I1, rx, q⟩ => ?_) ht
  obtain ⟨ad, D, f, fd, sp, rfl, hR, C, m, F, hb, hq⟩ := q
  obtain rfl : u = Value.ref ad := rx
  refine getm I1 hR C m ?_
  exact PySem.W.callWith_K0 (first := [.ref ad]) I1.kIn m.kp (run_fn (us := [.ref ad]) (vs := [.ref ad]) (dvs := []) (ds := []) F hr hb .nil (E := fun _ _ _ => False) (by intro a1 a2 a3 a4 a5 a6 a7 a8; obtain ⟨_, _, _, _, _, _, _, _, _, _, _, _, z⟩ := a8; exact z.elim) I1 (.cons rfl .nil) hq)
theorem ev_called {kn : List Ec} {kc : List (Ec × Tx)} {m : M Ec} {apos : Pos} {pl : Sem Bool} (ok : Ok p sc NN VV GG k g) (hk1 : 1 ≤ k) (hkn : Kn p kn) (hkc : ∀ c t, kc.lookup c = some t → c ∈ kn ∧ Cl p c t) (ha : EvE g L a md (tExc p) m)
    (ht : eval (.Call (.Attribute a "called" apos) [] [] pos) g.X.env = (do
      let ov ← eval a g.X.env
      standAt apos.atName
      let (f, first) ← holding [ov] (getMethod ov "called" pl)
      callWith pos f first (backTo pos (starEach [] g.X.env)) (backToKw pos (keywordEach [] g.X.env))) := by rfl) :
    EvE g L (.Call (.Attribute a "called" apos) [] [] pos) md' tStr (m.bind fun c => calledM kc c) := by
  refine PE.imp (pe_called (pl := pl) ha (ok.room.mono hk1) ht) fun σ H Q q => ?_
  obtain ⟨kp, own, at_, q⟩ := tE_iff.mp q
  refine sub finE (Same.refl H) at_ q fun c v H1 s1 r1 at1 q1 => ?_
  unfold calledM at q1
  cases hl : kc.lookup c with
  | none => rw [hl] at q1; exact q1.elim
  | some t =>
    rw [hl] at q1
    obtain ⟨hc, hC⟩ := hkc c t hl
    obtain ⟨f, fd, F, mth, bd⟩ := hC.ex
    obtain ⟨ad, rfl, hR⟩ := r1
    have hR' : Rd H1 ad (ExQ (.ref (p.C c)) ad) := (RX.rdb (md := md) _ _ hR).resolve_right fun z => z
    rw [← ok.prog, ← ok.w, ← ok.base] at F
    refine ⟨ad, p.C c, f, fd, _, rfl, hR', by rw [ok.K]; exact hkn.isc c hc, by rw [ok.K]; exact mth, by rw [ok.K, ok.mg]; exact F, by rw [ok.K]; exact bd, ?_⟩
    show ∃ d z, _ ∧ _ ∧ _
    refine ⟨((), ()), fun _ => False, ⟨fun _ z => z.elim, fun P e => at1.same.tab P (ok.tab P e)⟩, ⟨.ref ad, [], rfl, trivial, rfl⟩, ?_⟩
    exact fun v H' s r => q1 v H' (s1.trans s) r
end
/-! ### the head with the classes -/
def excCB (K : PySem.W.Frag) (D : Addr) : Bool :=
  He.eqO (PySem.W.findIn K (.ref D) "__getattribute__") (some (some (.builtin "BaseException.__getattribute__"))) && (He.eqO (PySem.W.findIn K (.ref D) "__getattr__") (some none) && (decide (PySem.W.subIn K (.ref D) (.type "BaseException") = some true) && (PySem.W.hasDictIn K D &&
    (He.eqO (PySem.W.findIn K (.ref D) "__class__") (some (some (.builtin "object.__class__"))) && (He.eqO (PySem.W.specialIn K (.builtin "object.__class__") "__get__") (some (some (.builtin "getset_descriptor.__get__"))) && (decide (PySem.W.takesIn K (.builtin "object.__class__") = some true) && decide (PySem.W.mroIn K D (.type "object") = some true)))))))
theorem excCB_ok {K : PySem.W.Frag} {D : Addr} (h : excCB K D = true) : ExcC K D := by
  obtain ⟨h1, h⟩ := He.ba h
  obtain ⟨h2, h⟩ := He.ba h
  obtain ⟨h3, h⟩ := He.ba h
  obtain ⟨h4, h⟩ := He.ba h
  obtain ⟨h5, h⟩ := He.ba h
  obtain ⟨h6, h⟩ := He.ba h
  obtain ⟨h7, h8⟩ := He.ba h
  exact ⟨He.eqO_ok h1, He.eqO_ok h2, of_decide_eq_true h3, h4, He.eqO_ok h5, He.eqO_ok h6, of_decide_eq_true h7, of_decide_eq_true h8⟩
def knB (kn : List Ec) (K : PySem.W.Frag) : Bool := kn.all fun c => excCB K (He.ga K (ecName c)) && (kn.all (fun d => decide (PySem.W.exmOne K (.ref (He.ga K (ecName c))) (.ref (He.ga K (ecName d))) = some (isB c d)) && decide (PySem.W.kitOne K (.ref (He.ga K (ecName c))) (.ref (He.ga K (ecName d))) = some (isB c d))) &&
  (decide (PySem.W.kitOne K (.ref (He.ga K (ecName c))) (.type "ValueError") = some true) && decide (PySem.W.kitOne K (.type "NoneType") (.ref (He.ga K (ecName c))) = some false)))
theorem kn_ok {kn : List Ec} {K : PySem.W.Frag} {P : Program} {w : World} {mg : Str → Option Value} {base : Heap} {T : Option Addr} (h : knB kn K = true) : Kn ⟨P, w, K, mg, base, fun c => He.ga K (ecName c), T⟩ kn := by
  have key := fun c hc => List.all_eq_true.mp h c hc
  refine ⟨fun c hc => ?_, fun c hc d hd => ?_, fun c hc d hd => ?_, fun c hc => ?_, fun c hc => ?_⟩
  · exact excCB_ok (He.ba (key c hc)).1
  · have h1 := (He.ba (He.ba (key c hc)).2).1
    exact of_decide_eq_true (He.ba (List.all_eq_true.mp h1 d hd)).1
  · have h1 := (He.ba (He.ba (key c hc)).2).1
    exact of_decide_eq_true (He.ba (List.all_eq_true.mp h1 d hd)).2
  · exact of_decide_eq_true (He.ba (He.ba (He.ba (key c hc)).2).2).1
  · exact of_decide_eq_true (He.ba (He.ba (He.ba (key c hc)).2).2).2
abbrev AlE : Type := Bool × He.AlD
def obsE (fa : List He.Fa) (fn : List He.DefD) (ex : PySem.W.Frag → Bool) (K : PySem.W.Frag) : AlE := (ex K, He.obsD fa fn K)
def obsEG (n : Nat) (fa : List He.Fa) (fn : List He.DefD) (ex : PySem.W.Frag → Bool) (g : Addr → Option Obj) : AlE := obsE fa fn ex (He.frG g (He.asD g n))
def hookE (n : Nat) (fa : List He.Fa) (fn : List He.DefD) (ex : PySem.W.Frag → Bool) : PySem.W.Hook where
  α := AlE
  obs := fun s => obsEG n fa fn ex s.heap.get?
  val := fun _ => (true, He.valD fn)
  says := fun _ h => ∃ K : PySem.W.Frag, K.In h ∧ ex K = true ∧ He.SaysD fa fn K
  of := fun _ _ e => ⟨_, He.frG_in, congrArg (fun z : AlE => z.1) e, congrArg (fun z : AlE => z.2) e⟩
  keeps := fun _ _ _ ⟨K, hK, h1, c⟩ kk => ⟨K, PySem.W.Frag.In.keeps hK kk, h1, c⟩
theorem obsEG_eq {n : Nat} {fa : List He.Fa} {fn : List He.DefD} {ex : PySem.W.Frag → Bool} {g : Addr → Option Obj} {s : Shared} (h : ∀ a, g a = s.heap.get? a) : obsEG n fa fn ex g = (hookE n fa fn ex).obs s := by
  have e : g = s.heap.get? := funext h
  rw [e]; rfl
def clsBody : Stmt → List Stmt
  | .ClassDef _ _ _ b _ _ _ _ _ _ _ => b
  | _ => []
end Hd

namespace Hd
open PySem PySem.Spec L2
theorem kc_nil {p : Pr} {kn : List Ec} : ∀ c t, ([] : List (Ec × Tx)).lookup c = some t → c ∈ kn ∧ Cl p c t := fun _ _ h => nomatch h
theorem kc_cons {p : Pr} {kn : List Ec} {c0 : Ec} {t0 : Tx} {l : List (Ec × Tx)} (h1 : c0 ∈ kn) (h2 : Cl p c0 t0) (h : ∀ c t, l.lookup c = some t → c ∈ kn ∧ Cl p c t) : ∀ c t, ((c0, t0) :: l).lookup c = some t → c ∈ kn ∧ Cl p c t := by
  intro c t e
  rw [List.lookup_cons] at e
  by_cases q : c = c0
  · subst q
    simp at e
    subst e
    exact ⟨h1, h2⟩
  · have : (c == c0) = false := by simpa using q
    rw [this] at e
    exact h c t e
end Hd

namespace Hd
open PySem PySem.Spec L2
section
variable {p : Pr} {sc : Scope} {NN VV GG : List Str} {k : Nat} {g : G} {α : Type} {S : Ty α}
theorem eqvN_l {x : PyData} (h : x ≠ .none) : PyData.eqv .none x = false := by cases x <;> first | rfl | exact absurd rfl h | simp [PyData.eqv]
theorem eqvN_r {x : PyData} (h : x ≠ .none) : PyData.eqv x .none = false := by cases x <;> first | rfl | exact absurd rfl h | simp [PyData.eqv]
/-- None or a thing -/
def dOpt (D : Deep S) (h : ∀ d, D.pd d ≠ .none) : Deep (tOpt S) := ⟨fun d => match d with | none => .none | some d => D.pd d, D.dp, fun {K d v R H} rb r => by
    cases d with
    | none => cases (show v = .non from r); exact ⟨.non, rfl⟩
    | some d => exact D.rep rb r.1, fun d => by
    cases d with
    | none => simp [PyData.depth]
    | some d => exact D.dep d, fun d e => by
    cases d with
    | none => cases e with
      | none => simp [PyData.eqv]
      | some e => simp [eqvN_l (h e)]
    | some d => cases e with
      | none => simp [eqvN_r (h d)]
      | some e => simpa using D.eqv d e⟩
def memD {α : Type} [DecidableEq α] (x : α) (xs : List α) : Bool := decide (x ∈ xs)
theorem any_eqv [DecidableEq α] (D : Deep S) (d : α) : ∀ ds : List α, ((ds.map D.pd).any fun z => PyData.eqv z (D.pd d)) = memD d ds
  | [] => by simp [memD]
  | e :: ds => by
    rw [List.map_cons, List.any_cons, any_eqv D d ds, D.bq]
    unfold memD
    by_cases h : e = d
    · subst h; simp
    · have : ¬ d = e := fun z => h z.symm
      simp [h, this]
theorem c_inD [DecidableEq α] (ok : Ok p sc NN VV GG k g) (D : Deep S) (hd : D.dp + 1 ≤ 64) : CmpOk p g.X .In S (tList S) (fun x xs => memD x xs) := ⟨rInD p.K, by rw [← ok.K]; exact op_inD (by have := ok.room.un; omega), ⟨fun {d e x y R H Q} rb rx ry q => by
  obtain ⟨a1, a2⟩ := D.rep rb rx
  obtain ⟨b1, b2⟩ := (dList D).rep rb ry
  exact ⟨_, _, a1, b1, D.sh (Nat.le_trans (Nat.le_succ _) hd) a2, (dList D).sh hd b2, q _ _ (Same.refl _) (by show _ = V.bl _; rw [any_eqv])⟩⟩⟩
theorem c_notinD [DecidableEq α] (ok : Ok p sc NN VV GG k g) (D : Deep S) (hd : D.dp + 1 ≤ 64) : CmpOk p g.X .NotIn S (tList S) (fun x xs => !memD x xs) := ⟨rNotInD p.K, by rw [← ok.K]; exact op_notInD (by have := ok.room.un; omega), ⟨fun {d e x y R H Q} rb rx ry q => by
  obtain ⟨a1, a2⟩ := D.rep rb rx
  obtain ⟨b1, b2⟩ := (dList D).rep rb ry
  exact ⟨_, _, a1, b1, D.sh (Nat.le_trans (Nat.le_succ _) hd) a2, (dList D).sh hd b2, q _ _ (Same.refl _) (by show _ = V.bl _; rw [any_eqv])⟩⟩⟩
variable {L : List Slot} {a b : Expr} {md md' : Md} {pos : Pos}
theorem evt_isN {m : M (Option α)} {j1 : Nat} {p1 : Pos} (ok : Ok p sc NN VV GG k g) (ha : EvE g L a md (tOpt S) m) : EvT g L (.Compare a [.Is] [.Constant .none j1 p1] pos) (m.bind fun d => .ok d.isNone) := by
  have h := evt_cmp (fr := true) (pos := pos) (S := tOpt S) (T := tNone) (f := fun d _ => .ok d.isNone) ok op_isN ⟨fun {d e x y R H W} rb rx ry q => ⟨ry, q _ _ (Same.refl _) (by
    show _ = V.bl _
    cases d with
    | none => cases (show x = .non from rx); rfl
    | some d => rw [decide_eq_false rx.2]; rfl)⟩⟩ (fun _ _ _ h => nomatch h) ha (ev_none (j := j1) (pos := p1)) (by first | exact nomark _ (by decide) (by decide) | rfl)
  have e : (m.bind fun d => (M.ok ()).bind fun _ => M.ok d.isNone) = m.bind fun d => .ok d.isNone := by cases m <;> rfl
  rwa [e] at h
theorem evt_notN {m : M (Option α)} {j1 : Nat} {p1 : Pos} (ok : Ok p sc NN VV GG k g) (ha : EvE g L a md (tOpt S) m) : EvT g L (.Compare a [.IsNot] [.Constant .none j1 p1] pos) (m.bind fun d => .ok d.isSome) := by
  have h := evt_cmp (fr := true) (pos := pos) (S := tOpt S) (T := tNone) (f := fun d _ => .ok d.isSome) ok op_notN ⟨fun {d e x y R H W} rb rx ry q => ⟨ry, q _ _ (Same.refl _) (by
    show _ = V.bl _
    cases d with
    | none => cases (show x = .non from rx); rfl
    | some d => rw [decide_eq_false rx.2]; rfl)⟩⟩ (fun _ _ _ h => nomatch h) ha (ev_none (j := j1) (pos := p1)) (by first | exact nomark _ (by decide) (by decide) | rfl)
  have e : (m.bind fun d => (M.ok ()).bind fun _ => M.ok d.isSome) = m.bind fun d => .ok d.isSome := by cases m <;> rfl
  rwa [e] at h
theorem evt_inS {m1 m2 : M Tx} (ok : Ok p sc NN VV GG k g) (ha : EvE g L a md tStr m1) (hb : EvE g L b md tStr m2) (hk : behindInMarks .In b = false := by first | exact nomark _ (by decide) (by decide) | rfl) : EvT g L (.Compare a [.In] [b] pos) (m1.bind fun x => m2.bind fun y => inSM x y) :=
  evt_cmp (fr := true) ok op_in_sign ⟨fun {d e x y R H Q} rb rx ry q => by
    unfold inSM at q
    split at q
    · rename_i c
      exact ⟨c, toS e, rx.1, ry.1, q _ _ (Same.refl _) (by show V.bl _ = V.bl _; rw [show (toS e).cps.toList = e from tl_toS e])⟩
    · exact q.elim⟩ (fun _ _ _ => inSM_ne) ha hb hk
theorem evt_notinS {m1 m2 : M Tx} (ok : Ok p sc NN VV GG k g) (ha : EvE g L a md tStr m1) (hb : EvE g L b md tStr m2) (hk : behindInMarks .NotIn b = false := by first | exact nomark _ (by decide) (by decide) | rfl) : EvT g L (.Compare a [.NotIn] [b] pos) (m1.bind fun x => m2.bind fun y => notinSM x y) :=
  evt_cmp (fr := true) ok op_notIn_sign ⟨fun {d e x y R H Q} rb rx ry q => by
    unfold notinSM at q
    split at q
    · rename_i c
      exact ⟨c, toS e, rx.1, ry.1, q _ _ (Same.refl _) (by show V.bl _ = V.bl _; rw [show (toS e).cps.toList = e from tl_toS e])⟩
    · exact q.elim⟩ (fun _ _ _ => notinSM_ne) ha hb hk
end
end Hd

namespace Hd
open PySem PySem.Spec L2
section
variable {X : Cx} {p : Pr} {sc : Scope} {NN VV GG : List Str} {k : Nat} {g : G} {L : List Slot} {a b e tg : Expr} {md md' : Md} {pos pp : Pos} {j : Nat} {α β : Type} {S : Ty α} {T : Ty β}
/-! ### text * number -/
theorem flat_arr (d : Tx) : ∀ n : Nat, ((List.replicate n d.toArray).foldl (· ++ ·) #[]) = (List.replicate n d).flatten.toArray := by
  have key : ∀ (n : Nat) (acc : Array Nat), ((List.replicate n d.toArray).foldl (· ++ ·) acc) = acc ++ (List.replicate n d).flatten.toArray := by
    intro n
    induction n with
    | zero => intro acc; simp
    | succ n ih => intro acc; rw [List.replicate_succ, List.foldl_cons, ih, List.replicate_succ, List.flatten_cons]; simp
  intro n
  rw [key n]
  simp
theorem flat_len {α : Type} (d : List α) : ∀ n : Nat, (List.replicate n d).flatten.length = d.length * n
  | 0 => by simp
  | n + 1 => by rw [List.replicate_succ, List.flatten_cons, List.length_append, flat_len d n, Nat.mul_succ, Nat.add_comm]
def rRepS : R2 := fun x y H Q => ∃ (d : Tx) (n : Int), x = .str (toS d) ∧ y = .int n ∧ -(2 ^ 63) ≤ n ∧ n < 2 ^ 63 ∧ d.length * n.toNat ≤ sizeLine ∧ Q (.str (toS (List.replicate n.toNat d).flatten)) H
theorem op_rep_str : OpR X (binaryOp .Mult) rRepS := by
  intro pins s σ H x y v u Q I rx ry h
  obtain ⟨d, n, rfl, rfl, h1, h2, h3, q⟩ := h
  obtain ⟨t, rfl⟩ := rx
  obtain ⟨t', rfl⟩ := ry
  have hz : sizeLine < 2 ^ 40 := by decide
  have hl : (toS d).length = d.length := toS_len d
  refine P.mul_str (by simp; omega) (fun a b => ?_) (fun a b => ?_) ?_
  · rw [hl]
    intro z
    have hn : 0 < n := by omega
    have : ((2 ^ 63 - 1 : Int)) / n < d.length := z
    have h4 := (Int.ediv_lt_iff_lt_mul hn).mp this
    have h5 : ((d.length * n.toNat : Nat) : Int) = (d.length : Int) * n := by push_cast; rw [Int.toNat_of_nonneg (by omega)]
    omega
  · rw [hl]; show decide (_ > sizeLine) = false; exact decide_eq_false (by omega)
  · by_cases c : n < 1
    · rw [if_pos c]
      have e : n.toNat = 0 := by omega
      rw [e] at q
      exact ⟨by decide, ⟨.str (toS (List.replicate 0 d).flatten), H, I.tok _, ⟨_, rfl⟩, q⟩⟩
    · rw [if_neg c]
      by_cases c2 : (n == 1 || (toS d).length == 0) = true
      · rw [if_pos c2]
        have e : (List.replicate n.toNat d).flatten = d := by
          rw [hl] at c2
          simp only [Bool.or_eq_true, beq_iff_eq] at c2
          rcases c2 with e | e
          · subst e; simp
          · have : d = [] := List.length_eq_zero_iff.mp e
            subst this
            simp
        rw [e] at q
        exact ⟨.str (toS d), H, I, ⟨_, rfl⟩, q⟩
      · rw [if_neg c2]
        refine ⟨?_, ⟨.str (toS (List.replicate n.toNat d).flatten), H, I.tok _, ⟨s.toks, ?_⟩, q⟩⟩
        · show _ ≤ sizeLine
          have e : (⟨(List.replicate n.toNat (toS d).cps).foldl (· ++ ·) #[]⟩ : Str) = toS (List.replicate n.toNat d).flatten := congrArg Str.mk (flat_arr d n.toNat)
          rw [e, toS_len, flat_len]
          omega
        · show Value.str _ _ = Value.str _ _
          congr 1
          show Str.mk _ = Str.mk _
          congr 1
          exact flat_arr d n.toNat
def repS (x : Tx) (n : Int) : M Tx := if -(2 ^ 63) ≤ n ∧ n < 2 ^ 63 ∧ x.length * n.toNat ≤ sizeLine then .ok (List.replicate n.toNat x).flatten else .no
theorem repS_ne {x : Tx} {n : Int} {c : Ec} : repS x n ≠ .ex c := by unfold repS; split <;> exact fun h => nomatch h
theorem ev_repS {ma : M Tx} {mb : M Int} (ok : Ok p sc NN VV GG k g) (ha : EvE g L a md tStr ma) (hb : EvE g L b md tInt mb) : EvE g L (.BinOp a .Mult b pos) md' tStr (ma.bind fun x => mb.bind fun n => repS x n) :=
  ev_op2 (fr := true) ok op_rep_str ⟨fun {d e x y R H Q} rb rx ry q => by
    unfold repS at q
    split at q
    · rename_i h
      refine ⟨d, e, rx.1, ry, h.1, h.2.1, h.2.2, q _ _ (Same.refl _) ⟨rfl, ?_, fun c hc => ?_⟩⟩
      · rw [flat_len]; exact h.2.2
      · obtain ⟨l, hl, hc⟩ := List.mem_flatten.mp hc
        rw [(List.mem_replicate.mp hl).2] at hc
        exact rx.2.2 c hc
    · exact q.elim⟩ (fun _ _ _ => repS_ne) .fresh ha hb
end
end Hd

namespace Hd
open PySem PySem.Spec PyProof.Rows L2
section
variable {p : Pr} {sc : Scope} {NN VV GG : List Str} {k : Nat} {g : G} {L : List Slot} {a b e tg : Expr} {md md' : Md} {pos pp : Pos} {j : Nat} {α β δ : Type} {S : Ty α} {T : Ty β} {A : Ar δ}
/-! ### tuples: how long, walked -/
theorem ev_lenT {n : Nat} {m : M δ} (ok : Ok p sc NN VV GG k g) (hA : ∀ {d vs R}, A.rep d vs R → vs.length = n) (hG : GG[j]? = some "len") (hmg : p.mg "len" = none) (ha : EvE g L e md (tTup A) m) (hs : starEach [e] g.X.env = (false, eval e g.X.env) :: starEach [] g.X.env := by rfl) : EvE g L (.Call (.Name "len" pp) [e] [] pos) md' tInt (m.bind fun _ => .ok (n : Int)) :=
  ev_b1 (S := tTup A) (fr := true) ok call_len_seq (fun {d v R H W} rb ⟨a, vs, e, h, r⟩ q => by
    exact ⟨a, vs, by rw [e], .inr (by rw [ok.K]; exact st_of rb h), q _ _ (Same.refl _) (by show _ = V.int _; rw [hA r])⟩) (fun _ _ h => nomatch h) .fresh hG hmg PySem.boot_len ha hs
structure HomA (A : Ar δ) (S : Ty α) (f : δ → List α) : Prop where
  r : ∀ {d vs R}, A.rep d vs R → Reps S R (f d) vs
theorem hom0 : HomA aNil S (fun _ => []) := ⟨fun {d vs R} h => by cases (show vs = [] from h); exact .nil⟩
theorem homS {f : δ → List α} (h : HomA A S f) : HomA (aCons S A) S (fun d => d.1 :: f d.2) := ⟨fun {d vs R} q => by
  obtain ⟨v, r, e, h1, h2⟩ := q
  subst e
  exact .cons h1 (h.r h2)⟩
theorem evi_tupL {m : M (List α)} (ok : Ok p sc NN VV GG k g) (he : EvE g L e md (tTupL S) m) : EvI g L tg e S m := by
  refine PI.imp (pi_tup he) fun σ H R ⟨kp, own, at_, q⟩ => ?_
  refine tE_iff.mpr ⟨kp, own, at_, ?_⟩
  cases m with
  | ok xs =>
    rintro v H' s ⟨a, vs, rfl, h, r⟩
    have hk : RD g.fm own H' a (.tup vs) := RX.sh a _ h
    have rb0 : Rdb p.K (RD g.fm own H') H' := by rw [← ok.fmK]; exact RD.rdb
    refine ⟨a, rfl, ⟨vs, by rw [ok.K]; exact st_of rb0 hk⟩, ?_⟩
    rw [show Itt g.X.K a = Itt g.fm.K a from by rw [ok.K, ok.fmK]]
    refine q (Itt g.fm.K a) H' s fun H2 rb i => ?_
    have hs : SqT g.fm.K H2 a vs := st_of rb hk
    refine ⟨fun d hd => ?_, fun hn => ⟨vs, hs, ?_⟩⟩
    · obtain ⟨v, h1, h2⟩ := r.get hd
      refine ⟨⟨vs, v, hs, h1⟩, fun x H3 ⟨e, hx⟩ => ?_⟩
      subst e
      have := hx vs hs
      rw [h1] at this
      cases this
      exact ⟨Same.refl _, S.mono h2 fun a o z => .inl ⟨rfl, RX.sh a o z⟩⟩
    · rw [List.getElem?_eq_none_iff, r.length] at hn
      exact hn
  | ex c => exact q
  | no => exact q
theorem evi_tupH {f : δ → List α} {m : M δ} (ok : Ok p sc NN VV GG k g) (hA : HomA A S f) (he : EvE g L e md (tTup A) m) : EvI g L tg e S (m.bind fun d => .ok (f d)) :=
  evi_tupL (S := S) ok (ev_as (S := tTup A) (T := tTupL S) (d2 := f) (fun d v R ⟨a, vs, e, h, r⟩ => ⟨a, vs, e, h, hA.r r⟩) he)
/-! ### enumerate(text) -/
def ItEs (x : Str) : It := ⟨fun i _ => i < x.cps.size, fun i H v H' => ∃ T c, v = .ref T ∧ H T = none ∧ H' = upd H T (.tup [.int (i : Nat), .str ⟨#[c]⟩]) ∧ x.cps[i]? = some c, fun i _ => x.cps.size ≤ i⟩
theorem turn_enumS {P : Program} {w : World} {K : PySem.W.Frag} {elts : List Expr} {kk : Nat} {tpos : Pos} (e it : Addr) (x : Str) (t : Tok) (ty : String) (hty : ty = "str_ascii_iterator" ∨ ty = "str_iterator") :
    Turn P w K (.Tuple elts kk tpos) (ItEs x) [e, it] e (fun i h => (∃ old, IsEnum h e it ((i : Nat) : Int) old) ∧ h.IsStrIter it ty x t i ∧ e ≠ it ∧ i ≤ x.cps.size) where
  mem := by simp
  obj := fun i h st b hb => by
    obtain ⟨⟨old, he⟩, ⟨o, ho, hc, hd⟩, _⟩ := st
    have e' : b = e ∨ b = it := by simpa using hb
    rcases e' with z | z
    · rw [z]; exact ⟨_, he, fun v q => nomatch q⟩
    · rw [z]; exact ⟨o, ho, fun v q => by rw [hd] at q; cases q⟩
  keep := fun i h h' st k => let ⟨⟨old, he⟩, ⟨o, ho, r⟩, hne⟩ := st; ⟨⟨old, k e (by simp) _ he⟩, ⟨o, k it (by simp) o ho, r⟩, hne⟩
  item := by
    intro X hP hw hK hc i pins s σ H E I hf st hg
    subst hP hw hK
    obtain ⟨⟨old, he⟩, hit, hne, hle⟩ := st
    have D : Draws X.prog X.w X.A.in1 it [it] x.cps.size (fun i v => ∃ c u, x.cps[i]? = some c ∧ v = .str ⟨#[c]⟩ u) (fun i h => h.IsStrIter it ty x t i) := by
      rcases hty with e | e
      · rw [e]; exact Draws.strAscii (A := X.A.in1) (I.ok.hd hc) it x t
      · rw [e]; exact Draws.strWide (A := X.A.in1) (I.ok.hd hc) it x t
    have hel : e < s.heap.objs.size := Heap.lt_size he
    have hil : it < s.heap.objs.size := by obtain ⟨_, q, _⟩ := hit; exact Heap.lt_size q
    refine wpAny_pyNext_enum_itemD D he hit hg hne (by simpa using hne) fun u h' tk hP ho hit' hT hsz hk => ?_
    obtain ⟨c, t2, hcx, rfl⟩ := hP
    refine ⟨_, rfl, wpAny_letOwnedTupleGo_enum (s := { s with heap := h', toks := tk + 1 }) ho fun h'' he' sb => ?_⟩
    have hT2 : h''.get? s.heap.objs.size = some { cls := .type "tuple", data := .seq #[.int i tk, .str ⟨#[c]⟩ t2] } := (sb.2 _ (Nat.ne_of_gt hel)).trans hT
    have new : ObjOk X.prog X.w (upd H s.heap.objs.size (.tup [.int (i : Nat), .str ⟨#[c]⟩])) h'' s.heap.objs.size (.tup [.int (i : Nat), .str ⟨#[c]⟩]) :=
      ⟨by show 2 ≤ sizeLine; decide, [.int i tk, .str ⟨#[c]⟩ t2], .cons ⟨_, rfl⟩ (.cons ⟨_, rfl⟩ .nil), ⟨_, hT2, rfl, _, rfl⟩⟩
    have I1 : Inv X pins σ (upd H s.heap.objs.size (.tup [.int (i : Nat), .str ⟨#[c]⟩])) { s with heap := h'', toks := tk + 1 } :=
      I.turnedNew (ch := [e, it]) (fun b ob hb q => (sb.2 b (fun z => hb (by simp [z]))).trans (hk b ob (fun z => hb (by simp [z])) (fun z => hb (by simp [z])) q)) hf (Nat.le_refl _) new
    refine ⟨.ref s.heap.objs.size, _, I1, rfl, ⟨_, c, rfl, I.hok.fresh (Nat.le_refl _), rfl, hcx⟩, ⟨⟨.str ⟨#[c]⟩ t2, ?_⟩, D.frame _ _ _ hit' fun b hb o q => (sb.2 b (fun z => hne (by rw [← z]; simpa using hb))).trans q, hne, hg⟩, fun b hb => ?_⟩
    · have e1 : ((i + 1 : Nat) : Int) = (i : Int) + 1 := by omega
      rw [e1]; exact he'
    · have hb' : b < s.heap.objs.size := by
        have e' : b = e ∨ b = it := by simpa using hb
        rcases e' with z | z
        · rw [z]; exact hel
        · rw [z]; exact hil
      rw [upd_ne (Nat.ne_of_lt hb')]
      exact (hf b hb).1
  done := by
    intro X hP hw hK hc i pins s σ H E I hf st hg
    subst hP hw hK
    obtain ⟨⟨old, he⟩, hit, hne, hle⟩ := st
    have D : Draws X.prog X.w X.A.in1 it [it] x.cps.size (fun i v => ∃ c u, x.cps[i]? = some c ∧ v = .str ⟨#[c]⟩ u) (fun i h => h.IsStrIter it ty x t i) := by
      rcases hty with e | e
      · rw [e]; exact Draws.strAscii (A := X.A.in1) (I.ok.hd hc) it x t
      · rw [e]; exact Draws.strWide (A := X.A.in1) (I.ok.hd hc) it x t
    obtain ⟨f0, f1, f2, f3, f4, f5⟩ := hf it (by simp)
    have e1 : i = x.cps.size := Nat.le_antisymm hle hg
    subst e1
    exact wpAny_pyNext_enum_endD D he hit fun h' eb => ⟨rfl, I.turned (t' := s.toks) (fun b o hb q => eb b o hb q) f0 f1 f3 f4 f5⟩
  self := fun A i s Q E st h => let ⟨⟨_, he⟩, _⟩ := st; wpAny_pyIter_enum he h
def iEnumS (ta : TA) : TI := fun σ H R => ta σ H fun vs H1 => ∃ x, vs = [.str x] ∧ R (ItEs x) H1
theorem pi_enumS {X : Cx} {e : Expr} {ta : TA} {p pos tpos : Pos} {elts : List Expr} {kk : Nat} (hg : Gl X "enumerate") (hm : X.mg "enumerate" = none) (ha : PA X [e] ta) (hs : starEach [e] X.env = [(false, eval e X.env)] := by rfl) :
    PI X (.Tuple elts kk tpos) (.Call (.Name "enumerate" p) [e] [] pos) (iEnumS ta) := by
  refine ⟨fun pins s σ H R I h => ?_⟩
  refine Call_ (ld_blt I hg hm boot_enumerate (PyProof.Rows.callWith_type1 (thn (ha.run pos pins s σ H _ I h) fun us s1 ⟨vs, H1, I1, r1, q1⟩ => ?_) hs rfl))
  obtain ⟨x, ex, q⟩ := q1
  subst ex
  cases r1 with
  | cons r rr =>
    cases rr
    obtain ⟨t, rfl⟩ := r
    refine call_enumerate_str fun h' he hit hsz hk => wpAny_pyIter_enum he ?_
    have I2 : Inv X pins σ H1 { s1 with heap := h' } := I1.kept (t' := s1.toks) hk
    refine ⟨s1.heap.objs.size + 1, [s1.heap.objs.size + 1, s1.heap.objs.size], _, _, H1, rfl, I2, turn_enumS (s1.heap.objs.size + 1) s1.heap.objs.size x t (strIterType x) ?_, ⟨⟨.none, he⟩, hit, Nat.succ_ne_self _, Nat.zero_le _⟩, fun b hb => ?_, q⟩
    · unfold strIterType
      split
      · exact .inl rfl
      · exact .inr rfl
    · have e' : b = s1.heap.objs.size + 1 ∨ b = s1.heap.objs.size := by simpa using hb
      have hle : s1.heap.objs.size ≤ b := by
        rcases e' with z | z
        · rw [z]; exact Nat.le_add_right _ _
        · rw [z]; exact Nat.le_refl _
      exact I1.fpOk hle (I1.hok.fresh hle)
theorem evi_enumS {m : M Tx} {elts : List Expr} {kk : Nat} {tpos : Pos} (ok : Ok p sc NN VV GG k g) (hG : GG[j]? = some "enumerate") (hmg : p.mg "enumerate" = none) (ha : EvE g L a md tStr m) (hs : starEach [a] g.X.env = (false, eval a g.X.env) :: starEach [] g.X.env := by rfl) :
    EvI g L (.Tuple elts kk tpos) (.Call (.Name "enumerate" pp) [a] [] pos) (tTup (aCons tInt (aCons tStr aNil))) (m.bind fun x => .ok (enumL (x.map fun c => [c]))) := by
  obtain ⟨hg, ho⟩ := ok.gl hG
  refine PI.imp (pi_enumS hg (by rw [ok.mg]; exact hmg) (eva_cons ha eva_nil hs) hs) fun σ H R ⟨kp, own, at_, q⟩ => ?_
  refine tA_iff.mpr ⟨kp, own, at_, ?_⟩
  cases m with
  | ok xs =>
    rintro vs H' s ⟨v, r, rfl, ⟨rfl, hok⟩, e3⟩
    cases (show r = [] from e3)
    refine ⟨toS xs, rfl, q (ItEs (toS xs)) H' s fun H2 rb i => ?_⟩
    unfold enumL
    rw [List.getElem?_mapIdx, List.getElem?_map]
    refine ⟨fun d hd => ?_, fun hn => ?_⟩
    · cases hx : xs[i]? with
      | none => rw [hx] at hd; cases hd
      | some c =>
        rw [hx] at hd
        cases hd
        have hlt := (List.getElem?_eq_some_iff.mp hx).1
        have hcx : (toS xs).cps[i]? = some c := by
          show xs.toArray[i]? = some c
          simpa using hx
        refine ⟨by show i < xs.toArray.size; simpa using hlt, fun x H3 ⟨T, y, e1, e2, e3, hy⟩ => ?_⟩
        subst e1; subst e3
        rw [hcx] at hy
        cases hy
        refine ⟨newSame e2, T, _, rfl, .inr ⟨cl_of upd_same, e2⟩, .int (i : Nat), _, rfl, rfl, _, [], rfl, ⟨rfl, by show 1 ≤ sizeLine; decide, fun z hz => ?_⟩, rfl⟩
        rw [List.mem_singleton.mp hz]
        exact hok.2 c (List.mem_of_getElem? hx)
    · show (toS xs).cps.size ≤ i
      cases hx : xs[i]? with
      | none => rw [List.getElem?_eq_none_iff] at hx; show xs.toArray.size ≤ i; simpa using hx
      | some d0 => rw [hx] at hn; cases hn
  | ex c => exact q
  | no => exact q
end
end Hd

namespace Hd
open PySem PySem.Spec PyProof.Rows L2
section
variable {X : Cx} {p : Pr}
def rIsB : R2 := fun x y H Q => ∃ a b, x = .bl a ∧ y = .bl b ∧ Q (.bl (decide (a = b))) H
def rNotB : R2 := fun x y H Q => ∃ a b, x = .bl a ∧ y = .bl b ∧ Q (.bl (!decide (a = b))) H
theorem op_isB : OpR X (compareOp .Is) rIsB := by
  intro pins s σ H x y v u Q I rx ry h
  obtain ⟨a, b, rfl, rfl, q⟩ := h
  cases (show v = Value.bool a from rx)
  cases (show u = Value.bool b from ry)
  exact wpAny_is_plain rfl (fin_bl I q (by cases a <;> cases b <;> rfl))
theorem op_notB : OpR X (compareOp .IsNot) rNotB := by
  intro pins s σ H x y v u Q I rx ry h
  obtain ⟨a, b, rfl, rfl, q⟩ := h
  cases (show v = Value.bool a from rx)
  cases (show u = Value.bool b from ry)
  exact wpAny_isNot_plain rfl (fin_bl I q (by cases a <;> cases b <;> rfl))
theorem c_isB : CmpOk p X .Is tBool tBool (fun x y => decide (x = y)) := ⟨_, op_isB, ⟨fun rb rx ry q => ⟨_, _, rx, ry, q _ _ (Same.refl _) rfl⟩⟩⟩
theorem c_isnB : CmpOk p X .IsNot tBool tBool (fun x y => !decide (x = y)) := ⟨_, op_notB, ⟨fun rb rx ry q => ⟨_, _, rx, ry, q _ _ (Same.refl _) rfl⟩⟩⟩
end
end Hd

namespace Hd
open PySem PySem.Spec PyProof.Rows L2
section
variable {p : Pr} {sc : Scope} {NN VV GG : List Str} {k : Nat} {g : G} {L : List Slot} {a b e tg : Expr} {md md' : Md} {pos pp : Pos} {j : Nat} {α β δ : Type} {S : Ty α} {T : Ty β} {A : Ar δ} {X : Cx}
/-! ### range over numbers of any size -/
theorem turn_long {P : Program} {w : World} {K : PySem.W.Frag} {tg : Expr} (it : Addr) (lo : Int) (n : Nat) : Turn P w K tg (Itr lo n) [it] it (fun i h => IsLongIter h it (lo + (i : Nat) * 1) ((n : Int) - (i : Nat)) 1) where
  mem := by simp
  obj := fun i h st b hb => by
    have e : b = it := by simpa using hb
    subst e
    exact ⟨_, st, fun v z => by
      have z' : Data.fields _ = Data.cell v := z
      cases z'⟩
  keep := fun i h h' st k => k it (by simp) _ st
  item := by
    intro X hP hw hK hc i pins s σ H E I hf st hg
    subst hP hw hK
    obtain ⟨f0, f1, f2, f3, f4, f5⟩ := hf it (by simp)
    have W := Walks.longrange (prog := X.prog) (w := X.w) (I.ok.hd hc) it lo 1 n
    refine W.item i s _ _ hg st fun v h' tk hv st' kk => ?_
    obtain ⟨t, rfl⟩ := hv
    have I1 : Inv X pins σ H { s with heap := h', toks := tk } := I.turned (fun b o hb e => kk b o (by simpa using hb) e) f0 f1 f3 f4 f5
    refine ⟨_, rfl, go_of (s := { s with heap := h', toks := tk }) (n := "longrange_iterator") st' rfl rfl (by decide) ⟨.int (lo + i), H, I1, ⟨t, ?_⟩, ⟨rfl, rfl⟩, st', fun b hb => (hf b hb).1⟩⟩
    rw [Int.mul_one]
  done := by
    intro X hP hw hK hc i pins s σ H E I hf st hg
    subst hP hw hK
    obtain ⟨f0, f1, f2, f3, f4, f5⟩ := hf it (by simp)
    exact wpAny_pyNext_long_end (I.ok.hd hc) st (by have : n ≤ i := hg; omega) fun h' eb => ⟨rfl, I.turned (t' := s.toks) (fun b o hb e => eb b o hb e) f0 f1 f3 f4 f5⟩
  self := fun _ _ _ _ _ st h => wpAny_pyIter_longiter st h
theorem range_any {pins : List (Addr × Obj)} {σ : L2.St} {H : Hp} {s : Shared} {R : It → Hp → Prop} {E : Value → Shared → Prop} {lo hi : Int} {t u v : Tok} {tk : Nat} (I : Inv X pins σ H s)
    (q : R (Itr lo (hi - lo).toNat) H) : wpAny (model X.prog X.w) X.A (pyIter (.ref s.heap.objs.size)) (PIE X pins σ tg R) E { s with heap := s.heap.push { cls := .type "range", data := .fields #[.int lo t, .int hi u, .int 1 v] }, toks := tk } := by
  have I1 : Inv X pins σ H { s with heap := s.heap.push { cls := .type "range", data := .fields #[.int lo t, .int hi u, .int 1 v] }, toks := tk } := I.kept fun b o e => Heap.get?_push_of_some _ e
  have e1 : lo + ((0 : Nat) : Int) * 1 = lo := by simp
  have e2 : (((hi - lo).toNat : Nat) : Int) - ((0 : Nat) : Int) = Builtin.Range.rangeSize lo hi 1 := by rw [rangeSize_one]; split <;> omega
  have fp : ∀ b ∈ [(s.heap.push { cls := .type "range", data := .fields #[.int lo t, .int hi u, .int 1 v] }).objs.size], _ := fun b hb => by
    have e : b = (s.heap.push { cls := .type "range", data := .fields #[.int lo t, .int hi u, .int 1 v] }).objs.size := by simpa using hb
    subst e
    exact I1.fpOk (Nat.le_refl _) (I1.hok.fresh (Nat.le_refl _))
  cases hs : Builtin.Range.small lo hi 1 with
  | true =>
    refine wpAny_pyIter_range (IsRange.new ..) hs ?_
    refine ⟨(s.heap.push { cls := .type "range", data := .fields #[.int lo t, .int hi u, .int 1 v] }).objs.size, [(s.heap.push { cls := .type "range", data := .fields #[.int lo t, .int hi u, .int 1 v] }).objs.size], _, _, H, rfl,
      I1.kept (t' := tk) fun b o e => Heap.get?_push_of_some _ e, turn_range _ lo (hi - lo).toNat, ?_, fp, q⟩
    show IsRangeIter _ _ (lo + ((0 : Nat) : Int) * 1) ((((hi - lo).toNat : Nat) : Int) - ((0 : Nat) : Int)) 1
    rw [e1, e2]
    exact Heap.get?_push_size _ rfl
  | false =>
    refine wpAny_pyIter_longrange (IsRange.new ..) hs ?_
    refine ⟨(s.heap.push { cls := .type "range", data := .fields #[.int lo t, .int hi u, .int 1 v] }).objs.size, [(s.heap.push { cls := .type "range", data := .fields #[.int lo t, .int hi u, .int 1 v] }).objs.size], _, _, H, rfl,
      I1.kept (t' := tk) fun b o e => Heap.get?_push_of_some _ e, turn_long _ lo (hi - lo).toNat, ?_, fp, q⟩
    show IsLongIter _ _ (lo + ((0 : Nat) : Int) * 1) ((((hi - lo).toNat : Nat) : Int) - ((0 : Nat) : Int)) 1
    rw [e1, e2]
    exact Heap.get?_push_size _ rfl
def iRngB (ta : TA) : TI := fun σ H R => ta σ H fun vs H1 => ∃ i j : Int, vs = [.int i, .int j] ∧ R (Itr i (j - i).toNat) H1
theorem pi_rangeB {a b : Expr} {ta : TA} {p pos : Pos} (hg : Gl X "range") (hm : X.mg "range" = none) (ha : PA X [a, b] ta) (hs : starEach [a, b] X.env = [(false, eval a X.env), (false, eval b X.env)] := by rfl) (hs2 : starEach [b] X.env = [(false, eval b X.env)] := by rfl) :
    PI X tg (.Call (.Name "range" p) [a, b] [] pos) (iRngB ta) := by
  refine ⟨fun pins s σ H R I h => ?_⟩
  refine Call_ (ld_blt I hg hm boot_range (PyProof.Rows.callWith_type1 (thn (ha.run pos pins s σ H _ I h) fun us s1 ⟨vs, H1, I1, r1, q1⟩ => ?_) (by rw [hs, hs2]) (by rw [hs2]; rfl)))
  obtain ⟨i, j, e, q⟩ := q1
  subst e
  cases r1 with
  | cons r rr =>
    cases rr with
    | cons r' rr =>
      cases rr
      obtain ⟨t, rfl⟩ := r
      obtain ⟨t', rfl⟩ := r'
      exact call_range_2 (range_any I1 q)
theorem evi_rangeB {j : Nat} {m1 m2 : M Int} {pp : Pos} (ok : Ok p sc NN VV GG k g) (hG : GG[j]? = some "range") (hmg : p.mg "range" = none) (ha : EvE g L a md tInt m1) (hb : EvE g L b md tInt m2)
    (hs1 : starEach [a, b] g.X.env = (false, eval a g.X.env) :: starEach [b] g.X.env := by rfl) (hs2 : starEach [b] g.X.env = (false, eval b g.X.env) :: starEach [] g.X.env := by rfl) :
    EvI g L tg (.Call (.Name "range" pp) [a, b] [] pos) tInt (m1.bind fun lo => m2.bind fun hi => .ok (upFrom lo (hi - lo).toNat)) := by
  obtain ⟨hg, ho⟩ := ok.gl hG
  refine PI.imp (pi_rangeB hg (by rw [ok.mg]; exact hmg) (eva_cons ha (eva_cons hb eva_nil hs2) hs1) (by rw [hs1, hs2]; rfl) (by rw [hs2]; rfl)) fun σ H R ⟨kp, own, at_, q⟩ => ?_
  refine tA_iff.mpr ⟨kp, own, at_, ?_⟩
  cases m1 with
  | ok lo =>
    cases m2 with
    | ok hi =>
      rintro vs H' s ⟨v, r, rfl, rfl, v2, r2, rfl, rfl, e3⟩
      cases (show r2 = [] from e3)
      exact ⟨lo, hi, rfl, q _ H' s itr_ok⟩
    | ex c => exact q
    | no => exact q
  | ex c => exact q
  | no => exact q
/-- a part of a tuple of one kind, the place a number -/
theorem ev_ixH {f : δ → List α} {m : M δ} {mi : M Int} (ok : Ok p sc NN VV GG k g) (hA : HomA A S f) (ha : EvE g L a md (tTup A) m) (hb : EvE g L b md tInt mi) (hs : PlainIx b := by exact fun _ _ => rfl) : EvE g L (.Subscript a b pos) md S (m.bind fun d => mi.bind fun i => getM (f d) i) := by
  have h := ev_ix (pos := pos) (S := tTupL S) (T := tInt) (U := S) (r := rIxT p.K) (f := getM) (fr := false) ok (by rw [← ok.K]; exact ix_tup) o_ixT (fun _ _ _ => getM_ne) .same (ev_as (S := tTup A) (T := tTupL S) (d2 := f) (fun d v R ⟨a, vs, e, h, r⟩ => ⟨a, vs, e, h, hA.r r⟩) ha) hb hs
  have e : ((m.bind fun d => .ok (f d)).bind fun x => mi.bind fun i => getM x i) = m.bind fun d => mi.bind fun i => getM (f d) i := by cases m <;> rfl
  rwa [e] at h
end
end Hd

namespace Hd
open PySem PySem.Spec PyProof.Rows L2
section
variable {p : Pr} {sc : Scope} {NN VV GG : List Str} {k : Nat} {g : G} {L : List Slot} {a b e tg : Expr} {md md' : Md} {pos pp : Pos} {j : Nat} {α β δ : Type} {S : Ty α} {T : Ty β} {Q : Ty (List α)}
/-! ### zip(list, text) -/
theorem draws_stop {prog : Program} {w : World} {A : Around} (hh : A.handled = none) (it l : Addr) (hne : l ≠ it) (items : Array Value) (i : Nat) (hi : items[i]? = none) :
    Draws prog w A it [it, l] i (fun _ _ => True) (fun j h => j = i ∧ h.IsListIter it l j ∧ h.IsList l items) where
  live := fun _ _ st => let ⟨o, ho, _⟩ := st.2.1; ⟨o, ho⟩
  frame := fun _ _ _ st hk => ⟨st.1, st.2.1.at fun o e => hk it (by simp) o e, st.2.2.at fun o e => hk l (by simp) o e⟩
  item := fun j s Q E hj st hQ => absurd st.1 (Nat.ne_of_lt hj)
  done := fun s Q E st hE => wpAny_nextOf_list_end hh st.2.1 st.2.2 hi hE
def ItzS (K : PySem.W.Frag) (a : Addr) (x : Str) : It :=
  ⟨fun i H => ∃ (xs : List V) (v : V), SqL K H a xs ∧ xs[i]? = some v ∧ i < x.cps.size,
    fun i H v H' => ∃ T u c, v = .ref T ∧ H T = none ∧ H' = upd H T (.tup [u, .str ⟨#[c]⟩]) ∧ (∀ xs, SqL K H a xs → xs[i]? = some u) ∧ x.cps[i]? = some c,
    fun i H => ∃ xs : List V, SqL K H a xs ∧ (xs.length ≤ i ∨ x.cps.size ≤ i)⟩
theorem turn_zipS {P : Program} {w : World} {K : PySem.W.Frag} {elts : List Expr} {kk : Nat} {tpos : Pos} {a z TI TO i1 i2 : Addr} {x : Str} {t : Tok} (D : ZipSep2 z TI TO i1 i2 [i1, a] [i2]) (hai : a ≠ i1) :
    Turn P w K (.Tuple elts kk tpos) (ItzS K a x) [z, TI, TO, i1, i2] z (fun i h => IsZip h z TI TO .none ∧ IsTupOf2 h TI (.ref i1) (.ref i2) ∧ (∃ p q, IsTupOf2 h TO p q) ∧ h.IsListIter i1 a i ∧ h.IsStrIter i2 (strIterType x) x t i ∧ i ≤ x.cps.size) where
  mem := by simp
  obj := fun i h st c hc => by
    obtain ⟨hz, hTI, ⟨x, y, hTO⟩, ⟨o1, e1, _, d1⟩, ⟨o2, e2, _, d2⟩, _⟩ := st
    have e' : c = z ∨ c = TI ∨ c = TO ∨ c = i1 ∨ c = i2 := by simpa using hc
    rcases e' with q | q | q | q | q
    · rw [q]; exact ⟨_, hz, fun v q => nomatch q⟩
    · rw [q]; exact ⟨_, hTI, fun v q => nomatch q⟩
    · rw [q]; exact ⟨_, hTO, fun v q => nomatch q⟩
    · rw [q]; exact ⟨o1, e1, fun v q => by rw [d1] at q; cases q⟩
    · rw [q]; exact ⟨o2, e2, fun v q => by rw [d2] at q; cases q⟩
  keep := fun i h h' st k => by
    obtain ⟨hz, hTI, ⟨x, y, hTO⟩, h1, ⟨o2, e2, r2⟩, hle⟩ := st
    exact ⟨k z (by simp) _ hz, k TI (by simp) _ hTI, ⟨x, y, k TO (by simp) _ hTO⟩, h1.at fun o q => k i1 (by simp) o q, ⟨o2, k i2 (by simp) _ e2, r2⟩, hle⟩
  item := by
    intro X hP hw hK hc i pins s σ H E I hf st hg
    subst hP hw hK
    obtain ⟨hz, hTI, ⟨x0, y0, hTO⟩, h1, h2, hle⟩ := st
    obtain ⟨xs, v, hqx, hx, hy⟩ := hg
    obtain ⟨its, rv, p, _⟩ := I.list hqx
    obtain ⟨u, hu, ru⟩ := rv.get hx
    have hzl : z < s.heap.objs.size := Heap.lt_size hz
    have D1 := Draws.list (prog := X.prog) (w := X.w) (A := X.A.in1) (I.ok.hd hc) i1 a hai its.toArray
    have D2 := Draws.text (prog := X.prog) (w := X.w) (A := X.A.in1) (I.ok.hd hc) i2 x t
    have hu' : its.toArray[i]? = some u := by simpa using hu
    have hlt1 : i < its.toArray.size := by
      rcases Nat.lt_or_ge i its.toArray.size with q | q
      · exact q
      · rw [Array.getElem?_eq_none q] at hu'; cases hu'
    refine wpAny_pyNext_zipD2_item D D1 D2 hz hTI hTO ⟨h1, p.isList⟩ h2 hlt1 hy fun x1 x2 h' tk q1 q2 z' TO' st1 st2 hT hsz hk => ?_
    obtain ⟨c, t2, hcx, rfl⟩ := q2
    rw [hu'] at q1
    cases q1
    refine ⟨_, rfl, wpAny_letOwnedTupleGo_zip (s := { s with heap := h', toks := tk }) z' fun h'' z'' sb => ?_⟩
    have hT2 : h''.get? s.heap.objs.size = some { cls := .type "tuple", data := .seq #[u, .str ⟨#[c]⟩ t2] } := (sb.2 _ (Nat.ne_of_gt hzl)).trans hT
    have new : ObjOk X.prog X.w (upd H s.heap.objs.size (.tup [v, .str ⟨#[c]⟩])) h'' s.heap.objs.size (.tup [v, .str ⟨#[c]⟩]) :=
      ⟨by show 2 ≤ sizeLine; decide, [u, .str ⟨#[c]⟩ t2], .cons ru (.cons ⟨_, rfl⟩ .nil), ⟨_, hT2, rfl, _, rfl⟩⟩
    have I1 : Inv X pins σ (upd H s.heap.objs.size (.tup [v, .str ⟨#[c]⟩])) { s with heap := h'', toks := tk } :=
      I.turnedNew (t' := tk) (ch := [z, TI, TO, i1, i2]) (fun c o hb q => (sb.2 c (fun q' => hb (by simp [q']))).trans (hk c o (fun q' => hb (by simp [q'])) (fun q' => hb (by simp [q'])) (fun q' => hb (by simp [q'])) (fun q' => hb (by simp [q'])) q)) hf (Nat.le_refl _) new
    obtain ⟨o2, e2, r2⟩ := st2
    refine ⟨.ref s.heap.objs.size, _, I1, rfl, ⟨_, v, c, rfl, I.hok.fresh (Nat.le_refl _), rfl, fun l hl => by rw [I.list_inj hl hqx]; exact hx, hcx⟩, ⟨z'', ?_, ⟨u, .str ⟨#[c]⟩ t2, ?_⟩, ?_, ⟨o2, ?_, r2⟩, hy⟩, fun c hcm => ?_⟩
    · exact (sb.2 _ D.TIz).trans (hk _ _ D.TIz D.TITO D.TIi1 D.TIi2 hTI)
    · exact (sb.2 _ D.TOz).trans TO'
    · exact st1.1.at fun o q => (sb.2 _ D.zi1.symm).trans q
    · exact (sb.2 _ D.zi2.symm).trans e2
    · have hlt : c < s.heap.objs.size := by
        have e' : c = z ∨ c = TI ∨ c = TO ∨ c = i1 ∨ c = i2 := by simpa using hcm
        rcases e' with q | q | q | q | q
        · rw [q]; exact hzl
        · rw [q]; exact Heap.lt_size hTI
        · rw [q]; exact Heap.lt_size hTO
        · rw [q]; obtain ⟨_, e1, _⟩ := h1; exact Heap.lt_size e1
        · rw [q]; obtain ⟨_, e2, _⟩ := h2; exact Heap.lt_size e2
      rw [upd_ne (Nat.ne_of_lt hlt)]
      exact (hf c hcm).1
  done := by
    intro X hP hw hK hc i pins s σ H E I hf st hg
    subst hP hw hK
    obtain ⟨hz, hTI, ⟨x0, y0, hTO⟩, h1, h2, hle⟩ := st
    obtain ⟨xs, hqx, hend⟩ := hg
    obtain ⟨its, rv, p, _⟩ := I.list hqx
    have l1 := rv.length
    have D2 := Draws.text (prog := X.prog) (w := X.w) (A := X.A.in1) (I.ok.hd hc) i2 x t
    by_cases c : xs.length ≤ i
    · have hi : its.toArray[i]? = none := by simp; omega
      have D1 := draws_stop (prog := X.prog) (w := X.w) (A := X.A.in1) (I.ok.hd hc) i1 a hai its.toArray i hi
      exact wpAny_pyNext_zipD2_end D D1 D2 hz hTI hTO ⟨rfl, h1, p.isList⟩ h2 (Nat.le_refl _) hle (.inl rfl) fun h' tk hk => ⟨rfl, I.turnedL (t' := tk) (ch := [z, TI, TO, i1, i2]) (fun c o hb q =>
        hk c o (fun q' => hb (by simp [q'])) (fun q' => hb (by simp [q'])) (fun q' => hb (by simp [q'])) (fun q' => hb (by simp [q'])) q) hf⟩
    · have D1 := Draws.list (prog := X.prog) (w := X.w) (A := X.A.in1) (I.ok.hd hc) i1 a hai its.toArray
      have hi2 : i = x.cps.size := by
        rcases hend with q | q
        · exact absurd q c
        · omega
      exact wpAny_pyNext_zipD2_end D D1 D2 hz hTI hTO ⟨h1, p.isList⟩ h2 (by simp; omega) hle (.inr hi2) fun h' tk hk => ⟨rfl, I.turnedL (t' := tk) (ch := [z, TI, TO, i1, i2]) (fun c o hb q =>
        hk c o (fun q' => hb (by simp [q'])) (fun q' => hb (by simp [q'])) (fun q' => hb (by simp [q'])) (fun q' => hb (by simp [q'])) q) hf⟩
  self := fun A i s Q E st h => wpAny_pyIter_zip st.1 h
theorem zip_sep (n a : Nat) (la : a < n) : ZipSep2 (n + 4) (n + 2) (n + 3) n (n + 1) [n, a] [n + 1] := by
  have ne : ∀ x y : Nat, x < y ∨ y < x → (x : Addr) ≠ (y : Addr) := fun x y h e => by
    have e : x = y := e
    omega
  have nm1 : ∀ x y : Nat, x < y ∨ y < x → (x : Addr) ∉ ([y] : List Addr) := fun x y h m => ne x y h (List.mem_singleton.mp m)
  have nm2 : ∀ x y z : Nat, x < y ∨ y < x → x < z ∨ z < x → (x : Addr) ∉ ([y, z] : List Addr) := fun x y z h h2 m => (List.mem_cons.mp m).elim (ne x y h) fun m => ne x z h2 (List.mem_singleton.mp m)
  exact ⟨ne _ _ (by omega), ne _ _ (by omega), ne _ _ (by omega), ne _ _ (by omega), List.mem_cons_self, nm2 _ _ _ (by omega) (by omega), nm2 _ _ _ (by omega) (by omega), ne _ _ (by omega), List.mem_cons_self, nm1 _ _ (by omega), nm1 _ _ (by omega), nm1 _ _ (by omega), nm2 _ _ _ (by omega) (by omega)⟩
def iZipS (K : PySem.W.Frag) (ta : TA) : TI := fun σ H R => ta σ H fun vs H1 => ∃ a x xs, vs = [.ref a, .str x] ∧ SqL K H1 a xs ∧ R (ItzS K a x) H1
theorem pi_zipS {X : Cx} {e e2 : Expr} {ta : TA} {p pos tpos : Pos} {elts : List Expr} {kk : Nat} (hg : Gl X "zip") (hm : X.mg "zip" = none) (ha : PA X [e, e2] ta)
    (hs : starEach [e, e2] X.env = (false, eval e X.env) :: starEach [e2] X.env := by rfl) (hpl : (backTo pos (starEach [e2] X.env)).any (·.1) = false := by rfl) :
    PI X (.Tuple elts kk tpos) (.Call (.Name "zip" p) [e, e2] [] pos) (iZipS X.K ta) := by
  refine ⟨fun pins s σ H R I h => ?_⟩
  refine Call_ (ld_blt I hg hm PyProof.Rows.boot_zip (PyProof.Rows.callWith_type1 (thn (ha.run pos pins s σ H _ I h) fun us s1 ⟨vs, H1, I1, r1, q1⟩ => ?_) hs hpl))
  obtain ⟨a, x, xs, ex, hqx, q⟩ := q1
  subst ex
  cases r1 with
  | cons r rr =>
    cases rr with
    | cons r' rr =>
      cases rr
      cases r
      obtain ⟨t, rfl⟩ := r'
      obtain ⟨its, rv, p1, _⟩ := I1.list hqx
      have la : a < s1.heap.objs.size := p1.lt
      refine zip_begins2 (begins_list a its.toArray) (begins_text x t) p1.isList trivial fun h' hz hTI hTO g1 g2 hsz hk => wpAny_pyIter_zip hz ?_
      have I2 : Inv X pins σ H1 { s1 with heap := h' } := I1.kept (t' := s1.toks) hk
      have sep := zip_sep s1.heap.objs.size a la
      refine ⟨s1.heap.objs.size + 4, [s1.heap.objs.size + 4, s1.heap.objs.size + 2, s1.heap.objs.size + 3, s1.heap.objs.size, s1.heap.objs.size + 1], _, _, H1, rfl, I2, turn_zipS (x := x) (t := t) sep (Nat.ne_of_lt la), ⟨hz, hTI, ⟨_, _, hTO⟩, ⟨_, g1, rfl, rfl⟩, ⟨_, g2, rfl, rfl⟩, Nat.zero_le _⟩, fun c hcm => ?_, q⟩
      have e' : c = s1.heap.objs.size + 4 ∨ c = s1.heap.objs.size + 2 ∨ c = s1.heap.objs.size + 3 ∨ c = s1.heap.objs.size ∨ c = s1.heap.objs.size + 1 := by simpa using hcm
      have hle : s1.heap.objs.size ≤ c := by
        rcases e' with z | z | z | z | z
        · rw [z]; exact Nat.le_add_right _ _
        · rw [z]; exact Nat.le_add_right _ _
        · rw [z]; exact Nat.le_add_right _ _
        · rw [z]; exact Nat.le_refl _
        · rw [z]; exact Nat.le_add_right _ _
      exact I1.fpOk hle (I1.hok.fresh hle)
theorem evi_zipS {m1 : M (List α)} {m2 : M Tx} {elts : List Expr} {kk : Nat} {tpos : Pos} (ok : Ok p sc NN VV GG k g) (hq : IsSq p.K Q S) (hG : GG[j]? = some "zip") (hmg : p.mg "zip" = none) (ha : EvE g L a md Q m1) (hb : EvE g L b md tStr m2)
    (hs1 : starEach [a, b] g.X.env = (false, eval a g.X.env) :: starEach [b] g.X.env := by rfl) (hs2 : starEach [b] g.X.env = (false, eval b g.X.env) :: starEach [] g.X.env := by rfl) (hpl : (backTo pos (starEach [b] g.X.env)).any (·.1) = false := by rfl) :
    EvI g L (.Tuple elts kk tpos) (.Call (.Name "zip" pp) [a, b] [] pos) (tTup (aCons S (aCons tStr aNil))) (m1.bind fun xs => m2.bind fun y => .ok (zipL xs (y.map fun c => [c]))) := by
  obtain ⟨hg, ho⟩ := ok.gl hG
  refine PI.imp (pi_zipS hg (by rw [ok.mg]; exact hmg) (eva_cons ha (eva_cons hb eva_nil hs2) hs1) hs1 hpl) fun σ H R ⟨kp, own, at_, q⟩ => ?_
  refine tA_iff.mpr ⟨kp, own, at_, ?_⟩
  cases m1 with
  | ok xs =>
    cases m2 with
    | ok y =>
      rintro vs H' s ⟨v, r, rfl, rx, v2, r2, rfl, ⟨rfl, hok⟩, e3⟩
      cases (show r2 = [] from e3)
      have rx' : Q.rep xs v (RD g.fm own H') := Q.mono rx RX.sh
      have rb0 : Rdb p.K (RD g.fm own H') H' := by rw [← ok.fmK]; exact RD.rdb
      obtain ⟨ad, vs, rfl, h, r⟩ := hq.sq rb0 rx'
      refine ⟨ad, toS y, vs, rfl, by rw [ok.K]; exact h, ?_⟩
      rw [show ItzS g.X.K ad (toS y) = ItzS g.fm.K ad (toS y) from by rw [ok.K, ok.fmK]]
      refine q _ H' s fun H2 rb i => ?_
      obtain ⟨a', vs', e', hs', r2⟩ := hq.sq (by rw [← ok.fmK]; exact rb) rx'
      cases e'
      rw [← ok.fmK] at hs'
      have hyl : (toS y).cps.size = y.length := by show y.toArray.size = _; simp
      unfold zipL
      rw [List.getElem?_map]
      refine ⟨fun d hd => ?_, fun hn => ⟨vs', hs', ?_⟩⟩
      · cases hx : (xs.zip (y.map fun c => [c]))[i]? with
        | none => rw [hx] at hd; cases hd
        | some d0 =>
          rw [hx] at hd
          cases hd
          obtain ⟨hx1, hx2⟩ := List.getElem?_zip_eq_some.mp hx
          obtain ⟨v, h1, h2⟩ := r2.get hx1
          rw [List.getElem?_map] at hx2
          cases hy : y[i]? with
          | none => rw [hy] at hx2; cases hx2
          | some c =>
            rw [hy] at hx2
            have hx2 : [c] = d0.2 := by injection hx2
            have hlt := (List.getElem?_eq_some_iff.mp hy).1
            have hcy : (toS y).cps[i]? = some c := by
              show y.toArray[i]? = some c
              simpa using hy
            refine ⟨⟨vs', v, hs', h1, by rw [hyl]; exact hlt⟩, fun x H3 ⟨T', u, c', e1, e2, e3, hyy, hz⟩ => ?_⟩
            subst e1; subst e3
            have q1 := hyy vs' hs'
            rw [h1] at q1
            cases q1
            rw [hcy] at hz
            cases hz
            refine ⟨newSame e2, T', _, rfl, .inr ⟨cl_of upd_same, e2⟩, _, _, rfl, S.mono h2 fun a o z => .inl ⟨rfl, z⟩, _, [], rfl, ?_, rfl⟩
            show tStr.rep d0.2 _ _
            rw [← hx2]
            exact ⟨rfl, by show 1 ≤ sizeLine; decide, fun z hz => by rw [List.mem_singleton.mp hz]; exact hok.2 c (List.mem_of_getElem? hy)⟩
      · cases hx : (xs.zip (y.map fun c => [c]))[i]? with
        | none =>
          rw [List.getElem?_eq_none_iff, List.length_zip, List.length_map] at hx
          rw [← r2.length, hyl]
          omega
        | some d0 => rw [hx] at hn; cases hn
    | ex c => exact q
    | no => exact q
  | ex c => exact q
  | no => exact q
end
end Hd

set_option maxHeartbeats 1000000
namespace Hd
open PySem PySem.Spec PyProof.Rows L2 RT
/-! ### reversed(text) -/
theorem norev_str : typeLookup (.type "str") "__reversed__" = pure none := by rw [typeLookup_type, builtinLookup_eq_fast]; kernel_rfl
theorem get_str : typeLookup (.type "str") "__getitem__" = pure (some (.builtin "str.__getitem__")) := by rw [typeLookup_type, builtinLookup_eq_fast]; kernel_rfl
def rsObj (x : Str) (u : Tok) (i : Int) : Obj := { cls := .type "reversed", data := .fields #[.str x u, rawInt i] }
def IsRs (h : Heap) (a : Addr) (x : Str) (u : Tok) (i : Int) : Prop := ∃ o, h.get? a = some o ∧ o.cls = .type "reversed" ∧ o.data = .fields #[.str x u, rawInt i]
theorem IsRs.at {h h' : Heap} {a : Addr} {x : Str} {u : Tok} {i : Int} (y : IsRs h a x u i) (e : ∀ o, h.get? a = some o → h'.get? a = some o) : IsRs h' a x u i := let ⟨o, ho, r⟩ := y; ⟨o, e _ ho, r⟩
section
variable {prog : Program} {w : World} {A : Around} {E : Value → Shared → Prop} {s : Shared} {x : Str} {u : Tok}
theorem IsRs.typeIs {a : Addr} {i : Int} (y : IsRs s.heap a x u i) : s.TypeIs (.ref a) "reversed" := let ⟨o, ho, hc, _⟩ := y; ⟨o, ho, hc⟩
theorem code_reversed_str {Q₁ : Value → Shared → Prop} (hn : x.length ≤ sizeLine)
    (h : Q₁ (.ref s.heap.objs.size) { s with heap := s.heap.push (rsObj x u ((x.length : Int) - 1)), toks := s.toks + 1 + 1 }) :
    codeAny (model prog w) A (.call (.builtin "reversed.__new__") ⟨[.type "reversed", .str x u], []⟩) (wants Q₁ E) s := by
  have hT : s.TypeIs (.str x u) "str" := typeIs_str s x u
  have hz : sizeLine < 2 ^ 40 := by decide
  refine codeAny_of_tree ?_
  show wpAny _ A.in1 (do checkBuiltinCall "reversed.__new__" ⟨[.type "reversed", .str x u], []⟩; again (.builtin "reversed.__new__" ⟨[.type "reversed", .str x u], []⟩)) _ _ s
  refine wpAny_bind (wpAny_of_eq (F.newCall_reversed_1 _) (wpAny_pure ⟨plainId_quiet F.plain_reversed_new _, codeAny_builtin F.entry_reversed_new ?_⟩))
  rw [Around.under_plainId F.plain_reversed_new _]
  unfold Builtin.«reversed.__new__»
  refine wpAny_bind (wpAny_of_eq (newClass_reversed _) ?_)
  try dsimp only
  refine wpAny_bind (wpAny_of_eq (a := ()) (by first | rfl | kernel_rfl) ?_)
  try dsimp only
  refine wpAny_bind (wpAny_of_eq (a := ()) (by first | rfl | kernel_rfl) ?_)
  try dsimp only
  refine wpAny_bind (wpAny_specialOf hT norev_str ?_)
  try dsimp only
  refine wpAny_bind ?_
  wp_delta
  refine wpAny_bind (wpAny_isInstance (T := "str") (U := "dict") (b := false) hT PySem.F.sub_str_dict ?_)
  try dsimp only
  try rw [if_neg Bool.false_ne_true]
  try dsimp only
  refine wpAny_bind (wpAny_specialOf hT get_str ?_)
  try dsimp only
  try rw [if_pos (by decide +kernel)]
  refine wpAny_pure ?_
  try dsimp only
  try rw [if_neg (by decide)]
  try dsimp only
  refine wpAny_bind (len_str (by omega) ?_)
  refine wpAny_bind (wpAny_of_eq (a := some ((x.length : Nat) : Int)) rfl ?_)
  try dsimp only
  refine wpAny_bind ?_
  show wpAny _ _ (newObj (.type "reversed") (.fields #[.str x u, rawInt ((x.length : Int) - 1)])) _ _ _
  refine wpAny_newObj_type ?_
  exact wpAny_pure h
theorem call_reversed_str {Q : Value → Shared → Prop} (hn : x.length ≤ sizeLine)
    (h : Q (.ref s.heap.objs.size) { s with heap := s.heap.push (rsObj x u ((x.length : Int) - 1)), toks := s.toks + 1 + 1 }) : wpAny (model prog w) A (call (.type "reversed") [.str x u]) Q E s := by
  refine callType_codes (Q₁ := fun obj s₁ => s₁.TypeIs obj "reversed" ∧ Q obj s₁) called_rt (F.typeCall_reversed_1 _) F.entry_object_init
    (code_reversed_str (A := A.in1) hn ⟨⟨_, Heap.get?_push_size _ rfl, rfl⟩, h⟩) fun obj s₁ h₁ => ?_
  exact ⟨h₁.1, F.args_object_init_2 obj _, object_init_meets called_rt.init.lookup called_rt.made (by decide) prog w A.in1 _ s₁ ⟨h₁.1, rfl, h₁.2⟩⟩
theorem next_rs_item {it : Addr} {i : Nat} {c : Nat} {Q : Option Value → Shared → Prop} (hit : IsRs s.heap it x u (i : Int)) (hx : x.cps[i]? = some c) (hsz : x.length ≤ sizeLine)
    (hQ : ∀ h' tk t, IsRs h' it x u ((i : Int) - 1) → Heap.SameBut it s.heap h' → Q (some (.str ⟨#[c]⟩ t)) { s with heap := h', toks := tk }) : wpAny (model prog w) A (pyNext (.ref it)) Q E s := by
  obtain ⟨o, ho, hc, hd⟩ := id hit
  have hi : i < x.length := (Array.getElem?_eq_some_iff.mp hx).1
  have hT : s.TypeIs (.str x u) "str" := typeIs_str s x u
  have hz : sizeLine < 2 ^ 40 := by decide
  unfold pyNext
  refine wpAny_bind (wpAny_attempt (wpAny_callSpecial?_slot (name := Str.ofString "__next__") hit.typeIs slot_rt_next
    (wpAny_call_entry slot_rt_next hit.typeIs entry_rt_next ?_ (args_rt_next _))))
  unfold Builtin.«reversed.__next__»
  refine wpAny_bind (wpAny_of_eq (a := (Value.ref it, [])) rfl ?_)
  try dsimp only
  refine wpAny_bind (wpAny_field ho hd (x := .str x u) rfl ?_)
  try dsimp only
  refine wpAny_bind (wpAny_field ho hd (x := rawInt (i : Int)) rfl ?_)
  show wpAny _ _ (if (i : Int) < 0 then _ else _) _ _ s
  rw [if_neg (by omega)]
  try dsimp only
  refine wpAny_bind (wpAny_specialOf hT get_str ?_)
  try dsimp only
  try rw [if_neg (by decide)]
  try dsimp only
  refine wpAny_bind (wpAny_mkInt ?_)
  refine wpAny_bind (wpAny_attempt ?_)
  have fin : seqIndex? (i : Int) x.length = some i := seqIndex_of (by omega) (by omega)
  refine PyProof.Rows.getItem_str (s := { s with toks := s.toks + 1 }) (c := c) (by simp; omega) (by rw [fin]; exact hx) ?_
  try dsimp only
  refine wpAny_bind (wpAny_field (s := { s with toks := s.toks + 1 + 1 }) ho hd (x := rawInt (i : Int)) rfl ?_)
  try dsimp only
  refine wpAny_bind (wpAny_setField (s := { s with toks := s.toks + 1 + 1 }) ho hd (by simp) ?_)
  first
  | refine wpAny_pure ⟨_, rfl, wpAny_pure (hQ _ _ _ ?_ (Heap.SameBut.update ..))⟩
  | refine wpAny_bind (wpAny_pure (wpAny_pure ⟨_, rfl, wpAny_pure (hQ _ _ _ ?_ (Heap.SameBut.update ..))⟩))
  exact ⟨_, Heap.get?_update_self _ ho (Obj.isFreed_of_fields (Obj.data_mapFields hd _)), (Obj.cls_mapFields ..).trans hc, by
    rw [Obj.data_mapFields hd]; simp⟩
theorem next_rs_end {it : Addr} {Q : Option Value → Shared → Prop} (hh : A.handled = none) (hit : IsRs s.heap it x u (-1))
    (hQ : ∀ h', Heap.ExtBut it s.heap h' → Q none { s with heap := h' }) : wpAny (model prog w) A (pyNext (.ref it)) Q E s := by
  obtain ⟨o, ho, hc, hd⟩ := id hit
  unfold pyNext
  refine wpAny_bind (wpAny_attempt (wpAny_callSpecial?_slot (name := Str.ofString "__next__") hit.typeIs slot_rt_next
    (wpAny_call_entry slot_rt_next hit.typeIs entry_rt_next ?_ (args_rt_next _))))
  unfold Builtin.«reversed.__next__»
  refine wpAny_bind (wpAny_of_eq (a := (Value.ref it, [])) rfl ?_)
  try dsimp only
  refine wpAny_bind (wpAny_field ho hd (x := .str x u) rfl ?_)
  try dsimp only
  refine wpAny_bind (wpAny_field ho hd (x := rawInt (-1)) rfl ?_)
  show wpAny _ _ (if (-1 : Int) < 0 then _ else _) _ _ s
  rw [if_pos (by decide)]
  try dsimp only
  refine wpAny_bind (wpAny_rule ?_)
  refine wpAny_bind ?_
  wp_delta
  refine wpAny_bind (wpAny_setField ho hd (by simp) ?_)
  have ho2 := Heap.get?_update_self (Obj.mapFields (·.setIfInBounds 1 (rawInt (-1)))) ho (Obj.isFreed_of_fields (Obj.data_mapFields hd _))
  refine wpAny_setField (s := { s with heap := s.heap.update it (Obj.mapFields (·.setIfInBounds 1 (rawInt (-1)))) }) ho2 (Obj.data_mapFields hd _) (by simp) ?_
  try dsimp only
  first
  | show wpAny _ _ (newExc (.type "StopIteration") [] >>= _) _ _ _
  | (refine wpAny_bind ?_; show wpAny _ _ (newExc (.type "StopIteration") [] >>= _) _ _ _)
  | (refine wpAny_bind ?_; wp_delta; show wpAny _ _ (newExc (.type "StopIteration") [] >>= _) _ _ _)
  refine wpAny_bind ?_
  simp only [newExc, newTuple]
  refine wpAny_bind (wpAny_newObj_type ?_ (by size_fits))
  refine wpAny_bind (m := firstArgMember _ _) (wpAny_of_eq (a := Value.none) (by first | rfl | (simp only [firstArgMember]; rfl)) ?_)
  refine wpAny_newObj_type ?_ (by size_fits)
  simp only [raiseNew]
  refine wpAny_bind (wpAny_handled ?_)
  first | rw [show A.in1.handled = none from hh] | rw [hh]
  refine wpAny_bind (wpAny_pure (wpAny_throw ?_))
  refine wpAny_bind (wpAny_isInstance (T := "StopIteration") (b := true) ⟨_, Heap.get?_push_size _ rfl, rfl⟩ isSubtype_stop ?_)
  refine wpAny_pure (hQ _ ?_)
  refine ((?_ : Heap.ExtBut it s.heap _).push _).push _
  exact fun b ob hb e => (Heap.get?_update_other _ _ (Ne.symm hb)).trans ((Heap.get?_update_other _ _ (Ne.symm hb)).trans e)
theorem iter_rs {it : Addr} {i : Int} {Q : Value → Shared → Prop} (hit : IsRs s.heap it x u i) (h : Q (.ref it) s) : wpAny (model prog w) A (pyIter (.ref it)) Q E s := by
  refine wpAny_pyIter_slot hit.typeIs slot_rt_iter (wpAny_call_entry slot_rt_iter hit.typeIs entry_rt_iter ?_ (args_rt_iter _))
  show wpAny _ _ (ret (.ref it)) _ _ s
  exact wpAny_pure ⟨_, rfl, "reversed", _, hit.typeIs, slot_rt_next.lookup, h⟩
end
def ItvS (x : Str) : It := ⟨fun i _ => i < x.cps.size, fun i H v H' => H' = H ∧ ∃ c, x.cps[x.cps.size - 1 - i]? = some c ∧ v = .str ⟨#[c]⟩, fun i _ => x.cps.size ≤ i⟩
theorem turn_rs {P : Program} {w : World} {K : PySem.W.Frag} {tg : Expr} (it : Addr) (x : Str) (u : Tok) (hsz : x.length ≤ sizeLine) : Turn P w K tg (ItvS x) [it] it (fun i h => i ≤ x.cps.size ∧ IsRs h it x u ((x.cps.size : Int) - 1 - (i : Nat))) where
  mem := by simp
  obj := fun i h st b hb => by
    have e : b = it := by simpa using hb
    subst e
    obtain ⟨_, o, e, c, d⟩ := st
    exact ⟨o, e, fun v z => by rw [d] at z; cases z⟩
  keep := fun i h h' st k => ⟨st.1, st.2.at fun o e => k it (by simp) o e⟩
  item := by
    intro X hP hw hK hc i pins s σ H E I hf st hg
    subst hP hw hK
    have hin : i < x.cps.size := hg
    obtain ⟨f0, f1, f2, f3, f4, f5⟩ := hf it (by simp)
    obtain ⟨_, hit⟩ := st
    have e1 : (x.cps.size : Int) - 1 - ((i : Nat) : Int) = ((x.cps.size - 1 - i : Nat) : Int) := by omega
    rw [e1] at hit
    have hx : x.cps[x.cps.size - 1 - i]? = some (x.cps[x.cps.size - 1 - i]'(by omega)) := by simp
    refine next_rs_item hit hx hsz fun h' tk t st' sb => ?_
    have e2 : ((x.cps.size - 1 - i : Nat) : Int) - 1 = (x.cps.size : Int) - 1 - ((i + 1 : Nat) : Int) := by omega
    rw [e2] at st'
    have I1 : Inv X pins σ H { s with heap := h', toks := tk } := I.turned (t' := tk) (fun b o hb e => (sb.2 b hb).trans e) f0 f1 f3 f4 f5
    obtain ⟨o, e, cc, d⟩ := id st'
    exact ⟨_, rfl, go_of (s := { s with heap := h', toks := tk }) e cc d (by decide) ⟨.str ⟨#[x.cps[x.cps.size - 1 - i]'(by omega)]⟩, H, I1, ⟨t, rfl⟩, ⟨rfl, _, hx, rfl⟩, ⟨hin, st'⟩, fun b hb => (hf b hb).1⟩⟩
  done := by
    intro X hP hw hK hc i pins s σ H E I hf st hg
    subst hP hw hK
    obtain ⟨f0, f1, f2, f3, f4, f5⟩ := hf it (by simp)
    obtain ⟨hin, hit⟩ := st
    have hge : x.cps.size ≤ i := hg
    have e1 : (x.cps.size : Int) - 1 - ((i : Nat) : Int) = -1 := by omega
    rw [e1] at hit
    exact next_rs_end (I.ok.hd hc) hit fun h' eb => ⟨rfl, I.turned (t' := s.toks) (fun b o hb e => eb b o hb e) f0 f1 f3 f4 f5⟩
  self := fun A i s Q E st h => iter_rs st.2 h
def iRevS (ta : TA) : TI := fun σ H R => ta σ H fun vs H1 => ∃ x, vs = [.str x] ∧ x.length ≤ sizeLine ∧ R (ItvS x) H1
theorem pi_revS {X : Cx} {tg e : Expr} {ta : TA} {p pos : Pos} (hg : Gl X "reversed") (hm : X.mg "reversed" = none) (ha : PA X [e] ta) (hs : starEach [e] X.env = [(false, eval e X.env)] := by rfl) : PI X tg (.Call (.Name "reversed" p) [e] [] pos) (iRevS ta) := by
  refine ⟨fun pins s σ H R I h => ?_⟩
  refine Call_ (ld_blt I hg hm PyProof.Rows.boot_reversed (PyProof.Rows.callWith_type1 (thn (ha.run pos pins s σ H _ I h) fun us s1 ⟨vs, H1, I1, r1, q1⟩ => ?_) hs rfl))
  obtain ⟨x, ex, hz, q⟩ := q1
  subst ex
  cases r1 with
  | cons r rr =>
    cases rr
    obtain ⟨t, rfl⟩ := r
    have e1 : ((x.length : Nat) : Int) - 1 = (x.cps.size : Int) - 1 - ((0 : Nat) : Int) := by show (x.cps.size : Int) - 1 = _; omega
    refine call_reversed_str hz (iter_rs (x := x) (u := t) (i := (x.length : Int) - 1) ⟨_, Heap.get?_push_size _ rfl, rfl, rfl⟩ ?_)
    refine pi_one (tk := s1.toks + 1 + 1) I1 _ (turn_rs _ x t hz) ⟨Nat.zero_le _, ?_⟩ q
    rw [← e1]
    exact ⟨_, Heap.get?_push_size _ rfl, rfl, rfl⟩
section
variable {p : Pr} {sc : Scope} {NN VV GG : List Str} {k : Nat} {g : G} {L : List Slot} {a b e tg : Expr} {md md' : Md} {pos pp : Pos} {j : Nat} {α β δ : Type} {S : Ty α} {T : Ty β}
theorem evi_revS {m : M Tx} (ok : Ok p sc NN VV GG k g) (hG : GG[j]? = some "reversed") (hmg : p.mg "reversed" = none) (ha : EvE g L a md tStr m) (hs : starEach [a] g.X.env = (false, eval a g.X.env) :: starEach [] g.X.env := by rfl) :
    EvI g L tg (.Call (.Name "reversed" pp) [a] [] pos) tStr (m.bind fun x => .ok (x.reverse.map fun c => [c])) := by
  obtain ⟨hg, ho⟩ := ok.gl hG
  refine PI.imp (pi_revS hg (by rw [ok.mg]; exact hmg) (eva_cons ha eva_nil hs) hs) fun σ H R ⟨kp, own, at_, q⟩ => ?_
  refine tA_iff.mpr ⟨kp, own, at_, ?_⟩
  cases m with
  | ok xs =>
    rintro vs H' s ⟨v, r, rfl, ⟨rfl, hok⟩, e3⟩
    cases (show r = [] from e3)
    have hl : (toS xs).cps.size = xs.length := by show xs.toArray.size = _; simp
    refine ⟨toS xs, rfl, by rw [toS_len]; exact hok.1, q (ItvS (toS xs)) H' s fun H2 rb i => ?_⟩
    rw [List.getElem?_map]
    refine ⟨fun d hd => ?_, fun hn => ?_⟩
    · cases hx : xs.reverse[i]? with
      | none => rw [hx] at hd; cases hd
      | some c =>
        rw [hx] at hd
        cases hd
        have hlt := (List.getElem?_eq_some_iff.mp hx).1
        rw [List.length_reverse] at hlt
        rw [List.getElem?_reverse hlt] at hx
        refine ⟨by show i < (toS xs).cps.size; rw [hl]; exact hlt, fun x H3 ⟨e, c', h1, h2⟩ => ?_⟩
        subst e
        have : c' = c := by
          have h1' : xs.toArray[(toS xs).cps.size - 1 - i]? = some c' := h1
          rw [hl, List.getElem?_toArray, hx] at h1'
          exact (Option.some.inj h1').symm
        subst this
        exact ⟨Same.refl _, h2, by show 1 ≤ sizeLine; decide, fun c2 hc2 => by rw [List.mem_singleton.mp hc2]; exact hok.2 _ (List.mem_of_getElem? hx)⟩
    · show (toS xs).cps.size ≤ i
      rw [hl]
      cases hx : xs.reverse[i]? with
      | none => rw [List.getElem?_eq_none_iff, List.length_reverse] at hx; exact hx
      | some d0 => rw [hx] at hn; cases hn
  | ex c => exact q
  | no => exact q
end
end Hd

namespace Hd
open PySem PySem.Spec PyProof.Rows L2
section
variable {p : Pr} {sc : Scope} {NN VV GG : List Str} {k : Nat} {g : G} {L : List Slot} {α β δ : Type} {S : Ty α} {md : Md} {pos : Pos} {st : List Stmt} {D : δ → Out} {i j : Nat} {x : Str}
def popM {α : Type} (xs : List α) : M (List α) := if 0 < xs.length then .ok xs.dropLast else .no
theorem evb_pop {bb : Bool} {ds : List α} {f : List α → M δ} {p1 ap cp : Pos} (ok : OkS p sc NN VV GG k g) (wk : Wk L g.LX) (hN : NN[i]? = some x) (hV : VV[j]? = some x) (hL : L[i]? = some (sOwn bb S ds))
    (hr : ∀ ds', EvB g (L.set i (sOwn bb S ds')) st D (f ds'))
    (hs : swapsWith (.Call (.Attribute (.Name x p1) "pop" ap) [] [] cp) none pos.line g.X.env = pure false := by rfl)
    (hbase : attributeBase (.Name x p1) "pop" g.X.env (eval (.Name x p1) g.X.env) = eval (.Name x p1) g.X.env := by rfl)
    (hline : (ap.endLine == cp.line) = true := by rfl) :
    EvB g L (.Expr (.Call (.Attribute (.Name x p1) "pop" ap) [] [] cp) pos :: st) D ((popM ds).bind f) := by
  obtain ⟨hv, ho⟩ := ok.vis hV
  obtain ⟨h1, h2, _⟩ := okName_d ho
  refine PSs.imp (pss_cons (ps_expr (pe_bm0 PySem.F.plainAttrs_list PySem.F.slot_list_pop PySem.F.type_list_pop mt_pop (pe_var (i := i) (by rw [ok.N]; exact hN) hv h1 h2) (hbase := hbase) (hline := hline)) hs) (PSs.ex hr)) fun E σ H ⟨kp, own, at_, q⟩ => ?_
  obtain ⟨p', vs, e1, hp, r, mu⟩ := at_.mut hL
  unfold popM at q
  by_cases c : 0 < ds.length
  · rw [if_pos c] at q
    have hl := r.length
    have hy : vs[vs.length - 1]? = some (vs[vs.length - 1]'(by omega)) := by simp
    have rr : Reps S (RB g.fm own H bb) ds.dropLast vs.dropLast := by
      rw [List.dropLast_eq_take, List.dropLast_eq_take, hl]
      exact r.take _
    exact ⟨_, e1, Or.inl ⟨rfl, _, SqL.of hp⟩, _, vs, _, rfl, rfl, hp, hy, ds.dropLast, kp, own, mu _ _ rr, q⟩
  · rw [if_neg c] at q
    exact q.elim
end
end Hd

namespace Hd
open PySem PySem.Spec PyProof.Rows L2
/-! ### a dict of one's own -/
section
variable {p : Pr} {sc : Scope} {NN VV GG : List Str} {k : Nat} {g : G} {L : List Slot} {α β δ : Type} {S : Ty α} {T : Ty β} {md md' : Md} {pos : Pos} {st : List Stmt} {D : δ → Out} {i j : Nat} {x : Str} {a b c e : Expr}
inductive KReps {α : Type} (T : Ty α) (R : RdR) : List (Key × α) → List (Key × V) → Prop where
  | nil : KReps T R [] []
  | cons {k d v ds vs} : T.rep d v R → KReps T R ds vs → KReps T R ((k, d) :: ds) ((k, v) :: vs)
theorem KReps.mono {R R' : RdR} {ds : List (Key × α)} {vs : List (Key × V)} (h : KReps S R ds vs) (s : ∀ a o, R a o → R' a o) : KReps S R' ds vs := by
  induction h with
  | nil => exact .nil
  | cons r _ ih => exact .cons (S.mono r s) ih
theorem KReps.length {R : RdR} {ds : List (Key × α)} {vs : List (Key × V)} (h : KReps S R ds vs) : ds.length = vs.length := by
  induction h with
  | nil => rfl
  | cons r _ ih => simp [ih]
/-- what stands at a key -/
def dgetL {α : Type} (ds : List (Key × α)) (k : Key) : Option α := (ds.find? fun kv => decide (kv.1 = k)).map (·.2)
def dputL {α : Type} (ds : List (Key × α)) (k : Key) (d : α) : List (Key × α) := if (ds.any fun kv => decide (kv.1 = k)) = true then ds.map (fun kv => if kv.1 = k then (kv.1, d) else kv) else ds ++ [(k, d)]
theorem KReps.get {R : RdR} {ds : List (Key × α)} {vs : List (Key × V)} (h : KReps S R ds vs) (k : Key) : (dgetL ds k = none ∧ valV vs k = none) ∨ ∃ d v, dgetL ds k = some d ∧ valV vs k = some v ∧ S.rep d v R := by
  induction h with
  | nil => exact .inl ⟨rfl, rfl⟩
  | @cons k' d v ds vs r _ ih =>
    by_cases e : k' = k
    · exact .inr ⟨d, v, by simp [dgetL, List.find?_cons, e], valV_pos e, r⟩
    · have e1 : dgetL ((k', d) :: ds) k = dgetL ds k := by simp [dgetL, List.find?_cons, e]
      rw [e1, valV_neg e]
      exact ih
theorem KReps.map {R : RdR} {ds : List (Key × α)} {vs : List (Key × V)} (h : KReps S R ds vs) (k : Key) {d : α} {v : V} (r : S.rep d v R) : KReps S R (ds.map (fun kv => if kv.1 = k then (kv.1, d) else kv)) (vs.map (fun kv => if kv.1 = k then (kv.1, v) else kv)) := by
  induction h with
  | nil => exact .nil
  | @cons k' d' v' ds vs r' _ ih =>
    rw [List.map_cons, List.map_cons]
    by_cases e : k' = k
    · simp only [if_pos e]; exact .cons r ih
    · simp only [if_neg e]; exact .cons r' ih
theorem KReps.any {R : RdR} {ds : List (Key × α)} {vs : List (Key × V)} (h : KReps S R ds vs) (k : Key) : (ds.any fun kv => decide (kv.1 = k)) = (vs.any fun kv => decide (kv.1 = k)) := by
  induction h with
  | nil => rfl
  | cons r _ ih => rw [List.any_cons, List.any_cons, ih]
theorem KReps.snoc {R : RdR} {ds : List (Key × α)} {vs : List (Key × V)} (h : KReps S R ds vs) (k : Key) {d : α} {v : V} (r : S.rep d v R) : KReps S R (ds ++ [(k, d)]) (vs ++ [(k, v)]) := by
  induction h with
  | nil => exact .cons r .nil
  | cons r' _ ih => exact .cons r' ih
theorem KReps.put {R : RdR} {ds : List (Key × α)} {vs : List (Key × V)} (h : KReps S R ds vs) (k : Key) {d : α} {v : V} (r : S.rep d v R) : KReps S R (dputL ds k d) (putK vs k v) := by
  unfold dputL putK
  rw [h.any k]
  split
  · exact h.map k r
  · exact h.snoc k r
def sDict {α : Type} (b : Bool) (T : Ty α) (ds : List (Key × α)) : Slot := ⟨fun v H R F => ∃ p xs, v = some (.ref p) ∧ F = [p] ∧ H p = some (.dK xs) ∧ KReps T (R b) ds xs,
  fun ⟨p, xs, e, f, h, r⟩ s k => ⟨p, xs, e, f, by rw [k p (by simp [f])]; exact h, r.mono (s b)⟩, fun ⟨p, xs, e, f, h, r⟩ q hq => by subst f; rw [List.mem_singleton.mp hq, cl_of h]; exact fun z => nomatch z⟩
theorem At.mutD {fm : Fm} {kp : RdR} {σ : L2.St} {H : Hp} {own : List Addr} {b : Bool} {ds : List (Key × α)} {i : Nat} (h : At fm kp L σ H own) (hL : L[i]? = some (sDict b S ds)) :
    ∃ p vs, σ[i]? = some (some (.ref p)) ∧ H p = some (.dK vs) ∧ KReps S (RB fm own H b) ds vs ∧ ∀ ds' vs', KReps S (RB fm own H b) ds' vs' → At fm kp (L.set i (sDict b S ds')) σ (upd H p (.dK vs')) own := by
  obtain ⟨h1, h2, ⟨Fs, h3, rfl⟩, h4, h5, h6⟩ := h
  obtain ⟨v, F, e1, e2, q, vs, rfl, rfl, hp, r⟩ := h3.get hL
  have qin : q ∈ Fs.flatten := List.mem_flatten.mpr ⟨[q], List.mem_of_getElem? e2, by simp⟩
  refine ⟨q, vs, e1, hp, r, fun ds' vs' r' => ?_⟩
  have key : ∀ (md : Md) a o, RX fm Fs.flatten H H md a o → RX fm Fs.flatten (upd H q (.dK vs')) (upd H q (.dK vs')) md a o ∨ md = .fx := fun md a o z => by
    cases md with
    | sh =>
      rcases z with z | z
      · have n : a ≠ q := fun e => z.2.1 (by rw [e]; exact qin)
        refine .inl (.inl ⟨?_, z.2⟩)
        unfold Rd
        rw [cl_upd_ne n]
        exact z.1
      · exact .inl (.inr z)
    | f0 =>
      have n : a ≠ q := fun e => z.2.1 (by rw [e]; exact qin)
      exact .inl ⟨by rw [cl_upd_ne n]; exact z.1, z.2⟩
    | fx => exact .inr rfl
  have keyB : ∀ (b : Bool) a o, RB fm Fs.flatten H b a o → RB fm Fs.flatten (upd H q (.dK vs')) b a o := fun b a o z => by
    cases b with
    | false => exact (key .sh a o z).resolve_right (fun e => nomatch e)
    | true => exact (key .f0 a o z).resolve_right (fun e => nomatch e)
  have up : ∀ a, H a ≠ none → upd H q (.dK vs') a ≠ none := fun a n => by
    by_cases e : a = q
    · rw [e, upd_same]; exact fun z => by cases z
    · rw [upd_ne e]; exact n
  refine ⟨h1.wr (h5 q qin).2.1 hp (fun _ z => nomatch z) rfl, fun a z => up a (h2 a z), ⟨Fs, ?_, rfl⟩, h4, fun x hx => ⟨up x (h5 x hx).1, (h5 x hx).2⟩, fun a o z => (key .sh a o (h6 a o z)).resolve_right (fun e => nomatch e)⟩
  · -- the slots
    have gen : ∀ {L : List Slot} {σ : L2.St} {Fs' : List (List Addr)}, AllS H (RB fm Fs.flatten H) L σ Fs' → Fs'.flatten.Nodup → ∀ {i : Nat}, Fs'[i]? = some [q] → L[i]? = some (sDict b S ds) → σ[i]? = some (some (V.ref q)) →
        AllS (upd H q (.dK vs')) (RB fm Fs.flatten (upd H q (.dK vs'))) (L.set i (sDict b S ds')) σ Fs' := by
      intro L σ Fs' hA
      induction hA with
      | nil => intro _ i e _ _; simp at e
      | @cons sl L v σ F Fs' r t ih =>
        intro nd i e eL eσ
        rw [List.flatten_cons, List.nodup_append] at nd
        cases i with
        | zero =>
          simp at e eL eσ
          subst e; subst eL; subst eσ
          refine .cons ⟨q, vs', rfl, rfl, upd_same, r'.mono (keyB b)⟩ (t.st keyB fun x hx => ?_)
          exact upd_ne fun z => nd.2.2 q (by simp) x hx z.symm
        | succ i =>
          have e' : Fs'[i]? = some [q] := by simpa using e
          refine .cons (sl.st r keyB fun x hx => upd_ne fun z => nd.2.2 x hx q (List.mem_flatten.mpr ⟨[q], List.mem_of_getElem? e', by simp⟩) z) (ih nd.2.1 e' (by simpa using eL) (by simpa using eσ))
    exact gen h3 h4 e2 hL e1
theorem At.setOwnD {fm : Fm} {kp : RdR} {σ : L2.St} {H H' : Hp} {own : List Addr} {b : Bool} {ds : List (Key × α)} {vs : List (Key × V)} {q : Addr} (h : At fm kp L σ H own) (s : Same H H') (hn : H q = none) (h' : H' q = some (.dK vs))
    (r : KReps S (RB fm (q :: own) H' b) ds vs) : ∃ own', At fm kp (L.set i (sDict b S ds)) (σ.set i (some (.ref q))) H' own' := by
  obtain ⟨h1, h2, ⟨Fs, h3, rfl⟩, h4, h5, h6⟩ := h
  have hq : q ∉ Fs.flatten := fun z => (h5 q z).1 hn
  have sub : ∀ x ∈ (Fs.set i [q]).flatten, x ∈ q :: Fs.flatten := fun x hx => (set_own x hx).elim (fun e => by rw [e]; exact List.mem_cons_self) (List.mem_cons_of_mem _)
  have key : ∀ (md : Md) a o, RX fm Fs.flatten H H md a o → RX fm (Fs.set i [q]).flatten H H' md a o := fun md a o z => by
    refine RX.own sub a o ?_
    have z1 := RX.add (o' := .lst []) hn a o z
    have na : a ≠ q ∨ KObj fm.K a o := by
      rcases RX.sh a o z with z | z
      · exact .inl fun e => Rd.some z.1 (by rw [e]; exact cl_none hn)
      · exact .inr z
    cases md with
    | sh =>
      rcases z1 with z1 | z1
      · rcases z with z | z
        · exact .inl ⟨Rd.same s z.1, z1.2⟩
        · exact .inr z
      · exact .inr z1
    | f0 => exact ⟨s.cl _ _ z.1, z1.2⟩
    | fx => exact ⟨s.cl _ _ z.1, z1.2⟩
  have keyB : ∀ (b : Bool) a o, RB fm Fs.flatten H b a o → RB fm (Fs.set i [q]).flatten H' b a o := fun b a o z => by
    cases b with
    | false => exact key .sh a o z
    | true => exact key .f0 a o z
  refine ⟨_, h1.trans s, fun a z n => h2 a z (s.free n), ⟨Fs.set i [q], (h3.st (H' := H') keyB fun p hp => ?_).set (s := sDict b S ds) ⟨q, vs, rfl, rfl, h', r.mono fun a o z => ?_⟩ i, rfl⟩, set_own_nd hq h4, fun p hp => ?_, fun a o z => key .sh a o (h6 a o z)⟩
  · cases e : cl H p with
    | none => exact absurd e (h3.tb p hp)
    | some u => rw [cl_raw e]; exact s.keep _ _ (cl_raw e) (cl_nt e)
  · cases b <;> exact RX.own sub a o z
  · rcases set_own p hp with rfl | hp
    · exact ⟨by rw [h']; exact (fun z => by cases z), h1.free hn, fun z => h2 _ z hn⟩
    · exact ⟨fun e => (h5 p hp).1 (s.free e), (h5 p hp).2⟩

theorem evb_newD {f : List (Key × α) → M δ} {pos' pd : Pos} (ok : OkS p sc NN VV GG k g) (hN : NN[i]? = some x) (hV : VV[j]? = some x) (hr : ∀ ds, EvB g (L.set i (sDict false S ds)) st D (f ds))
    (hs : ∀ Y : Cx, swapsWith (.Dict [] [] pd) (some (.Name x pos')) pos.line Y.env = pure false := by intro _; rfl) : EvB g L (.Assign [.Name x pos'] (.Dict [] [] pd) pos :: st) D ((M.ok ([] : List (Key × α))).bind f) := by
  refine PSs.imp (pss_cons (ps_set (i := i) (by rw [ok.N]; exact ok.nd) (by rw [ok.N]; exact hN) (ok.loc hV) pe_dnewK (hs _) (okS_fn ok)) (PSs.ex hr)) fun E σ H ⟨kp, own, at_, q⟩ => ?_
  intro q' hq'
  obtain ⟨own', a'⟩ := at_.setOwnD (S := S) (i := i) (b := false) (ds := []) (vs := []) (newSame hq') hq' upd_same .nil
  exact ⟨[], kp, own', a', q⟩
def dputM {α : Type} (ds : List (Key × α)) (k : Key) (d : α) : M (List (Key × α)) := if ds.length < sizeLine then .ok (dputL ds k d) else .no
theorem ev_getD {bb : Bool} {ds : List (Key × α)} {m1 : M Int} {m2 : M α} {npos ap : Pos} (ok : Ok p sc NN VV GG k g) (hN : NN[i]? = some x) (hV : VV[j]? = some x) (hL : L[i]? = some (sDict bb S ds)) (ha : EvE g L a .sh tInt m1) (hb : EvE g L b .sh S m2)
    (hm : M2 g.X (.Name x npos) "get" ap a b pos := by exact ⟨rfl, rfl, rfl, rfl⟩) :
    EvE g L (.Call (.Attribute (.Name x npos) "get" ap) [a, b] [] pos) .sh S (m1.bind fun n => m2.bind fun d => .ok ((dgetL ds (.inl n)).getD d)) := by
  obtain ⟨hv, ho⟩ := ok.vis hV
  obtain ⟨h1, h2, _⟩ := okName_d ho
  refine PE.imp (pe_dget2 (by have := ok.room.un; omega) (pe_var (i := i) (by rw [ok.N]; exact hN) hv h1 h2) ha hb hm) fun σ H Q q => ?_
  obtain ⟨kp, own, at_, q⟩ := tE_iff.mp q
  obtain ⟨Fs, hA, rfl⟩ := at_.sl
  obtain ⟨v, F, e1, e2, pp, vs, rfl, rfl, hp, r⟩ := hA.get hL
  refine ⟨_, e1, pp, rfl, .inl ⟨vs, .inl hp⟩, sub finE (Same.refl H) at_ q fun n y H2 s2 r2 at2 q2 => sub finE s2 at2 q2 fun d z H3 s3 r3 at3 q3 => ?_⟩
  cases (show y = .int n from r2)
  refine ⟨valV vs (.inl n), DGet.k (k := .inl n) ((s2.trans s3).keep _ _ hp rfl), ?_⟩
  rcases r.get (.inl n) with ⟨g1, g2⟩ | ⟨d', v', g1, g2, g3⟩
  · rw [g2]
    rw [g1] at q3
    exact q3 z H3 (s2.trans s3) r3
  · rw [g2]
    rw [g1] at q3
    refine q3 v' H3 (s2.trans s3) (S.mono g3 fun a o z => ?_)
    have z1 : RX g.fm Fs.flatten H H (if bb then .f0 else .sh) a o := z
    exact RX.same (s2.trans s3) a o (RX.sh a o z1)
theorem evb_putD {bb : Bool} {ds : List (Key × α)} {m : M α} {mi : M Int} {f : List (Key × α) → M δ} {ix : Expr} {p1 p2 : Pos} (ok : OkS p sc NN VV GG k g) (wk : Wk L g.LX) (hN : NN[i]? = some x) (hV : VV[j]? = some x) (hL : L[i]? = some (sDict bb S ds)) (hb : SlB md bb)
    (he : EvE g L e md S m) (hi : EvE g L ix md' tInt mi) (hr : ∀ ds', EvB g (L.set i (sDict bb S ds')) st D (f ds'))
    (hs : swapsWith e (some (.Subscript (.Name x p1) ix p2)) pos.line g.X.env = pure false := by rfl) :
    EvB g L (.Assign [.Subscript (.Name x p1) ix p2] e pos :: st) D (m.bind fun d => mi.bind fun n => (dputM ds (.inl n) d).bind f) := by
  obtain ⟨hv, ho⟩ := ok.vis hV
  obtain ⟨h1, h2, _⟩ := okName_d ho
  refine PSs.imp (pss_cons (ps_dput (by have := ok.toOk.room.un; omega) (pe_var (i := i) (by rw [ok.N]; exact hN) hv h1 h2) hi he hs) (PSs.ex hr)) fun E σ H ⟨kp, own, at_, q⟩ => ?_
  refine tE_iff.mpr ⟨kp, own, at_, ?_⟩
  cases m with
  | ok d =>
    intro v H1 s1 r1
    have a1 := at_.ext s1
    obtain ⟨p', vs, e1, hp, r, mu⟩ := a1.mutD hL
    refine ⟨_, e1, tE_iff.mpr ⟨kp, own, a1, ?_⟩⟩
    cases mi with
    | ok n =>
      intro y H2 s2 r2
      cases (show y = .int n from r2)
      have a2 := a1.ext s2
      obtain ⟨p2', vs2, e12, hp2, rr2, mu2⟩ := a2.mutD hL
      rw [e1] at e12
      cases e12
      have q : BOk g kp E D ((dputM ds (.inl n) d).bind f) := q
      unfold dputM at q
      split at q
      · rename_i hlt
        exact ⟨p', _, rfl, DPut.k (k := .inl n) hp2 (by rw [← rr2.length]; exact hlt), dputL ds (.inl n) d, kp, own, mu2 _ _ (rr2.put (.inl n) (S.mono r1 fun a o z => RB.same s2 bb a o (hb.rb a o z))), q⟩
      · exact q.elim
    | ex c => exact BOk.exx wk a1 q
    | no => exact q
  | ex c => exact BOk.exx wk at_ q
  | no => exact q
end
end Hd

namespace Hd
open PySem PySem.Spec PyProof.Rows L2
section
variable {p : Pr} {sc : Scope} {NN VV GG : List Str} {k : Nat} {g : G} {L : List Slot} {α β δ : Type} {S : Ty α} {T : Ty β} {md md' : Md} {pos : Pos} {st : List Stmt} {D : δ → Out} {i j : Nat} {x : Str} {a b c e : Expr}
theorem KReps.some {R : RdR} {ds : List (Key × α)} {vs : List (Key × V)} (h : KReps S R ds vs) (k : Key) : (valV vs k).isSome = (dgetL ds k).isSome := by
  rcases h.get k with ⟨g1, g2⟩ | ⟨d, v, g1, g2, _⟩ <;> rw [g1, g2] <;> rfl
def getDM {α : Type} (ds : List (Key × α)) (k : Key) : M α := match dgetL ds k with
  | some d => .ok d
  | none => .no
/-- n in d, a dict of one's own -/
theorem evt_inOwn {bb : Bool} {ds : List (Key × α)} {m1 : M Int} {npos : Pos} (ok : Ok p sc NN VV GG k g) (hN : NN[i]? = some x) (hV : VV[j]? = some x) (hL : L[i]? = some (sDict bb S ds)) (ha : EvE g L a .sh tInt m1)
    (hk : behindInMarks .In (.Name x npos) = false := by first | exact nobehind _ (by decide) (by decide) | rfl) : EvT g L (.Compare a [.In] [.Name x npos] pos) (m1.bind fun n => .ok (dgetL ds (.inl n)).isSome) := by
  obtain ⟨hv, ho⟩ := ok.vis hV
  obtain ⟨h1, h2, _⟩ := okName_d ho
  refine PT.imp (pt_cmp (pc_din (by have := ok.room.un; omega) ha (pe_var (i := i) (by rw [ok.N]; exact hN) hv h1 h2)) hk) fun σ H Q q => ?_
  obtain ⟨kp, own, at_, q⟩ := tT_iff.mp q
  obtain ⟨Fs, hA, rfl⟩ := at_.sl
  obtain ⟨v, F, e1, e2, pp, vs, rfl, rfl, hp, r⟩ := hA.get hL
  refine sub finT (Same.refl H) at_ q fun n y H2 s2 r2 at2 q2 => ?_
  cases (show y = .int n from r2)
  refine ⟨_, e1, pp, _, rfl, DGet.k (k := .inl n) (s2.keep _ _ hp rfl), _, rfl, ?_⟩
  rw [r.some]
  exact q2 H2 s2
theorem evt_notinOwn {bb : Bool} {ds : List (Key × α)} {m1 : M Int} {npos : Pos} (ok : Ok p sc NN VV GG k g) (hN : NN[i]? = some x) (hV : VV[j]? = some x) (hL : L[i]? = some (sDict bb S ds)) (ha : EvE g L a .sh tInt m1)
    (hk : behindInMarks .NotIn (.Name x npos) = false := by first | exact nobehind _ (by decide) (by decide) | rfl) : EvT g L (.Compare a [.NotIn] [.Name x npos] pos) (m1.bind fun n => .ok (!(dgetL ds (.inl n)).isSome)) := by
  obtain ⟨hv, ho⟩ := ok.vis hV
  obtain ⟨h1, h2, _⟩ := okName_d ho
  refine PT.imp (pt_cmp (pc_dnotin (by have := ok.room.un; omega) ha (pe_var (i := i) (by rw [ok.N]; exact hN) hv h1 h2)) hk) fun σ H Q q => ?_
  obtain ⟨kp, own, at_, q⟩ := tT_iff.mp q
  obtain ⟨Fs, hA, rfl⟩ := at_.sl
  obtain ⟨v, F, e1, e2, pp, vs, rfl, rfl, hp, r⟩ := hA.get hL
  refine sub finT (Same.refl H) at_ q fun n y H2 s2 r2 at2 q2 => ?_
  cases (show y = .int n from r2)
  refine ⟨_, e1, pp, _, rfl, DGet.k (k := .inl n) (s2.keep _ _ hp rfl), _, rfl, ?_⟩
  rw [r.some]
  exact q2 H2 s2
/-- d[n], a dict of one's own -/
theorem ev_subOwn {bb : Bool} {ds : List (Key × α)} {m1 : M Int} {npos : Pos} (ok : Ok p sc NN VV GG k g) (hN : NN[i]? = some x) (hV : VV[j]? = some x) (hL : L[i]? = some (sDict bb S ds)) (ha : EvE g L a .sh tInt m1)
    (hs : NoSl a := by intro _ _; rfl) : EvE g L (.Subscript (.Name x npos) a pos) .sh S (m1.bind fun n => getDM ds (.inl n)) := by
  obtain ⟨hv, ho⟩ := ok.vis hV
  obtain ⟨h1, h2, _⟩ := okName_d ho
  refine PE.imp (pe_dget (by have := ok.room.un; omega) (pe_var (i := i) (by rw [ok.N]; exact hN) hv h1 h2) ha hs) fun σ H Q q => ?_
  obtain ⟨kp, own, at_, q⟩ := tE_iff.mp q
  obtain ⟨Fs, hA, rfl⟩ := at_.sl
  obtain ⟨v, F, e1, e2, pp, vs, rfl, rfl, hp, r⟩ := hA.get hL
  refine ⟨_, e1, sub finE (Same.refl H) at_ q fun n y H2 s2 r2 at2 q2 => ?_⟩
  cases (show y = .int n from r2)
  unfold getDM at q2
  rcases r.get (.inl n) with ⟨g1, g2⟩ | ⟨d', v', g1, g2, g3⟩
  · rw [g1] at q2
    exact q2.elim
  · rw [g1] at q2
    refine ⟨pp, v', rfl, by rw [← g2]; exact DGet.k (k := .inl n) (s2.keep _ _ hp rfl), q2 v' H2 s2 (S.mono g3 fun a o z => ?_)⟩
    have z1 : RX g.fm Fs.flatten H H (if bb then .f0 else .sh) a o := z
    exact RX.same s2 a o (RX.sh a o z1)
end
end Hd

namespace Hd
open PySem PySem.Spec PyProof.Rows L2
section
variable {p : Pr} {sc : Scope} {NN VV GG : List Str} {k : Nat} {g : G} {L : List Slot} {α β δ : Type} {S : Ty α} {T : Ty β} {md md' : Md} {pos : Pos} {st : List Stmt} {D : δ → Out} {i j : Nat} {x : Str} {a b c e : Expr}
/-- a dict that is shared -/
def tDict {α : Type} (T : Ty α) : Ty (List (Key × α)) := ⟨fun ds v R => ∃ a vs, v = .ref a ∧ R a (.dK vs) ∧ KReps T R ds vs, fun ⟨a, vs, e, r, h⟩ s => ⟨a, vs, e, s _ _ r, h.mono s⟩⟩
theorem nn_dict : NotNon (tDict S) := ⟨fun ⟨a, vs, e, _⟩ => by subst e; exact fun z => nomatch z⟩
theorem At.freezeD {fm : Fm} {kp : RdR} {σ : L2.St} {H : Hp} {own : List Addr} {b : Bool} {ds : List (Key × α)} (h : At fm kp L σ H own) (hL : L[i]? = some (sDict b S ds)) : ∃ own', At fm kp (L.set i (sV false (tDict S) ds)) σ H own' ∧ ∀ p ∈ own', p ∈ own := by
  obtain ⟨h1, h2, ⟨Fs, h3, rfl⟩, h4, h5, h6⟩ := h
  obtain ⟨v, F, e1, e2, q, vs, rfl, rfl, hp, r⟩ := h3.get hL
  have qin : q ∈ Fs.flatten := List.mem_flatten.mpr ⟨[q], List.mem_of_getElem? e2, by simp⟩
  have kk : ∀ p ∈ (Fs.set i []).flatten, p ∈ Fs.flatten := fun p hp => (set_sub (i := i)).subset hp
  have qn : q ∉ (Fs.set i []).flatten := by
    have nd := h4
    clear h3 h5 h6 qin kk r hp
    induction Fs generalizing i L σ with
    | nil => simp at e2
    | cons F Fs ih =>
      rw [List.flatten_cons, List.nodup_append] at nd
      cases i with
      | zero =>
        simp at e2
        subst e2
        simp only [List.set_cons_zero, List.flatten_cons, List.nil_append]
        exact fun z => nd.2.2 q (by simp) q z rfl
      | succ i =>
        simp only [List.set_cons_succ, List.flatten_cons, List.mem_append, not_or]
        have e2' : Fs[i]? = some [q] := by simpa using e2
        refine ⟨fun z => nd.2.2 q z q (List.mem_flatten.mpr ⟨[q], List.mem_of_getElem? e2', by simp⟩) rfl, ?_⟩
        cases σ with
        | nil => simp at e1
        | cons s σ =>
          cases L with
          | nil => simp at hL
          | cons l L => exact ih (i := i) (L := L) (σ := σ) (hL := by simpa using hL) (e1 := by simpa using e1) (e2 := e2') (h4 := nd.2.1) (nd := nd.2.1)
  have σe : σ.set i (some (V.ref q)) = σ := by
    apply List.ext_getElem?
    intro n
    by_cases hn : n = i
    · subst hn
      rw [e1]
      have := (List.getElem?_eq_some_iff.mp e1).1
      rw [List.getElem?_set_self this]
    · rw [List.getElem?_set_ne (Ne.symm hn)]
  refine ⟨_, ⟨h1, h2, ⟨Fs.set i [], ?_, rfl⟩, h4.sublist set_sub, fun p hp => h5 p (kk p hp), fun a o z => RX.own (md := .sh) (H := H) kk a o (h6 a o z)⟩, kk⟩
  rw [← σe]
  refine (h3.st (RB.own kk) fun _ _ => rfl).set (s := sV false (tDict S) ds) ⟨rfl, .ref q, rfl, q, vs, rfl, ?_, ?_⟩ i
  · exact .inl ⟨.inl (cl_of hp), qn, (h5 q qin).2.2⟩
  · exact r.mono fun a o z => RX.sh (H := H) a o (RB.own kk b a o z)
theorem evb_freezeD {b : Bool} {ds : List (Key × α)} {m : M δ} (hL : L[i]? = some (sDict b S ds)) (hr : EvB g (L.set i (sV false (tDict S) ds)) st D m) : EvB g L st D m := PSs.imp hr fun E σ H ⟨kp, own, at_, q⟩ => by
  obtain ⟨own', a', _⟩ := at_.freezeD hL
  exact ⟨kp, own', a', q⟩
theorem ev_borrowD {b : Bool} {ds : List (Key × α)} {m : M β} (hf : Flat T ∨ md = .fx) (hL : L[i]? = some (sDict b S ds)) (h : EvE g (L.set i (sV false (tDict S) ds)) e md T m) : EvE g L e md T m := PE.imp h fun σ H Q q => by
  obtain ⟨kp, own, at_, q⟩ := tE_iff.mp q
  obtain ⟨own', a', sub⟩ := at_.freezeD hL
  refine tE_iff.mpr ⟨kp, own', a', ?_⟩
  cases m with
  | ok d =>
    refine fun v H' s r => q v H' s ?_
    rcases hf with hf | rfl
    · exact hf r
    · exact T.mono r fun a o z => ⟨z.1, fun y => (at_.new a y).1 z.2.2.2.2, z.2.2⟩
  | ex c => exact q
  | no => exact q
theorem evt_borrowD {b : Bool} {ds : List (Key × α)} {m : M Bool} (hL : L[i]? = some (sDict b S ds)) (h : EvT g (L.set i (sV false (tDict S) ds)) e m) : EvT g L e m := PT.imp h fun σ H Q q => by
  obtain ⟨kp, own, at_, q⟩ := tT_iff.mp q
  obtain ⟨own', a', sub⟩ := at_.freezeD hL
  refine tT_iff.mpr ⟨kp, own', a', ?_⟩
  cases m <;> exact q

theorem evt_inV {m1 : M Int} {m2 : M (List (Key × α))} (ok : Ok p sc NN VV GG k g) (ha : EvE g L a md tInt m1) (hb : EvE g L b md (tDict S) m2)
    (hk : behindInMarks .In b = false := by first | exact nobehind _ (by decide) (by decide) | rfl) : EvT g L (.Compare a [.In] [b] pos) (m1.bind fun n => m2.bind fun ds => .ok (dgetL ds (.inl n)).isSome) := by
  refine PT.imp (pt_cmp (pc_din (by have := ok.room.un; omega) ha hb) hk) fun σ H Q q => ?_
  obtain ⟨kp, own, at_, q⟩ := tT_iff.mp q
  refine sub finT (Same.refl H) at_ q fun n y H1 s1 r1 at1 q1 => sub finT s1 at1 q1 fun ds z H2 s2 r2 at2 q2 => ?_
  cases (show y = .int n from r1)
  obtain ⟨ad, vs, rfl, h, r⟩ := r2
  have hR : Rd H2 ad (.dK vs) := (RX.rdb (md := md) _ _ h).resolve_right fun z => z
  refine ⟨ad, _, rfl, .inl ⟨vs, .inl n, hR, rfl, rfl⟩, _, rfl, ?_⟩
  rw [r.some]
  exact q2 H2 (s1.trans s2)
theorem evt_notinV {m1 : M Int} {m2 : M (List (Key × α))} (ok : Ok p sc NN VV GG k g) (ha : EvE g L a md tInt m1) (hb : EvE g L b md (tDict S) m2)
    (hk : behindInMarks .NotIn b = false := by first | exact nobehind _ (by decide) (by decide) | rfl) : EvT g L (.Compare a [.NotIn] [b] pos) (m1.bind fun n => m2.bind fun ds => .ok (!(dgetL ds (.inl n)).isSome)) := by
  refine PT.imp (pt_cmp (pc_dnotin (by have := ok.room.un; omega) ha hb) hk) fun σ H Q q => ?_
  obtain ⟨kp, own, at_, q⟩ := tT_iff.mp q
  refine sub finT (Same.refl H) at_ q fun n y H1 s1 r1 at1 q1 => sub finT s1 at1 q1 fun ds z H2 s2 r2 at2 q2 => ?_
  cases (show y = .int n from r1)
  obtain ⟨ad, vs, rfl, h, r⟩ := r2
  have hR : Rd H2 ad (.dK vs) := (RX.rdb (md := md) _ _ h).resolve_right fun z => z
  refine ⟨ad, _, rfl, .inl ⟨vs, .inl n, hR, rfl, rfl⟩, _, rfl, ?_⟩
  rw [r.some]
  exact q2 H2 (s1.trans s2)
theorem ev_subV {m1 : M (List (Key × α))} {m2 : M Int} (ok : Ok p sc NN VV GG k g) (ha : EvE g L a md (tDict S) m1) (hb : EvE g L b md tInt m2) (hs : NoSl b := by intro _ _; rfl) :
    EvE g L (.Subscript a b pos) md S (m1.bind fun ds => m2.bind fun n => getDM ds (.inl n)) := by
  refine PE.imp (pe_dget (by have := ok.room.un; omega) ha hb hs) fun σ H Q q => ?_
  obtain ⟨kp, own, at_, q⟩ := tE_iff.mp q
  refine sub finE (Same.refl H) at_ q fun ds z H1 s1 r1 at1 q1 => sub finE s1 at1 q1 fun n y H2 s2 r2 at2 q2 => ?_
  cases (show y = .int n from r2)
  obtain ⟨ad, vs, rfl, h, r⟩ := (tDict S).mono r1 (RX.same s2)
  have hR : Rd H2 ad (.dK vs) := (RX.rdb (md := md) _ _ h).resolve_right fun z => z
  unfold getDM at q2
  rcases r.get (.inl n) with ⟨g1, g2⟩ | ⟨d', v', g1, g2, g3⟩
  · rw [g1] at q2
    exact q2.elim
  · rw [g1] at q2
    exact ⟨ad, v', rfl, by rw [← g2]; exact .inl ⟨vs, .inl n, hR, rfl, rfl⟩, q2.fin (fr := false) .same (s1.trans s2) at2 (fun c z => by cases z) v' H2 (Same.refl _) (S.mono g3 (Nw.old rfl))⟩
end
end Hd

namespace Hd
open PySem PySem.Spec PyProof.Rows L2
section
variable {p : Pr} {sc : Scope} {NN VV GG : List Str} {k : Nat} {g : G} {L : List Slot} {α β δ : Type} {S : Ty α} {T : Ty β} {md md' : Md} {pos : Pos} {st : List Stmt} {D : δ → Out} {i j : Nat} {x : Str} {a b c e : Expr}
/-- x = {a: b}, b a flat thing -/
theorem evb_newD1 {m1 : M Int} {m2 : M α} {f : List (Key × α) → M δ} {pos' pd : Pos} (ok : OkS p sc NN VV GG k g) (wk : Wk L g.LX) (hN : NN[i]? = some x) (hV : VV[j]? = some x) (hf : Flat S) (ha : EvE g L a md tInt m1) (hb : EvE g L b md' S m2) (hr : ∀ ds, EvB g (L.set i (sDict false S ds)) st D (f ds))
    (hs : ∀ Y : Cx, swapsWith (.Dict [some a] [b] pd) (some (.Name x pos')) pos.line Y.env = pure false := by intro _; rfl) : EvB g L (.Assign [.Name x pos'] (.Dict [some a] [b] pd) pos :: st) D (m1.bind fun n => m2.bind fun d => (M.ok [(.inl n, d)]).bind f) := by
  refine PSs.imp (pss_cons (ps_set (i := i) (by rw [ok.N]; exact ok.nd) (by rw [ok.N]; exact hN) (ok.loc hV) (pe_disp (pps_cons ha hb pps_nil) rfl rfl (by simp) (by simp)) (hs _) (okS_fn ok)) (PSs.ex hr)) fun E σ H ⟨kp, own, at_, q⟩ => ?_
  intro q' hq'
  refine tE_iff.mpr ⟨kp, own, at_.ext (newSame hq'), ?_⟩
  cases m1 with
  | ok n =>
    intro y H1 s1 r1
    cases (show y = .int n from r1)
    have a1 := (at_.ext (newSame hq' (o := .dK []))).ext s1
    refine tE_iff.mpr ⟨kp, own, a1, ?_⟩
    cases m2 with
    | ok d =>
      intro z H2 s2 r2
      refine ⟨s2.keep _ _ (s1.keep _ _ upd_same rfl) rfl, [(.inl n, z)], rfl, by simp, ?_⟩
      obtain ⟨own', a'⟩ := at_.setOwnD (S := S) (i := i) (b := false) (ds := [(.inl n, d)]) (vs := [(.inl n, z)]) (H' := upd H2 q' (.dK [(.inl n, z)])) ((((newSame hq').trans s1).trans s2).wr hq' (s2.keep _ _ (s1.keep _ _ upd_same rfl) rfl) (fun _ z => nomatch z) rfl) hq' upd_same (.cons (hf r2) .nil)
      exact ⟨[(.inl n, d)], kp, own', a', q⟩
    | ex c => exact BOk.exx wk a1 q
    | no => exact q
  | ex c => exact BOk.exx wk (at_.ext (newSame hq')) q
  | no => exact q
end
end Hd

namespace Hd
open PySem PySem.Spec PyProof.Rows L2
/-! ### list(reversed(x)) -/
section
variable {prog : Program} {w : World} {A : Around} {E : Value → Shared → Prop} {s : Shared}
theorem call_list_rev {it l : Addr} {items : Array Value} {Q : Value → Shared → Prop} (hh : A.handled = none) (hit : s.heap.IsRevIter it l ((items.size : Int) - 1)) (hl : s.heap.IsList l items) (hne : l ≠ it) (hn : items.size ≤ sizeLine)
    (hQ : ∀ (h' : Heap) (tk : Nat) (acc : Array Value) (c' : Nat), (∀ b o, b ≠ it → s.heap.get? b = some o → h'.get? b = some o) → h'.get? s.heap.objs.size = some { cls := .type "list", data := .seq acc c' } →
      ItemsOf (fun i v => items[items.size - 1 - i]? = some v) acc items.size → Q (.ref s.heap.objs.size) { s with heap := h', toks := tk }) :
    wpAny (model prog w) A (call (.type "list") [.ref it]) Q E s := by
  refine callType_codes (Q₁ := fun obj s₁ => obj = .ref s.heap.objs.size ∧ s₁ = { s with heap := s.heap.push { cls := .type "list", data := .seq #[] } }) F.called_list (F.typeCall_list_1 _) F.entry_list_init
    (code_list_new _ ⟨rfl, rfl⟩) fun obj s₁ h₁ => ?_
  obtain ⟨rfl, rfl⟩ := h₁
  have hS : (s.heap.push { cls := .type "list", data := .seq #[] }).get? s.heap.objs.size = some { cls := .type "list", data := .seq #[] } := Heap.get?_push_size _ rfl
  refine ⟨⟨_, hS, rfl⟩, F.args_list_init_2 _ _, ?_⟩
  obtain ⟨oi, hoi, hoc, hod⟩ := id hit
  obtain ⟨ol, hol, _⟩ := id hl
  have hSi : s.heap.objs.size ≠ it := Nat.ne_of_gt (Heap.lt_size hoi)
  have hSl : s.heap.objs.size ≠ l := Nat.ne_of_gt (Heap.lt_size hol)
  have hSf : s.heap.objs.size ∉ [it, l] := by simp only [List.mem_cons, List.not_mem_nil, or_false, not_or]; exact ⟨hSi, hSl⟩
  have W := (Walks.listRev (prog := prog) (w := w) (A := A.in1.in1) hh it l hne items).toS
  show wpAny _ A.in1.in1 (do let old ← Builtin.List.listItems (.ref s.heap.objs.size); Builtin.List.listUpdate (.ref s.heap.objs.size) (fun _ => #[]); letGo old.toList.reverse; Builtin.List.listExtendWith (.ref s.heap.objs.size) (.ref it) .none) _ _ _
  refine wpAny_bind ?_
  unfold Builtin.List.listItems
  refine wpAny_bind (wpAny_seqItems hS rfl (wpAny_pure ?_))
  show wpAny _ A.in1.in1 (updateSeq s.heap.objs.size (fun _ => #[]) >>= fun _ => letGo (#[] : Array Value).toList.reverse >>= fun _ => Builtin.List.listExtendWith (.ref s.heap.objs.size) (.ref it) .none) _ _ _
  refine wpAny_bind (wpAny_updateSeq hS rfl ?_)
  have hS2 := Heap.get?_update_self (Obj.mapSeq (fun _ => (#[] : Array Value))) hS rfl
  refine wpAny_bind (wpAny_letGo ?_)
  have up : ∀ b o, s.heap.get? b = some o → ((s.heap.push { cls := .type "list", data := .seq #[] }).update s.heap.objs.size (Obj.mapSeq (fun _ => (#[] : Array Value)))).get? b = some o := fun b o e =>
    (Heap.get?_update_other _ _ (Ne.symm (Nat.ne_of_lt (Heap.lt_size e)))).trans (Heap.get?_push_of_some _ e)
  have hit1 : ((s.heap.push { cls := .type "list", data := .seq #[] }).update s.heap.objs.size (Obj.mapSeq (fun _ => (#[] : Array Value)))).IsRevIter it l ((items.size : Int) - 1) := ⟨oi, up _ _ hoi, hoc, hod⟩
  have hl1 : ((s.heap.push { cls := .type "list", data := .seq #[] }).update s.heap.objs.size (Obj.mapSeq (fun _ => (#[] : Array Value)))).IsList l items := by
    obtain ⟨o, ho, r⟩ := hl
    exact ⟨o, up _ _ ho, r⟩
  generalize ((s.heap.push { cls := .type "list", data := .seq #[] }).update s.heap.objs.size (Obj.mapSeq (fun _ => (#[] : Array Value)))) = h2 at hS2 up hit1 hl1 ⊢
  unfold Builtin.List.listExtendWith
  have hT : ({ s with heap := h2 } : Shared).TypeIs (.ref it) "list_reverseiterator" := Heap.IsRevIter.typeIs (s := { s with heap := h2 }) hit1
  have h1 : Builtin.List.listSameRef (.ref s.heap.objs.size) (.ref it) = false := by simp [Builtin.List.listSameRef, hSi]
  refine wpAny_bind (wpAny_typeOf hT ?_)
  rw [if_neg (by rw [h1]; decide)]
  refine wpAny_bind (wpAny_pyIter_revIter (s := { s with heap := h2 }) hit1 ?_)
  refine wpAny_bind (wpAny_holding ?_)
  unfold Builtin.List.listLengthHint
  refine wpAny_bind (wpAny_specialOf hT RT.nolen_lri ?_)
  show wpAny _ A.in1.in1 (specialOf (Value.ref it) (Str.ofString "__length_hint__") >>= _) _ _ _
  refine wpAny_bind (wpAny_specialOf hT RT.hint_lri ?_)
  generalize hid : ("list_reverseiterator.__length_hint__" : String) = id0
  wp_delta
  rw [show splitId id0 = some ("list_reverseiterator", "__length_hint__") from by subst hid; decide +kernel]
  subst hid
  refine wpAny_bind (wpAny_isInstance (b := true) hT (by rw [isSubtype_type]; kernel_rfl) ?_)
  refine wpAny_pure ?_
  rw [if_neg (by decide)]
  have e0 : ((items.size : Nat) : Int) - 1 - ((0 : Nat) : Int) = (items.size : Int) - 1 := by omega
  refine wpAny_pure ⟨plainId_quiet F.plain_extend_loop _, codeAny_extend_loopS W hn _ hSf _ items.size 0 _ _ _ rfl (Nat.zero_le _) ⟨Nat.zero_le _, by rw [e0]; exact hit1, hl1⟩ hS2 (ItemsOf.nil _) fun s' acc' c' hm hS' hacc => ?_⟩
  rw [Moved.eq_with hm]
  refine ⟨rfl, hQ s'.heap s'.toks acc' c' (fun b o hb e => hm.heap b o (fun hmem => ?_) (up _ _ e)) hS' hacc⟩
  rcases List.mem_cons.mp hmem with e' | hmem
  · exact absurd (Heap.lt_size e) (by rw [e']; exact Nat.lt_irrefl _)
  · rcases List.mem_cons.mp hmem with e' | hmem
    · exact hb e'
    · exact absurd hmem (by simp)
end
def tLstRev (K : PySem.W.Frag) (te : TE) : TE := fun σ H Q => te σ H fun v H1 => ∃ (a : Addr) (xs : List V), v = .ref a ∧ SqL K H1 a xs ∧ ∀ q, H1 q = none → Q (.ref q) (upd H1 q (.lst xs.reverse))
theorem pe_lstRev {X : Cx} {e : Expr} {te : TE} {p p2 pos pos2 : Pos} (hc : X.calm = true) (hg : Gl X "list") (hm : X.mg "list" = none) (hg2 : Gl X "reversed") (hm2 : X.mg "reversed" = none) (he : PE X e te)
    (hs : starEach [e] X.env = (false, eval e X.env) :: starEach [] X.env := by rfl)
    (hs2 : starEach [.Call (.Name "reversed" p2) [e] [] pos2] X.env = (false, eval (.Call (.Name "reversed" p2) [e] [] pos2) X.env) :: starEach [] X.env := by rfl) :
    PE X (.Call (.Name "list" p) [.Call (.Name "reversed" p2) [e] [] pos2] [] pos) (tLstRev X.K te) := by
  refine ⟨fun pins s σ H Q I h => ?_⟩
  refine Call_ (ld_blt I hg hm boot_list (PyProof.Rows.callWith_type1 (args_cons (Call_ (ld_blt I hg2 hm2 PyProof.Rows.boot_reversed (PyProof.Rows.callWith_type1 (args_cons (thn (he.run pins s σ H _ I h) fun u s1 ⟨v, H1, I1, r1, q1⟩ => args_nil ?_) hs) hs rfl))) hs2) hs2 rfl))
  obtain ⟨a, xs, ev, hq, q⟩ := q1
  subst ev
  obtain rfl : u = Value.ref a := r1
  obtain ⟨its, rv, p', hz⟩ := I1.list hq
  refine call_reversed_list p'.isList (args_nil ?_)
  have k0 : ∀ b o, s1.heap.get? b = some o → (s1.heap.push (revObj a ((its.toArray.size : Int) - 1))).get? b = some o := fun b o e => Heap.get?_push_of_some _ e
  have I2 : Inv X pins σ H1 { s1 with heap := s1.heap.push (revObj a ((its.toArray.size : Int) - 1)) } := I1.kept (t' := s1.toks) k0
  obtain ⟨f0, f1, f2, f3, f4, f5⟩ := I1.fpOk (H' := H1) (b := s1.heap.objs.size) (Nat.le_refl _) (I1.hok.fresh (Nat.le_refl _))
  have hl := p'.isList
  obtain ⟨ol, hol, _⟩ := id hl
  have hne : a ≠ s1.heap.objs.size := Nat.ne_of_lt (Heap.lt_size hol)
  have hn : its.toArray.size ≤ sizeLine := by rw [List.size_toArray, ← rv.length]; exact hz
  refine call_list_rev (s := { s1 with heap := s1.heap.push (revObj a ((its.toArray.size : Int) - 1)) }) (I1.ok.hd hc) ⟨_, Heap.get?_push_size _ rfl, rfl, rfl⟩ (hl.push _) hne hn fun h' tk acc c' hk hS hi => ?_
  have nN : H1 (s1.heap.push (revObj a ((its.toArray.size : Int) - 1))).objs.size = none := I2.hok.fresh (Nat.le_refl _)
  have sz : s1.heap.objs.size < (s1.heap.push (revObj a ((its.toArray.size : Int) - 1))).objs.size := by rw [Heap.size_push]; omega
  refine ⟨.ref (s1.heap.push (revObj a ((its.toArray.size : Int) - 1))).objs.size, upd H1 (s1.heap.push (revObj a ((its.toArray.size : Int) - 1))).objs.size (.lst xs.reverse), ?_, rfl, q _ nN⟩
  refine I2.turnedNew (t' := tk) (ch := [s1.heap.objs.size]) (fun b o hb e => hk b o (by simpa using hb) e) (fun b hb => ?_) (Nat.le_refl _) (show ObjOk X.prog X.w _ _ _ (.lst xs.reverse) from ⟨by rw [List.length_reverse]; exact hz, acc.toList, c', RT.vals_rev rv hi, by rw [Array.toArray_toList]; exact hS⟩)
  have e : b = s1.heap.objs.size := by simpa using hb
  subst e
  exact ⟨f0, f1, f2, f3, f4, f5⟩
section
variable {p : Pr} {sc : Scope} {NN VV GG : List Str} {k : Nat} {g : G} {L : List Slot} {α β δ : Type} {S : Ty α} {T : Ty β} {Q : Ty (List α)} {md md' : Md} {pos pp p2 pos2 : Pos} {st : List Stmt} {D : δ → Out} {i j j2 : Nat} {x : Str} {a b c e : Expr}
theorem evl_listRev {mx : M (List α)} (ok : Ok p sc NN VV GG k g) (hq : IsSq p.K Q S) (hL : ∀ {d v R H}, Rdb p.K R H → Q.rep d v R → ∃ a vs, v = .ref a ∧ SqL p.K H a vs ∧ Reps S R d vs) (hG : GG[j]? = some "list") (hmg : p.mg "list" = none) (hG2 : GG[j2]? = some "reversed") (hmg2 : p.mg "reversed" = none) (ha : EvE g L e md Q mx)
    (hs : starEach [e] g.X.env = (false, eval e g.X.env) :: starEach [] g.X.env := by rfl) (hs2 : starEach [.Call (.Name "reversed" p2) [e] [] pos2] g.X.env = (false, eval (.Call (.Name "reversed" p2) [e] [] pos2) g.X.env) :: starEach [] g.X.env := by rfl) :
    EvL g L (.Call (.Name "list" pp) [.Call (.Name "reversed" p2) [e] [] pos2] [] pos) md S (mx.bind fun d => .ok d.reverse) := by
  obtain ⟨hg, ho⟩ := ok.gl hG
  obtain ⟨hg2, ho2⟩ := ok.gl hG2
  refine PE.imp (pe_lstRev ok.calm hg (by rw [ok.mg]; exact hmg) hg2 (by rw [ok.mg]; exact hmg2) ha hs hs2) fun σ H W q => ?_
  obtain ⟨kp, own, at_, q⟩ := tL_iff.mp q
  refine tE_iff.mpr ⟨kp, own, at_, ?_⟩
  cases mx with
  | ok d =>
    intro v H1 s1 rx
    obtain ⟨a, ws, rfl, h, rr⟩ := hL (by rw [← ok.fmK]; exact RX.rdb) rx
    exact ⟨a, ws, rfl, by rw [ok.K]; exact h, fun l hl => q l ws.reverse _ (s1.trans (newSame hl)) (s1.free hl) upd_same (rr.reverse.mono (RX.add hl))⟩
  | ex c => exact q
  | no => exact q
theorem sqL_list {K : PySem.W.Frag} : ∀ {d : List α} {v R H}, Rdb K R H → (tList S).rep d v R → ∃ a vs, v = .ref a ∧ SqL K H a vs ∧ Reps S R d vs := fun {d v R H} rb ⟨a, vs, e, r, h⟩ => by
  refine ⟨a, vs, e, ?_, h⟩
  rcases rb _ _ r with r | r
  · exact .inl r
  · exact r.elim
/-! ### list(range(..)) -/
def rangeL (lo hi : Int) : M (List Int) := if -(2 ^ 62) ≤ lo ∧ lo < 2 ^ 62 ∧ -(2 ^ 62) ≤ hi ∧ hi < 2 ^ 62 ∧ (hi - lo).toNat ≤ 2 ^ 24 then .ok (upFrom lo (hi - lo).toNat) else .no
theorem rgV_up (lo hi : Int) : rgV lo hi = (upFrom lo (hi - lo).toNat).map V.int := by
  apply List.ext_getElem?
  intro i
  unfold rgV
  rw [List.getElem?_map, List.getElem?_map, upFrom_get]
  by_cases h : i < (hi - lo).toNat
  · rw [if_pos h, List.getElem?_range h]; rfl
  · rw [if_neg h, List.getElem?_eq_none (by simp; omega)]; rfl
theorem rangeL_ok {lo hi : Int} {F : M (List Int) → Prop} (no : ¬ F .no) (q : F (rangeL lo hi)) : RgOk lo hi ∧ F (.ok (upFrom lo (hi - lo).toNat)) := by
  unfold rangeL at q
  split at q
  · rename_i h; exact ⟨h, q⟩
  · exact absurd q no
theorem evl_listRg1 {m : M Int} (ok : Ok p sc NN VV GG k g) (hG : GG[j]? = some "list") (hmg : p.mg "list" = none) (hG2 : GG[j2]? = some "range") (hmg2 : p.mg "range" = none) (ha : EvE g L a md tInt m)
    (hs : starEach [a] g.X.env = (false, eval a g.X.env) :: starEach [] g.X.env := by rfl) (hs2 : starEach [.Call (.Name "range" p2) [a] [] pos2] g.X.env = (false, eval (.Call (.Name "range" p2) [a] [] pos2) g.X.env) :: starEach [] g.X.env := by rfl) :
    EvL g L (.Call (.Name "list" pp) [.Call (.Name "range" p2) [a] [] pos2] [] pos) md' tInt (m.bind fun n => rangeL 0 n) := by
  obtain ⟨hg, ho⟩ := ok.gl hG
  obtain ⟨hg2, ho2⟩ := ok.gl hG2
  refine PE.imp (pe_listRg ok.calm hg (by rw [ok.mg]; exact hmg) (prg_1 hg2 (by rw [ok.mg]; exact hmg2) ha hs) hs2) fun σ H W q => ?_
  obtain ⟨kp, own, at_, q⟩ := tL_iff.mp q
  refine tE_iff.mpr ⟨kp, own, at_, ?_⟩
  cases m with
  | ok n =>
    intro v H1 s1 rx
    cases (show v = .int n from rx)
    obtain ⟨h1, q⟩ := rangeL_ok (F := FinL g.fm g.W own σ H md' tInt W) (fun z => z) q
    exact ⟨n, rfl, h1, fun l hl => q l _ _ (s1.trans (newSame hl)) (s1.free hl) upd_same (by rw [rgV_up]; exact reps_ints _)⟩
  | ex c => exact q
  | no => exact q
theorem evl_listRg2 {m1 m2 : M Int} (ok : Ok p sc NN VV GG k g) (hG : GG[j]? = some "list") (hmg : p.mg "list" = none) (hG2 : GG[j2]? = some "range") (hmg2 : p.mg "range" = none) (ha : EvE g L a md tInt m1) (hb : EvE g L b md tInt m2)
    (hs : starEach [a, b] g.X.env = (false, eval a g.X.env) :: starEach [b] g.X.env := by rfl) (hs' : starEach [b] g.X.env = (false, eval b g.X.env) :: starEach [] g.X.env := by rfl) (hs2 : starEach [.Call (.Name "range" p2) [a, b] [] pos2] g.X.env = (false, eval (.Call (.Name "range" p2) [a, b] [] pos2) g.X.env) :: starEach [] g.X.env := by rfl) :
    EvL g L (.Call (.Name "list" pp) [.Call (.Name "range" p2) [a, b] [] pos2] [] pos) md' tInt (m1.bind fun lo => m2.bind fun hi => rangeL lo hi) := by
  obtain ⟨hg, ho⟩ := ok.gl hG
  obtain ⟨hg2, ho2⟩ := ok.gl hG2
  refine PE.imp (pe_listRg ok.calm hg (by rw [ok.mg]; exact hmg) (prg_2 hg2 (by rw [ok.mg]; exact hmg2) ha hb hs hs' (by rw [hs']; rfl)) hs2) fun σ H W q => ?_
  obtain ⟨kp, own, at_, q⟩ := tL_iff.mp q
  refine tE_iff.mpr ⟨kp, own, at_, ?_⟩
  cases m1 with
  | ok lo =>
    intro v H1 s1 rx
    cases (show v = .int lo from rx)
    refine tE_iff.mpr ⟨kp, own, at_.ext s1, ?_⟩
    cases m2 with
    | ok hi =>
      intro v H2 s2 rx
      cases (show v = .int hi from rx)
      obtain ⟨h1, q⟩ := rangeL_ok (F := FinL g.fm g.W own σ H md' tInt W) (fun z => z) q
      exact ⟨lo, hi, rfl, rfl, h1, fun l hl => q l _ _ ((s1.trans s2).trans (newSame hl)) ((s1.trans s2).free hl) upd_same (by rw [rgV_up]; exact reps_ints _)⟩
    | ex c => exact fun H' s => q H' (s1.trans s)
    | no => exact q
  | ex c => exact q
  | no => exact q
end
end Hd

namespace Hd
open PySem PySem.Spec PyProof.Rows L2
/-! ### sorted(range(..), key=f) -/
theorem eachIs_get {α β : Type} {R : α → β → Prop} : ∀ (as : List α) (bs : List β), as.length = bs.length → (∀ (i : Nat) a b, as[i]? = some a → bs[i]? = some b → R a b) → PySem.W.EachIs R as bs
  | [], [], _, _ => .nil
  | [], _ :: _, h, _ => by simp at h
  | _ :: _, [], h, _ => by simp at h
  | a :: as, b :: bs, h, f => .cons (f 0 a b rfl rfl) (eachIs_get as bs (by simpa using h) fun i x y e1 e2 => f (i + 1) x y (by simpa using e1) (by simpa using e2))
section
variable {prog : Program} {w : World} {A : Around} {E : Value → Shared → Prop} {s : Shared}
theorem sorted_key_range {r q : Addr} {lo hi : Int} {t u v : Tok} {Q : Value → Shared → Prop} (k : Int → PyData) (hh : A.handled = none) (hr : IsRange s.heap r lo hi 1 t u v) (ok : RgOk lo hi)
    (hal : PySem.W.AllAlike ((upFrom lo (hi - lo).toNat).map k)) (hk : PySem.W.Sortable ((upFrom lo (hi - lo).toNat).map k)) (hu : ∀ x, x ∈ upFrom lo (hi - lo).toNat → A.units + 2 + (k x).depth < cLine)
    (turn : ∀ (x : Int) (tx : Tok), x ∈ upFrom lo (hi - lo).toNat → ∀ (h : Heap) (tk : Nat), (∀ b o, s.heap.get? b = some o → h.get? b = some o) →
      wpAny (model prog w) A.in1.in1 (call (.ref q) [.int x tx]) (PySem.W.KeyPure (k x) { s with heap := h, toks := tk }) (fun _ _ => False) { s with heap := h, toks := tk })
    (h : ∀ (h1 : Heap) (tk1 : Nat), (∀ b o, s.heap.get? b = some o → h1.get? b = some o) → ∀ (out : List Value) (c : Nat) (h' : Heap) (tk : Nat), (∀ b o, h1.get? b = some o → h'.get? b = some o) → h'.get? h1.objs.size = some { cls := .type "list", data := .seq out.toArray c } → PySem.W.EachIs (fun v x => ∃ t, v = Value.int x t) out ((upFrom lo (hi - lo).toNat).mergeSort (PySem.W.dataLe false k)) →
      Q (.ref h1.objs.size) { s with heap := h', toks := tk }) :
    wpAny (model prog w) A (call (.builtin "sorted") [.ref r] [(Str.ofString "key", .ref q)]) Q E s := by
  obtain ⟨b1, b2, b3, b4, b5⟩ := ok
  have hline : (2 : Nat) ^ 24 ≤ sizeLine := by rw [sizeLine_eq]; decide
  refine PyProof.Rows.call_function_entry_kw kind_sorted plain_sorted entry_sorted (ksk_s1 _ _) ?_
  unfold Builtin.«sorted»
  refine wpAny_bind (m := checkCount "sorted" 1 1 _) (wpAny_pure ?_)
  refine wpAny_bind (collect_range (A := A.in1) hh hr (small_one b1 b2 b3 b4) (rangeSize_nat lo hi) b5 fun h1 tk1 acc hk1 hi1 => ?_)
  have hL : acc.toList.length ≤ sizeLine := by rw [Array.length_toList, hi1.1]; exact Nat.le_trans b5 hline
  refine wpAny_bind (wpAny_newList ?_ hL)
  have each : PySem.W.EachIs (fun v x => ∃ t, v = Value.int x t) acc.toList (upFrom lo (hi - lo).toNat) := by
    refine eachIs_get _ _ (by rw [Array.length_toList, hi1.1, upFrom_len]) fun i a b e1 e2 => ?_
    obtain ⟨t, e⟩ := hi1.2 i a (by rw [← Array.getElem?_toList]; exact e1)
    rw [upFrom_get] at e2
    split at e2
    · cases e2; exact ⟨t, by rw [e, Int.mul_one]⟩
    · cases e2
  have at1 : (h1.push { cls := .type "list", data := .seq acc.toList.toArray }).get? h1.objs.size = some { cls := .type "list", data := .seq acc.toList.toArray } := Heap.get?_push_size _ rfl
  have up1 : ∀ b o, h1.get? b = some o → b ≠ h1.objs.size ∧ (h1.push { cls := .type "list", data := .seq acc.toList.toArray }).get? b = some o := fun b o e =>
    ⟨Nat.ne_of_lt (Heap.lt_size e), Heap.get?_push_of_some _ e⟩
  refine wpAny_bind (wpAny_holding (PySem.W.list_sort_key_data (s := { s with heap := h1.push { cls := .type "list", data := .seq acc.toList.toArray }, toks := tk1 }) (R := fun v x => ∃ t, v = Value.int x t) (f := .ref q) (b := false) (n := 0) k at1 each hal hk (by rw [← each.length]; exact hL) (fun x hx => by have := hu x hx; simp only [Around.in1] at *; omega) (ksk_l1 _ _) (ksk_t1 _ _) (fun v x hR hx h tk kp => ?_) fun out c h' tk kp hD _ hE => ?_))
  · obtain ⟨tx, rfl⟩ := hR
    exact turn x tx hx h tk fun b o e => kp b o (up1 b o (hk1 b o e)).1 (up1 b o (hk1 b o e)).2
  · exact wpAny_pure ⟨_, rfl, h h1 tk1 hk1 out c h' tk (fun b o e => kp b o (up1 b o e).1 (up1 b o e).2) hD hE⟩
end
/-! ### the lambda -/
section
open LamX
variable {X : Cx} {pins : List (Addr × Obj)} {σ : L2.St} {H : Hp} {s : Shared}
/-- a table that has one more code object -/
theorem same_tab {P c' : Addr} {ps : Array Value} {pos : Pos} (hP : H P = some (.tbl ps)) (nC : H c' = none) : Same H (upd (upd H P (.tbl (ps ++ #[rawInt pos.line, rawInt pos.col, .ref c']))) c' (CodeO c' lamQ)) := by
  have nPc : P ≠ c' := ne_of_none hP nC
  refine ⟨fun a o e n => ?_, fun a e => ?_, fun P' ⟨ps', t1, t2, t3⟩ => ?_⟩
  · have n1 : a ≠ c' := ne_of_none e nC
    have n2 : a ≠ P := fun z => by rw [z, hP] at e; cases e; cases n
    rw [upd_ne n1, upd_ne n2]; exact e
  · by_cases z : a = c'
    · rw [z, upd_same] at e; cases e
    · rw [upd_ne z] at e
      by_cases z2 : a = P
      · rw [z2, upd_same] at e; cases e
      · rw [upd_ne z2] at e; exact e
  · have old : ∀ c2, H c2 = some (CodeO c2 lamQ) → upd (upd H P (.tbl (ps ++ #[rawInt pos.line, rawInt pos.col, .ref c']))) c' (CodeO c' lamQ) c2 = some (CodeO c2 lamQ) := fun c2 e => by
      have n1 : c2 ≠ c' := ne_of_none e nC
      have n2 : c2 ≠ P := fun z => by rw [z, hP] at e; exact codeO_ne ps (Option.some.inj e).symm
      rw [upd_ne n1, upd_ne n2]; exact e
    by_cases hb : P' = P
    · subst hb
      rw [hP] at t1
      cases t1
      have eL : (ps ++ #[rawInt pos.line, rawInt pos.col, .ref c']).toList = ps.toList ++ [rawInt pos.line, rawInt pos.col, .ref c'] := by simp
      refine ⟨_, by rw [upd_ne nPc, upd_same], by rw [eL]; exact PySem.TriplesOk_snoc _ _ _ _ t2, fun p' cv hcv => ?_⟩
      rw [eL] at hcv
      rcases among_app _ t2 hcv with z | z
      · obtain ⟨c0, e1, e2⟩ := t3 p' cv z
        exact ⟨c0, e1, old c0 e2⟩
      · exact ⟨c', z, upd_same⟩
    · refine ⟨ps', by rw [upd_ne (ne_of_none t1 nC), upd_ne hb]; exact t1, t2, fun p' cv hcv => ?_⟩
      obtain ⟨c0, e1, e2⟩ := t3 p' cv hcv
      exact ⟨c0, e1, old c0 e2⟩
theorem lam_mk {c P : Addr} {params : Arguments} {body : Expr} {scope : Scope} {pos : Pos} {E : Value → Shared → Prop} {Q : Value → Shared → Prop} (I : Inv X pins σ H s) (TB : TabB X.base X.mg c P) (hcode : X.env.code = .ref c)
    (hq : X.env.qual ++ "<lambda>" = lamQ) (hT : TabS H P lamQ) (hdef : defaultsOf params X.env = ([], [])) (hfree : ∀ y ∈ scope.names, y.2 = .free → ∃ c, X.env.cells.lookup y.1 = some c)
    (h : ∀ (f c' : Addr) (pm ctv : Value) (H1 : Hp) (s' : Shared), Inv X pins σ H1 s' → Same H H1 →
      s'.heap.get? f = some (PySem.W.kla_obj "<lambda>" lamQ params body scope (cloFrom X.env.cells scope.names []) pm c' ctv) → H1 c' = some (CodeO c' lamQ) → Q (.ref f) s') :
    wpAny (model X.prog X.w) X.A (eval (.Lambda params body scope pos) X.env) Q E s := by
  obtain ⟨ps, hP, ht, ha⟩ := hT
  have hP' : s.heap.get? P = some { cls := .none, data := .fields ps } := I.hok P _ hP
  have bP : s.heap.BuiltinsAt X.mg P := TB.bm.keeps I.bk
  rw [← hq] at ha h
  refine PySem.W.kla_eval hdef ?_
  cases hc : codeAmong pos ps.toList with
  | some cv =>
    obtain ⟨c', rfl, hco⟩ := ha pos cv hc
    refine PySem.W.kla_makeFunctionHit (c := c) (P := P) (ps := ps) (mg := X.mg) (closure_ok hfree) I.ok.glob (I.mod.glob.keeps I.bk) hcode (TB.code.keeps I.bk) hP' ht hc bP fun ctv h' tk hx hsz => ?_
    refine h h'.objs.size c' ((X.mg "__name__").getD .none) ctv H _ (I.kept (t' := tk) fun b o e => Heap.get?_push_of_some _ (hx b o e)) (Same.refl H) (Heap.get?_push_size _ rfl) hco
  | none =>
    refine PySem.W.kla_makeFunction (c := c) (P := P) (ps := ps) (mg := X.mg) (closure_ok hfree) I.ok.glob (I.mod.glob.keeps I.bk) hcode (TB.code.keeps I.bk) hP' ht hc TB.gP bP fun c' ctv h' tk hx hge hlt hrec htb => ?_
    obtain ⟨c2, oc, vs, t, e2, hoc, hd, hv⟩ := hrec
    cases e2
    have nC : H c' = none := I.hok.fresh hge
    refine h h'.objs.size c' ((X.mg "__name__").getD .none) ctv _ _ (inv_table (t' := tk) (more := #[rawInt pos.line, rawInt pos.col, .ref c']) (h' := h'.push _) I hP (fun b o hb e => Heap.get?_push_of_some _ (hx b o hb e)) (Heap.get?_push_of_some _ htb) hge ⟨oc, vs, t, Heap.get?_push_of_some _ hoc, hd, hv⟩) ?_ (Heap.get?_push_size _ rfl) upd_same
    rw [hq]
    exact same_tab hP nC
end
section
variable {prog : Program} {w : World} {A : Around} {s : Shared}
/-- the lambda's body -/
abbrev lamBody (y z : Str) (q1 q2 q3 q4 q5 q6 : Pos) (x1 : Nat) : Expr := .Tuple [.UnaryOp .USub (.Subscript (.Name y q1) (.Name z q2) q3) q4, .Name z q5] x1 q6
/-- .. at a number -/
theorem lam_key {f c' ca cc : Addr} {y z : Str} {q1 q2 q3 q4 q5 q6 : Pos} {x1 : Nat} {params : Arguments} {scope : Scope} {cl : List (Str × Addr)} {pm ctv : Value} {its : Array Value} {x n : Int} {tx tn : Tok} (room : A.depth < recursionLimit)
    (hf : s.heap.get? f = some (PySem.W.kla_obj "<lambda>" lamQ params (lamBody y z q1 q2 q3 q4 q5 q6 x1) scope cl pm c' ctv)) (hcr : s.heap.CodeRec (.ref c') lamQ) (lim : s.heap.NoLimit)
    (hcl : cl.lookup y = some cc) (hcell : s.heap.IsCell cc (some (.ref ca))) (hl : s.heap.IsList ca its) (hx0 : 0 ≤ x) (hx1 : x < 2 ^ 62) (hit : its[x.toNat]? = some (.int n tn))
    (kd : scope.kind = .function) (co : scope.isCoroutine = false) (gen : scope.isGenerator = false) (nc : ∀ a ∈ scope.names, a.2 ≠ .cell) (sy : scope.names.lookup y = some .free) (sz : scope.names.lookup z = some .local)
    (hy : (y == ("__debug__" : Str)) = false) (hy2 : (y == ("__classdict__" : Str)) = false) (hz : (z == ("__debug__" : Str)) = false)
    (hbind : bindArgs (PySem.W.kla_fn "<lambda>" lamQ params (lamBody y z q1 q2 q3 q4 q5 q6 x1) scope cl pm (.ref c') ctv) ⟨[.int x tx], []⟩ = pure [(z, .int x tx)])
    (hs1 : ∀ env, starEach [Expr.UnaryOp .USub (.Subscript (.Name y q1) (.Name z q2) q3) q4, .Name z q5] env = (false, eval (.UnaryOp .USub (.Subscript (.Name y q1) (.Name z q2) q3) q4) env) :: starEach [Expr.Name z q5] env := by intro _; rfl)
    (hs2 : ∀ env, starEach [Expr.Name z q5] env = (false, eval (.Name z q5) env) :: starEach [] env := by intro _; rfl) :
    wpAny (model prog w) A (call (.ref f) [.int x tx]) (PySem.W.KeyPure (.tuple [.int (-n), .int x]) s) (fun _ _ => False) s := by
  refine wpAny_call (PySem.W.kla_callFunE room hf rfl co gen rfl hcr ?_)
  rw [hbind]
  refine wpAny_pure (wpAny_newFunctionEnv nc (fun a ha => by rw [List.mem_singleton.mp ha]; exact sz) (fun h₁ hns hsb => ⟨lim.fresh _ hsb, ?_⟩) kd)
  have kp : ∀ b o, s.heap.get? b = some o → h₁.get? b = some o := fun b o e => hsb.extBut b o (Nat.ne_of_lt (Heap.lt_size e)) (Heap.get?_push_of_some _ e)
  show codeAny _ _ (.expr (lamBody y z q1 q2 q3 q4 q5 q6 x1) (PySem.W.envX lamQ scope s.heap.objs.size f (.ref c') cl)) _ _
  have cell1 : h₁.IsCell cc (some (.ref ca)) := by obtain ⟨o, ho, hd⟩ := hcell; exact ⟨o, kp _ _ ho, hd⟩
  have list1 : h₁.IsList ca its := by obtain ⟨o, ho, r⟩ := hl; exact ⟨o, kp _ _ ho, r⟩
  have lz : ([(z, Value.int x tx)] : List (Str × Value)).reverse.lookup z = some (.int x tx) := by simp [List.lookup]
  refine PySem.W.kla_codeExpr ?_
  refine wpAny_Tuple_spliced ?_
  rw [hs1]
  show wpAny _ _ (spliced ((false, _) :: backTo q6 (starEach [Expr.Name z q5] _))) _ _ _
  refine Calls.spliced_cons (UnaryOp_ (Subscript_ (wpAny_Name (wpAny_loadName_free kd sy hcl cell1 ?_ hy2) hy)))
  refine wpAny_Name (wpAny_loadName_local kd sz hns lz ?_) hz
  refine item_listR list1 hx0 (by omega) hit ?_
  refine neg_int ?_
  rw [hs2]
  show wpAny _ _ (spliced ((false, _) :: backTo q6 (starEach [] _))) _ _ _
  refine Calls.spliced_cons (wpAny_Name (wpAny_loadName_local kd sz hns lz ?_) hz)
  refine Calls.spliced_nil ⟨by show 2 ≤ sizeLine; rw [sizeLine_eq]; decide, ?_⟩
  show PySem.W.KeyPure _ _ _ _
  refine ⟨_, _, rfl, fun b o e => Heap.get?_push_of_some _ (kp b o e), ?_⟩
  exact .tuple (Heap.get?_push_size _ rfl) rfl rfl (.cons (.int _ _) (.cons (.int _ _) .nil))
end
/-! ### sorted(range(a, b), key=lambda z: (-y[z], z)) -/
def keyC (cs : List Int) (x : Int) : Int := -(cs[x.toNat]?.getD 0)
def sortKey (cs : List Int) (lo hi : Int) : List Int := (upFrom lo (hi - lo).toNat).mergeSort fun p q => decide (keyC cs p < keyC cs q ∨ (keyC cs p = keyC cs q ∧ p ≤ q))
def sortKeyM (cs : List Int) (lo hi : Int) : M (List Int) := if 0 ≤ lo ∧ lo ≤ 1000000 ∧ 0 ≤ hi ∧ hi ≤ 1000000 ∧ hi ≤ (cs.length : Int) then .ok (sortKey cs lo hi) else .no
/-- what is asked of the lambda's text -/
structure LamF (params : Arguments) (body : Expr) (scope : Scope) (y z : Str) : Prop where
  kd : scope.kind = .function
  co : scope.isCoroutine = false
  gen : scope.isGenerator = false
  nc : ∀ a ∈ scope.names, a.2 ≠ .cell
  sy : scope.names.lookup y = some .free
  sz : scope.names.lookup z = some .local
  fr : ∀ a ∈ scope.names, a.2 = .free → a.1 = y
  hy : (y == ("__debug__" : Str)) = false
  hy2 : (y == ("__classdict__" : Str)) = false
  hz : (z == ("__debug__" : Str)) = false
  bind : ∀ (cl : List (Str × Addr)) (pm cv ctv v : Value), bindArgs (PySem.W.kla_fn "<lambda>" lamQ params body scope cl pm cv ctv) ⟨[v], []⟩ = pure [(z, v)]
theorem upFrom_bd {lo x : Int} {n : Nat} (h : x ∈ upFrom lo n) : lo ≤ x ∧ x < lo + n := by
  induction n generalizing lo with
  | zero => simp [upFrom] at h
  | succ n ih =>
    rw [upFrom, List.mem_cons] at h
    rcases h with rfl | h
    · omega
    · have := ih h; omega
/-- behind the range -/
def SortRest (K : PySem.W.Frag) (P : Addr) (i : Nat) (σ : L2.St) (Q : VK) (vs : List V) (H1 : Hp) : Prop := ∃ r lo hi ca cs H2, vs = [V.ref r] ∧ H2 r = none ∧ H1 = upd H2 r (.rng lo hi) ∧ (0 ≤ lo ∧ lo ≤ 1000000 ∧ 0 ≤ hi ∧ hi ≤ 1000000 ∧ hi ≤ ((cs : List Int).length : Int)) ∧ σ[i]? = some (some (V.ref ca)) ∧ SqL K H2 ca (cs.map V.int) ∧ LamX.TabS H2 P lamQ ∧
  ∀ H3 D, Same H2 H3 → H2 D = none → H3 D = some (.lst ((sortKey cs lo hi).map V.int)) → Q (.ref D) H3
def tSortLam (K : PySem.W.Frag) (P : Addr) (i : Nat) (ta tb : TE) : TE := fun σ H Q => ta σ H fun va H1 => tb σ H1 fun vb H2 => ∃ lo hi, [va, vb] = [V.int lo, V.int hi] ∧ ∀ r, H2 r = none → SortRest K P i σ Q [V.ref r] (upd H2 r (.rng lo hi))
theorem vals_each : ∀ {out : List Value} {L : List Int}, PySem.W.EachIs (fun v x => ∃ t, v = Value.int x t) out L → Vals (L.map V.int) out
  | _, _, .nil => .nil
  | _, _, .cons ⟨t, e⟩ h => .cons ⟨t, e⟩ (vals_each h)
theorem sqL_same {K : PySem.W.Frag} {H H' : Hp} {a : Addr} {xs : List V} (s : Same H H') (h : SqL K H a xs) : SqL K H' a xs := h.imp (fun r => Rd.raw (Rd.same s (Rd.clo r))) id
section
open LamX
variable {X : Cx} {k i : Nat} {a b : Expr} {ta tb : TE} {c P : Addr} {params : Arguments} {scope : Scope} {y z : Str} {p1 p2 p3 p4 lpos kpos q1 q2 q3 q4 q5 q6 : Pos} {x1 : Nat}
theorem pe_sortLam (hroom : Room k X.A) (hc : X.calm = true) (hg : Gl X "sorted") (hm : X.mg "sorted" = none) (hg2 : Gl X "range") (hm2 : X.mg "range" = none) (ha : PE X a ta) (hb : PE X b tb) (TB : TabB X.base X.mg c P) (hcode : X.env.code = .ref c)
    (hq : X.env.qual ++ "<lambda>" = lamQ) (hdef : defaultsOf params X.env = ([], [])) (F : LamF params (lamBody y z q1 q2 q3 q4 q5 q6 x1) scope y z) (hcell : X.env.scope.names.lookup y = some .cell) (hN : X.N[i]? = some y)
    (na : starEach [a, b] X.env = (false, eval a X.env) :: starEach [b] X.env) (nb : starEach [b] X.env = (false, eval b X.env) :: starEach [] X.env)
    (nr : starEach [.Call (.Name "range" p2) [a, b] [] p3] X.env = (false, eval (.Call (.Name "range" p2) [a, b] [] p3) X.env) :: starEach [] X.env := by rfl) :
    PE X (.Call (.Name "sorted" p1) [.Call (.Name "range" p2) [a, b] [] p3] [⟨some "key", .Lambda params (lamBody y z q1 q2 q3 q4 q5 q6 x1) scope lpos, kpos⟩] p4) (tSortLam X.K P i ta tb) := by
  refine ⟨fun pins s σ H Q I h => ?_⟩
  have hfree : ∀ n ∈ scope.names, n.2 = .free → ∃ c, X.env.cells.lookup n.1 = some c := fun n hn e => by
    rw [F.fr n hn e]; exact I.ok.has y (.inl hcell)
  have pr : PE X (.Call (.Name "range" p2) [a, b] [] p3) _ := pe_callTy cr_range2 hg2 hm2 (by decide +kernel) (pa_cons ha (pa_cons hb pa_nil nb) na) (by decide) (by decide) na (by rw [nb]; rfl)
  refine wpAny_Call_Name_kw (ld_blt I hg hm (u := .builtin "sorted") (by decide +kernel) ?_ (by decide) (by decide))
  refine PyProof.Rows.callWith_kw (thn ((pa_cons pr pa_nil nr).run p4 pins s σ H (SortRest X.K P i σ Q) I h) fun us s1 ⟨vs, H1, I1, r1, q1⟩ => ?_) (by rw [nr]; rfl) (by rw [nr]; rfl) (by rfl) (by rfl)
  obtain ⟨r, lo, hi, ca, cs, H2, rfl, nr0, rfl, ⟨b1, b2, b3, b4, b5⟩, hσ, hS, hT, q⟩ := q1
  obtain ⟨u1, rfl, ru1⟩ := vals1 r1
  obtain rfl : u1 = Value.ref r := ru1
  have s0 : Same H2 (upd H2 r (.rng lo hi)) := newSame nr0
  show wpAny _ _ (evalAll ((do let v ← eval (.Lambda params (lamBody y z q1 q2 q3 q4 q5 q6 x1) scope lpos) X.env; standAt p4; pure v) :: [])) _ _ s1
  refine wpAny_evalAll_cons (wpAny_bind (lam_mk I1 TB hcode hq (s0.tab P hT) hdef hfree fun f c' pm ctv H3 s2 I2 sm hf hco => wpAny_bind (wpAny_standAt (wpAny_pure (wpAny_evalAll_nil ?_)))))
  show wpAny _ _ (call (.builtin "sorted") [.ref r] [(Str.ofString "key", .ref f)]) _ _ s2
  have hrng : H3 r = some (.rng lo hi) := sm.keep r _ upd_same rfl
  obtain ⟨t, u, v, hrg⟩ := (show ObjOk X.prog X.w H3 s2.heap r (.rng lo hi) from I2.hok r _ hrng)
  obtain ⟨its, rv, pl, hz⟩ := I2.list (sqL_same (s0.trans sm) hS)
  obtain ⟨oc, vs', tq, hoc, hdc, hvc⟩ := (show ObjOk X.prog X.w H3 s2.heap c' (CodeO c' lamQ) from I2.hok c' _ hco).1
  obtain ⟨cc, hcc⟩ := I2.ok.has y (.inl hcell)
  obtain ⟨m, hns, hlook⟩ := I2.loc
  obtain ⟨u', ru', lk⟩ := hlook i y (.ref ca) hN hσ (.inr (.inl hcell))
  obtain rfl : u' = Value.ref ca := ru'
  have hcl : s2.heap.IsCell cc (some (.ref ca)) := by
    rcases lk with ⟨z', _⟩ | ⟨_, c2, hc2, hcell2⟩
    · have z2 : X.env.scope.names.lookup y = some .local := z'
      rw [hcell] at z2; cases z2
    · rw [hcc] at hc2; cases hc2; exact hcell2
  have hmem : (y, NameKind.free) ∈ scope.names := PySem.mem_of_lookup F.sy
  have hclo := NdefX.clo_has hfree hmem hcc
  have hl : its.length = cs.length := by rw [← rv.length, List.length_map]
  refine sorted_key_range (fun x => .tuple [.int (keyC cs x), .int x]) (I2.ok.hd hc) hrg ⟨by omega, by omega, by omega, by omega, by omega⟩ (PySem.W.AllAlike.of fun _ _ => rfl) (PySem.W.Sortable.tuples fun _ => ⟨_, _, rfl⟩) (fun x _ => by have := hroom.un; show X.A.units + 2 + 1 < cLine; omega) (fun x tx hx h tk kp => ?_) fun h1 tk1 hk1 out c2 h' tk hk hD hE => ?_
  · have hx := upFrom_bd hx
    obtain ⟨w, ew, rw'⟩ := rv.get (i := x.toNat) (x := V.int (cs[x.toNat]?.getD 0)) (by
      rw [List.getElem?_map]
      have : x.toNat < cs.length := by omega
      rw [List.getElem?_eq_getElem this]; rfl)
    obtain ⟨tn, rfl⟩ := rw'
    refine lam_key (ca := ca) (s := { s2 with heap := h, toks := tk }) (its := its.toArray) (tn := tn) hroom.depth (kp _ _ hf) ⟨c', oc, vs', tq, rfl, kp _ _ hoc, hdc, hvc⟩ (I2.nolimit.keeps kp) hclo ?_ ?_ (by omega) (by omega) (by simpa using ew) F.kd F.co F.gen F.nc F.sy F.sz F.hy F.hy2 F.hz (F.bind _ _ _ _ _)
    · obtain ⟨o, ho, hd⟩ := hcl; exact ⟨o, kp _ _ ho, hd⟩
    · obtain ⟨o, ho, hr2⟩ := pl.isList; exact ⟨o, kp _ _ ho, hr2⟩
  · have I3 : Inv X pins σ H3 { s2 with heap := h1, toks := tk1 } := I2.kept (t' := tk1) hk1
    have nD : H3 h1.objs.size = none := I3.hok.fresh (Nat.le_refl _)
    rw [PySem.W.dataLe_ii] at hE
    have ev : Vals ((sortKey cs lo hi).map V.int) out := vals_each hE
    have hsz : ((sortKey cs lo hi).map V.int).length ≤ sizeLine := by
      rw [List.length_map, sortKey, List.length_mergeSort, upFrom_len, sizeLine_eq]
      omega
    refine ⟨.ref h1.objs.size, upd H3 h1.objs.size (.lst ((sortKey cs lo hi).map V.int)), I3.laid (t' := tk) hk (Nat.le_refl _) (show ObjOk X.prog X.w _ _ _ (.lst ((sortKey cs lo hi).map V.int)) from ⟨hsz, out, c2, ev, hD⟩), rfl, ?_⟩
    exact q _ _ ((s0.trans sm).trans (newSame nD)) ((s0.trans sm).free nD) upd_same
end
section
open LamX
variable {p : Pr} {sc : Scope} {NN VV GG : List Str} {k i j j2 : Nat} {g : G} {L : List Slot} {a b : Expr} {md md' : Md} {c P : Addr} {params : Arguments} {scope : Scope} {y z : Str} {p1 p2 p3 p4 lpos kpos q1 q2 q3 q4 q5 q6 : Pos} {x1 : Nat}
theorem evl_sortLam {bb : Bool} {m1 m2 : M Int} {cs : List Int} (ok : OkS p sc NN VV GG k g) (hG : GG[j]? = some "sorted") (hmg : p.mg "sorted" = none) (hG2 : GG[j2]? = some "range") (hmg2 : p.mg "range" = none) (hN : NN[i]? = some y) (hL : L[i]? = some (sV bb (tList tInt) cs)) (ha : EvE g L a md tInt m1) (hb : EvE g L b md tInt m2)
    (hT : p.T = some P) (TB : TabB p.base p.mg c P) (hcode : g.X.env.code = .ref c) (hq : g.X.env.qual ++ "<lambda>" = lamQ) (hdef : defaultsOf params g.X.env = ([], [])) (F : LamF params (lamBody y z q1 q2 q3 q4 q5 q6 x1) scope y z) (hcell : sc.names.lookup y = some .cell)
    (na : starEach [a, b] g.X.env = (false, eval a g.X.env) :: starEach [b] g.X.env := by rfl) (nb : starEach [b] g.X.env = (false, eval b g.X.env) :: starEach [] g.X.env := by rfl)
    (nr : starEach [.Call (.Name "range" p2) [a, b] [] p3] g.X.env = (false, eval (.Call (.Name "range" p2) [a, b] [] p3) g.X.env) :: starEach [] g.X.env := by rfl) :
    EvL g L (.Call (.Name "sorted" p1) [.Call (.Name "range" p2) [a, b] [] p3] [⟨some "key", .Lambda params (lamBody y z q1 q2 q3 q4 q5 q6 x1) scope lpos, kpos⟩] p4) md' tInt (m1.bind fun lo => m2.bind fun hi => sortKeyM cs lo hi) := by
  obtain ⟨hg, ho⟩ := ok.gl hG
  obtain ⟨hg2, ho2⟩ := ok.gl hG2
  refine PE.imp (pe_sortLam ok.room ok.calm hg (by rw [ok.mg]; exact hmg) hg2 (by rw [ok.mg]; exact hmg2) ha hb (by rw [ok.base, ok.mg]; exact TB) hcode hq hdef F (by rw [ok.scp]; exact hcell) (by rw [ok.N]; exact hN) na nb nr) fun σ H W q => ?_
  obtain ⟨kp, own, at_, q⟩ := tL_iff.mp q
  refine tE_iff.mpr ⟨kp, own, at_, ?_⟩
  cases m1 with
  | ok lo =>
    intro v H1 s1 rx
    cases (show v = .int lo from rx)
    refine tE_iff.mpr ⟨kp, own, at_.ext s1, ?_⟩
    cases m2 with
    | ok hi =>
      intro v H2 s2 rx
      cases (show v = .int hi from rx)
      have at2 := (at_.ext s1).ext s2
      obtain ⟨Fs, hA, rfl⟩ := at2.sl
      obtain ⟨v, F', e1, e2, rfl, x, rfl, ca, vs, rfl, hR, hr⟩ := hA.get hL
      have q : FinL g.fm g.W Fs.flatten σ H md' tInt W (sortKeyM cs lo hi) := q
      unfold sortKeyM at q
      split at q
      · rename_i hb'
        refine ⟨lo, hi, rfl, fun r hr0 => ⟨r, lo, hi, ca, cs, H2, rfl, hr0, rfl, hb', e1, ?_, ?_, fun H3 D s3 nD hD => ?_⟩⟩
        · rw [← hr.ints, ok.K, ← ok.fmK]
          have hR : RB g.fm Fs.flatten H2 bb ca (.lst vs) := hR
          exact RX.list (md := if bb then .f0 else .sh) (H := H2) (by unfold RB at hR; exact hR)
        · exact at2.same.tab P (ok.tab P hT)
        · exact q D _ H3 ((s1.trans s2).trans s3) ((s1.trans s2).free nD) hD (reps_ints _)
      · exact q.elim
    | ex c => exact fun H' s => q H' (s1.trans s)
    | no => exact q
  | ex c => exact q
  | no => exact q
/-- a def by its body, the code object known -/
theorem fn_genC {α δ : Type} {S : Ty α} {A : Ar δ} {x qual : Str} {st : Stmt} {f : Addr} {fd : FuncData} {ps : List Str} {L0 : δ → List Slot} {n m : Nat} {bm : Bool} {F : δ → M (List α)} (hF : FunD p.K x qual (defArgs st) (defBody st) (defScope st) [] [] f fd) (hS : Sc st NN VV ps GG) (ha : ArS A n L0) (hn : ps.length = n) (hm : n + m = NN.length)
    (hb : ∀ g, OkS p (defScope st) NN VV GG k g → g.LX = List.replicate NN.length sAny → g.X.env.code = fd.code → g.X.env.qual = qual ++ ".<locals>." → ∀ d, EvB g (L0 d ++ List.replicate m sAny) (defBody st) (fun r => .rtL bm S r) (F d)) :
    FnOk p.P p.w p.K p.mg p.base (L2.CX p.P p.w) (k + 1) f fd ps (spM p A (fun r => .rtL bm S r) F) := by
  obtain ⟨oc, od, dV, kV, doc, pm, an, cdv, ct, osl, rfl, lk, hcd, _, _⟩ := hF.ex
  refine fn_of lk hcd hS.S (fun vs H Q E h => ?_) (fun A' outer s H vs Q E hr h => ?_)
  · obtain ⟨d, z, hz, hrep, _⟩ := h
    exact (ha.all (H := H) (R := fun _ => RD ⟨p.K, H, z⟩ [] H) hrep).1.trans hn.symm
  · obtain ⟨d, z, ⟨hz, htab⟩, hrep, q⟩ := h
    have hlen : vs.length = n := (ha.all (H := H) (R := fun _ => RD ⟨p.K, H, z⟩ [] H) hrep).1
    let X : Cx := cxOf (L2.CX p.P p.w) p.P p.w p.K p.mg p.base NN qual (defScope st) f cdv A' outer s H E
    let g : G := ⟨X, ⟨p.K, H, z⟩, fun c _ H' => E (.ref (p.C c)) none H', List.replicate NN.length sAny⟩
    have hN : ∀ {j : Nat} {y : Str}, VV[j]? = some y → y ∈ VV := fun e => List.mem_of_getElem? e
    have ok : OkS p (defScope st) NN VV GG k g :=
      { prog := rfl, w := rfl, K := rfl, mg := rfl, base := rfl, N := rfl, fmK := rfl, tab := htab, room := hr, nd := hS.S.nd
        vis := fun e => let h := seenB_v (List.all_eq_true.mp hS.vis _ (hN e)); ⟨h.2, h.1⟩
        gl := fun e => let h := glB_v (List.all_eq_true.mp hS.gl _ (List.mem_of_getElem? e)); ⟨h.2, h.1⟩
        tk := Takes.imp (takes_of (X := X) rfl rfl rfl (E := E) rfl) (fun cls d σ H ⟨c, e1, e2, h⟩ => by subst e1; subst e2; exact h)
        calm := rfl
        blk := fun h => blkOk_by h
        loc := fun e => locB_v (List.all_eq_true.mp hS.loc _ (hN e))
        fnT := fun _ => rfl
        psO := passes_of (X := X) rfl
        scp := rfl
        stk := rfl
        frm := rfl
        exn := rfl }
    refine ⟨_, hb g ok rfl rfl rfl d, (fun _ _ => False), [], ?_, ?_⟩
    · refine ⟨Same.refl H, hz, ⟨List.replicate n [] ++ List.replicate m [], ?_, by simp [flat_rep]⟩, List.nodup_nil, (fun _ h => nomatch h), fun _ _ h => h.elim⟩
      have h1 := (ha.all (H := H) (R := RB ⟨p.K, H, z⟩ [] H) hrep).2
      have e : L2.start NN vs = vs.map some ++ List.replicate m none := by
        unfold L2.start
        rw [show NN.length - vs.length = m by omega]
      rw [e]
      exact h1.append (AllS.anys m)
    · cases hF' : F d with
      | ok r =>
        rw [hF'] at q
        exact q
      | ex c =>
        rw [hF'] at q
        exact fun σ' H' own a' => q H' a'.same
      | no => rw [hF'] at q; exact q
end
end Hd

namespace Hd
open PySem PySem.Spec L2
/-! ### the end, where a table of code objects grows -/
theorem code_of {K : PySem.W.Frag} {x qual : Str} {params : Arguments} {body : List Stmt} {scope : Scope} {fd : FuncData} {q : He.Defn} (F : FunD K x qual params body scope [] [] (He.fAd K q) fd) : fd.code = .ref (He.codeOf K q) := by
  obtain ⟨oc, od, dV, kV, doc, pm, an, cdv, ct, osl, rfl, lk, hcd, _, _⟩ := F.ex
  unfold He.codeOf
  rw [lk]
  show cdv = _
  unfold PySem.W.codeIn at hcd
  cases cdv with
  | ref c => rfl
  | _ => simp at hcd
theorem law_endT {l : PySem.W.OpenLaw} {k : Nat} {q : Program} {loose : List Str} {XP : (Str → Option Value) → Heap → Prop} {YP : World → Heap → Prop} {d : DefRec} {cl : List Int × Unit → M Bool}
    (hn : l.most = some 63) (hdf : d.params.defaults = []) (hr : Room k callerA)
    (F : ∀ (w : World) (mg : Str → Option Value) (fa : Addr) (h : Heap), YP w h → h.Ns mainGlobals mg → mg d.name = some (.ref fa) →
      ∃ (K : PySem.W.Frag) (fd : FuncData) (C : Ec → Addr) (c P : Addr), K.In h ∧ h.get? P = some { cls := .none, data := .fields #[] } ∧ K.lookup P = none ∧ PySem.W.CodeHd h c P ∧ (∀ (s : Shared) (u : Value), BindsTo s fd ⟨[u], []⟩ [("script", u)]) ∧
        ∀ base : Heap, LamX.TabB base mg c P → FnOk l.prog w K mg base (L2.CX l.prog w) k fa fd ["script"] (spM ⟨l.prog, w, K, mg, base, C, some P⟩ (aCons (tListK K tInt) aNil) (fun r => .rt false tBool r) cl))
    (math : ∀ ns : List Int, ns.length ≤ 63 → cl (ns, ()) = .ok true) : PySem.W.WalkO q loose XP YP l.row.toRowW d [] (fun f vs => PySem.call f vs) := by
  refine LamX.walk_ofTsE (CX := fun w => L2.CX l.prog w) (x := "script") (k := k) hn (by decide) hdf hr (fun w mg fa h Y G hm => ?_) (fun w H s e s' z => ?_)
  · obtain ⟨K, fd, C, c, P, KX, hP, nP, hC, hb, hF⟩ := F w mg fa h Y G hm
    refine ⟨K, KX, fd, [(c, P)], spM ⟨l.prog, w, K, mg, h, C, some P⟩ (aCons (tListK K tInt) aNil) (fun r => .rt false tBool r) cl, fun p hp => by rw [List.mem_singleton.mp hp]; exact hP, fun p hp => by rw [List.mem_singleton.mp hp]; exact nP, fun p hp => by rw [List.mem_singleton.mp hp]; exact hC, hb, fun H a ns hl _ hT hS => ?_, fun base _ _ hB => hF base (hB (c, P) (List.mem_singleton_self _))⟩
    refine ⟨(ns, ()), fun _ => False, ⟨fun _ z => z.elim, fun P' e => by cases e; exact LamX.TabS.nil (hT (c, P) (List.mem_singleton_self _))⟩, ⟨.ref a, [], rfl, ⟨a, ns.map V.int, rfl, hS.imp (fun r => .inl ⟨Rd.clo r, (fun z => nomatch z), fun z => z⟩) id, reps_ints ns⟩, rfl⟩, ?_⟩
    rw [math ns hl]
    exact fun v H' s r => r
  · obtain ⟨a, B, H', cls, d, _, _, _, _, _, _, _, z⟩ := z
    exact z
end Hd

namespace Hd
open PySem PySem.Spec PyProof.Rows L2
/-! ### sorted(a list of numbers) -/
def sortI (xs : List Int) : List Int := xs.mergeSort fun a b => decide (a ≤ b)
def rSortI (K : PySem.W.Frag) : List V → Hp → VK → Prop := fun vs H Q => ∃ (a : Addr) (ns : List Int), vs = [V.ref a] ∧ SqL K H a (ns.map V.int) ∧ ∀ p, H p = none → Q (.ref p) (upd H p (.lst ((sortI ns).map V.int)))
theorem ints_each : ∀ {its : List Value} {ns : List Int}, IntsAre its ns → PySem.W.EachIs (fun v x => ∃ t, v = Value.int x t) its ns
  | _, _, .nil => .nil
  | _, _, .cons n t h => .cons ⟨t, rfl⟩ (ints_each h)
theorem cr_sortI {X : Cx} {k : Nat} (hr : Room k X.A) : CallR X (.builtin "sorted") (rSortI X.K) := by
  intro pins s σ H vs us Q I r h
  obtain ⟨a, ns, rfl, hs, q⟩ := h
  obtain ⟨its, rv, hl, hz⟩ := I.list hs
  obtain ⟨u, rfl, ru⟩ := vals1 r
  obtain rfl : u = Value.ref a := ru
  have hi := rv.ints
  have hlen := hi.length
  rw [List.length_map] at hz
  have e := ints_each hi
  have e' := (PySem.W.dataLe_int (β := Int) (fun x => x)).symm
  refine PySem.W.sorted_data (R := fun v x => ∃ t, v = Value.int x t) (enc := fun x => .int x) hl.isList e (e.mono fun v x ⟨t, ev⟩ => ⟨[], by rw [ev]; exact .int x t⟩) (PySem.W.AllAlike.of fun _ _ => rfl) (PySem.W.Sortable.others fun _ => ⟨(fun z => nomatch z), fun _ z => nomatch z⟩) (by rw [← e.length, hlen]; exact hz) (fun x _ => by have := hr.un; show X.A.units + 2 + 0 < cLine; omega) fun out ho hE => ?_
  obtain ⟨ep, he'⟩ := PyProof.Rows.sortedAll_at s.heap its out.toArray
  have hE : PySem.W.EachIs (fun v x => ∃ t, v = Value.int x t) out (sortI ns) := by
    have : (PySem.W.dataLe false fun x : Int => PyData.int x) = fun a b => decide (a ≤ b) := PySem.W.dataLe_int (fun x => x)
    rw [this] at hE; exact hE
  have hz2 : ((sortI ns).map V.int).length ≤ sizeLine := by rw [List.length_map, sortI, List.length_mergeSort]; exact hz
  exact ⟨.ref _, upd H (s.heap.objs.size + 1) (.lst ((sortI ns).map V.int)), I.laid (t' := s.toks) (fun _ _ => PyProof.Rows.sortedAll_old) (Nat.le_succ _) ⟨hz2, out, ep, vals_each hE, by simpa using he'⟩, rfl, q _ (I.hok.fresh (Nat.le_succ _))⟩
section
variable {p : Pr} {sc : Scope} {NN VV GG : List Str} {k : Nat} {g : G} {L : List Slot} {α β δ : Type} {S : Ty α} {md md' : Md} {pos pp : Pos} {st : List Stmt} {D : δ → Out} {i j : Nat} {x : Str} {a e : Expr}
theorem evl_sortI {m : M (List Int)} (ok : Ok p sc NN VV GG k g) (hG : GG[j]? = some "sorted") (hmg : p.mg "sorted" = none) (ha : EvE g L a md (tList tInt) m) (hs : starEach [a] g.X.env = (false, eval a g.X.env) :: starEach [] g.X.env := by rfl) :
    EvL g L (.Call (.Name "sorted" pp) [a] [] pos) md' tInt (m.bind fun xs => .ok (sortI xs)) := by
  obtain ⟨hg, ho⟩ := ok.gl hG
  obtain ⟨h1, _, h3⟩ := okName_d ho
  refine PE.imp (pe_callB (cr_sortI ok.room) hg (by rw [ok.mg]; exact hmg) (by decide +kernel) (eva_cons ha eva_nil hs) h3 h1 hs rfl) fun σ H W q => ?_
  obtain ⟨kp, own, at_, q⟩ := tL_iff.mp q
  refine tA_iff.mpr ⟨kp, own, at_, ?_⟩
  cases m with
  | ok d =>
    rintro vs H1 s1 ⟨v, r, rfl, ⟨a', ws, rfl, hR, rr⟩, e3⟩
    cases (show r = [] from e3)
    refine ⟨a', d, rfl, by rw [← rr.ints, ok.K, ← ok.fmK]; exact RX.list hR, fun l hl => q l _ _ (s1.trans (newSame hl)) (s1.free hl) upd_same (reps_ints _)⟩
  | ex c => exact q
  | no => exact q
/-! ### found.remove(x) -/
def removeM (xs : List Int) (x : Int) : M (List Int) := if x ∈ xs then .ok (xs.erase x) else .no
theorem erase_at : ∀ {xs : List Int} {x : Int}, x ∈ xs → ∃ j : Nat, xs[j]? = some x ∧ (∀ m : Nat, m < j → xs[m]? ≠ some x) ∧ xs.eraseIdx j = xs.erase x
  | y :: r, x, h => by
    by_cases e : y = x
    · subst e; exact ⟨0, rfl, fun m hm => absurd hm (Nat.not_lt_zero m), by simp⟩
    · rcases List.mem_cons.mp h with z | z
      · exact absurd z.symm e
      · obtain ⟨j, h1, h2, h3⟩ := erase_at z
        refine ⟨j + 1, by simpa using h1, fun m hm => ?_, by rw [List.eraseIdx_cons_succ, h3, List.erase_cons_tail (by simpa using e)]⟩
        cases m with
        | zero => simpa using e
        | succ m => simpa using h2 m (by omega)
theorem evb_remove {bb : Bool} {ds : List Int} {m : M Int} {f : List Int → M δ} {p1 ap cp : Pos} (ok : OkS p sc NN VV GG k g) (wk : Wk L g.LX) (hN : NN[i]? = some x) (hV : VV[j]? = some x) (hL : L[i]? = some (sOwn bb tInt ds)) (ha : EvE g L a md tInt m)
    (hr : ∀ ds', EvB g (L.set i (sOwn bb tInt ds')) st D (f ds'))
    (hs : swapsWith (.Call (.Attribute (.Name x p1) "remove" ap) [a] [] cp) none pos.line g.X.env = pure false := by rfl)
    (hbase : attributeBase (.Name x p1) "remove" g.X.env (eval (.Name x p1) g.X.env) = eval (.Name x p1) g.X.env := by rfl)
    (hfew : ((backTo cp (starEach [a] g.X.env)).all (fun x => !x.1) && (backToKw cp (keywordEach [] g.X.env)).all (fun x => x.1.isSome)
      && decide (([a] : List Expr).length + ([] : List Keyword).length + (if ([] : List Keyword).isEmpty then 0 else 1) < 30)) = true := by rfl)
    (hline : (ap.endLine == cp.line) = true := by rfl) (hst : starEach [a] g.X.env = (false, eval a g.X.env) :: starEach [] g.X.env := by rfl) (hpl : (backTo cp (starEach [] g.X.env)).any (·.1) = false := by rfl) :
    EvB g L (.Expr (.Call (.Attribute (.Name x p1) "remove" ap) [a] [] cp) pos :: st) D (m.bind fun v => (removeM ds v).bind f) := by
  obtain ⟨hv, ho⟩ := ok.vis hV
  obtain ⟨h1, h2, _⟩ := okName_d ho
  refine PSs.imp (pss_cons (ps_expr (pe_bm PySem.F.plainAttrs_list PySem.F.slot_list_remove PySem.F.type_list_remove mt_remove (pe_var (i := i) (by rw [ok.N]; exact hN) hv h1 h2) (pa_cons ha pa_nil hst) (hbase := hbase) (hfew := hfew) (hline := hline) (hs := hst) (hplain := hpl)) hs) (PSs.ex hr)) fun E σ H ⟨kp, own, at_, q⟩ => ?_
  obtain ⟨p', vs, e1, hp, r, mu⟩ := at_.mut hL
  refine ⟨_, e1, Or.inl ⟨rfl, _, SqL.of hp⟩, tE_iff.mpr ⟨kp, own, at_, ?_⟩⟩
  cases m with
  | ok d =>
    intro v H1 s1 r1
    cases (show v = .int d from r1)
    have a1 := at_.ext s1
    obtain ⟨p2, vs2, e12, hp2, rr2, mu2⟩ := a1.mut hL
    rw [e1] at e12
    cases e12
    have q : BOk g kp E D ((removeM ds d).bind f) := q
    unfold removeM at q
    split at q
    · rename_i hm
      obtain ⟨j', z1, z2, z3⟩ := erase_at hm
      rw [rr2.ints] at hp2
      exact ⟨_, ds, d, j', rfl, rfl, hp2, z1, z2, ds.erase d, kp, own, by rw [z3]; exact mu2 _ _ (reps_ints _), q⟩
    · exact q.elim
  | ex c => exact BOk.exx wk at_ q
  | no => exact q.elim
end
end Hd

namespace Hd
open PySem PySem.Spec PyProof.Rows L2
/-! ### found.insert(at, x) -/
def insM {α : Type} (xs : List α) (i : Int) (d : α) : M (List α) := if 0 ≤ i ∧ i < 2 ^ 63 ∧ xs.length < sizeLine then .ok (xs.take i.toNat ++ [d] ++ xs.drop i.toNat) else .no
section
variable {α δ : Type} {p : Pr} {sc : Scope} {NN VV GG : List Str} {k : Nat} {g : G} {L : List Slot} {md md' : Md} {pos : Pos} {S : Ty α} {st : List Stmt} {D : δ → Out} {i j : Nat} {x : Str} {e ei : Expr}
theorem evb_insert {bb : Bool} {ds : List α} {mi : M Int} {m : M α} {f : List α → M δ} {p1 ap cp : Pos} (ok : OkS p sc NN VV GG k g) (wk : Wk L g.LX) (hN : NN[i]? = some x) (hV : VV[j]? = some x) (hL : L[i]? = some (sOwn bb S ds)) (hb : SlB md bb)
    (hi : EvE g L ei md' tInt mi) (he : EvE g L e md S m) (hr : ∀ ds', EvB g (L.set i (sOwn bb S ds')) st D (f ds'))
    (hs : swapsWith (.Call (.Attribute (.Name x p1) "insert" ap) [ei, e] [] cp) none pos.line g.X.env = pure false := by rfl)
    (hbase : attributeBase (.Name x p1) "insert" g.X.env (eval (.Name x p1) g.X.env) = eval (.Name x p1) g.X.env := by rfl)
    (hfew : ((backTo cp (starEach [ei, e] g.X.env)).all (fun x => !x.1) && (backToKw cp (keywordEach [] g.X.env)).all (fun x => x.1.isSome)
      && decide (([ei, e] : List Expr).length + ([] : List Keyword).length + (if ([] : List Keyword).isEmpty then 0 else 1) < 30)) = true := by rfl)
    (hline : (ap.endLine == cp.line) = true := by rfl) (hst : starEach [ei, e] g.X.env = (false, eval ei g.X.env) :: starEach [e] g.X.env := by rfl) (hst2 : starEach [e] g.X.env = (false, eval e g.X.env) :: starEach [] g.X.env := by rfl) (hpl : (backTo cp (starEach [e] g.X.env)).any (·.1) = false := by rfl) :
    EvB g L (.Expr (.Call (.Attribute (.Name x p1) "insert" ap) [ei, e] [] cp) pos :: st) D (mi.bind fun n => m.bind fun d => (insM ds n d).bind f) := by
  obtain ⟨hv, ho⟩ := ok.vis hV
  obtain ⟨h1, h2, _⟩ := okName_d ho
  refine PSs.imp (pss_cons (ps_expr (pe_bm PySem.F.plainAttrs_list PySem.F.slot_list_insert PySem.F.type_list_insert mt_insert (pe_var (i := i) (by rw [ok.N]; exact hN) hv h1 h2) (pa_cons hi (pa_cons he pa_nil hst2) hst) (hbase := hbase) (hfew := hfew) (hline := hline) (hs := hst) (hplain := hpl)) hs) (PSs.ex hr)) fun E σ H ⟨kp, own, at_, q⟩ => ?_
  obtain ⟨p', vs, e1, hp, r, mu⟩ := at_.mut hL
  refine ⟨_, e1, Or.inl ⟨rfl, _, SqL.of hp⟩, tE_iff.mpr ⟨kp, own, at_, ?_⟩⟩
  cases mi with
  | ok n =>
    intro v H1 s1 r1
    cases (show v = .int n from r1)
    have a1 := at_.ext s1
    refine tE_iff.mpr ⟨kp, own, a1, ?_⟩
    cases m with
    | ok d =>
      intro v H2 s2 r2
      have a2 := a1.ext s2
      obtain ⟨p2, vs2, e12, hp2, rr2, mu2⟩ := a2.mut hL
      rw [e1] at e12
      cases e12
      have q : BOk g kp E D ((insM ds n d).bind f) := q
      unfold insM at q
      split at q
      · rename_i hh
        obtain ⟨h0, h63, hlt⟩ := hh
        refine ⟨_, vs2, n, v, rfl, rfl, hp2, by rw [← rr2.length]; exact hlt, h0, h63, ds.take n.toNat ++ [d] ++ ds.drop n.toNat, kp, own, mu2 _ _ (((rr2.take n.toNat).append (.cons (S.mono r2 hb.rb) .nil)).append (rr2.drop n.toNat)), q⟩
      · exact q.elim
    | ex c => exact BOk.exx wk a1 q
    | no => exact q
  | ex c => exact BOk.exx wk at_ q
  | no => exact q
end
end Hd

namespace Hd
open PySem PySem.Spec PyProof.Rows L2
section
variable {α : Type} {g : G} {L : List Slot} {md md' : Md} {e : Expr} {S : Ty α}
/-- a value of any kind -/
theorem ev_anyR {m : M α} (h : EvE g L e md S m) : EvE g L e md' tAny (m.bind fun x => .ok ((fun _ => ()) x)) := PE.imp h fun σ H Q q => by
  obtain ⟨kp, own, at_, q⟩ := tE_iff.mp q
  refine tE_iff.mpr ⟨kp, own, at_, ?_⟩
  cases m with
  | ok d => exact fun v H' s r => q v H' s trivial
  | ex c => exact q
  | no => exact q
end
theorem call_lenR {X : Cx} : CallR X (.builtin "len") (fun xs H Q => ∃ a kvs, xs = [V.ref a] ∧ Rd H a (.dK kvs) ∧ Q (.int kvs.length) H) := by
  intro pins s σ H xs us Q I r h
  obtain ⟨a, kvs, rfl, hp, q⟩ := h
  obtain ⟨u, rfl, rx⟩ := vals1 r
  obtain rfl : u = .ref a := rx
  exact d_len I hp fun t s' I' => ⟨.int kvs.length, H, I', ⟨_, rfl⟩, q⟩
section
variable {α : Type} {p : Pr} {sc : Scope} {NN VV GG : List Str} {k j : Nat} {g : G} {L : List Slot} {md md' : Md} {pos pp : Pos} {S : Ty α} {e : Expr}
theorem ev_lenD {m : M (List (Key × α))} (ok : Ok p sc NN VV GG k g) (hG : GG[j]? = some "len") (hmg : p.mg "len" = none) (ha : EvE g L e md (tDict S) m) (hs : starEach [e] g.X.env = (false, eval e g.X.env) :: starEach [] g.X.env := by rfl) : EvE g L (.Call (.Name "len" pp) [e] [] pos) md' tInt (m.bind fun xs => .ok (xs.length : Int)) :=
  ev_b1 (S := tDict S) (fr := true) ok call_lenR (fun {d v R H W} rb h q => by
    obtain ⟨a, vs, rfl, hr, r⟩ := h
    exact ⟨a, vs, rfl, (rb _ _ hr).resolve_right fun z => z, q _ _ (Same.refl _) (by show _ = V.int _; rw [r.length])⟩) (fun _ _ h => nomatch h) .fresh hG hmg PySem.boot_len ha hs
end
end Hd

namespace Hd
open PySem PySem.Spec PyProof.Rows L2
/-! ### x[i] += e -/
theorem pget_list {X : Cx} : PGet X (rIxL X.K) := by
  intro pins s σ H x y v u Q I rx ry h
  obtain ⟨p, xs, i, z, rfl, rfl, hq, he, q⟩ := h
  cases rx
  obtain ⟨t, rfl⟩ := ry
  obtain ⟨its, r, pl, hz⟩ := I.list hq
  obtain ⟨j, h1, h2, h3, h4, h5⟩ := atI_get he
  obtain ⟨w, ew, rw'⟩ := r.get h2
  have hl := r.length
  have hn := line63
  have fin : EP X pins σ Q w s := ⟨z, H, I, rw', q⟩
  by_cases h0 : 0 ≤ i
  · have hj : i.toNat = j := by
      rw [seqIndex_of h0 h5] at h1
      exact Option.some.inj h1
    exact wpAny_getItem_list pl.isList h0 (by omega) (by rw [hj]; simpa using ew) fin
  · have hj : (i + (its.toArray.size : Int)).toNat = j := by
      rw [seqIndex_neg (by omega) h4] at h1
      rw [List.size_toArray, ← hl]
      exact Option.some.inj h1
    exact wpAny_getItem_list_neg pl.isList (by omega) (by rw [List.size_toArray] <;> omega) (by omega) (by rw [hj]; simpa using ew) fin
section
variable {δ : Type} {p : Pr} {sc : Scope} {NN VV GG : List Str} {k : Nat} {g : G} {L : List Slot} {md md' : Md} {pos : Pos} {st : List Stmt} {D : δ → Out} {i j : Nat} {x : Str} {e ix a b : Expr} {m1 m2 : M Int} {y : Int}
/-- n & 1 -/
theorem ev_and1 (ok : Ok p sc NN VV GG k g) (ha : EvE g L a md tInt m1) (hb : EvE g L b md tInt (.ok 1)) : EvE g L (.BinOp a .BitAnd b pos) md' tInt (m1.bind fun x => .ok (x % 2)) :=
  ev_op2 (f := fun x _ => .ok (x % 2)) ok op_andM ⟨fun {d e x y R H Q} rb rx ry q => ⟨d, 1, rx, ry, q _ _ (Same.refl _) rfl⟩⟩ (fun _ _ _ h => nomatch h) (.fresh : MdOk true md md') ha (ev_lit hb)
theorem evb_augI {bb : Bool} {ds : List Int} {m : M Int} {mi : M Int} {f : List Int → M δ} {p1 p2 : Pos} (ok : OkS p sc NN VV GG k g) (wk : Wk L g.LX) (hN : NN[i]? = some x) (hV : VV[j]? = some x) (hL : L[i]? = some (sOwn bb tInt ds))
    (hi : EvE g L ix md' tInt mi) (he : EvE g L e md tInt m) (hr : ∀ ds', EvB g (L.set i (sOwn bb tInt ds')) st D (f ds'))
    (ha : ∀ ov iv new, augStore ix ov iv new = (do holding [new, ov, iv] (setItem ov iv new); release [new, ov, iv] []; pure .next) := by intros; rfl) :
    EvB g L (.AugAssign (.Subscript (.Name x p1) ix p2) .Add e pos :: st) D (mi.bind fun n => (getM ds n).bind fun v => m.bind fun d => (setM ds n (v + d)).bind f) := by
  obtain ⟨hv, ho⟩ := ok.vis hV
  obtain ⟨h1, h2, _⟩ := okName_d ho
  refine PSs.imp (pss_cons (ps_augS (pe_var (i := i) (by rw [ok.N]; exact hN) hv h1 h2) hi pget_list he ip_add set_list ha) (PSs.ex hr)) fun E σ H ⟨kp, own, at_, q⟩ => ?_
  obtain ⟨p', vs, e1, hp, r, mu⟩ := at_.mut hL
  refine ⟨_, e1, tE_iff.mpr ⟨kp, own, at_, ?_⟩⟩
  cases mi with
  | ok n =>
    intro v H1 s1 r1
    cases (show v = .int n from r1)
    have a1 := at_.ext s1
    obtain ⟨p2', vs2, e12, hp2, rr2, mu2⟩ := a1.mut hL
    rw [e1] at e12
    cases e12
    have q : BOk g kp E D ((getM ds n).bind fun v => m.bind fun d => (setM ds n (v + d)).bind f) := q
    rw [rr2.ints] at hp2
    unfold getM at q
    cases hat : L2.atI ds n with
    | none => rw [hat] at q; exact q.elim
    | some v0 =>
      rw [hat] at q
      have q : BOk g kp E D (m.bind fun d => (setM ds n (v0 + d)).bind f) := q
      refine ⟨_, ds.map V.int, n, .int v0, rfl, rfl, SqL.of hp2, ?_, tE_iff.mpr ⟨kp, own, a1, ?_⟩⟩
      · obtain ⟨vv, q1, q2⟩ := rr2.at hat
        cases (show vv = .int v0 from q2)
        rw [← rr2.ints]; exact q1
      · cases m with
        | ok d =>
          intro v2 H2 s2 r2
          cases (show v2 = .int d from r2)
          have a2 := a1.ext s2
          obtain ⟨p3, vs3, e13, hp3, rr3, mu3⟩ := a2.mut hL
          rw [e1] at e13
          cases e13
          have q : BOk g kp E D ((setM ds n (v0 + d)).bind f) := q
          unfold setM at q
          split at q
          · rename_i jj hj
            refine ⟨v0, d, rfl, rfl, _, vs3, n, jj, rfl, rfl, hp3, by rw [← rr3.length]; exact hj, ds.set jj (v0 + d), kp, own, mu3 _ _ (rr3.set rfl jj), q⟩
          · exact q.elim
        | ex c => exact BOk.exx wk a1 q
        | no => exact q
  | ex c => exact BOk.exx wk at_ q
  | no => exact q
end
end Hd

namespace Hd
open PySem PySem.Spec PyProof.Rows L2
/-! ### found.pop(i), i not below 0 -/
def popAtM {α : Type} (xs : List α) (i : Int) : M (List α) := if 0 ≤ i ∧ i < (xs.length : Int) ∧ i < 2 ^ 62 then .ok (xs.eraseIdx i.toNat) else .no
section
variable {α δ : Type} {p : Pr} {sc : Scope} {NN VV GG : List Str} {k : Nat} {g : G} {L : List Slot} {md md' : Md} {pos : Pos} {S : Ty α} {st : List Stmt} {D : δ → Out} {i j : Nat} {x : Str} {a : Expr}
theorem evb_popAt {bb : Bool} {ds : List α} {m : M Int} {f : List α → M δ} {p1 ap cp : Pos} (ok : OkS p sc NN VV GG k g) (wk : Wk L g.LX) (hN : NN[i]? = some x) (hV : VV[j]? = some x) (hL : L[i]? = some (sOwn bb S ds)) (ha : EvE g L a md tInt m)
    (hr : ∀ ds', EvB g (L.set i (sOwn bb S ds')) st D (f ds'))
    (hs : swapsWith (.Call (.Attribute (.Name x p1) "pop" ap) [a] [] cp) none pos.line g.X.env = pure false := by rfl)
    (hbase : attributeBase (.Name x p1) "pop" g.X.env (eval (.Name x p1) g.X.env) = eval (.Name x p1) g.X.env := by rfl)
    (hfew : ((backTo cp (starEach [a] g.X.env)).all (fun x => !x.1) && (backToKw cp (keywordEach [] g.X.env)).all (fun x => x.1.isSome)
      && decide (([a] : List Expr).length + ([] : List Keyword).length + (if ([] : List Keyword).isEmpty then 0 else 1) < 30)) = true := by rfl)
    (hline : (ap.endLine == cp.line) = true := by rfl) (hst : starEach [a] g.X.env = (false, eval a g.X.env) :: starEach [] g.X.env := by rfl) (hpl : (backTo cp (starEach [] g.X.env)).any (·.1) = false := by rfl) :
    EvB g L (.Expr (.Call (.Attribute (.Name x p1) "pop" ap) [a] [] cp) pos :: st) D (m.bind fun v => (popAtM ds v).bind f) := by
  obtain ⟨hv, ho⟩ := ok.vis hV
  obtain ⟨h1, h2, _⟩ := okName_d ho
  refine PSs.imp (pss_cons (ps_expr (pe_bm PySem.F.plainAttrs_list PySem.F.slot_list_pop PySem.F.type_list_pop mt_popAt (pe_var (i := i) (by rw [ok.N]; exact hN) hv h1 h2) (pa_cons ha pa_nil hst) (hbase := hbase) (hfew := hfew) (hline := hline) (hs := hst) (hplain := hpl)) hs) (PSs.ex hr)) fun E σ H ⟨kp, own, at_, q⟩ => ?_
  obtain ⟨p', vs, e1, hp, r, mu⟩ := at_.mut hL
  refine ⟨_, e1, Or.inl ⟨rfl, _, SqL.of hp⟩, tE_iff.mpr ⟨kp, own, at_, ?_⟩⟩
  cases m with
  | ok n =>
    intro v H1 s1 r1
    cases (show v = .int n from r1)
    have a1 := at_.ext s1
    obtain ⟨p2, vs2, e12, hp2, rr2, mu2⟩ := a1.mut hL
    rw [e1] at e12
    cases e12
    have q : BOk g kp E D ((popAtM ds n).bind f) := q
    unfold popAtM at q
    split at q
    · rename_i hh
      obtain ⟨h0, hlt, h62⟩ := hh
      have hl2 := rr2.length
      have hk : n.toNat < vs2.length := by omega
      refine ⟨_, vs2, n, n.toNat, vs2[n.toNat], rfl, rfl, hp2, by omega, by omega, seqIndex_of h0 (by omega), List.getElem?_eq_getElem hk, ds.eraseIdx n.toNat, kp, own, mu2 _ _ ?_, q⟩
      rw [List.eraseIdx_eq_take_drop_succ, List.eraseIdx_eq_take_drop_succ]
      exact (rr2.take _).append (rr2.drop _)
    · exact q.elim
  | ex c => exact BOk.exx wk at_ q
  | no => exact q.elim
end
end Hd

namespace Hd
open PySem PySem.Spec PyProof.Rows L2
/-! ### some list, whatever its items -/
def tLs : Ty Unit := ⟨fun _ v R => ∃ a vs, v = .ref a ∧ R a (.lst vs), fun ⟨a, vs, e, r⟩ s => ⟨a, vs, e, s _ _ r⟩⟩
theorem i_ls : IsT tLs "list" := ⟨fun rb ⟨a, vs, e, h⟩ => by subst e; exact RX.tyx rb h⟩
theorem homL {α δ : Type} {S : Ty α} {A : Ar δ} {f : δ → List Unit} (h : HomA A tLs f) : HomA (aCons (tList S) A) tLs (fun d => () :: f d.2) := ⟨fun {d vs R} q => by
  obtain ⟨v, r, e, ⟨a, ws, e1, h1, _⟩, h2⟩ := q
  subst e
  exact .cons ⟨a, ws, e1, h1⟩ (h.r h2)⟩
end Hd

namespace Hd
open PySem PySem.Spec PyProof.Rows L2
/-! ### a written list whose items are of several kinds -/
def tHl {δ : Type} (A : Ar δ) : Ty δ := ⟨fun d v R => ∃ a vs, v = .ref a ∧ R a (.lst vs) ∧ A.rep d vs R, fun ⟨a, vs, e, r, h⟩ s => ⟨a, vs, e, s _ _ r, A.mono h s⟩⟩
section
variable {α δ : Type} {p : Pr} {sc : Scope} {NN VV GG : List Str} {k : Nat} {g : G} {L : List Slot} {md : Md} {pos : Pos} {S : Ty α} {A : Ar δ} {es : List Expr} {a b : Expr}
theorem ev_hl {m : M δ} (hl : ∀ d vs R, A.rep d vs R → vs.length ≤ 1000) (ha : EvA g L es md A m) : EvE g L (.List es pos) md (tHl A) m := by
  refine PE.imp (pe_lst ha) fun σ H Q q => ?_
  obtain ⟨kp, own, at_, q⟩ := tE_iff.mp q
  refine tA_iff.mpr ⟨kp, own, at_, ?_⟩
  cases m with
  | ok d => exact fun vs H1 s1 r1 => ⟨Nat.le_trans (hl _ _ _ r1) (by decide), fun p hp => q _ _ (s1.trans (newSame hp)) ⟨p, vs, rfl, newRX (at_.ext s1) s1 hp, A.mono r1 (RX.same (newSame hp))⟩⟩
  | ex c => exact q
  | no => exact q
theorem ev_hlIx {n : Int} {f : δ → α} {m : M δ} (ok : Ok p sc NN VV GG k g) (hA : ArAt A n S f) (ha : EvE g L a md (tHl A) m) (hb : EvE g L b md tInt (.ok n)) (hs : PlainIx b := by exact fun _ _ => rfl) : EvE g L (.Subscript a b pos) md S (m.bind fun t => .ok (f t)) :=
  ev_ix (S := tHl A) (r := rIxL p.K) (m2 := .ok ()) (f := fun t _ => .ok (f t)) (T := tLit n) (fr := false) ok (by rw [← ok.K]; exact ix_list) ⟨fun {d e x y R H Q} rb ⟨a, vs, ex, h, r⟩ ry q => by
    obtain ⟨v, h1, h2⟩ := hA.get r
    refine ⟨a, vs, n, v, ex, ry, sq_of rb h, ?_, q _ _ (Same.refl _) (S.mono h2 (Nw.old rfl))⟩
    have := atI_nat (xs := vs) (j := n.toNat) h1
    rwa [Int.toNat_of_nonneg hA.nat] at this⟩ (fun _ _ _ h => nomatch h) .same ha (ev_lit hb) hs
def dHl (E : DeepA A) : Deep (tHl A) := ⟨fun d => .list (E.pd d), E.dp + 1, fun {K ds v R H} rb ⟨a, vs, e, h, r⟩ => by
    subst e
    obtain ⟨h1, h2⟩ := E.rep rb r
    exact ⟨.lst (.inl ((rb _ _ h).resolve_right fun z => z)) h1, h2⟩, fun ds => by simp only [PyData.depth]; have := E.dep ds; omega, fun d e => by
    simp only [PyData.eqv]
    exact E.eqv d e⟩
end
end Hd

namespace Hd
open PySem PySem.Spec L2
/-! ### None or a list of one's own; a count in an except -/
section
variable {p : Pr} {sc : Scope} {NN VV GG : List Str} {k : Nat} {g : G} {L : List Slot} {a b c e e' : Expr} {es : List Expr} {md md' : Md} {α β γ δ ρ : Type} {S : Ty α} {T : Ty β} {A : Ar δ} {pos : Pos} {i j : Nat} {x : Str} {pp pos' : Pos}
variable {st : List Stmt} {D : δ → Out} {d : δ}
/-- None, or a list of one's own -/
def sOO {α : Type} (b : Bool) (T : Ty α) : Option (List α) → Slot
  | none => sV b tNone ()
  | some ds => sOwn b T ds
/-- a def that hands back None or a list just made -/
def optL {α : Type} (T : Ty α) : Option (List α) → Out
  | none => .rt false tNone ()
  | some ds => .rtL false T ds
def FinO2 (fm : Fm) (W : Wx) (own : List Addr) (σ : L2.St) (H : Hp) (md : Md) (T : Ty β) (Q : VK) : M (Option (List β)) → Prop
  | .ok none => ∀ H', Same H H' → Q .non H'
  | .ok (some ds) => ∀ p vs H', Same H H' → H p = none → H' p = some (.lst vs) → Reps T (RX fm (p :: own) H H' md) ds vs → Q (.ref p) H'
  | .ex c => ∀ H', Same H H' → W c σ H'
  | .no => False
theorem finO2 {fm : Fm} {W : Wx} {own : List Addr} {σ : L2.St} {H : Hp} {Q : VK} : Fin (β := Option (List β)) W σ H (FinO2 fm W own σ H md T Q) := ⟨fun h => h, fun h => h⟩
def EvO2 (g : G) (L : List Slot) (e : Expr) (md : Md) (T : Ty β) (m : M (Option (List β))) : Prop := PE g.X e (fun σ H Q => ∃ kp own, At g.fm kp L σ H own ∧ FinO2 g.fm g.W own σ H md T Q m)
theorem ev_ofO2 {m : M (Option (List α))} (h : EvO2 g L e md S m) : EvE g L e md (tOpt (tList S)) m :=
  PE.imp h fun σ H Q q => by
    obtain ⟨kp, own, at_, q⟩ := tE_iff.mp q
    refine ⟨kp, own, at_, ?_⟩
    cases m with
    | ok d =>
      cases d with
      | none => exact fun H' s => q _ H' s rfl
      | some d => exact fun p vs H' s n h' r => q _ H' s ⟨⟨p, vs, rfl, newRX' at_ n h', r.mono RX.drop1⟩, fun z => nomatch z⟩
    | ex c => exact q
    | no => exact q
theorem evo2_call {x : Str} {j kf : Nat} {ps : List Str} {F : δ → M (Option (List α))} {m : M δ} {pp : Pos} (ok : Ok p sc NN VV GG k g) (hf : Fn p kf x ps (spM p A (fun r => optL S r) F)) (hk : kf ≤ k) (hG : GG[j]? = some x)
    (ha : EvA g L (e :: es) md A m) (he : starEach (e :: es) g.X.env = (false, eval e g.X.env) :: starEach es g.X.env := by rfl) (hpl : (backTo pos (starEach es g.X.env)).any (·.1) = false := by rfl) :
    EvO2 g L (.Call (.Name x pp) (e :: es) [] pos) .sh S (m.bind F) := by
  obtain ⟨f, fd, hF, hm, hkp, hbd⟩ := hf.ex
  obtain ⟨hg, ho⟩ := ok.gl hG
  rw [← ok.prog, ← ok.w, ← ok.base] at hF
  have hF' : FnOk g.X.prog g.X.w g.X.K g.X.mg g.X.base (L2.CX g.X.prog g.X.w) kf f fd ps (spM p A (fun r => optL S r) F) := by rw [ok.K, ok.mg]; exact hF
  refine PE.imp (pe_callS hF' (ok.room.mono hk) hg (by rw [ok.mg]; exact hm) (by rw [ok.K]; exact hkp) (by rw [ok.K]; exact hbd) (tk_at ok) ha (okName_d ho).1 he hpl) fun σ H Q q => ?_
  obtain ⟨kp, own, at_, q⟩ := q
  refine subA finO2 (Same.refl H) at_ q fun d vs H1 s1 r1 at1 q1 => ⟨d, fun a => a ∈ own ∨ g.fm.z a, ⟨fun a z => ?_, fun P e => at1.same.tab P (ok.tab P e)⟩, ?_, ?_⟩
  · rcases z with z | z
    · exact (at1.new a z).1
    · exact at1.zin a z
  · rw [← ok.fmK]; exact args_in r1
  · rw [← ok.fmK]
    cases hd : F d with
    | ok r =>
      rw [hd] at q1
      cases r with
      | none => exact fun v H' s r => by cases (show v = .non from r); exact q1 H' (s1.trans s)
      | some ds => exact fun p' vs' H' s n1 n2 h' r => q1 p' vs' H' (s1.trans s) (s1.free n2) h' (r.mono (CaMd.sh.rx (q := some p') s1 at_.same))
    | ex c =>
      rw [hd] at q1
      exact fun H' s => ⟨c, rfl, rfl, q1 H' (s1.trans s)⟩
    | no => rw [hd] at q1; exact q1
theorem fn_rtO {x qual : Str} {st : Stmt} {f : Addr} {fd : FuncData} {ps : List Str} {L0 : δ → List Slot} {n m : Nat} {F : δ → M (Option (List α))} (hF : FunD p.K x qual (defArgs st) (defBody st) (defScope st) [] [] f fd) (hS : Sc st NN VV ps GG) (ha : ArS A n L0) (hn : ps.length = n) (hm : n + m = NN.length)
    (hb : Body p st NN VV GG k (fun d => L0 d ++ List.replicate m sAny) (fun r => optL S r) F) : FnOk p.P p.w p.K p.mg p.base (L2.CX p.P p.w) (k + 1) f fd ps (spM p A (fun r => optL S r) F) :=
  fn_gen (D' := fun r => optL S r) hF hS ha hn hm (fun r fm Q h => by cases r with | none => exact h | some d => exact h) hb
theorem evb_setO2 {m : M (Option (List α))} {f : Option (List α) → M δ} (ok : OkS p sc NN VV GG k g) (hN : NN[i]? = some x) (hV : VV[j]? = some x) (wk : Wk L g.LX) (he : EvO2 g L e .sh S m) (hr : ∀ d, EvB g (L.set i (sOO false S d)) st D (f d))
    (hs : swapsWith e (some (.Name x pos')) pos.line g.X.env = pure false := by rfl) : EvB g L (.Assign [.Name x pos'] e pos :: st) D (m.bind f) := by
  refine PSs.imp (pss_cons (ps_set (i := i) (by rw [ok.N]; exact ok.nd) (by rw [ok.N]; exact hN) (ok.loc hV) he hs (okS_fn ok)) (PSs.ex hr)) fun E σ H ⟨kp, own, at_, q⟩ => ?_
  refine ⟨kp, own, at_, ?_⟩
  cases m with
  | ok d =>
    cases d with
    | none =>
      intro H' s
      obtain ⟨own', a'⟩ := (at_.ext s).setV (i := i) (b := false) (T := tNone) (d := ()) (v := .non) rfl
      exact ⟨none, kp, own', a', q⟩
    | some ds =>
      intro v vs H' s n h' r
      obtain ⟨own', a'⟩ := at_.setOwn (i := i) (b := false) s n h' (r.mono (SlB.sh (x := .sh)).rb)
      exact ⟨some ds, kp, own', a', q⟩
  | ex c => exact BOk.exx wk at_ q
  | no => exact q
theorem At.freezeO2 {fm : Fm} {kp : RdR} {σ : L2.St} {H : Hp} {own : List Addr} {bb : Bool} {d : Option (List α)} (h : At fm kp L σ H own) (hL : L[i]? = some (sOO bb S d)) : ∃ own', At fm kp (L.set i (sV false (tOpt (tList S)) d)) σ H own' ∧ ∀ p ∈ own', p ∈ own := by
  cases d with
  | none =>
    have a2 := h.setN (i := i) (s := sV bb tNone ()) (s' := sV false (tOpt (tList S)) none) (v := some .non) hL no_v ⟨rfl, .non, rfl, rfl⟩
    obtain ⟨Fs, h3, _⟩ := h.sl
    obtain ⟨v, F, e1, e2, _, w, rfl, rfl⟩ := h3.get hL
    have e : σ.set i (some .non) = σ := List.ext_getElem? fun n => by
      by_cases z : i = n
      · subst z
        rw [e1, List.getElem?_set_self (List.getElem?_eq_some_iff.mp e1).1]
      · rw [List.getElem?_set_ne z]
    rw [e] at a2
    exact ⟨own, a2, fun p hp => hp⟩
  | some ds =>
    obtain ⟨own', a', sub⟩ := h.freeze (i := i) (ds := ds) hL
    obtain ⟨Fs, h3, _⟩ := a'.sl
    have hL' : (L.set i (sV false (tList S) ds))[i]? = some (sV false (tList S) ds) := by rw [List.getElem?_set_self (List.getElem?_eq_some_iff.mp hL).1]
    obtain ⟨v, F, e1, e2, _, w, rfl, hw⟩ := h3.get hL'
    have a2 := a'.setN (i := i) (s' := sV false (tOpt (tList S)) (some ds)) (v := some w) hL' no_v ⟨rfl, w, rfl, hw, fun z => by obtain ⟨_, _, z2, _⟩ := hw; rw [z2] at z; exact nomatch z⟩
    have e : σ.set i (some w) = σ := List.ext_getElem? fun n => by
      by_cases z : i = n
      · subst z
        rw [e1, List.getElem?_set_self (List.getElem?_eq_some_iff.mp e1).1]
      · rw [List.getElem?_set_ne z]
    rw [e, List.set_set] at a2
    exact ⟨own', a2, sub⟩
theorem evb_freezeO2 {bb : Bool} {d : Option (List α)} {m : M δ} (hL : L[i]? = some (sOO bb S d)) (hr : EvB g (L.set i (sV false (tOpt (tList S)) d)) st D m) : EvB g L st D m := PSs.imp hr fun E σ H ⟨kp, own, at_, q⟩ => by
  obtain ⟨own', a', _⟩ := at_.freezeO2 hL
  exact ⟨kp, own', a', q⟩
theorem ev_borrowO2 {bb : Bool} {d : Option (List α)} {m : M β} (hf : Flat T ∨ md = .fx) (hL : L[i]? = some (sOO bb S d)) (h : EvE g (L.set i (sV false (tOpt (tList S)) d)) e md T m) : EvE g L e md T m := PE.imp h fun σ H Q q => by
  obtain ⟨kp, own, at_, q⟩ := tE_iff.mp q
  obtain ⟨own', a', sub⟩ := at_.freezeO2 hL
  refine tE_iff.mpr ⟨kp, own', a', ?_⟩
  cases m with
  | ok d =>
    refine fun v H' s r => q v H' s ?_
    rcases hf with hf | rfl
    · exact hf r
    · exact T.mono r fun a o z => ⟨z.1, fun y => (at_.new a y).1 z.2.2.2.2, z.2.2⟩
  | ex c => exact q
  | no => exact q
theorem evt_borrowO2 {bb : Bool} {d : Option (List α)} {m : M Bool} (hL : L[i]? = some (sOO bb S d)) (h : EvT g (L.set i (sV false (tOpt (tList S)) d)) e m) : EvT g L e m := PT.imp h fun σ H Q q => by
  obtain ⟨kp, own, at_, q⟩ := tT_iff.mp q
  obtain ⟨own', a', sub⟩ := at_.freezeO2 hL
  refine tT_iff.mpr ⟨kp, own', a', ?_⟩
  cases m <;> exact q
def unO {α : Type} : Option α → M α
  | none => .no
  | some d => .ok d
/-- x.append(e), x None or a list of one's own -/
theorem evb_appendO2 {bb : Bool} {d : Option (List α)} {m : M α} {f : List α → M δ} {p1 ap cp : Pos} (ok : OkS p sc NN VV GG k g) (wk : Wk L g.LX) (hN : NN[i]? = some x) (hV : VV[j]? = some x) (hL : L[i]? = some (sOO bb S d)) (hb : SlB md bb)
    (he : EvE g L e md S m) (hr : ∀ ds' : List α, EvB g (L.set i (sOO bb S (some ds'))) st D (f ds'))
    (hs : swapsWith (.Call (.Attribute (.Name x p1) "append" ap) [e] [] cp) none pos.line g.X.env = pure false := by rfl)
    (hbase : attributeBase (.Name x p1) "append" g.X.env (eval (.Name x p1) g.X.env) = eval (.Name x p1) g.X.env := by rfl)
    (hfew : ((backTo cp (starEach [e] g.X.env)).all (fun x => !x.1) && (backToKw cp (keywordEach [] g.X.env)).all (fun x => x.1.isSome)
      && decide (([e] : List Expr).length + ([] : List Keyword).length + (if ([] : List Keyword).isEmpty then 0 else 1) < 30)) = true := by rfl)
    (hline : (ap.endLine == cp.line) = true := by rfl) (hst : starEach [e] g.X.env = (false, eval e g.X.env) :: starEach [] g.X.env := by rfl) (hpl : (backTo cp (starEach [] g.X.env)).any (·.1) = false := by rfl) :
    EvB g L (.Expr (.Call (.Attribute (.Name x p1) "append" ap) [e] [] cp) pos :: st) D ((unO d).bind fun ds => m.bind fun y => (pushM ds y).bind f) := by
  cases d with
  | some ds => exact evb_append ok wk hN hV hL hb he hr hs hbase hfew hline hst hpl
  | none =>
    exact ⟨fun pins s σ H D I ⟨kp, own, at_, q⟩ => q.elim⟩
/-- try: body / except X: y = y + n -/
theorem evb_tryI {kn : List Ec} {cx : Ec} {mb : M β} {h : β} {f : β → M δ} {LJ : β → List Slot} {body : List Stmt} {y : Str} {iC jC : Nat} {np pos' p2 p3 p4 p5 p6 : Pos} {jn} {nv : Int} {dv : Int} {bb : Bool} (ok : OkS p sc NN VV GG k g) (wk : Wk L g.LX) (hkn : Kn p kn) (hcx : cx ∈ kn) (hx : p.mg x = some (.ref (p.C cx))) (hG : GG[j]? = some x)
    (hNC : NN[iC]? = some y) (hVC : VV[jC]? = some y) (hLC : L[iC]? = some (sV bb tInt dv))
    (hb : ∀ g', OkS p sc NN VV GG k g' → g'.LX = L → EvB g' L body (fun s => .nx (LJ s)) mb)
    (hh : Wk (L.set iC (sV false tInt (dv + nv))) (LJ h)) (hr : ∀ s, EvB g (LJ s) st D (f s)) (hs : ∀ Y : Cx, swapsWith (.BinOp (.Name y p4) .Add (.Constant (.int nv) jn p5) p6) (some (.Name y p2)) p3.line Y.env = pure false := by intro _; rfl) :
    EvB g L (.Try body [.ExceptHandler (some (.Name x np)) none [.Assign [.Name y p2] (.BinOp (.Name y p4) .Add (.Constant (.int nv) jn p5) p6) p3] pos'] [] [] pos :: st) D ((tryM kn cx mb fun _ => h).bind f) := by
  obtain ⟨hg, ho⟩ := ok.gl hG
  obtain ⟨hvC, hoC⟩ := ok.vis hVC
  obtain ⟨n1, n2, _⟩ := okName_d hoC
  refine PSs.imp (pss_cons (ps_try_only (c := .ref (p.C cx)) (tb := fun W D σ H => ∃ q : {W'' : Wx // ∀ c σ H, W'' c σ H → W (.ref (p.C c)) none σ H}, tB ⟨g.X, g.fm, q.1, L⟩ L (fun s => Out.nx (LJ s)) mb D σ H)
    (ts := fun ad cl dd => tAsg (tOp (rI0 fun i j => .int (i + j)) (tVar iC) (tC (.int nv))) (gName iC)) (Wout := fun cls d σ H => ∃ c, cls = .ref (p.C c) ∧ d = none ∧ g.W c σ H) ok.stk ok.frm ⟨hg, (okName_d ho).1, .inl (by rw [ok.mg]; exact hx)⟩ ok.tk
    (fun W pn xe tkW psO => ?_) (fun ad oE cl dd pn _ _ => ?_)) (PSs.ex hr)) fun E σ H ⟨kp, own, at_, q⟩ => ?_
  · refine PSs.ex (t := fun (q : {W'' : Wx // ∀ c σ H, W'' c σ H → W (.ref (p.C c)) none σ H}) => tB ⟨g.X, g.fm, q.1, L⟩ L (fun s => Out.nx (LJ s)) mb) fun q => ?_
    exact hb ⟨g.X.tr pn xe, g.fm, q.1, L⟩
      { prog := ok.prog, w := ok.w, K := ok.K, mg := ok.mg, base := ok.base, N := ok.N, fmK := ok.fmK, tab := ok.tab, room := ok.room, nd := ok.nd, vis := ok.vis, gl := ok.gl
        tk := Takes.imp tkW fun cls d σ H ⟨c, e1, e2, z⟩ => by subst e1; subst e2; exact q.2 c σ H z
        calm := ok.calm, blk := ok.blk, loc := ok.loc, fnT := ok.fnT, psO := psO, scp := ok.scp, stk := ok.stk, frm := ok.frm, exn := ok.exn } rfl
  · exact pss_one (ps_set (i := iC) (by show g.X.N.Nodup; rw [ok.N]; exact ok.nd) (by show g.X.N[iC]? = _; rw [ok.N]; exact hNC) (ok.loc hVC) (pe_op op_add (pe_var (i := iC) (by show g.X.N[iC]? = _; rw [ok.N]; exact hNC) hvC n1 n2) pe_int) (hs _) (.inl (ok.fnT y)))
  · refine ⟨⟨fun c σ' H' => (c ∈ kn → isB c cx = true → σ'[iC]? = some (some (.int dv)) ∧ ∃ d, tB g (LJ d) D (f d) E (σ'.set iC (some (.int (dv + nv)))) H') ∧ (c ∈ kn) ∧ (isB c cx = false → g.W c σ' H'), fun c σ' H' ⟨z1, z2, z3⟩ => ?_⟩, kp, own, at_, ?_⟩
    · refine ⟨isB c cx, by rw [ok.K]; exact hkn.exm c z2 cx hcx, fun hB ad hn => ?_, fun hB => ⟨c, rfl, rfl, z3 hB⟩⟩
      obtain ⟨y1, y2⟩ := z1 z2 hB
      exact ⟨_, y1, dv, nv, rfl, rfl, y2⟩
    · cases mb with
      | ok s => exact fun σ' H' own' a' => ⟨s, kp, own', a', q⟩
      | no => exact q.elim
      | ex c =>
        intro σ' H' own' a'
        have q : BOk g kp E D (((if c ∈ kn then (if isB c cx = true then M.ok h else .ex c) else .no) : M β).bind f) := q
        by_cases hc : c ∈ kn
        · rw [if_pos hc] at q
          refine ⟨fun _ hB => ?_, hc, fun hB => ?_⟩
          · rw [if_pos hB] at q
            obtain ⟨Fs, h3, _⟩ := a'.sl
            obtain ⟨v, F, e1, e2, _, w, rfl, hw⟩ := h3.get hLC
            cases (show w = .int dv from hw)
            obtain ⟨own3, a3⟩ := a'.setV (i := iC) (b := false) (T := tInt) (d := dv + nv) (v := .int (dv + nv)) rfl
            obtain ⟨own5, a5, _⟩ := a3.weak hh
            exact ⟨e1, h, kp, own5, a5, q⟩
          · rw [if_neg (by rw [hB]; exact Bool.false_ne_true)] at q
            obtain ⟨own2, a2, _⟩ := a'.weak wk
            exact q σ' H' own2 a2
        · rw [if_neg hc] at q; exact q.elim
end
end Hd

namespace Hd
open PySem PySem.Spec PyProof.Rows L2
/-! ### < and sorted of tuples of several kinds -/
section
variable {α β δ : Type} {S : Ty α} {T : Ty β} {A : Ar δ}
/-- what < says of data of a kind -/
structure OrdD (D : Deep S) where
  lt : α → α → Bool
  al : ∀ a b, PySem.W.alike (D.pd a) (D.pd b) = true
  nn : ∀ a, D.pd a ≠ .none
  eq : ∀ a b, PySem.W.dataLt (D.pd a) (D.pd b) = lt a b
structure OrdA (E : DeepA A) where
  lt : δ → δ → Bool
  al : ∀ a b, PySem.W.alikeAll (E.pd a) (E.pd b) = true
  eq : ∀ a b, PyProof.Rows.lexLt PyProof.Rows.itemOrd (PySem.W.keyToksAll (E.pd a)) (PySem.W.keyToksAll (E.pd b)) = lt a b
def oInt : OrdD dInt := ⟨fun a b => decide (a < b), fun a b => by show PySem.W.alike (.int a) (.int b) = true; simp only [PySem.W.alike], (fun a e => by cases e), fun a b => PySem.W.dataLt_int a b⟩
def oStr : OrdD dStr := ⟨fun a b => decide (a < b), fun a b => by show PySem.W.alike (.str (toS a)) (.str (toS b)) = true; simp only [PySem.W.alike], (fun a e => by cases e), fun a b => by
  have h := PySem.W.dataLt_str (toS a) (toS b)
  rw [show (toS a).cps.toList = a from tl_toS a, show (toS b).cps.toList = b from tl_toS b] at h
  exact h⟩
def oNil : OrdA dNil := ⟨fun _ _ => false, fun a b => by show PySem.W.alikeAll [] [] = true; simp only [PySem.W.alikeAll], fun a b => lex_irrefl _⟩
def oCons [DecidableEq α] {D : Deep S} {E : DeepA A} (O : OrdD D) (P : OrdA E) : OrdA (dCons D E) := ⟨fun a b => if a.1 = b.1 then P.lt a.2 b.2 else O.lt a.1 b.1, fun a b => by
    show PySem.W.alikeAll (D.pd a.1 :: E.pd a.2) (D.pd b.1 :: E.pd b.2) = true
    rw [PySem.W.alikeAll, O.al, P.al]; rfl, fun a b => by
    show PyProof.Rows.lexLt itemOrd (PySem.W.keyToksAll (D.pd a.1 :: E.pd a.2)) (PySem.W.keyToksAll (D.pd b.1 :: E.pd b.2)) = _
    by_cases h : a.1 = b.1
    · rw [if_pos h, PySem.W.dataLt_all_yes (O.al a.1 b.1) (by rw [D.bq, decide_eq_true_eq]; exact h)]
      exact P.eq a.2 b.2
    · rw [if_neg h, PySem.W.dataLt_all_no (O.al a.1 b.1) (by rw [D.bq, decide_eq_false_iff_not]; exact h)]
      exact O.eq a.1 b.1⟩
def oTup {E : DeepA A} (P : OrdA E) : OrdD (dTup E) := ⟨P.lt, fun a b => by
    show PySem.W.alike (.tuple (E.pd a)) (.tuple (E.pd b)) = true
    simp only [PySem.W.alike]; exact P.al a b, (fun a e => by cases e), fun a b => (PySem.W.dataLt_tuple _ _).trans (P.eq a b)⟩
/-- a tuple with items -/
structure SomeT (D : Deep S) : Prop where
  sm : ∀ a, ∃ x r, D.pd a = .tuple (x :: r)
theorem st_tup {D : Deep S} {E : DeepA A} : SomeT (dTup (dCons D E)) := ⟨fun a => ⟨_, _, rfl⟩⟩
/-- < -/
def rLtD (K : PySem.W.Frag) : R2 := fun x y H Q => ∃ d e, Dp K H x d ∧ Dp K H y e ∧ PySem.W.alike d e = true ∧ d ≠ .none ∧ d.depth ≤ 64 ∧ Q (.bl (PySem.W.dataLt d e)) H
theorem op_ltD {X : Cx} (hu : X.A.units + 65 < cLine) : OpR X (compareOp .Lt) (rLtD X.K) := by
  intro pins s σ H x y v u Q I rx ry h
  obtain ⟨d, e, hd, he, al, nn, dp, q⟩ := h
  obtain ⟨as, r1⟩ := Dp.reads I d x v hd rx
  obtain ⟨bs, r2⟩ := Dp.reads I e y u he ry
  exact PySem.W.lt_data r1 r2 al nn (by omega) ⟨.bl _, H, I, rfl, q⟩
/-- sorted(a list of tuples) -/
def rSortD (K : PySem.W.Frag) (S : Ty α) (pd : α → PyData) : List V → Hp → VK → Prop := fun vs H Q => ∃ (a : Addr) (xs : List V) (R : RdR) (bs : List α), vs = [V.ref a] ∧ SqL K H a xs ∧ Reps S R bs xs ∧ (∀ b v, S.rep b v R → Dp K H v (pd b)) ∧
  (∀ b c, PySem.W.alike (pd b) (pd c) = true) ∧ (∀ b, ∃ x r, pd b = .tuple (x :: r)) ∧ (∀ b, (pd b).depth ≤ 64) ∧ ∀ p xs', H p = none → Reps S R (bs.mergeSort (PySem.W.dataLe false pd)) xs' → Q (.ref p) (upd H p (.lst xs'))
theorem each_of {R : RdR} : ∀ {bs : List α} {xs : List V} {its : List Value}, Reps S R bs xs → Vals xs its → PySem.W.EachIs (fun v x => ∃ y, RelV y v ∧ S.rep x y R) its bs
  | _, _, _, .nil, .nil => .nil
  | _, _, _, .cons r rs, .cons h hs => .cons ⟨_, h, r⟩ (each_of rs hs)
theorem of_each {R : RdR} : ∀ {bs : List α} {its : List Value}, PySem.W.EachIs (fun v x => ∃ y, RelV y v ∧ S.rep x y R) its bs → ∃ xs, Vals xs its ∧ Reps S R bs xs
  | _, _, .nil => ⟨[], .nil, .nil⟩
  | _, _, .cons ⟨y, h, r⟩ hs => by
    obtain ⟨xs, h1, h2⟩ := of_each hs
    exact ⟨y :: xs, .cons h h1, .cons r h2⟩
theorem cr_sortD {X : Cx} {k : Nat} {pd : α → PyData} (hr : Room k X.A) : CallR X (.builtin "sorted") (rSortD X.K S pd) := by
  intro pins s σ H vs us Q I r h
  obtain ⟨a, xs, R, bs, rfl, hs, rp, hD, al, sm, dp, q⟩ := h
  obtain ⟨its, rv, hl, hz⟩ := I.list hs
  obtain ⟨u, rfl, ru⟩ := vals1 r
  obtain rfl : u = Value.ref a := ru
  have e := each_of rp rv
  have er : PySem.W.EachIs (fun v b => ∃ as, Reads s.heap v (pd b) as) its bs := e.mono fun v b ⟨y, hy, hr⟩ => Dp.reads I (pd b) y v (hD b y hr) hy
  have hlen := e.length
  refine PySem.W.sorted_data (R := fun v x => ∃ y, RelV y v ∧ S.rep x y R) (enc := pd) hl.isList e er (fun d hd d' hd' => by
      obtain ⟨b, _, rfl⟩ := List.mem_map.mp hd
      obtain ⟨c, _, rfl⟩ := List.mem_map.mp hd'
      exact al b c) (.inl fun d hd => by
      obtain ⟨b, _, rfl⟩ := List.mem_map.mp hd
      exact sm b) (by rw [rp.length]; exact hz) (fun x _ => by have := hr.un; have := dp x; show X.A.units + 2 + _ < cLine; omega) fun out ho hE => ?_
  obtain ⟨ep, he'⟩ := PyProof.Rows.sortedAll_at s.heap its out.toArray
  obtain ⟨xs', v1, v2⟩ := of_each hE
  have hz2 : xs'.length ≤ sizeLine := by rw [← v2.length, List.length_mergeSort, rp.length]; exact hz
  exact ⟨.ref _, upd H (s.heap.objs.size + 1) (.lst xs'), I.laid (t' := s.toks) (fun _ _ => PyProof.Rows.sortedAll_old) (Nat.le_succ _) ⟨hz2, out, ep, v1, by simpa using he'⟩, rfl, q _ _ (I.hok.fresh (Nat.le_succ _)) v2⟩
end
section
variable {p : Pr} {sc : Scope} {NN VV GG : List Str} {k : Nat} {g : G} {L : List Slot} {α β δ : Type} {S : Ty α} {md md' : Md} {pos pp : Pos} {st : List Stmt} {D : δ → Out} {i j : Nat} {x : Str} {a e : Expr}
theorem c_ltD (ok : Ok p sc NN VV GG k g) {D : Deep S} (O : OrdD D) (hd : D.dp ≤ 64) : CmpOk p g.X .Lt S S (fun x y => O.lt x y) := ⟨rLtD p.K, by rw [← ok.K]; exact op_ltD (by have := ok.room.un; omega), ⟨fun {d e x y R H Q} rb rx ry q => by
  obtain ⟨a1, a2⟩ := D.rep rb rx
  obtain ⟨b1, b2⟩ := D.rep rb ry
  exact ⟨_, _, a1, b1, O.al d e, O.nn d, Nat.le_trans (D.dep d) hd, q _ _ (Same.refl _) (by show _ = V.bl _; rw [O.eq])⟩⟩⟩
/-- .. in rising order -/
def sortD {D : Deep S} (O : OrdD D) (xs : List α) : List α := xs.mergeSort fun a b => !O.lt b a
theorem evl_sortD {D : Deep S} {m : M (List α)} (ok : Ok p sc NN VV GG k g) (O : OrdD D) (hd : D.dp ≤ 64) (hS : SomeT D) (hG : GG[j]? = some "sorted") (hmg : p.mg "sorted" = none) (ha : EvE g L a md (tList S) m) (hs : starEach [a] g.X.env = (false, eval a g.X.env) :: starEach [] g.X.env := by rfl) :
    EvL g L (.Call (.Name "sorted" pp) [a] [] pos) md S (m.bind fun xs => .ok (sortD O xs)) := by
  obtain ⟨hg, ho⟩ := ok.gl hG
  obtain ⟨h1, _, h3⟩ := okName_d ho
  refine PE.imp (pe_callB (cr_sortD (S := S) (pd := D.pd) ok.room) hg (by rw [ok.mg]; exact hmg) (by decide +kernel) (eva_cons ha eva_nil hs) h3 h1 hs rfl) fun σ H W q => ?_
  obtain ⟨kp, own, at_, q⟩ := tL_iff.mp q
  refine tA_iff.mpr ⟨kp, own, at_, ?_⟩
  have ee : PySem.W.dataLe false D.pd = fun a b => !O.lt b a := by
    rw [PySem.W.dataLe_eq]
    funext a b
    show (!PySem.W.dataLt (D.pd b) (D.pd a)) = _
    rw [O.eq]
  cases m with
  | ok d =>
    rintro vs H1 s1 ⟨v, r, rfl, ⟨a', ws, rfl, hR, rr⟩, e3⟩
    cases (show r = [] from e3)
    refine ⟨a', ws, RX g.fm own H H1 md, d, rfl, by rw [ok.K, ← ok.fmK]; exact RX.list hR, rr, fun b v hb => ?_, O.al, hS.sm, fun b => Nat.le_trans (D.dep b) hd, fun l xs' hl rr' => ?_⟩
    · rw [ok.K, ← ok.fmK]; exact (D.rep RX.rdb hb).1
    · rw [ee] at rr'
      exact q l _ _ (s1.trans (newSame hl)) (s1.free hl) upd_same (rr'.mono fun a o z => RX.add (o' := .lst xs') hl a o z)
  | ex c => exact q
  | no => exact q
end
end Hd

namespace Hd
open PySem PySem.Spec L2
/-! ### what a mirror comes to -/
def Okm {α : Type} (m : M α) (P : α → Prop) : Prop := ∃ a, m = .ok a ∧ P a
section
variable {α β γ ρ : Type} {m : M α} {f : α → M β} {P P' : α → Prop} {Q : β → Prop}
theorem okv {a : α} (h : P a) : Okm (.ok a) P := ⟨a, rfl, h⟩
theorem okm_iff {a : α} : Okm (.ok a) P ↔ P a := ⟨fun ⟨b, e, h⟩ => by cases e; exact h, okv⟩
theorem okb (h : Okm m P) (k : ∀ a, P a → Okm (f a) Q) : Okm (m.bind f) Q := by
  obtain ⟨a, rfl, ha⟩ := h
  exact k a ha
theorem okmono (h : Okm m P) (k : ∀ a, P a → P' a) : Okm m P' := by
  obtain ⟨a, e, ha⟩ := h
  exact ⟨a, e, k a ha⟩
theorem okif {c : Bool} {a b : M α} (h1 : c = true → Okm a P) (h2 : c = false → Okm b P) : Okm (if c = true then a else b) P := by
  cases c with
  | true => exact h1 rfl
  | false => exact h2 rfl
theorem oke {a : α} (h : Okm m (· = a)) : m = .ok a := by
  obtain ⟨b, e, rfl⟩ := h
  exact e
theorem okeq {a : α} (h : m = .ok a) : Okm m (· = a) := ⟨a, h, rfl⟩
theorem okand (h : Okm m P) (h' : Okm m P') : Okm m (fun a => P a ∧ P' a) := by
  obtain ⟨a, e, ha⟩ := h
  obtain ⟨b, e', hb⟩ := h'
  rw [e] at e'
  cases e'
  exact ⟨a, e, ha, hb⟩
/-! numbers -/
theorem ok_mod {x y : Int} (h : 0 < y) : Okm (modM x y) (· = x % y) := by unfold modM; rw [if_pos h]; exact okv rfl
theorem ok_div {x y : Int} (h : 0 < y) (h2 : y < 2 ^ 64) : Okm (divM x y) (· = x / y) := by
  unfold divM
  rw [if_pos ⟨h, Nat.lt_of_lt_of_le (show y.natAbs < 2 ^ 64 by omega) (Nat.pow_le_pow_right (by decide) (by decide))⟩]
  exact okv rfl
theorem ok_mul {x y : Int} (n m : Nat) (h : x.natAbs < 2 ^ n) (h2 : y.natAbs < 2 ^ m) (hn : n ≤ 10000 := by decide) (hm : m ≤ 10000 := by decide) : Okm (mulM x y) (· = x * y) := by
  unfold mulM
  rw [if_pos ⟨Nat.lt_of_lt_of_le h (Nat.pow_le_pow_right (by decide) hn), Nat.lt_of_lt_of_le h2 (Nat.pow_le_pow_right (by decide) hm)⟩]
  exact okv rfl
/-! lists -/
theorem getM_at {xs : List α} {i : Int} {v : α} (h0 : 0 ≤ i) (h : xs[i.toNat]? = some v) : getM xs i = .ok v := by
  have hl : i.toNat < xs.length := (List.getElem?_eq_some_iff.mp h).1
  unfold getM L2.atI L2.ixN
  rw [if_pos h0, if_pos (by omega)]
  show (match xs[i.toNat]? with | some d => M.ok d | none => .no) = _
  rw [h]
theorem getM_nat {xs : List α} {i : Nat} {v : α} (h : xs[i]? = some v) : getM xs (i : Int) = .ok v := getM_at (by omega) (by rw [Int.toNat_natCast]; exact h)
theorem ok_get {xs : List α} {i : Int} (h0 : 0 ≤ i) (h1 : i < xs.length) : Okm (getM xs i) (fun v => xs[i.toNat]? = some v) := by
  have hl : i.toNat < xs.length := by omega
  exact ⟨xs[i.toNat], getM_at h0 (by simp [hl]), by simp [hl]⟩
theorem getM_last {xs : List α} {v : α} (h : xs.getLast? = some v) : getM xs (-1) = .ok v := by
  have hne : xs ≠ [] := fun e => by rw [e] at h; cases h
  have hl : 0 < xs.length := List.length_pos_iff.mpr hne
  unfold getM L2.atI L2.ixN
  rw [if_neg (by decide), if_pos (by omega)]
  show (match xs[(-1 + (xs.length : Int)).toNat]? with | some d => M.ok d | none => .no) = _
  rw [show (-1 + (xs.length : Int)).toNat = xs.length - 1 by omega, ← List.getLast?_eq_getElem?, h]
theorem getS_at {x : Tx} {i : Int} {c : Nat} (h0 : 0 ≤ i) (h : x[i.toNat]? = some c) : getS x i = .ok [c] := by
  have hl : i.toNat < x.length := (List.getElem?_eq_some_iff.mp h).1
  unfold getS L2.atI L2.ixN
  rw [if_pos h0, if_pos (by omega)]
  show (match x[i.toNat]? with | some d => M.ok [d] | none => .no) = _
  rw [h]
theorem getS_nat {x : Tx} {i : Nat} {c : Nat} (h : x[i]? = some c) : getS x (i : Int) = .ok [c] := getS_at (by omega) (by rw [Int.toNat_natCast]; exact h)
theorem ok_getS {x : Tx} {i : Int} (h0 : 0 ≤ i) (h1 : i < x.length) : Okm (getS x i) (fun v => ∃ c, x[i.toNat]? = some c ∧ v = [c]) := by
  have hl : i.toNat < x.length := by omega
  exact ⟨[x[i.toNat]], getS_at h0 (by simp [hl]), _, by simp [hl], rfl⟩
theorem ok_push {xs : List α} {d : α} (h : xs.length < 1000000) : Okm (pushM xs d) (· = xs ++ [d]) := by
  unfold pushM
  rw [if_pos (Nat.lt_trans h (by decide))]
  exact okv rfl
theorem ok_set {xs : List α} {i : Int} {d : α} (h0 : 0 ≤ i) (h1 : i < xs.length) : Okm (setM xs i d) (· = xs.set i.toNat d) := by
  unfold setM L2.ixN
  rw [if_pos h0, if_pos h1]
  exact okv rfl
theorem ok_cat {x y : Tx} (h : x.length + y.length ≤ 1000000) : Okm (catS x y) (· = x ++ y) := by
  unfold catS
  rw [if_pos (Nat.le_trans h (by decide))]
  exact okv rfl
theorem ok_catL {x y : List α} (h : x.length + y.length ≤ 1000000) : Okm (catL x y) (· = x ++ y) := by
  unfold catL
  rw [if_pos (Nat.le_trans h (by decide))]
  exact okv rfl
theorem flat_rep1 {d : α} : ∀ n, (List.replicate n [d]).flatten = List.replicate n d
  | 0 => rfl
  | n + 1 => by rw [List.replicate_succ, List.flatten_cons, flat_rep1 n]; rfl
theorem ok_rep1 {d : α} {n : Int} (h : n < 1000000) (h' : -1000000 < n) : Okm (repM [d] n) (· = List.replicate n.toNat d) := by
  unfold repM
  rw [if_pos ⟨by omega, by omega, by
    have : ([d] : List α).length * n.toNat ≤ 1000000 := by simp; omega
    exact Nat.le_trans this (by decide)⟩, flat_rep1]
  exact okv rfl
theorem ok_range {lo hi : Int} (h1 : -(2 ^ 62) ≤ lo := by omega) (h2 : lo < 2 ^ 62 := by omega) (h3 : -(2 ^ 62) ≤ hi := by omega) (h4 : hi < 2 ^ 62 := by omega) : Okm (rangeM lo hi) (· = upFrom lo (hi - lo).toNat) := by
  unfold rangeM
  rw [if_pos ⟨h1, h2, h3, h4⟩]
  exact okv rfl
theorem range_eq {lo hi : Int} (h1 : -(2 ^ 62) ≤ lo := by omega) (h2 : lo < 2 ^ 62 := by omega) (h3 : -(2 ^ 62) ≤ hi := by omega) (h4 : hi < 2 ^ 62 := by omega) : rangeM lo hi = .ok (upFrom lo (hi - lo).toNat) := oke (ok_range h1 h2 h3 h4)
theorem upFrom_mem {lo x : Int} {n : Nat} : x ∈ upFrom lo n ↔ lo ≤ x ∧ x < lo + n := by
  induction n generalizing lo with
  | zero => simp [upFrom]
  | succ n ih => rw [upFrom, List.mem_cons, ih]; push_cast; omega
theorem upFrom_succ' {lo : Int} {n : Nat} : upFrom lo (n + 1) = upFrom lo n ++ [lo + n] := by
  induction n generalizing lo with
  | zero => simp [upFrom]
  | succ n ih => rw [upFrom, ih, upFrom]; simp; omega
/-! loops -/
theorem ok_for {f : β → α → M β} {s0 : β} {xs : List α} (I : Nat → β → Prop) (h0 : I 0 s0) (hs : ∀ i x s, xs[i]? = some x → I i s → Okm (f s x) (I (i + 1))) : Okm (forM f s0 xs) (I xs.length) := by
  induction xs generalizing s0 I with
  | nil => exact okv h0
  | cons x r ih =>
    refine okb (hs 0 x s0 rfl h0) fun s1 h1 => ?_
    exact ih (fun i => I (i + 1)) h1 fun i y s e h => hs (i + 1) y s (by simpa using e) h
theorem ok_forR {f : β → Int → M β} {s0 : β} {lo : Int} {n : Nat} (I : Nat → β → Prop) (h0 : I 0 s0) (hs : ∀ i s, i < n → I i s → Okm (f s (lo + i)) (I (i + 1))) : Okm (forM f s0 (upFrom lo n)) (I n) := by
  have h := ok_for (f := f) (xs := upFrom lo n) I h0 fun i x s e h => by
    rw [upFrom_get] at e
    by_cases hi : i < n
    · rw [if_pos hi] at e
      cases e
      exact hs i s hi h
    · rw [if_neg hi] at e; cases e
  rwa [upFrom_len] at h
/-- an invariant without a place -/
theorem ok_forI {f : β → α → M β} {s0 : β} {xs : List α} (I : β → Prop) (h0 : I s0) (hs : ∀ x ∈ xs, ∀ s, I s → Okm (f s x) I) : Okm (forM f s0 xs) I := ok_for (fun _ => I) h0 fun _ x s e h => hs x (List.mem_of_getElem? e) s h
def FlP {β ρ : Type} (N : β → Prop) (R : ρ → Prop) : Fl β ρ → Prop
  | .nx s => N s
  | .rt r => R r
theorem ok_forF {f : β → α → M (Fl β ρ)} {s0 : β} {xs : List α} (I : Nat → β → Prop) (R : ρ → Prop) (h0 : I 0 s0) (hs : ∀ i x s, xs[i]? = some x → I i s → Okm (f s x) (FlP (I (i + 1)) R)) : Okm (forF f s0 xs) (FlP (I xs.length) R) := by
  induction xs generalizing s0 I with
  | nil => exact okv h0
  | cons x r ih =>
    refine okb (hs 0 x s0 rfl h0) fun s1 h1 => ?_
    cases s1 with
    | nx s1 => exact ih (fun i => I (i + 1)) h1 fun i y s e h => hs (i + 1) y s (by simpa using e) h
    | rt q => exact okv h1
theorem ok_forFR {f : β → Int → M (Fl β ρ)} {s0 : β} {lo : Int} {n : Nat} (I : Nat → β → Prop) (R : ρ → Prop) (h0 : I 0 s0) (hs : ∀ i s, i < n → I i s → Okm (f s (lo + i)) (FlP (I (i + 1)) R)) : Okm (forF f s0 (upFrom lo n)) (FlP (I n) R) := by
  have h := ok_forF (f := f) (xs := upFrom lo n) I R h0 fun i x s e h => by
    rw [upFrom_get] at e
    by_cases hi : i < n
    · rw [if_pos hi] at e
      cases e
      exact hs i s hi h
    · rw [if_neg hi] at e; cases e
  rwa [upFrom_len] at h
/-- a law's loop that leaves with no False: all its turns go on -/
theorem okel {g : β → M γ} {h : ρ → M γ} {m : M (Fl β ρ)} {N : β → Prop} {R : ρ → Prop} {Q : γ → Prop} (hm : Okm m (FlP N R)) (h1 : ∀ s, N s → Okm (g s) Q) (h2 : ∀ r, R r → Okm (h r) Q) : Okm (m.bind (Fl.el g h)) Q :=
  okb hm fun a ha => by
    cases a with
    | nx s => exact h1 s ha
    | rt r => exact h2 r ha
theorem ok_while {t : β → M Bool} {f : β → M β} {s0 : β} (I : β → Prop) (μ : β → Nat) (h0 : I s0) (hm : μ s0 < 1000000) (ht : ∀ s, I s → Okm (t s) (fun c => c = true → Okm (f s) (fun s' => I s' ∧ μ s' < μ s))) : Okm (whileM t f fuel s0) (fun s => I s ∧ t s = .ok false) := by
  have key : ∀ n s, I s → μ s < n → Okm (whileM t f n s) (fun s => I s ∧ t s = .ok false) := by
    intro n
    induction n with
    | zero => intro s _ h; omega
    | succ n ih =>
      intro s hI hμ
      obtain ⟨c, e, hc⟩ := ht s hI
      show Okm ((t s).bind fun c => if c = true then (f s).bind (whileM t f n) else .ok s) _
      rw [e]
      show Okm (if c = true then (f s).bind (whileM t f n) else .ok s) _
      cases c with
      | true =>
        rw [if_pos rfl]
        exact okb (hc rfl) fun s' h' => ih s' h'.1 (by omega)
      | false => exact okv ⟨hI, e⟩
  exact key fuel s0 h0 (Nat.lt_trans hm (by decide))
theorem ok_whileF {t : β → M Bool} {f : β → M (Fl β ρ)} {s0 : β} (I : β → Prop) (R : ρ → Prop) (μ : β → Nat) (h0 : I s0) (hm : μ s0 < 1000000) (ht : ∀ s, I s → Okm (t s) (fun c => c = true → Okm (f s) (FlP (fun s' => I s' ∧ μ s' < μ s) R))) : Okm (whileF t f fuel s0) (FlP (fun s => I s ∧ t s = .ok false) R) := by
  have key : ∀ n s, I s → μ s < n → Okm (whileF t f n s) (FlP (fun s => I s ∧ t s = .ok false) R) := by
    intro n
    induction n with
    | zero => intro s _ h; omega
    | succ n ih =>
      intro s hI hμ
      obtain ⟨c, e, hc⟩ := ht s hI
      show Okm ((t s).bind fun c => if c = true then (f s).bind (Fl.el (whileF t f n) fun r => .ok (.rt r)) else .ok (.nx s)) _
      rw [e]
      show Okm (if c = true then (f s).bind (Fl.el (whileF t f n) fun r => .ok (.rt r)) else .ok (.nx s)) _
      cases c with
      | true =>
        rw [if_pos rfl]
        exact okel (hc rfl) (fun s' h' => ih s' h'.1 (by omega)) fun r hr => okv hr
      | false => exact okv ⟨hI, e⟩
  exact key fuel s0 h0 (Nat.lt_trans hm (by decide))
/-! comprehensions -/
theorem comp_eq {h : α → M (Option β)} {g : α → Option β} {xs : List α} (hl : xs.length ≤ 1000000) (hs : ∀ x ∈ xs, h x = .ok (g x)) : compM h xs = .ok (xs.filterMap g) := by
  unfold compM
  rw [if_pos (Nat.le_trans hl (by decide))]
  clear hl
  induction xs with
  | nil => rfl
  | cons x r ih =>
    show ((h x).nox.bind fun o => (compG h r).bind fun l => M.ok (o.toList ++ l)) = _
    rw [hs x List.mem_cons_self, ih fun y hy => hs y (List.mem_cons_of_mem _ hy)]
    show M.ok ((g x).toList ++ r.filterMap g) = _
    rw [List.filterMap_cons]
    cases g x <;> rfl
theorem comp_map {h : α → M (Option β)} {g : α → β} {xs : List α} (hl : xs.length ≤ 1000000) (hs : ∀ x ∈ xs, h x = .ok (some (g x))) : compM h xs = .ok (xs.map g) := by
  rw [comp_eq (g := fun x => some (g x)) hl hs]
  congr 1
  induction xs with
  | nil => rfl
  | cons x r ih => rw [List.filterMap_cons]; simp only [List.map_cons]; rw [ih (by simp at hl; omega) fun y hy => hs y (List.mem_cons_of_mem _ hy)]
theorem ok_comp {h : α → M (Option β)} {xs : List α} (R : α → β → Prop) (hl : xs.length ≤ 1000000) (hs : ∀ x ∈ xs, Okm (h x) (fun o => ∃ y, o = some y ∧ R x y)) : Okm (compM h xs) (fun ys => ys.length = xs.length ∧ ∀ (i : Nat) (x : α) (y : β), xs[i]? = some x → ys[i]? = some y → R x y) := by
  unfold compM
  rw [if_pos (Nat.le_trans hl (by decide))]
  clear hl
  induction xs with
  | nil => exact okv ⟨rfl, fun i x y e => by simp at e⟩
  | cons x r ih =>
    obtain ⟨o, e, y, rfl, hy⟩ := hs x List.mem_cons_self
    obtain ⟨ys, e2, h2, h3⟩ := ih fun z hz => hs z (List.mem_cons_of_mem _ hz)
    show Okm ((h x).nox.bind fun o => (compG h r).bind fun l => M.ok (o.toList ++ l)) _
    rw [e, e2]
    refine okv ⟨by simp [h2], fun i a b ea eb => ?_⟩
    cases i with
    | zero => simp at ea eb; subst ea; subst eb; exact hy
    | succ i => exact h3 i a b (by simpa using ea) (by simpa using eb)
end
/-! ### signs -/
theorem tx_hash : tx "#" = [35] := by decide +kernel
theorem tx_dot : tx "." = [46] := by decide +kernel
theorem tx_nil : tx "" = [] := by decide +kernel
/-! ### cuts -/
theorem sIx_at {n d : Nat} {i : Int} (h0 : 0 ≤ i) (h : i ≤ n) : HT.sIx n d (some i) = i.toNat := by
  simp only [HT.sIx]
  split <;> omega
theorem cut_mid {α : Type} {xs : List α} {a b : Int} (h0 : 0 ≤ a) (h1 : a ≤ b) (h2 : b ≤ xs.length) : cutL xs (some a) (some b) = (xs.drop a.toNat).take (b.toNat - a.toNat) := by
  unfold cutL; rw [sIx_at h0 (by omega), sIx_at (by omega) h2]
theorem cut_from {α : Type} {xs : List α} {a : Int} (h0 : 0 ≤ a) (h1 : a ≤ xs.length) : cutL xs (some a) none = xs.drop a.toNat := by
  unfold cutL; rw [sIx_at h0 (by omega)]
  show (xs.drop a.toNat).take (xs.length - a.toNat) = _
  rw [List.take_of_length_le (by rw [List.length_drop]; exact Nat.le_refl _)]
theorem cut_to {α : Type} {xs : List α} {b : Int} (h0 : 0 ≤ b) (h1 : b ≤ xs.length) : cutL xs none (some b) = xs.take b.toNat := by
  unfold cutL; rw [sIx_at h0 (by omega)]
  rfl
theorem cut_mem {α : Type} {xs : List α} {a b : Option Int} {x : α} (h : x ∈ cutL xs a b) : x ∈ xs := List.mem_of_mem_drop (List.mem_of_mem_take h)
theorem join_nil_eq : ∀ xs : List Tx, TL.joinL [] xs = xs.flatten
  | [] => rfl
  | [x] => by simp [TL.joinL]
  | x :: y :: r => by rw [TL.joinL, join_nil_eq (y :: r)]; simp
theorem ok_join {xs : List Tx} (h : (xs.map List.length).sum ≤ 1000000) : Okm (joinM [] xs) (· = xs.flatten) := by
  unfold joinM
  rw [if_pos (by simp; omega), join_nil_eq]
  exact okv rfl
theorem flat_map1 {l : List Nat} : (l.map fun c => [c]).flatten = l := by
  induction l with
  | nil => rfl
  | cons a r ih => simp [ih]
/-- a cloth's rows -/
structure Cloth (rows : List Tx) (w h : Nat) : Prop where
  hh : rows.length = h
  ww : ∀ r ∈ rows, r.length = w
  sg : ∀ r ∈ rows, ∀ c ∈ r, c = 35 ∨ c = 46
  w1 : 1 ≤ w
  w2 : w ≤ 40
  h1 : 1 ≤ h
  h2 : h ≤ 40
end Hd

namespace Hd
open PySem PySem.Spec L2
def topS (i : Nat) : Stmt := PySem.Challenge.pw_heddle_k37_no_shuttle.main.body.getD i (.Pass ⟨0, 0, 0, 0⟩)
def kn_ : List Ec := [.weave, .noRow, .tooLarge, .noCloth, .noDraft, .noStrand, .noDeed, .noLaying, .noShuttle, .noColour, .noBlock, .noPattern, .unknown, .twice]
def kc_ : List (Ec × Tx) := [(.weave, tx "WeaveError"), (.noRow, tx "NoRow"), (.tooLarge, tx "TooLarge"), (.noCloth, tx "NoCloth"), (.noDraft, tx "NoDraft"), (.noStrand, tx "NoStrand"), (.noDeed, tx "NoDeed"), (.noLaying, tx "NoLaying"), (.noShuttle, tx "NoShuttle"), (.noColour, tx "NoColour"), (.noBlock, tx "NoBlock"), (.noPattern, tx "NoPattern"), (.unknown, tx "Unknown"), (.twice, tx "Twice")]
abbrev s_clWeaveError : Stmt := (clsBody (topS 1)).getD 0 (.Pass ⟨0, 0, 0, 0⟩)
theorem sc_clWeaveError : Sc s_clWeaveError ["self"] ["self"] ["self"] [] := ⟨⟨rfl, rfl, rfl, by decide +kernel, rfl, by decide +kernel, by decide +kernel⟩, by decide +kernel, by decide +kernel, by decide +kernel⟩
theorem b_clWeaveError {p : Pr} : Body p s_clWeaveError ["self"] ["self"] [] 0 (fun (d : Unit × Unit) => [sV false tAny d.1]) (fun r => .rt false tStr r) (fun _ => .ok (tx "WeaveError")) := fun g ok hX d => evb_ret (wkX hX rfl) .sh (by intro _; rfl) (ev_str (md := .sh) (by decide +kernel))
theorem cl_WeaveError {p : Pr} {f : Addr} {fd : FuncData} (hF : FunD p.K "called" "WeaveError.called" (defArgs s_clWeaveError) (defBody s_clWeaveError) (defScope s_clWeaveError) [] [] f fd) (hm : Meth p.K (p.C .weave) "called" f) : Cl p .weave (tx "WeaveError") := ⟨f, fd, fn_rt (m := 0) hF sc_clWeaveError (.cons .nil) rfl rfl b_clWeaveError, hm, hF.bindsN fun _ _ _ _ _ _ us hl => match us, hl with | [_], _ => rfl⟩
abbrev s_clNoRow : Stmt := (clsBody (topS 2)).getD 0 (.Pass ⟨0, 0, 0, 0⟩)
theorem sc_clNoRow : Sc s_clNoRow ["self"] ["self"] ["self"] [] := ⟨⟨rfl, rfl, rfl, by decide +kernel, rfl, by decide +kernel, by decide +kernel⟩, by decide +kernel, by decide +kernel, by decide +kernel⟩
theorem b_clNoRow {p : Pr} : Body p s_clNoRow ["self"] ["self"] [] 0 (fun (d : Unit × Unit) => [sV false tAny d.1]) (fun r => .rt false tStr r) (fun _ => .ok (tx "NoRow")) := fun g ok hX d => evb_ret (wkX hX rfl) .sh (by intro _; rfl) (ev_str (md := .sh) (by decide +kernel))
theorem cl_NoRow {p : Pr} {f : Addr} {fd : FuncData} (hF : FunD p.K "called" "NoRow.called" (defArgs s_clNoRow) (defBody s_clNoRow) (defScope s_clNoRow) [] [] f fd) (hm : Meth p.K (p.C .noRow) "called" f) : Cl p .noRow (tx "NoRow") := ⟨f, fd, fn_rt (m := 0) hF sc_clNoRow (.cons .nil) rfl rfl b_clNoRow, hm, hF.bindsN fun _ _ _ _ _ _ us hl => match us, hl with | [_], _ => rfl⟩
abbrev s_clTooLarge : Stmt := (clsBody (topS 3)).getD 0 (.Pass ⟨0, 0, 0, 0⟩)
theorem sc_clTooLarge : Sc s_clTooLarge ["self"] ["self"] ["self"] [] := ⟨⟨rfl, rfl, rfl, by decide +kernel, rfl, by decide +kernel, by decide +kernel⟩, by decide +kernel, by decide +kernel, by decide +kernel⟩
theorem b_clTooLarge {p : Pr} : Body p s_clTooLarge ["self"] ["self"] [] 0 (fun (d : Unit × Unit) => [sV false tAny d.1]) (fun r => .rt false tStr r) (fun _ => .ok (tx "TooLarge")) := fun g ok hX d => evb_ret (wkX hX rfl) .sh (by intro _; rfl) (ev_str (md := .sh) (by decide +kernel))
theorem cl_TooLarge {p : Pr} {f : Addr} {fd : FuncData} (hF : FunD p.K "called" "TooLarge.called" (defArgs s_clTooLarge) (defBody s_clTooLarge) (defScope s_clTooLarge) [] [] f fd) (hm : Meth p.K (p.C .tooLarge) "called" f) : Cl p .tooLarge (tx "TooLarge") := ⟨f, fd, fn_rt (m := 0) hF sc_clTooLarge (.cons .nil) rfl rfl b_clTooLarge, hm, hF.bindsN fun _ _ _ _ _ _ us hl => match us, hl with | [_], _ => rfl⟩
abbrev s_clNoCloth : Stmt := (clsBody (topS 4)).getD 0 (.Pass ⟨0, 0, 0, 0⟩)
theorem sc_clNoCloth : Sc s_clNoCloth ["self"] ["self"] ["self"] [] := ⟨⟨rfl, rfl, rfl, by decide +kernel, rfl, by decide +kernel, by decide +kernel⟩, by decide +kernel, by decide +kernel, by decide +kernel⟩
theorem b_clNoCloth {p : Pr} : Body p s_clNoCloth ["self"] ["self"] [] 0 (fun (d : Unit × Unit) => [sV false tAny d.1]) (fun r => .rt false tStr r) (fun _ => .ok (tx "NoCloth")) := fun g ok hX d => evb_ret (wkX hX rfl) .sh (by intro _; rfl) (ev_str (md := .sh) (by decide +kernel))
theorem cl_NoCloth {p : Pr} {f : Addr} {fd : FuncData} (hF : FunD p.K "called" "NoCloth.called" (defArgs s_clNoCloth) (defBody s_clNoCloth) (defScope s_clNoCloth) [] [] f fd) (hm : Meth p.K (p.C .noCloth) "called" f) : Cl p .noCloth (tx "NoCloth") := ⟨f, fd, fn_rt (m := 0) hF sc_clNoCloth (.cons .nil) rfl rfl b_clNoCloth, hm, hF.bindsN fun _ _ _ _ _ _ us hl => match us, hl with | [_], _ => rfl⟩
abbrev s_clNoDraft : Stmt := (clsBody (topS 5)).getD 0 (.Pass ⟨0, 0, 0, 0⟩)
theorem sc_clNoDraft : Sc s_clNoDraft ["self"] ["self"] ["self"] [] := ⟨⟨rfl, rfl, rfl, by decide +kernel, rfl, by decide +kernel, by decide +kernel⟩, by decide +kernel, by decide +kernel, by decide +kernel⟩
theorem b_clNoDraft {p : Pr} : Body p s_clNoDraft ["self"] ["self"] [] 0 (fun (d : Unit × Unit) => [sV false tAny d.1]) (fun r => .rt false tStr r) (fun _ => .ok (tx "NoDraft")) := fun g ok hX d => evb_ret (wkX hX rfl) .sh (by intro _; rfl) (ev_str (md := .sh) (by decide +kernel))
theorem cl_NoDraft {p : Pr} {f : Addr} {fd : FuncData} (hF : FunD p.K "called" "NoDraft.called" (defArgs s_clNoDraft) (defBody s_clNoDraft) (defScope s_clNoDraft) [] [] f fd) (hm : Meth p.K (p.C .noDraft) "called" f) : Cl p .noDraft (tx "NoDraft") := ⟨f, fd, fn_rt (m := 0) hF sc_clNoDraft (.cons .nil) rfl rfl b_clNoDraft, hm, hF.bindsN fun _ _ _ _ _ _ us hl => match us, hl with | [_], _ => rfl⟩
abbrev s_clNoStrand : Stmt := (clsBody (topS 6)).getD 0 (.Pass ⟨0, 0, 0, 0⟩)
theorem sc_clNoStrand : Sc s_clNoStrand ["self"] ["self"] ["self"] [] := ⟨⟨rfl, rfl, rfl, by decide +kernel, rfl, by decide +kernel, by decide +kernel⟩, by decide +kernel, by decide +kernel, by decide +kernel⟩
theorem b_clNoStrand {p : Pr} : Body p s_clNoStrand ["self"] ["self"] [] 0 (fun (d : Unit × Unit) => [sV false tAny d.1]) (fun r => .rt false tStr r) (fun _ => .ok (tx "NoStrand")) := fun g ok hX d => evb_ret (wkX hX rfl) .sh (by intro _; rfl) (ev_str (md := .sh) (by decide +kernel))
theorem cl_NoStrand {p : Pr} {f : Addr} {fd : FuncData} (hF : FunD p.K "called" "NoStrand.called" (defArgs s_clNoStrand) (defBody s_clNoStrand) (defScope s_clNoStrand) [] [] f fd) (hm : Meth p.K (p.C .noStrand) "called" f) : Cl p .noStrand (tx "NoStrand") := ⟨f, fd, fn_rt (m := 0) hF sc_clNoStrand (.cons .nil) rfl rfl b_clNoStrand, hm, hF.bindsN fun _ _ _ _ _ _ us hl => match us, hl with | [_], _ => rfl⟩
abbrev s_clNoDeed : Stmt := (clsBody (topS 7)).getD 0 (.Pass ⟨0, 0, 0, 0⟩)
theorem sc_clNoDeed : Sc s_clNoDeed ["self"] ["self"] ["self"] [] := ⟨⟨rfl, rfl, rfl, by decide +kernel, rfl, by decide +kernel, by decide +kernel⟩, by decide +kernel, by decide +kernel, by decide +kernel⟩
theorem b_clNoDeed {p : Pr} : Body p s_clNoDeed ["self"] ["self"] [] 0 (fun (d : Unit × Unit) => [sV false tAny d.1]) (fun r => .rt false tStr r) (fun _ => .ok (tx "NoDeed")) := fun g ok hX d => evb_ret (wkX hX rfl) .sh (by intro _; rfl) (ev_str (md := .sh) (by decide +kernel))
theorem cl_NoDeed {p : Pr} {f : Addr} {fd : FuncData} (hF : FunD p.K "called" "NoDeed.called" (defArgs s_clNoDeed) (defBody s_clNoDeed) (defScope s_clNoDeed) [] [] f fd) (hm : Meth p.K (p.C .noDeed) "called" f) : Cl p .noDeed (tx "NoDeed") := ⟨f, fd, fn_rt (m := 0) hF sc_clNoDeed (.cons .nil) rfl rfl b_clNoDeed, hm, hF.bindsN fun _ _ _ _ _ _ us hl => match us, hl with | [_], _ => rfl⟩
abbrev s_clNoLaying : Stmt := (clsBody (topS 8)).getD 0 (.Pass ⟨0, 0, 0, 0⟩)
theorem sc_clNoLaying : Sc s_clNoLaying ["self"] ["self"] ["self"] [] := ⟨⟨rfl, rfl, rfl, by decide +kernel, rfl, by decide +kernel, by decide +kernel⟩, by decide +kernel, by decide +kernel, by decide +kernel⟩
theorem b_clNoLaying {p : Pr} : Body p s_clNoLaying ["self"] ["self"] [] 0 (fun (d : Unit × Unit) => [sV false tAny d.1]) (fun r => .rt false tStr r) (fun _ => .ok (tx "NoLaying")) := fun g ok hX d => evb_ret (wkX hX rfl) .sh (by intro _; rfl) (ev_str (md := .sh) (by decide +kernel))
theorem cl_NoLaying {p : Pr} {f : Addr} {fd : FuncData} (hF : FunD p.K "called" "NoLaying.called" (defArgs s_clNoLaying) (defBody s_clNoLaying) (defScope s_clNoLaying) [] [] f fd) (hm : Meth p.K (p.C .noLaying) "called" f) : Cl p .noLaying (tx "NoLaying") := ⟨f, fd, fn_rt (m := 0) hF sc_clNoLaying (.cons .nil) rfl rfl b_clNoLaying, hm, hF.bindsN fun _ _ _ _ _ _ us hl => match us, hl with | [_], _ => rfl⟩
abbrev s_clNoShuttle : Stmt := (clsBody (topS 9)).getD 0 (.Pass ⟨0, 0, 0, 0⟩)
theorem sc_clNoShuttle : Sc s_clNoShuttle ["self"] ["self"] ["self"] [] := ⟨⟨rfl, rfl, rfl, by decide +kernel, rfl, by decide +kernel, by decide +kernel⟩, by decide +kernel, by decide +kernel, by decide +kernel⟩
theorem b_clNoShuttle {p : Pr} : Body p s_clNoShuttle ["self"] ["self"] [] 0 (fun (d : Unit × Unit) => [sV false tAny d.1]) (fun r => .rt false tStr r) (fun _ => .ok (tx "NoShuttle")) := fun g ok hX d => evb_ret (wkX hX rfl) .sh (by intro _; rfl) (ev_str (md := .sh) (by decide +kernel))
theorem cl_NoShuttle {p : Pr} {f : Addr} {fd : FuncData} (hF : FunD p.K "called" "NoShuttle.called" (defArgs s_clNoShuttle) (defBody s_clNoShuttle) (defScope s_clNoShuttle) [] [] f fd) (hm : Meth p.K (p.C .noShuttle) "called" f) : Cl p .noShuttle (tx "NoShuttle") := ⟨f, fd, fn_rt (m := 0) hF sc_clNoShuttle (.cons .nil) rfl rfl b_clNoShuttle, hm, hF.bindsN fun _ _ _ _ _ _ us hl => match us, hl with | [_], _ => rfl⟩
abbrev s_clNoColour : Stmt := (clsBody (topS 10)).getD 0 (.Pass ⟨0, 0, 0, 0⟩)
theorem sc_clNoColour : Sc s_clNoColour ["self"] ["self"] ["self"] [] := ⟨⟨rfl, rfl, rfl, by decide +kernel, rfl, by decide +kernel, by decide +kernel⟩, by decide +kernel, by decide +kernel, by decide +kernel⟩
theorem b_clNoColour {p : Pr} : Body p s_clNoColour ["self"] ["self"] [] 0 (fun (d : Unit × Unit) => [sV false tAny d.1]) (fun r => .rt false tStr r) (fun _ => .ok (tx "NoColour")) := fun g ok hX d => evb_ret (wkX hX rfl) .sh (by intro _; rfl) (ev_str (md := .sh) (by decide +kernel))
theorem cl_NoColour {p : Pr} {f : Addr} {fd : FuncData} (hF : FunD p.K "called" "NoColour.called" (defArgs s_clNoColour) (defBody s_clNoColour) (defScope s_clNoColour) [] [] f fd) (hm : Meth p.K (p.C .noColour) "called" f) : Cl p .noColour (tx "NoColour") := ⟨f, fd, fn_rt (m := 0) hF sc_clNoColour (.cons .nil) rfl rfl b_clNoColour, hm, hF.bindsN fun _ _ _ _ _ _ us hl => match us, hl with | [_], _ => rfl⟩
abbrev s_clNoBlock : Stmt := (clsBody (topS 11)).getD 0 (.Pass ⟨0, 0, 0, 0⟩)
theorem sc_clNoBlock : Sc s_clNoBlock ["self"] ["self"] ["self"] [] := ⟨⟨rfl, rfl, rfl, by decide +kernel, rfl, by decide +kernel, by decide +kernel⟩, by decide +kernel, by decide +kernel, by decide +kernel⟩
theorem b_clNoBlock {p : Pr} : Body p s_clNoBlock ["self"] ["self"] [] 0 (fun (d : Unit × Unit) => [sV false tAny d.1]) (fun r => .rt false tStr r) (fun _ => .ok (tx "NoBlock")) := fun g ok hX d => evb_ret (wkX hX rfl) .sh (by intro _; rfl) (ev_str (md := .sh) (by decide +kernel))
theorem cl_NoBlock {p : Pr} {f : Addr} {fd : FuncData} (hF : FunD p.K "called" "NoBlock.called" (defArgs s_clNoBlock) (defBody s_clNoBlock) (defScope s_clNoBlock) [] [] f fd) (hm : Meth p.K (p.C .noBlock) "called" f) : Cl p .noBlock (tx "NoBlock") := ⟨f, fd, fn_rt (m := 0) hF sc_clNoBlock (.cons .nil) rfl rfl b_clNoBlock, hm, hF.bindsN fun _ _ _ _ _ _ us hl => match us, hl with | [_], _ => rfl⟩
abbrev s_clNoPattern : Stmt := (clsBody (topS 12)).getD 0 (.Pass ⟨0, 0, 0, 0⟩)
theorem sc_clNoPattern : Sc s_clNoPattern ["self"] ["self"] ["self"] [] := ⟨⟨rfl, rfl, rfl, by decide +kernel, rfl, by decide +kernel, by decide +kernel⟩, by decide +kernel, by decide +kernel, by decide +kernel⟩
theorem b_clNoPattern {p : Pr} : Body p s_clNoPattern ["self"] ["self"] [] 0 (fun (d : Unit × Unit) => [sV false tAny d.1]) (fun r => .rt false tStr r) (fun _ => .ok (tx "NoPattern")) := fun g ok hX d => evb_ret (wkX hX rfl) .sh (by intro _; rfl) (ev_str (md := .sh) (by decide +kernel))
theorem cl_NoPattern {p : Pr} {f : Addr} {fd : FuncData} (hF : FunD p.K "called" "NoPattern.called" (defArgs s_clNoPattern) (defBody s_clNoPattern) (defScope s_clNoPattern) [] [] f fd) (hm : Meth p.K (p.C .noPattern) "called" f) : Cl p .noPattern (tx "NoPattern") := ⟨f, fd, fn_rt (m := 0) hF sc_clNoPattern (.cons .nil) rfl rfl b_clNoPattern, hm, hF.bindsN fun _ _ _ _ _ _ us hl => match us, hl with | [_], _ => rfl⟩
abbrev s_clUnknown : Stmt := (clsBody (topS 13)).getD 0 (.Pass ⟨0, 0, 0, 0⟩)
theorem sc_clUnknown : Sc s_clUnknown ["self"] ["self"] ["self"] [] := ⟨⟨rfl, rfl, rfl, by decide +kernel, rfl, by decide +kernel, by decide +kernel⟩, by decide +kernel, by decide +kernel, by decide +kernel⟩
theorem b_clUnknown {p : Pr} : Body p s_clUnknown ["self"] ["self"] [] 0 (fun (d : Unit × Unit) => [sV false tAny d.1]) (fun r => .rt false tStr r) (fun _ => .ok (tx "Unknown")) := fun g ok hX d => evb_ret (wkX hX rfl) .sh (by intro _; rfl) (ev_str (md := .sh) (by decide +kernel))
theorem cl_Unknown {p : Pr} {f : Addr} {fd : FuncData} (hF : FunD p.K "called" "Unknown.called" (defArgs s_clUnknown) (defBody s_clUnknown) (defScope s_clUnknown) [] [] f fd) (hm : Meth p.K (p.C .unknown) "called" f) : Cl p .unknown (tx "Unknown") := ⟨f, fd, fn_rt (m := 0) hF sc_clUnknown (.cons .nil) rfl rfl b_clUnknown, hm, hF.bindsN fun _ _ _ _ _ _ us hl => match us, hl with | [_], _ => rfl⟩
abbrev s_clTwice : Stmt := (clsBody (topS 14)).getD 0 (.Pass ⟨0, 0, 0, 0⟩)
theorem sc_clTwice : Sc s_clTwice ["self"] ["self"] ["self"] [] := ⟨⟨rfl, rfl, rfl, by decide +kernel, rfl, by decide +kernel, by decide +kernel⟩, by decide +kernel, by decide +kernel, by decide +kernel⟩
theorem b_clTwice {p : Pr} : Body p s_clTwice ["self"] ["self"] [] 0 (fun (d : Unit × Unit) => [sV false tAny d.1]) (fun r => .rt false tStr r) (fun _ => .ok (tx "Twice")) := fun g ok hX d => evb_ret (wkX hX rfl) .sh (by intro _; rfl) (ev_str (md := .sh) (by decide +kernel))
theorem cl_Twice {p : Pr} {f : Addr} {fd : FuncData} (hF : FunD p.K "called" "Twice.called" (defArgs s_clTwice) (defBody s_clTwice) (defScope s_clTwice) [] [] f fd) (hm : Meth p.K (p.C .twice) "called" f) : Cl p .twice (tx "Twice") := ⟨f, fd, fn_rt (m := 0) hF sc_clTwice (.cons .nil) rfl rfl b_clTwice, hm, hF.bindsN fun _ _ _ _ _ _ us hl => match us, hl with | [_], _ => rfl⟩
structure Facts (p : Pr) : Prop where
  g_ValueError : p.mg "ValueError" = none
  g_enumerate : p.mg "enumerate" = none
  g_int : p.mg "int" = none
  g_isinstance : p.mg "isinstance" = none
  g_len : p.mg "len" = none
  g_list : p.mg "list" = none
  g_max : p.mg "max" = none
  g_min : p.mg "min" = none
  g_range : p.mg "range" = none
  g_sorted : p.mg "sorted" = none
  c_MOST_STRANDS : ∃ t, p.mg "MOST_STRANDS" = some (.int 40 t)
  x_NoBlock : ExF p "NoBlock" .noBlock
  x_NoCloth : ExF p "NoCloth" .noCloth
  x_NoColour : ExF p "NoColour" .noColour
  x_NoDeed : ExF p "NoDeed" .noDeed
  x_NoDraft : ExF p "NoDraft" .noDraft
  x_NoLaying : ExF p "NoLaying" .noLaying
  x_NoPattern : ExF p "NoPattern" .noPattern
  x_NoRow : ExF p "NoRow" .noRow
  x_NoShuttle : ExF p "NoShuttle" .noShuttle
  x_NoStrand : ExF p "NoStrand" .noStrand
  x_TooLarge : ExF p "TooLarge" .tooLarge
  x_Twice : ExF p "Twice" .twice
  x_Unknown : ExF p "Unknown" .unknown
  x_WeaveError : ExF p "WeaveError" .weave
  kn : Kn p kn_
  cl_WeaveError : Cl p .weave (tx "WeaveError")
  cl_NoRow : Cl p .noRow (tx "NoRow")
  cl_TooLarge : Cl p .tooLarge (tx "TooLarge")
  cl_NoCloth : Cl p .noCloth (tx "NoCloth")
  cl_NoDraft : Cl p .noDraft (tx "NoDraft")
  cl_NoStrand : Cl p .noStrand (tx "NoStrand")
  cl_NoDeed : Cl p .noDeed (tx "NoDeed")
  cl_NoLaying : Cl p .noLaying (tx "NoLaying")
  cl_NoShuttle : Cl p .noShuttle (tx "NoShuttle")
  cl_NoColour : Cl p .noColour (tx "NoColour")
  cl_NoBlock : Cl p .noBlock (tx "NoBlock")
  cl_NoPattern : Cl p .noPattern (tx "NoPattern")
  cl_Unknown : Cl p .unknown (tx "Unknown")
  cl_Twice : Cl p .twice (tx "Twice")
  d__law_numbers : ∃ f fd, FunD p.K "_law_numbers" "_law_numbers" (defArgs (topS 37)) (defBody (topS 37)) (defScope (topS 37)) [] [] f fd ∧ p.mg "_law_numbers" = some (.ref f)
  d__law_cloth : ∃ f fd, FunD p.K "_law_cloth" "_law_cloth" (defArgs (topS 38)) (defBody (topS 38)) (defScope (topS 38)) [] [] f fd ∧ p.mg "_law_cloth" = some (.ref f)
  d__law_odd_sign : ∃ f fd, FunD p.K "_law_odd_sign" "_law_odd_sign" (defArgs (topS 40)) (defBody (topS 40)) (defScope (topS 40)) [] [] f fd ∧ p.mg "_law_odd_sign" = some (.ref f)
  d__law_spoilt_cloth : ∃ f fd, FunD p.K "_law_spoilt_cloth" "_law_spoilt_cloth" (defArgs (topS 41)) (defBody (topS 41)) (defScope (topS 41)) [] [] f fd ∧ p.mg "_law_spoilt_cloth" = some (.ref f)
  d__law_spoilt_shuttles : ∃ f fd, FunD p.K "_law_spoilt_shuttles" "_law_spoilt_shuttles" (defArgs (topS 42)) (defBody (topS 42)) (defScope (topS 42)) [] [] f fd ∧ p.mg "_law_spoilt_shuttles" = some (.ref f)
  d_measured : ∃ f fd, FunD p.K "measured" "measured" (defArgs (topS 17)) (defBody (topS 17)) (defScope (topS 17)) [] [] f fd ∧ p.mg "measured" = some (.ref f)
  d_scores_of : ∃ f fd, FunD p.K "scores_of" "scores_of" (defArgs (topS 19)) (defBody (topS 19)) (defScope (topS 19)) [] [] f fd ∧ p.mg "scores_of" = some (.ref f)
  d_by_count : ∃ f fd, FunD p.K "by_count" "by_count" (defArgs (topS 21)) (defBody (topS 21)) (defScope (topS 21)) [] [] f fd ∧ p.mg "by_count" = some (.ref f) ∧ ∃ c P, fd.code = .ref c ∧ p.T = some P ∧ LamX.TabB p.base p.mg c P
  d_running_sums : ∃ f fd, FunD p.K "running_sums" "running_sums" (defArgs (topS 22)) (defBody (topS 22)) (defScope (topS 22)) [] [] f fd ∧ p.mg "running_sums" = some (.ref f)
  d_tops_of : ∃ f fd, FunD p.K "tops_of" "tops_of" (defArgs (topS 23)) (defBody (topS 23)) (defScope (topS 23)) [] [] f fd ∧ p.mg "tops_of" = some (.ref f)
  d_layers_of : ∃ f fd, FunD p.K "layers_of" "layers_of" (defArgs (topS 24)) (defBody (topS 24)) (defScope (topS 24)) [] [] f fd ∧ p.mg "layers_of" = some (.ref f)
  d_row_cut : ∃ f fd, FunD p.K "row_cut" "row_cut" (defArgs (topS 33)) (defBody (topS 33)) (defScope (topS 33)) [] [] f fd ∧ p.mg "row_cut" = some (.ref f)
  d_cut_out : ∃ f fd, FunD p.K "cut_out" "cut_out" (defArgs (topS 34)) (defBody (topS 34)) (defScope (topS 34)) [] [] f fd ∧ p.mg "cut_out" = some (.ref f)
  d_taken_apart : ∃ f fd, FunD p.K "taken_apart" "taken_apart" (defArgs (topS 35)) (defBody (topS 35)) (defScope (topS 35)) [] [] f fd ∧ p.mg "taken_apart" = some (.ref f)
  d_seen_shuttles : ∃ f fd, FunD p.K "seen_shuttles" "seen_shuttles" (defArgs (topS 27)) (defBody (topS 27)) (defScope (topS 27)) [] [] f fd ∧ p.mg "seen_shuttles" = some (.ref f)
  d_layer_numbers : ∃ f fd, FunD p.K "layer_numbers" "layer_numbers" (defArgs (topS 25)) (defBody (topS 25)) (defScope (topS 25)) [] [] f fd ∧ p.mg "layer_numbers" = some (.ref f)
  d_turns_made : ∃ f fd, FunD p.K "turns_made" "turns_made" (defArgs (topS 28)) (defBody (topS 28)) (defScope (topS 28)) [] [] f fd ∧ p.mg "turns_made" = some (.ref f)
  d_seams_of : ∃ f fd, FunD p.K "seams_of" "seams_of" (defArgs (topS 29)) (defBody (topS 29)) (defScope (topS 29)) [] [] f fd ∧ p.mg "seams_of" = some (.ref f)
  d_tubes_of : ∃ f fd, FunD p.K "tubes_of" "tubes_of" (defArgs (topS 30)) (defBody (topS 30)) (defScope (topS 30)) [] [] f fd ∧ p.mg "tubes_of" = some (.ref f)
  d_sheets_of : ∃ f fd, FunD p.K "sheets_of" "sheets_of" (defArgs (topS 31)) (defBody (topS 31)) (defScope (topS 31)) [] [] f fd ∧ p.mg "sheets_of" = some (.ref f)
  d__law_word : ∃ f fd, FunD p.K "_law_word" "_law_word" (defArgs (topS 39)) (defBody (topS 39)) (defScope (topS 39)) [] [] f fd ∧ p.mg "_law_word" = some (.ref f)
  d_law : ∃ f fd, FunD p.K "law" "law" (defArgs (topS 43)) (defBody (topS 43)) (defScope (topS 43)) [] [] f fd ∧ p.mg "law" = some (.ref f)
theorem hkc {p : Pr} (X : Facts p) : ∀ c t, kc_.lookup c = some t → c ∈ kn_ ∧ Cl p c t := (kc_cons (by decide) X.cl_WeaveError (kc_cons (by decide) X.cl_NoRow (kc_cons (by decide) X.cl_TooLarge (kc_cons (by decide) X.cl_NoCloth (kc_cons (by decide) X.cl_NoDraft (kc_cons (by decide) X.cl_NoStrand (kc_cons (by decide) X.cl_NoDeed (kc_cons (by decide) X.cl_NoLaying (kc_cons (by decide) X.cl_NoShuttle (kc_cons (by decide) X.cl_NoColour (kc_cons (by decide) X.cl_NoBlock (kc_cons (by decide) X.cl_NoPattern (kc_cons (by decide) X.cl_Unknown (kc_cons (by decide) X.cl_Twice kc_nil))))))))))))))
/-! ### _law_numbers -/
abbrev s__law_numbers : Stmt := topS 37
abbrev N__law_numbers : List Str := ["script", "many", "found", "step", "k"]
abbrev V__law_numbers : List Str := ["script", "many", "found", "step", "k"]
abbrev G__law_numbers : List Str := ["len", "range"]
theorem sc__law_numbers : Sc s__law_numbers N__law_numbers V__law_numbers ["script", "many"] G__law_numbers := ⟨⟨rfl, rfl, rfl, by decide +kernel, rfl, by decide +kernel, by decide +kernel⟩, by decide +kernel, by decide +kernel, by decide +kernel⟩
def r_f_law_numbers_l1  : ((List Int) × Int) → Int → M ((List Int) × Int) := fun s17 k18 => M.bind (M.bind (M.bind (M.ok s17.2) fun y20 => M.ok (y20 * (48271 : Int))) fun y21 => M.ok (y21 % (2147483647 : Int))) fun step19 => M.bind (M.bind (M.bind (M.ok step19) fun y23 => M.ok (y23 / (16 : Int))) fun y24 => M.ok (y24 % (1000000 : Int))) fun y25 => M.bind (pushM s17.1 y25) fun found22 => M.ok (found22, step19)
def f_law_numbers_l1  : ((List Int) × Int) → Int → M ((List Int) × Int) := fun s17 k18 => let step19 : Int := ((s17.2 * (48271 : Int)) % (2147483647 : Int)); M.bind (pushM s17.1 ((step19 / (16 : Int)) % (1000000 : Int))) fun found22 => M.ok (found22, step19)
theorem eq_f_law_numbers_l1  : r_f_law_numbers_l1  = f_law_numbers_l1  := by funext s17 k18; first | (simp only [r_f_law_numbers_l1, f_law_numbers_l1, M.bind_assoc, M.bok]; done) | (simp only [r_f_law_numbers_l1, f_law_numbers_l1, M.bind_assoc, M.bok]; rfl)
def r_f_law_numbers_l2 (script1 : (List Int)) (many2 : Int) : ((List Int)) → Int → M ((List Int)) := fun s30 k31 => M.bind (M.bind (M.bind (M.bind (M.ok s30) fun y34 => M.bind (M.bind (M.ok k31) fun y32 => M.bind (M.ok many2) fun y33 => modM y32 y33) fun y35 => getM y34 y35) fun y38 => M.bind (M.bind (M.ok script1) fun y36 => M.bind (M.ok k31) fun y37 => getM y36 y37) fun y39 => M.ok (y38 + y39)) fun y40 => M.ok (y40 % (1000000 : Int))) fun y43 => M.bind (M.bind (M.ok k31) fun y41 => M.bind (M.ok many2) fun y42 => modM y41 y42) fun i44 => M.bind (setM s30 i44 y43) fun found45 => M.ok found45
def f_law_numbers_l2 (script1 : (List Int)) (many2 : Int) : ((List Int)) → Int → M ((List Int)) := fun s30 k31 => M.bind (M.bind (M.bind (M.bind (modM k31 many2) fun y35 => getM s30 y35) fun y38 => M.bind (getM script1 k31) fun y39 => M.ok (y38 + y39)) fun y40 => M.ok (y40 % (1000000 : Int))) fun y43 => M.bind (modM k31 many2) fun i44 => M.bind (setM s30 i44 y43) fun found45 => M.ok found45
theorem eq_f_law_numbers_l2 (script1 : (List Int)) (many2 : Int) : r_f_law_numbers_l2 script1 many2 = f_law_numbers_l2 script1 many2 := by funext s30 k31; first | (simp only [r_f_law_numbers_l2, f_law_numbers_l2, M.bind_assoc, M.bok, eq_f_law_numbers_l1]; done) | (simp only [r_f_law_numbers_l2, f_law_numbers_l2, M.bind_assoc, M.bok, eq_f_law_numbers_l1]; rfl)
def q__law_numbers (script1 : (List Int)) (many2 : Int) : M (List Int) := M.bind (M.ok []) fun found3 => M.bind (M.ok (1 : Int)) fun step4 => M.bind (M.bind (M.bind (M.ok script1) fun y5 => M.ok (y5.length : Int)) fun y6 => M.bind (M.ok (0 : Int)) fun y7 => M.ok (decide (y7 < y6))) fun c8 => M.bind (if c8 = true then M.bind (M.bind (M.ok (1 : Int)) fun y13 => M.bind (M.bind (M.bind (M.ok script1) fun y10 => M.bind (M.ok (0 : Int)) fun y11 => getM y10 y11) fun y12 => M.ok (y12 % (2147483646 : Int))) fun y14 => M.ok (y13 + y14)) fun step9 => M.ok step9 else M.ok step4) fun (s15 : (Int)) => M.bind (M.bind (M.ok many2) fun y16 => rangeM 0 y16) fun xs26 => M.bind (forM r_f_law_numbers_l1 (found3, s15) xs26) fun (s27 : ((List Int) × Int)) => M.bind (M.bind (M.bind (M.ok script1) fun y28 => M.ok (y28.length : Int)) fun y29 => rangeM 0 y29) fun xs46 => M.bind (forM (r_f_law_numbers_l2 script1 many2) s27.1 xs46) fun (s47 : ((List Int))) => M.ok s47
def f_law_numbers (script1 : (List Int)) (many2 : Int) : M (List Int) := let found3 : (List Int) := []; let step4 : Int := (1 : Int); M.bind (if (decide ((0 : Int) < (script1.length : Int))) = true then M.bind (M.bind (M.bind (getM script1 (0 : Int)) fun y12 => M.ok (y12 % (2147483646 : Int))) fun y14 => M.ok ((1 : Int) + y14)) fun step9 => M.ok step9 else M.ok step4) fun (s15 : (Int)) => M.bind (rangeM 0 many2) fun xs26 => M.bind (forM f_law_numbers_l1 (found3, s15) xs26) fun (s27 : ((List Int) × Int)) => M.bind (rangeM 0 (script1.length : Int)) fun xs46 => M.bind (forM (f_law_numbers_l2 script1 many2) s27.1 xs46) fun (s47 : ((List Int))) => M.ok s47
def r__law_numbers (d : ((List Int) × Int × Unit)) : M (List Int) := q__law_numbers d.1 d.2.1
def c__law_numbers (d : ((List Int) × Int × Unit)) : M (List Int) := f_law_numbers d.1 d.2.1
theorem eq__law_numbers : r__law_numbers = c__law_numbers := by funext d; first | (simp only [r__law_numbers, c__law_numbers, q__law_numbers, f_law_numbers, M.bind_assoc, M.bok, eq_f_law_numbers_l1, eq_f_law_numbers_l2]; done) | (simp only [r__law_numbers, c__law_numbers, q__law_numbers, f_law_numbers, M.bind_assoc, M.bok, eq_f_law_numbers_l1, eq_f_law_numbers_l2]; rfl)
theorem bb__law_numbers {p : Pr} (X : Facts p) {g : G} (ok : OkS p (defScope s__law_numbers) N__law_numbers V__law_numbers G__law_numbers 0 g) (hX : g.LX = List.replicate N__law_numbers.length sAny) (script1 : (List Int)) (many2 : Int) : EvB g [(sV false (tListK p.K tInt) script1), (sV false tInt many2), sAny, sAny, sAny] (defBody s__law_numbers) (fun r => .rtL false tInt r) (q__law_numbers script1 many2) := (evb_own ok (i := 2) (j := 2) rfl rfl (wkX hX rfl) .sh (evl_nil (md := .sh) (S := tInt)) fun found3 => (evb_set ok (i := 3) (j := 3) rfl rfl (wkX hX rfl) .sh (ev_int (md := .sh)) fun step4 => (evb_if (LJ := (fun (s15 : (Int)) => [(sV false (tListK p.K tInt) script1), (sV false tInt many2), (sOwn false tInt found3), (sV false tInt s15), sAny])) (wkX hX rfl) (evt_c ok.toOk c_gt (ev_lenQ (md' := .sh) ok.toOk sq_k (j := 0) rfl X.g_len (ev_vsh ok.toOk (i := 0) (j := 0) rfl rfl rfl)) (ev_int (md := .sh))) (evb_set ok (i := 3) (j := 3) rfl rfl (wkX hX rfl) .sh (ev_add (md' := .sh) ok.toOk (ev_int (md := .sh)) (ev_modC (md' := .sh) ok.toOk (by decide) (ev_ixQ ok.toOk sq_k (ev_vsh ok.toOk (i := 0) (j := 0) rfl rfl rfl) (ev_int (md := .sh))) (ev_int (md := .sh)))) fun step9 => (evb_nx (by rfl) (Wk.s (Wk.s (Wk.s (Wk.s (Wk.s Wk.n))))))) (evb_nx (by rfl) (Wk.s (Wk.s (Wk.s (Wk.s (Wk.s Wk.n)))))) fun s15 => (evb_for (LF := (fun (s17 : ((List Int) × Int)) => [(sV false (tListK p.K tInt) script1), (sV false tInt many2), (sOwn false tInt s17.1), (sV false tInt s17.2), sAny])) (s0 := (found3, s15)) ok (wkX hX rfl) (evi_range1 ok.toOk (j := 1) rfl X.g_range (ev_vsh ok.toOk (i := 1) (j := 1) rfl rfl rfl)) (Wk.s (Wk.s (Wk.s (Wk.s (Wk.s Wk.n))))) (fun _ => evg_name ok (i := 4) (j := 4) rfl rfl) (fun s17 k18 => (evb_set ok (i := 3) (j := 3) rfl rfl (wkX hX rfl) .sh (ev_modC (md' := .sh) ok.toOk (by decide) (ev_mulC (md' := .sh) ok.toOk (by decide) (ev_vsh ok.toOk (i := 3) (j := 3) rfl rfl rfl) (ev_int (md := .sh))) (ev_int (md := .sh))) fun step19 => (evb_append ok (wkX hX rfl) (i := 2) (j := 2) rfl rfl rfl .sh (ev_modC (md' := .sh) ok.toOk (by decide) (ev_divC (md' := .sh) ok.toOk (by decide) (by decide) (ev_vsh ok.toOk (i := 3) (j := 3) rfl rfl rfl) (ev_int (md := .sh))) (ev_int (md := .sh))) fun found22 => (evb_go (by rfl) (Wk.s (Wk.s (Wk.s (Wk.s (Wk.a Wk.n))))))))) fun s27 => (evb_for (LF := (fun (s30 : ((List Int))) => [(sV false (tListK p.K tInt) script1), (sV false tInt many2), (sOwn false tInt s30), (sV false tInt s27.2), sAny])) (s0 := s27.1) ok (wkX hX rfl) (evi_range1 ok.toOk (j := 1) rfl X.g_range (ev_lenQ (md' := .sh) ok.toOk sq_k (j := 0) rfl X.g_len (ev_vsh ok.toOk (i := 0) (j := 0) rfl rfl rfl))) (Wk.s (Wk.s (Wk.s (Wk.s (Wk.s Wk.n))))) (fun _ => evg_name ok (i := 4) (j := 4) rfl rfl) (fun s30 k31 => (evb_setitem ok (wkX hX rfl) (i := 2) (j := 2) rfl rfl rfl .sh (ev_borrow (i := 2) (.inl flInt) rfl (ev_modC (md' := .sh) ok.toOk (by decide) (ev_add (md' := .sh) ok.toOk (ev_ixQ ok.toOk sq_l (ev_vsh ok.toOk (i := 2) (j := 2) rfl rfl rfl) (ev_mod (md' := .sh) ok.toOk (ev_vsh ok.toOk (i := 4) (j := 4) rfl rfl rfl) (ev_vsh ok.toOk (i := 1) (j := 1) rfl rfl rfl))) (ev_ixQ ok.toOk sq_k (ev_vsh ok.toOk (i := 0) (j := 0) rfl rfl rfl) (ev_vsh ok.toOk (i := 4) (j := 4) rfl rfl rfl))) (ev_int (md := .sh)))) (ev_mod (md' := .sh) ok.toOk (ev_vsh ok.toOk (i := 4) (j := 4) rfl rfl rfl) (ev_vsh ok.toOk (i := 1) (j := 1) rfl rfl rfl)) fun found45 => (evb_go (by rfl) (Wk.s (Wk.s (Wk.s (Wk.s (Wk.a Wk.n)))))))) fun s47 => (evb_retOwn ok.toOk (i := 2) (j := 2) rfl rfl rfl (.inl rfl) (by rfl)))))))
theorem b__law_numbers {p : Pr} (X : Facts p) : Body p s__law_numbers N__law_numbers V__law_numbers G__law_numbers 0 (fun (d : ((List Int) × Int × Unit)) => [(sV false (tListK p.K tInt) d.1), (sV false tInt d.2.1), sAny, sAny, sAny]) (fun r => .rtL false tInt r) r__law_numbers := fun g ok hX d => bb__law_numbers X ok hX d.1 d.2.1
theorem fn__law_numbers {p : Pr} (X : Facts p) : Fn p 1 "_law_numbers" ["script", "many"] (spM p (aCons (tListK p.K tInt) (aCons tInt aNil)) (fun r => .rtL false tInt r) c__law_numbers) := by
  obtain ⟨f, fd, hF, hm⟩ := X.d__law_numbers
  exact ⟨f, fd, eq__law_numbers ▸ fn_rtL (m := 3) hF sc__law_numbers (.cons (.cons .nil)) rfl rfl (b__law_numbers X), hm, hF.kp, hF.bindsN fun _ _ _ _ _ _ us hl => match us, hl with | [_, _], _ => rfl⟩
/-! ### _law_cloth -/
abbrev s__law_cloth : Stmt := topS 38
abbrev N__law_cloth : List Str := ["numbers", "wide", "high", "layered", "rows", "j", "row", "k", "at", "bit", "up", "low"]
abbrev V__law_cloth : List Str := ["numbers", "wide", "high", "layered", "rows", "j", "row", "k", "at", "bit", "up", "low"]
abbrev G__law_cloth : List Str := ["range", "int"]
theorem sc__law_cloth : Sc s__law_cloth N__law_cloth V__law_cloth ["numbers", "wide", "high", "layered"] G__law_cloth := ⟨⟨rfl, rfl, rfl, by decide +kernel, rfl, by decide +kernel, by decide +kernel⟩, by decide +kernel, by decide +kernel, by decide +kernel⟩
def r_f_law_cloth_l1 (numbers1 : (List Int)) (layered4 : Int) (j8 : Int) : (Tx) → Int → M (Tx) := fun s11 k12 => M.bind (M.bind (M.bind (M.ok j8) fun y14 => M.ok (y14 * (40 : Int))) fun y15 => M.bind (M.ok k12) fun y16 => M.ok (y15 + y16)) fun at13 => M.bind (M.bind (M.bind (M.bind (M.ok numbers1) fun y21 => M.bind (M.bind (M.ok (8 : Int)) fun y19 => M.bind (M.bind (M.ok at13) fun y18 => M.ok (y18 % (55 : Int))) fun y20 => M.ok (y19 + y20)) fun y22 => getM y21 y22) fun y27 => M.bind (M.bind (M.ok (1 : Int)) fun y25 => M.bind (M.bind (M.bind (M.ok at13) fun y23 => M.ok (y23 / (55 : Int))) fun y24 => M.ok ((2 : Int) * y24)) fun y26 => M.ok (y25 + y26)) fun y28 => divM y27 y28) fun y29 => M.ok (y29 % (2 : Int))) fun bit17 => M.bind (M.bind (M.ok layered4) fun y30 => M.bind (M.ok (1 : Int)) fun y31 => M.ok (decide (y31 < y30))) fun c32 => M.bind (if c32 = true then M.bind (M.bind (M.bind (M.bind (M.ok numbers1) fun y38 => M.bind (M.bind (M.ok (8 : Int)) fun y36 => M.bind (M.bind (M.bind (M.ok k12) fun y34 => M.ok ((3 : Int) * y34)) fun y35 => M.ok (y35 % (55 : Int))) fun y37 => M.ok (y36 + y37)) fun y39 => getM y38 y39) fun y40 => M.ok (y40 / (7 : Int))) fun y41 => M.bind (M.ok layered4) fun y42 => modM y41 y42) fun up33 => M.bind (M.bind (M.bind (M.bind (M.ok numbers1) fun y50 => M.bind (M.bind (M.ok (8 : Int)) fun y48 => M.bind (M.bind (M.bind (M.bind (M.ok j8) fun y44 => M.ok ((3 : Int) * y44)) fun y45 => M.bind (M.ok (1 : Int)) fun y46 => M.ok (y45 + y46)) fun y47 => M.ok (y47 % (55 : Int))) fun y49 => M.ok (y48 + y49)) fun y51 => getM y50 y51) fun y52 => M.ok (y52 / (7 : Int))) fun y53 => M.bind (M.ok layered4) fun y54 => modM y53 y54) fun low43 => M.bind (M.bind (M.ok up33) fun y55 => M.bind (M.ok low43) fun y56 => M.ok (!decide (y55 = y56))) fun c57 => if c57 = true then M.bind (M.bind (M.bind (M.ok up33) fun y59 => M.bind (M.ok low43) fun y60 => M.ok (decide (y59 < y60))) fun y61 => M.ok (bInt y61)) fun bit58 => M.ok bit58 else M.ok bit17 else M.ok bit17) fun (s63 : (Int)) => M.bind (M.bind (M.ok s11) fun y67 => M.bind (M.bind (M.ok (tx ".#")) fun y65 => M.bind (M.ok s63) fun y66 => getS y65 y66) fun y68 => catS y67 y68) fun row64 => M.ok row64
def f_law_cloth_l1 (numbers1 : (List Int)) (layered4 : Int) (j8 : Int) : (Tx) → Int → M (Tx) := fun s11 k12 => let at13 : Int := ((j8 * (40 : Int)) + k12); M.bind (M.bind (M.bind (getM numbers1 ((8 : Int) + (at13 % (55 : Int)))) fun y27 => divM y27 ((1 : Int) + ((2 : Int) * (at13 / (55 : Int))))) fun y29 => M.ok (y29 % (2 : Int))) fun bit17 => M.bind (if (decide ((1 : Int) < layered4)) = true then M.bind (M.bind (M.bind (getM numbers1 ((8 : Int) + (((3 : Int) * k12) % (55 : Int)))) fun y40 => M.ok (y40 / (7 : Int))) fun y41 => modM y41 layered4) fun up33 => M.bind (M.bind (M.bind (getM numbers1 ((8 : Int) + ((((3 : Int) * j8) + (1 : Int)) % (55 : Int)))) fun y52 => M.ok (y52 / (7 : Int))) fun y53 => modM y53 layered4) fun low43 => if (!decide (up33 = low43)) = true then let bit58 : Int := (bInt (decide (up33 < low43))); M.ok bit58 else M.ok bit17 else M.ok bit17) fun (s63 : (Int)) => M.bind (M.bind (getS (tx ".#") s63) fun y68 => catS s11 y68) fun row64 => M.ok row64
theorem eq_f_law_cloth_l1 (numbers1 : (List Int)) (layered4 : Int) (j8 : Int) : r_f_law_cloth_l1 numbers1 layered4 j8 = f_law_cloth_l1 numbers1 layered4 j8 := by funext s11 k12; first | (simp only [r_f_law_cloth_l1, f_law_cloth_l1, M.bind_assoc, M.bok]; done) | (simp only [r_f_law_cloth_l1, f_law_cloth_l1, M.bind_assoc, M.bok]; rfl)
def r_f_law_cloth_l2 (numbers1 : (List Int)) (wide2 : Int) (layered4 : Int) : ((List Tx)) → Int → M ((List Tx)) := fun s7 j8 => M.bind (M.ok (tx "")) fun row9 => M.bind (M.bind (M.ok wide2) fun y10 => rangeM 0 y10) fun xs69 => M.bind (forM (r_f_law_cloth_l1 numbers1 layered4 j8) row9 xs69) fun (s70 : (Tx)) => M.bind (M.ok s70) fun y72 => M.bind (pushM s7 y72) fun rows71 => M.ok rows71
def f_law_cloth_l2 (numbers1 : (List Int)) (wide2 : Int) (layered4 : Int) : ((List Tx)) → Int → M ((List Tx)) := fun s7 j8 => let row9 : Tx := (tx ""); M.bind (rangeM 0 wide2) fun xs69 => M.bind (forM (f_law_cloth_l1 numbers1 layered4 j8) row9 xs69) fun (s70 : (Tx)) => M.bind (pushM s7 s70) fun rows71 => M.ok rows71
theorem eq_f_law_cloth_l2 (numbers1 : (List Int)) (wide2 : Int) (layered4 : Int) : r_f_law_cloth_l2 numbers1 wide2 layered4 = f_law_cloth_l2 numbers1 wide2 layered4 := by funext s7 j8; first | (simp only [r_f_law_cloth_l2, f_law_cloth_l2, M.bind_assoc, M.bok, eq_f_law_cloth_l1]; done) | (simp only [r_f_law_cloth_l2, f_law_cloth_l2, M.bind_assoc, M.bok, eq_f_law_cloth_l1]; rfl)
def q__law_cloth (numbers1 : (List Int)) (wide2 : Int) (high3 : Int) (layered4 : Int) : M (List Tx) := M.bind (M.ok []) fun rows5 => M.bind (M.bind (M.ok high3) fun y6 => rangeM 0 y6) fun xs73 => M.bind (forM (r_f_law_cloth_l2 numbers1 wide2 layered4) rows5 xs73) fun (s74 : ((List Tx))) => M.ok s74
def f_law_cloth (numbers1 : (List Int)) (wide2 : Int) (high3 : Int) (layered4 : Int) : M (List Tx) := let rows5 : (List Tx) := []; M.bind (rangeM 0 high3) fun xs73 => M.bind (forM (f_law_cloth_l2 numbers1 wide2 layered4) rows5 xs73) fun (s74 : ((List Tx))) => M.ok s74
def r__law_cloth (d : ((List Int) × Int × Int × Int × Unit)) : M (List Tx) := q__law_cloth d.1 d.2.1 d.2.2.1 d.2.2.2.1
def c__law_cloth (d : ((List Int) × Int × Int × Int × Unit)) : M (List Tx) := f_law_cloth d.1 d.2.1 d.2.2.1 d.2.2.2.1
theorem eq__law_cloth : r__law_cloth = c__law_cloth := by funext d; first | (simp only [r__law_cloth, c__law_cloth, q__law_cloth, f_law_cloth, M.bind_assoc, M.bok, eq_f_law_cloth_l1, eq_f_law_cloth_l2]; done) | (simp only [r__law_cloth, c__law_cloth, q__law_cloth, f_law_cloth, M.bind_assoc, M.bok, eq_f_law_cloth_l1, eq_f_law_cloth_l2]; rfl)
theorem bb__law_cloth {p : Pr} (X : Facts p) {g : G} (ok : OkS p (defScope s__law_cloth) N__law_cloth V__law_cloth G__law_cloth 0 g) (hX : g.LX = List.replicate N__law_cloth.length sAny) (numbers1 : (List Int)) (wide2 : Int) (high3 : Int) (layered4 : Int) : EvB g [(sV false (tList tInt) numbers1), (sV false tInt wide2), (sV false tInt high3), (sV false tInt layered4), sAny, sAny, sAny, sAny, sAny, sAny, sAny, sAny] (defBody s__law_cloth) (fun r => .rtL false tStr r) (q__law_cloth numbers1 wide2 high3 layered4) := (evb_own ok (i := 4) (j := 4) rfl rfl (wkX hX rfl) .sh (evl_nil (md := .sh) (S := tStr)) fun rows5 => (evb_for (LF := (fun (s7 : ((List Tx))) => [(sV false (tList tInt) numbers1), (sV false tInt wide2), (sV false tInt high3), (sV false tInt layered4), (sOwn false tStr s7), sAny, sAny, sAny, sAny, sAny, sAny, sAny])) (s0 := rows5) ok (wkX hX rfl) (evi_range1 ok.toOk (j := 0) rfl X.g_range (ev_vsh ok.toOk (i := 2) (j := 2) rfl rfl rfl)) (Wk.s (Wk.s (Wk.s (Wk.s (Wk.s (Wk.s (Wk.s (Wk.s (Wk.s (Wk.s (Wk.s (Wk.s Wk.n)))))))))))) (fun _ => evg_name ok (i := 5) (j := 5) rfl rfl) (fun s7 j8 => (evb_set ok (i := 6) (j := 6) rfl rfl (wkX hX rfl) .sh (ev_str (md := .sh) (by decide +kernel)) fun row9 => (evb_for (LF := (fun (s11 : (Tx)) => [(sV false (tList tInt) numbers1), (sV false tInt wide2), (sV false tInt high3), (sV false tInt layered4), (sOwn false tStr s7), (sV false tInt j8), (sV false tStr s11), sAny, sAny, sAny, sAny, sAny])) (s0 := row9) ok (wkX hX rfl) (evi_range1 ok.toOk (j := 0) rfl X.g_range (ev_vsh ok.toOk (i := 1) (j := 1) rfl rfl rfl)) (Wk.s (Wk.s (Wk.s (Wk.s (Wk.s (Wk.s (Wk.s (Wk.s (Wk.s (Wk.s (Wk.s (Wk.s Wk.n)))))))))))) (fun _ => evg_name ok (i := 7) (j := 7) rfl rfl) (fun s11 k12 => (evb_set ok (i := 8) (j := 8) rfl rfl (wkX hX rfl) .sh (ev_add (md' := .sh) ok.toOk (ev_mulC (md' := .sh) ok.toOk (by decide) (ev_vsh ok.toOk (i := 5) (j := 5) rfl rfl rfl) (ev_int (md := .sh))) (ev_vsh ok.toOk (i := 7) (j := 7) rfl rfl rfl)) fun at13 => (evb_set ok (i := 9) (j := 9) rfl rfl (wkX hX rfl) .sh (ev_modC (md' := .sh) ok.toOk (by decide) (ev_div (md' := .sh) ok.toOk (ev_ixQ ok.toOk sq_l (ev_vsh ok.toOk (i := 0) (j := 0) rfl rfl rfl) (ev_add (md' := .sh) ok.toOk (ev_int (md := .sh)) (ev_modC (md' := .sh) ok.toOk (by decide) (ev_vsh ok.toOk (i := 8) (j := 8) rfl rfl rfl) (ev_int (md := .sh))))) (ev_add (md' := .sh) ok.toOk (ev_int (md := .sh)) (ev_mulL (md' := .sh) ok.toOk (by decide) (ev_int (md := .sh)) (ev_divC (md' := .sh) ok.toOk (by decide) (by decide) (ev_vsh ok.toOk (i := 8) (j := 8) rfl rfl rfl) (ev_int (md := .sh)))))) (ev_int (md := .sh))) fun bit17 => (evb_if (LJ := (fun (s63 : (Int)) => [(sV false (tList tInt) numbers1), (sV false tInt wide2), (sV false tInt high3), (sV false tInt layered4), (sOwn false tStr s7), (sV false tInt j8), (sV false tStr s11), (sV false tInt k12), (sV false tInt at13), (sV false tInt s63), sAny, sAny])) (wkX hX rfl) (evt_c ok.toOk c_gt (ev_vsh ok.toOk (i := 3) (j := 3) rfl rfl rfl) (ev_int (md := .sh))) (evb_set ok (i := 10) (j := 10) rfl rfl (wkX hX rfl) .sh (ev_mod (md' := .sh) ok.toOk (ev_divC (md' := .sh) ok.toOk (by decide) (by decide) (ev_ixQ ok.toOk sq_l (ev_vsh ok.toOk (i := 0) (j := 0) rfl rfl rfl) (ev_add (md' := .sh) ok.toOk (ev_int (md := .sh)) (ev_modC (md' := .sh) ok.toOk (by decide) (ev_mulL (md' := .sh) ok.toOk (by decide) (ev_int (md := .sh)) (ev_vsh ok.toOk (i := 7) (j := 7) rfl rfl rfl)) (ev_int (md := .sh))))) (ev_int (md := .sh))) (ev_vsh ok.toOk (i := 3) (j := 3) rfl rfl rfl)) fun up33 => (evb_set ok (i := 11) (j := 11) rfl rfl (wkX hX rfl) .sh (ev_mod (md' := .sh) ok.toOk (ev_divC (md' := .sh) ok.toOk (by decide) (by decide) (ev_ixQ ok.toOk sq_l (ev_vsh ok.toOk (i := 0) (j := 0) rfl rfl rfl) (ev_add (md' := .sh) ok.toOk (ev_int (md := .sh)) (ev_modC (md' := .sh) ok.toOk (by decide) (ev_add (md' := .sh) ok.toOk (ev_mulL (md' := .sh) ok.toOk (by decide) (ev_int (md := .sh)) (ev_vsh ok.toOk (i := 5) (j := 5) rfl rfl rfl)) (ev_int (md := .sh))) (ev_int (md := .sh))))) (ev_int (md := .sh))) (ev_vsh ok.toOk (i := 3) (j := 3) rfl rfl rfl)) fun low43 => (evb_ifl (wkX hX rfl) (evt_c ok.toOk (c_ne s_int) (ev_vsh ok.toOk (i := 10) (j := 10) rfl rfl rfl) (ev_vsh ok.toOk (i := 11) (j := 11) rfl rfl rfl)) (evb_set ok (i := 9) (j := 9) rfl rfl (wkX hX rfl) .sh (ev_intB (md' := .sh) ok.toOk (j := 1) rfl X.g_int (ev_c (md' := .sh) ok.toOk c_lt (ev_vsh ok.toOk (i := 10) (j := 10) rfl rfl rfl) (ev_vsh ok.toOk (i := 11) (j := 11) rfl rfl rfl))) fun bit58 => (evb_nx (by rfl) (Wk.s (Wk.s (Wk.s (Wk.s (Wk.s (Wk.s (Wk.s (Wk.s (Wk.s (Wk.s (Wk.a (Wk.a Wk.n)))))))))))))) (evb_nx (by rfl) (Wk.s (Wk.s (Wk.s (Wk.s (Wk.s (Wk.s (Wk.s (Wk.s (Wk.s (Wk.s (Wk.a (Wk.a Wk.n)))))))))))))))) (evb_nx (by rfl) (Wk.s (Wk.s (Wk.s (Wk.s (Wk.s (Wk.s (Wk.s (Wk.s (Wk.s (Wk.s (Wk.s (Wk.s Wk.n))))))))))))) fun s63 => (evb_set ok (i := 6) (j := 6) rfl rfl (wkX hX rfl) .sh (ev_catS (md' := .sh) ok.toOk (ev_vsh ok.toOk (i := 6) (j := 6) rfl rfl rfl) (ev_ixS (md' := .sh) ok.toOk (ev_str (md := .sh) (by decide +kernel)) (ev_vsh ok.toOk (i := 9) (j := 9) rfl rfl rfl))) fun row64 => (evb_go (by rfl) (Wk.s (Wk.s (Wk.s (Wk.s (Wk.s (Wk.s (Wk.s (Wk.a (Wk.a (Wk.a (Wk.s (Wk.s Wk.n)))))))))))))))))) fun s70 => (evb_append ok (wkX hX rfl) (i := 4) (j := 4) rfl rfl rfl .sh (ev_vsh ok.toOk (i := 6) (j := 6) rfl rfl rfl) fun rows71 => (evb_go (by rfl) (Wk.s (Wk.s (Wk.s (Wk.s (Wk.s (Wk.a (Wk.a (Wk.s (Wk.s (Wk.s (Wk.s (Wk.s Wk.n))))))))))))))))) fun s74 => (evb_retOwn ok.toOk (i := 4) (j := 4) rfl rfl rfl (.inl rfl) (by rfl))))
theorem b__law_cloth {p : Pr} (X : Facts p) : Body p s__law_cloth N__law_cloth V__law_cloth G__law_cloth 0 (fun (d : ((List Int) × Int × Int × Int × Unit)) => [(sV false (tList tInt) d.1), (sV false tInt d.2.1), (sV false tInt d.2.2.1), (sV false tInt d.2.2.2.1), sAny, sAny, sAny, sAny, sAny, sAny, sAny, sAny]) (fun r => .rtL false tStr r) r__law_cloth := fun g ok hX d => bb__law_cloth X ok hX d.1 d.2.1 d.2.2.1 d.2.2.2.1
theorem fn__law_cloth {p : Pr} (X : Facts p) : Fn p 1 "_law_cloth" ["numbers", "wide", "high", "layered"] (spM p (aCons (tList tInt) (aCons tInt (aCons tInt (aCons tInt aNil)))) (fun r => .rtL false tStr r) c__law_cloth) := by
  obtain ⟨f, fd, hF, hm⟩ := X.d__law_cloth
  exact ⟨f, fd, eq__law_cloth ▸ fn_rtL (m := 8) hF sc__law_cloth (.cons (.cons (.cons (.cons .nil)))) rfl rfl (b__law_cloth X), hm, hF.kp, hF.bindsN fun _ _ _ _ _ _ us hl => match us, hl with | [_, _, _, _], _ => rfl⟩
/-! ### _law_odd_sign -/
abbrev s__law_odd_sign : Stmt := topS 40
abbrev N__law_odd_sign : List Str := ["number", "some"]
abbrev V__law_odd_sign : List Str := ["number", "some"]
abbrev G__law_odd_sign : List Str := []
theorem sc__law_odd_sign : Sc s__law_odd_sign N__law_odd_sign V__law_odd_sign ["number"] G__law_odd_sign := ⟨⟨rfl, rfl, rfl, by decide +kernel, rfl, by decide +kernel, by decide +kernel⟩, by decide +kernel, by decide +kernel, by decide +kernel⟩
def q__law_odd_sign (number1 : Int) : M Tx := M.bind (M.ok (tx " !\"$&'()*+,-/0123456789:;<=>?@ABCDEFGHIJKLMNOPQRSTUVWXYZ[\\]^_`abcdefghijklmnopqrstuvwxyz{|}~")) fun some2 => M.bind (M.ok some2) fun y4 => M.bind (M.bind (M.ok number1) fun y3 => M.ok (y3 % (92 : Int))) fun y5 => getS y4 y5
def f_law_odd_sign (number1 : Int) : M Tx := let some2 : Tx := (tx " !\"$&'()*+,-/0123456789:;<=>?@ABCDEFGHIJKLMNOPQRSTUVWXYZ[\\]^_`abcdefghijklmnopqrstuvwxyz{|}~"); getS some2 (number1 % (92 : Int))
def r__law_odd_sign (d : (Int × Unit)) : M Tx := q__law_odd_sign d.1
def c__law_odd_sign (d : (Int × Unit)) : M Tx := f_law_odd_sign d.1
theorem eq__law_odd_sign : r__law_odd_sign = c__law_odd_sign := by funext d; first | (simp only [r__law_odd_sign, c__law_odd_sign, q__law_odd_sign, f_law_odd_sign, M.bind_assoc, M.bok]; done) | (simp only [r__law_odd_sign, c__law_odd_sign, q__law_odd_sign, f_law_odd_sign, M.bind_assoc, M.bok]; rfl)
theorem bb__law_odd_sign {p : Pr} (X : Facts p) {g : G} (ok : OkS p (defScope s__law_odd_sign) N__law_odd_sign V__law_odd_sign G__law_odd_sign 0 g) (hX : g.LX = List.replicate N__law_odd_sign.length sAny) (number1 : Int) : EvB g [(sV false tInt number1), sAny] (defBody s__law_odd_sign) (fun r => .rt false tStr r) (q__law_odd_sign number1) := (evb_set ok (i := 1) (j := 1) rfl rfl (wkX hX rfl) .sh (ev_str (md := .sh) (by decide +kernel)) fun some2 => (evb_ret (wkX hX rfl) .sh (by intro _; rfl) (ev_ixS (md' := .sh) ok.toOk (ev_vsh ok.toOk (i := 1) (j := 1) rfl rfl rfl) (ev_modC (md' := .sh) ok.toOk (by decide) (ev_vsh ok.toOk (i := 0) (j := 0) rfl rfl rfl) (ev_int (md := .sh))))))
theorem b__law_odd_sign {p : Pr} (X : Facts p) : Body p s__law_odd_sign N__law_odd_sign V__law_odd_sign G__law_odd_sign 0 (fun (d : (Int × Unit)) => [(sV false tInt d.1), sAny]) (fun r => .rt false tStr r) r__law_odd_sign := fun g ok hX d => bb__law_odd_sign X ok hX d.1
theorem fn__law_odd_sign {p : Pr} (X : Facts p) : Fn p 1 "_law_odd_sign" ["number"] (spM p (aCons tInt aNil) (fun r => .rt false tStr r) c__law_odd_sign) := by
  obtain ⟨f, fd, hF, hm⟩ := X.d__law_odd_sign
  exact ⟨f, fd, eq__law_odd_sign ▸ fn_rt (m := 1) hF sc__law_odd_sign (.cons .nil) rfl rfl (b__law_odd_sign X), hm, hF.kp, hF.bindsN fun _ _ _ _ _ _ us hl => match us, hl with | [_], _ => rfl⟩
/-! ### _law_spoilt_cloth -/
abbrev s__law_spoilt_cloth : Stmt := topS 41
abbrev N__law_spoilt_cloth : List Str := ["given", "fault", "numbers", "at", "row", "place", "k", "text"]
abbrev V__law_spoilt_cloth : List Str := ["given", "fault", "numbers", "at", "row", "place"]
abbrev G__law_spoilt_cloth : List Str := ["len", "range", "_law_odd_sign"]
theorem sc__law_spoilt_cloth : Sc s__law_spoilt_cloth N__law_spoilt_cloth V__law_spoilt_cloth ["given", "fault", "numbers"] G__law_spoilt_cloth := ⟨⟨rfl, rfl, rfl, by decide +kernel, rfl, by decide +kernel, by decide +kernel⟩, by decide +kernel, by decide +kernel, by decide +kernel⟩
def q__law_spoilt_cloth (given1 : (List Tx)) (fault2 : Int) (numbers3 : (List Int)) : M (List Tx) := M.bind (M.bind (M.bind (M.ok numbers3) fun y5 => M.bind (M.ok (4 : Int)) fun y6 => getM y5 y6) fun y8 => M.bind (M.bind (M.ok given1) fun y7 => M.ok (y7.length : Int)) fun y9 => modM y8 y9) fun at4 => M.bind (M.bind (M.ok given1) fun y11 => M.bind (M.ok at4) fun y12 => getM y11 y12) fun row10 => M.bind (M.bind (M.ok fault2) fun y13 => M.bind (M.ok (1 : Int)) fun y14 => M.ok (decide (y13 = y14))) fun c15 => if c15 = true then M.ok [] else M.bind (M.bind (M.ok fault2) fun y17 => M.bind (M.ok (2 : Int)) fun y18 => M.ok (decide (y17 = y18))) fun c19 => if c19 = true then M.bind (M.bind (M.ok (41 : Int)) fun y20 => rangeM 0 y20) fun xs29 => compM (fun k21 => M.bind (M.ok true) fun c27 => if c27 = true then M.bind (M.bind (M.ok given1) fun y25 => M.bind (M.bind (M.ok k21) fun y23 => M.bind (M.bind (M.ok given1) fun y22 => M.ok (y22.length : Int)) fun y24 => modM y23 y24) fun y26 => getM y25 y26) fun y28 => M.ok (some y28) else M.ok none) xs29 else M.bind (M.bind (M.ok fault2) fun y31 => M.bind (M.ok (3 : Int)) fun y32 => M.ok (decide (y31 = y32))) fun c33 => M.bind (if c33 = true then M.bind (M.ok (tx "")) fun row34 => M.ok row34 else M.ok row10) fun (s35 : (Tx)) => M.bind (M.bind (M.ok fault2) fun y36 => M.bind (M.ok (4 : Int)) fun y37 => M.ok (decide (y36 = y37))) fun c38 => if c38 = true then M.bind (M.ok given1) fun xs50 => compM (fun text39 => M.bind (M.ok true) fun c48 => if c48 = true then M.bind (M.bind (M.bind (M.ok text39) fun y42 => M.bind (M.bind (M.ok (tx "#.")) fun y40 => M.bind (M.ok (20 : Int)) fun y41 => repS y40 y41) fun y43 => catS y42 y43) fun y45 => M.bind (M.ok (none : Option Int)) fun y46 => M.bind (M.bind (M.ok (41 : Int)) fun y44 => M.ok (some y44)) fun y47 => M.ok (cutL y45 y46 y47)) fun y49 => M.ok (some y49) else M.ok none) xs50 else M.bind (M.bind (M.bind (M.ok fault2) fun y52 => M.bind (M.ok (5 : Int)) fun y53 => M.ok (decide (y52 = y53))) fun c59 => if c59 = true then M.bind (M.bind (M.bind (M.ok numbers3) fun y54 => M.bind (M.ok (5 : Int)) fun y55 => getM y54 y55) fun y56 => M.ok (y56 % (2 : Int))) fun y57 => M.bind (M.ok (0 : Int)) fun y58 => M.ok (decide (y57 = y58)) else M.ok false) fun c61 => M.bind (if c61 = true then M.bind (M.bind (M.ok s35) fun y68 => M.bind (M.bind (M.ok (tx ".#")) fun y66 => M.bind (M.bind (M.bind (M.ok numbers3) fun y63 => M.bind (M.ok (6 : Int)) fun y64 => getM y63 y64) fun y65 => M.ok (y65 % (2 : Int))) fun y67 => getS y66 y67) fun y69 => catS y68 y69) fun row62 => M.ok row62 else M.bind (M.bind (M.ok fault2) fun y70 => M.bind (M.ok (5 : Int)) fun y71 => M.ok (decide (y70 = y71))) fun c72 => if c72 = true then M.bind (M.bind (M.ok s35) fun y75 => M.bind (M.bind (M.ok (1 : Int)) fun y74 => M.ok (some y74)) fun y76 => M.bind (M.ok (none : Option Int)) fun y77 => M.ok (cutL y75 y76 y77)) fun row73 => M.ok row73 else M.ok s35) fun (s79 : (Tx)) => M.bind (M.bind (M.ok fault2) fun y80 => M.bind (M.ok (6 : Int)) fun y81 => M.ok (decide (y80 = y81))) fun c82 => M.bind (if c82 = true then M.bind (M.bind (M.bind (M.ok numbers3) fun y84 => M.bind (M.ok (5 : Int)) fun y85 => getM y84 y85) fun y87 => M.bind (M.bind (M.ok s79) fun y86 => M.ok (y86.length : Int)) fun y88 => modM y87 y88) fun place83 => M.bind (M.bind (M.bind (M.bind (M.ok s79) fun y91 => M.bind (M.ok (none : Option Int)) fun y92 => M.bind (M.bind (M.ok place83) fun y90 => M.ok (some y90)) fun y93 => M.ok (cutL y91 y92 y93)) fun y99 => M.bind (M.bind (M.bind (M.bind (M.ok numbers3) fun y94 => M.bind (M.ok (6 : Int)) fun y95 => getM y94 y95) fun y96 => M.bind (M.ok ()) fun y97 => M.ok (y96, y97)) c__law_odd_sign) fun y100 => catS y99 y100) fun y107 => M.bind (M.bind (M.ok s79) fun y104 => M.bind (M.bind (M.bind (M.ok place83) fun y101 => M.bind (M.ok (1 : Int)) fun y102 => M.ok (y101 + y102)) fun y103 => M.ok (some y103)) fun y105 => M.bind (M.ok (none : Option Int)) fun y106 => M.ok (cutL y104 y105 y106)) fun y108 => catS y107 y108) fun row89 => M.ok row89 else M.ok s79) fun (s109 : (Tx)) => M.bind (M.bind (M.bind (M.ok given1) fun y111 => M.bind (M.ok (none : Option Int)) fun y112 => M.bind (M.bind (M.ok at4) fun y110 => M.ok (some y110)) fun y113 => M.ok (cutL y111 y112 y113)) fun y117 => M.bind (M.bind (M.ok s109) fun y114 => M.bind (M.ok []) fun y115 => M.ok (y114 :: y115)) fun y118 => catL y117 y118) fun y125 => M.bind (M.bind (M.ok given1) fun y122 => M.bind (M.bind (M.bind (M.ok at4) fun y119 => M.bind (M.ok (1 : Int)) fun y120 => M.ok (y119 + y120)) fun y121 => M.ok (some y121)) fun y123 => M.bind (M.ok (none : Option Int)) fun y124 => M.ok (cutL y122 y123 y124)) fun y126 => catL y125 y126
def f_law_spoilt_cloth (given1 : (List Tx)) (fault2 : Int) (numbers3 : (List Int)) : M (List Tx) := M.bind (M.bind (getM numbers3 (4 : Int)) fun y8 => modM y8 (given1.length : Int)) fun at4 => M.bind (getM given1 at4) fun row10 => if (decide (fault2 = (1 : Int))) = true then M.ok ([]) else if (decide (fault2 = (2 : Int))) = true then M.bind (rangeM 0 (41 : Int)) fun xs29 => compM (fun k21 => M.bind (M.bind (modM k21 (given1.length : Int)) fun y26 => getM given1 y26) fun y28 => M.ok (some y28)) xs29 else M.bind (if (decide (fault2 = (3 : Int))) = true then let row34 : Tx := (tx ""); M.ok row34 else M.ok row10) fun (s35 : (Tx)) => if (decide (fault2 = (4 : Int))) = true then compM (fun text39 => M.bind (M.bind (M.bind (repS (tx "#.") (20 : Int)) fun y43 => catS text39 y43) fun y45 => M.ok (cutL y45 none (some (41 : Int)))) fun y49 => M.ok (some y49)) given1 else M.bind (if (decide (fault2 = (5 : Int))) = true then M.bind (M.bind (getM numbers3 (5 : Int)) fun y56 => M.ok (y56 % (2 : Int))) fun y57 => M.ok (decide (y57 = (0 : Int))) else M.ok false) fun c61 => M.bind (if c61 = true then M.bind (M.bind (M.bind (M.bind (getM numbers3 (6 : Int)) fun y65 => M.ok (y65 % (2 : Int))) fun y67 => getS (tx ".#") y67) fun y69 => catS s35 y69) fun row62 => M.ok row62 else if (decide (fault2 = (5 : Int))) = true then let row73 : Tx := (cutL s35 (some (1 : Int)) none); M.ok row73 else M.ok s35) fun (s79 : (Tx)) => M.bind (if (decide (fault2 = (6 : Int))) = true then M.bind (M.bind (getM numbers3 (5 : Int)) fun y87 => modM y87 (s79.length : Int)) fun place83 => M.bind (M.bind (M.bind (M.bind (getM numbers3 (6 : Int)) fun y98 => f_law_odd_sign y98) fun y100 => catS (cutL s79 none (some place83)) y100) fun y107 => catS y107 (cutL s79 (some (place83 + (1 : Int))) none)) fun row89 => M.ok row89 else M.ok s79) fun (s109 : (Tx)) => M.bind (catL (cutL given1 none (some at4)) ([s109])) fun y125 => catL y125 (cutL given1 (some (at4 + (1 : Int))) none)
def r__law_spoilt_cloth (d : ((List Tx) × Int × (List Int) × Unit)) : M (List Tx) := q__law_spoilt_cloth d.1 d.2.1 d.2.2.1
def c__law_spoilt_cloth (d : ((List Tx) × Int × (List Int) × Unit)) : M (List Tx) := f_law_spoilt_cloth d.1 d.2.1 d.2.2.1
theorem eq__law_spoilt_cloth : r__law_spoilt_cloth = c__law_spoilt_cloth := by funext d; first | (simp only [r__law_spoilt_cloth, c__law_spoilt_cloth, q__law_spoilt_cloth, f_law_spoilt_cloth, M.bind_assoc, M.bok, c__law_odd_sign]; done) | (simp only [r__law_spoilt_cloth, c__law_spoilt_cloth, q__law_spoilt_cloth, f_law_spoilt_cloth, M.bind_assoc, M.bok, c__law_odd_sign]; rfl)
theorem bb__law_spoilt_cloth {p : Pr} (X : Facts p) {g : G} (ok : OkS p (defScope s__law_spoilt_cloth) N__law_spoilt_cloth V__law_spoilt_cloth G__law_spoilt_cloth 1 g) (hX : g.LX = List.replicate N__law_spoilt_cloth.length sAny) (given1 : (List Tx)) (fault2 : Int) (numbers3 : (List Int)) : EvB g [(sV false (tList tStr) given1), (sV false tInt fault2), (sV false (tList tInt) numbers3), sAny, sAny, sAny, sAny, sAny] (defBody s__law_spoilt_cloth) (fun r => .rtL false tStr r) (q__law_spoilt_cloth given1 fault2 numbers3) := (evb_set ok (i := 3) (j := 3) rfl rfl (wkX hX rfl) .sh (ev_mod (md' := .sh) ok.toOk (ev_ixQ ok.toOk sq_l (ev_vsh ok.toOk (i := 2) (j := 2) rfl rfl rfl) (ev_int (md := .sh))) (ev_lenQ (md' := .sh) ok.toOk sq_l (j := 0) rfl X.g_len (ev_vsh ok.toOk (i := 0) (j := 0) rfl rfl rfl))) fun at4 => (evb_set ok (i := 4) (j := 4) rfl rfl (wkX hX rfl) .sh (ev_ixQ ok.toOk sq_l (ev_vsh ok.toOk (i := 0) (j := 0) rfl rfl rfl) (ev_vsh ok.toOk (i := 3) (j := 3) rfl rfl rfl)) fun row10 => (evb_ifx (wkX hX rfl) (evt_c ok.toOk (c_eq s_int) (ev_vsh ok.toOk (i := 1) (j := 1) rfl rfl rfl) (ev_int (md := .sh))) (evb_retL (wkX hX rfl) .sh (by intro _; rfl) (evl_nil (md := .sh) (S := tStr))) (evb_ifx (wkX hX rfl) (evt_c ok.toOk (c_eq s_int) (ev_vsh ok.toOk (i := 1) (j := 1) rfl rfl rfl) (ev_int (md := .sh))) (evb_retL (wkX hX rfl) .sh (by intro _; rfl) (evl_lc (md := .sh) (VV' := ["given", "k"]) (GG' := ["len"]) (i := 6) ok.toOk (evi_range1 ok.toOk (j := 1) rfl X.g_range (ev_int (md := .sh))) rfl rfl no_any (by decide +kernel) (by decide +kernel) (by decide +kernel) (by decide +kernel) (fun g' okc k21 => evpts_nil) (fun g' okc k21 => (ev_ixQ okc sq_l (ev_vsh okc (i := 0) (j := 0) rfl rfl rfl) (ev_mod (md' := .sh) okc (ev_vsh okc (i := 6) (j := 1) rfl rfl rfl) (ev_lenQ (md' := .sh) okc sq_l (j := 0) rfl X.g_len (ev_vsh okc (i := 0) (j := 0) rfl rfl rfl))))))) (evb_if (LJ := (fun (s35 : (Tx)) => [(sV false (tList tStr) given1), (sV false tInt fault2), (sV false (tList tInt) numbers3), (sV false tInt at4), (sV false tStr s35), sAny, sAny, sAny])) (wkX hX rfl) (evt_c ok.toOk (c_eq s_int) (ev_vsh ok.toOk (i := 1) (j := 1) rfl rfl rfl) (ev_int (md := .sh))) (evb_set ok (i := 4) (j := 4) rfl rfl (wkX hX rfl) .sh (ev_str (md := .sh) (by decide +kernel)) fun row34 => (evb_nx (by rfl) (Wk.s (Wk.s (Wk.s (Wk.s (Wk.s (Wk.s (Wk.s (Wk.s Wk.n)))))))))) (evb_nx (by rfl) (Wk.s (Wk.s (Wk.s (Wk.s (Wk.s (Wk.s (Wk.s (Wk.s Wk.n))))))))) fun s35 => (evb_ifx (wkX hX rfl) (evt_c ok.toOk (c_eq s_int) (ev_vsh ok.toOk (i := 1) (j := 1) rfl rfl rfl) (ev_int (md := .sh))) (evb_retL (wkX hX rfl) .sh (by intro _; rfl) (evl_lc (md := .sh) (VV' := ["text"]) (GG' := []) (i := 7) ok.toOk (evi_seq ok.toOk sq_l (ev_vsh ok.toOk (i := 0) (j := 0) rfl rfl rfl)) rfl rfl no_any (by decide +kernel) (by decide +kernel) (by decide +kernel) (by decide +kernel) (fun g' okc text39 => evpts_nil) (fun g' okc text39 => (ev_slS (md' := .sh) okc (ev_catS (md' := .sh) okc (ev_vsh okc (i := 7) (j := 0) rfl rfl rfl) (ev_repS (md' := .sh) okc (ev_str (md := .sh) (by decide +kernel)) (ev_int (md := .sh)))) evo_none (evo_some (ev_int (md := .sh))))))) (evb_if (LJ := (fun (s79 : (Tx)) => [(sV false (tList tStr) given1), (sV false tInt fault2), (sV false (tList tInt) numbers3), (sV false tInt at4), (sV false tStr s79), sAny, sAny, sAny])) (wkX hX rfl) (EvW.t (evw_and (evt_c ok.toOk (c_eq s_int) (ev_vsh ok.toOk (i := 1) (j := 1) rfl rfl rfl) (ev_int (md := .sh))) (evw_and1 (evt_c ok.toOk (c_eq s_int) (ev_modC (md' := .sh) ok.toOk (by decide) (ev_ixQ ok.toOk sq_l (ev_vsh ok.toOk (i := 2) (j := 2) rfl rfl rfl) (ev_int (md := .sh))) (ev_int (md := .sh))) (ev_int (md := .sh)))))) (evb_set ok (i := 4) (j := 4) rfl rfl (wkX hX rfl) .sh (ev_catS (md' := .sh) ok.toOk (ev_vsh ok.toOk (i := 4) (j := 4) rfl rfl rfl) (ev_ixS (md' := .sh) ok.toOk (ev_str (md := .sh) (by decide +kernel)) (ev_modC (md' := .sh) ok.toOk (by decide) (ev_ixQ ok.toOk sq_l (ev_vsh ok.toOk (i := 2) (j := 2) rfl rfl rfl) (ev_int (md := .sh))) (ev_int (md := .sh))))) fun row62 => (evb_nx (by rfl) (Wk.s (Wk.s (Wk.s (Wk.s (Wk.s (Wk.s (Wk.s (Wk.s Wk.n)))))))))) (evb_ifl (wkX hX rfl) (evt_c ok.toOk (c_eq s_int) (ev_vsh ok.toOk (i := 1) (j := 1) rfl rfl rfl) (ev_int (md := .sh))) (evb_set ok (i := 4) (j := 4) rfl rfl (wkX hX rfl) .sh (ev_slS (md' := .sh) ok.toOk (ev_vsh ok.toOk (i := 4) (j := 4) rfl rfl rfl) (evo_some (ev_int (md := .sh))) evo_none) fun row73 => (evb_nx (by rfl) (Wk.s (Wk.s (Wk.s (Wk.s (Wk.s (Wk.s (Wk.s (Wk.s Wk.n)))))))))) (evb_nx (by rfl) (Wk.s (Wk.s (Wk.s (Wk.s (Wk.s (Wk.s (Wk.s (Wk.s Wk.n)))))))))) fun s79 => (evb_if (LJ := (fun (s109 : (Tx)) => [(sV false (tList tStr) given1), (sV false tInt fault2), (sV false (tList tInt) numbers3), (sV false tInt at4), (sV false tStr s109), sAny, sAny, sAny])) (wkX hX rfl) (evt_c ok.toOk (c_eq s_int) (ev_vsh ok.toOk (i := 1) (j := 1) rfl rfl rfl) (ev_int (md := .sh))) (evb_set ok (i := 5) (j := 5) rfl rfl (wkX hX rfl) .sh (ev_mod (md' := .sh) ok.toOk (ev_ixQ ok.toOk sq_l (ev_vsh ok.toOk (i := 2) (j := 2) rfl rfl rfl) (ev_int (md := .sh))) (ev_lenS (md' := .sh) ok.toOk (j := 0) rfl X.g_len (ev_vsh ok.toOk (i := 4) (j := 4) rfl rfl rfl))) fun place83 => (evb_set ok (i := 4) (j := 4) rfl rfl (wkX hX rfl) .sh (ev_catS (md' := .sh) ok.toOk (ev_catS (md' := .sh) ok.toOk (ev_slS (md' := .sh) ok.toOk (ev_vsh ok.toOk (i := 4) (j := 4) rfl rfl rfl) evo_none (evo_some (ev_vsh ok.toOk (i := 5) (j := 5) rfl rfl rfl))) (ev_call (md' := .sh) ok.toOk (fn__law_odd_sign X) (by decide) (j := 2) rfl .sh (eva_cons (md := .sh) (ev_ixQ ok.toOk sq_l (ev_vsh ok.toOk (i := 2) (j := 2) rfl rfl rfl) (ev_int (md := .sh))) eva_nil))) (ev_slS (md' := .sh) ok.toOk (ev_vsh ok.toOk (i := 4) (j := 4) rfl rfl rfl) (evo_some (ev_add (md' := .sh) ok.toOk (ev_vsh ok.toOk (i := 5) (j := 5) rfl rfl rfl) (ev_int (md := .sh)))) evo_none)) fun row89 => (evb_nx (by rfl) (Wk.s (Wk.s (Wk.s (Wk.s (Wk.s (Wk.a (Wk.s (Wk.s Wk.n))))))))))) (evb_nx (by rfl) (Wk.s (Wk.s (Wk.s (Wk.s (Wk.s (Wk.s (Wk.s (Wk.s Wk.n))))))))) fun s109 => (evb_retL (wkX hX rfl) .sh (by intro _; rfl) (evl_cat (md := .sh) ok.toOk (ev_ofL (evl_cat (md := .sh) ok.toOk (ev_ofL (evl_slQ (md := .sh) ok.toOk sq_l (ev_vsh ok.toOk (i := 0) (j := 0) rfl rfl rfl) evo_none (evo_some (ev_vsh ok.toOk (i := 3) (j := 3) rfl rfl rfl)))) (ev_ofL (evl_lstN (n := 1) (lnS ln0) (by decide) (evs_cons (ev_vsh ok.toOk (i := 4) (j := 4) rfl rfl rfl) evs_nil))))) (ev_ofL (evl_slQ (md := .sh) ok.toOk sq_l (ev_vsh ok.toOk (i := 0) (j := 0) rfl rfl rfl) (evo_some (ev_add (md' := .sh) ok.toOk (ev_vsh ok.toOk (i := 3) (j := 3) rfl rfl rfl) (ev_int (md := .sh)))) evo_none))))))))))))
theorem b__law_spoilt_cloth {p : Pr} (X : Facts p) : Body p s__law_spoilt_cloth N__law_spoilt_cloth V__law_spoilt_cloth G__law_spoilt_cloth 1 (fun (d : ((List Tx) × Int × (List Int) × Unit)) => [(sV false (tList tStr) d.1), (sV false tInt d.2.1), (sV false (tList tInt) d.2.2.1), sAny, sAny, sAny, sAny, sAny]) (fun r => .rtL false tStr r) r__law_spoilt_cloth := fun g ok hX d => bb__law_spoilt_cloth X ok hX d.1 d.2.1 d.2.2.1
theorem fn__law_spoilt_cloth {p : Pr} (X : Facts p) : Fn p 2 "_law_spoilt_cloth" ["given", "fault", "numbers"] (spM p (aCons (tList tStr) (aCons tInt (aCons (tList tInt) aNil))) (fun r => .rtL false tStr r) c__law_spoilt_cloth) := by
  obtain ⟨f, fd, hF, hm⟩ := X.d__law_spoilt_cloth
  exact ⟨f, fd, eq__law_spoilt_cloth ▸ fn_rtL (m := 5) hF sc__law_spoilt_cloth (.cons (.cons (.cons .nil))) rfl rfl (b__law_spoilt_cloth X), hm, hF.kp, hF.bindsN fun _ _ _ _ _ _ us hl => match us, hl with | [_, _, _], _ => rfl⟩
/-! ### _law_spoilt_shuttles -/
abbrev s__law_spoilt_shuttles : Stmt := topS 42
abbrev N__law_spoilt_shuttles : List Str := ["shuttles", "fault", "numbers", "made", "far"]
abbrev V__law_spoilt_shuttles : List Str := ["shuttles", "fault", "numbers", "made", "far"]
abbrev G__law_spoilt_shuttles : List Str := ["list", "len"]
theorem sc__law_spoilt_shuttles : Sc s__law_spoilt_shuttles N__law_spoilt_shuttles V__law_spoilt_shuttles ["shuttles", "fault", "numbers"] G__law_spoilt_shuttles := ⟨⟨rfl, rfl, rfl, by decide +kernel, rfl, by decide +kernel, by decide +kernel⟩, by decide +kernel, by decide +kernel, by decide +kernel⟩
def q__law_spoilt_shuttles (shuttles1 : (List Int)) (fault2 : Int) (numbers3 : (List Int)) : M (List Int) := M.bind (M.ok shuttles1) fun made4 => M.bind (M.bind (M.bind (M.ok numbers3) fun y6 => M.bind (M.ok (4 : Int)) fun y7 => getM y6 y7) fun y8 => M.ok (y8 % (4 : Int))) fun far5 => M.bind (M.bind (M.bind (M.bind (M.ok numbers3) fun y9 => M.bind (M.ok (7 : Int)) fun y10 => getM y9 y10) fun y11 => M.ok (y11 % (2 : Int))) fun y12 => M.bind (M.ok (1 : Int)) fun y13 => M.ok (decide (y12 = y13))) fun c14 => M.bind (if c14 = true then M.bind (M.bind (M.bind (M.bind (M.ok numbers3) fun y16 => M.bind (M.ok (4 : Int)) fun y17 => getM y16 y17) fun y18 => M.bind (M.ok ((10 : Int) ^ 54)) fun y19 => mulM y18 y19) fun y22 => M.bind (M.bind (M.ok numbers3) fun y20 => M.bind (M.ok (7 : Int)) fun y21 => getM y20 y21) fun y23 => M.ok (y22 + y23)) fun far15 => M.ok far15 else M.ok far5) fun (s24 : (Int)) => M.bind (M.bind (M.ok fault2) fun y25 => M.bind (M.ok (1 : Int)) fun y26 => M.ok (decide (y25 = y26))) fun c27 => M.bind (if c27 = true then M.bind (M.bind (M.bind (M.ok numbers3) fun y29 => M.bind (M.ok (5 : Int)) fun y30 => getM y29 y30) fun y31 => M.ok (y31 % (8 : Int))) fun y32 => M.bind (pushM made4 y32) fun made28 => M.ok made28 else M.ok made4) fun (s33 : ((List Int))) => M.bind (M.bind (M.ok fault2) fun y34 => M.bind (M.ok (2 : Int)) fun y35 => M.ok (decide (y34 = y35))) fun c36 => M.bind (if c36 = true then M.bind (M.bind (M.bind (M.ok numbers3) fun y38 => M.bind (M.ok (5 : Int)) fun y39 => getM y38 y39) fun y41 => M.bind (M.bind (M.ok s33) fun y40 => M.ok (y40.length : Int)) fun y42 => modM y41 y42) fun y43 => M.bind (popAtM s33 y43) fun made37 => M.ok made37 else M.ok s33) fun (s44 : ((List Int))) => M.bind (M.bind (M.ok fault2) fun y45 => M.bind (M.ok (3 : Int)) fun y46 => M.ok (decide (y45 = y46))) fun c47 => M.bind (if c47 = true then M.bind (M.bind (M.ok (8 : Int)) fun y48 => M.bind (M.ok s24) fun y49 => M.ok (y48 + y49)) fun y55 => M.bind (M.bind (M.bind (M.ok numbers3) fun y50 => M.bind (M.ok (5 : Int)) fun y51 => getM y50 y51) fun y53 => M.bind (M.bind (M.ok s44) fun y52 => M.ok (y52.length : Int)) fun y54 => modM y53 y54) fun i56 => M.bind (setM s44 i56 y55) fun made57 => M.ok made57 else M.ok s44) fun (s58 : ((List Int))) => M.bind (M.bind (M.ok fault2) fun y59 => M.bind (M.ok (4 : Int)) fun y60 => M.ok (decide (y59 = y60))) fun c61 => M.bind (if c61 = true then M.bind (M.bind (M.bind (M.ok (1 : Int)) fun y62 => M.ok (-y62)) fun y63 => M.bind (M.ok s24) fun y64 => M.ok (y63 - y64)) fun y70 => M.bind (M.bind (M.bind (M.ok numbers3) fun y65 => M.bind (M.ok (5 : Int)) fun y66 => getM y65 y66) fun y68 => M.bind (M.bind (M.ok s58) fun y67 => M.ok (y67.length : Int)) fun y69 => modM y68 y69) fun i71 => M.bind (setM s58 i71 y70) fun made72 => M.ok made72 else M.ok s58) fun (s73 : ((List Int))) => M.ok s73
def f_law_spoilt_shuttles (shuttles1 : (List Int)) (fault2 : Int) (numbers3 : (List Int)) : M (List Int) := let made4 : (List Int) := shuttles1; M.bind (M.bind (getM numbers3 (4 : Int)) fun y8 => M.ok (y8 % (4 : Int))) fun far5 => M.bind (M.bind (M.bind (getM numbers3 (7 : Int)) fun y11 => M.ok (y11 % (2 : Int))) fun y12 => M.ok (decide (y12 = (1 : Int)))) fun c14 => M.bind (if c14 = true then M.bind (M.bind (M.bind (getM numbers3 (4 : Int)) fun y18 => mulM y18 ((10 : Int) ^ 54)) fun y22 => M.bind (getM numbers3 (7 : Int)) fun y23 => M.ok (y22 + y23)) fun far15 => M.ok far15 else M.ok far5) fun (s24 : (Int)) => M.bind (if (decide (fault2 = (1 : Int))) = true then M.bind (M.bind (getM numbers3 (5 : Int)) fun y31 => M.ok (y31 % (8 : Int))) fun y32 => M.bind (pushM made4 y32) fun made28 => M.ok made28 else M.ok made4) fun (s33 : ((List Int))) => M.bind (if (decide (fault2 = (2 : Int))) = true then M.bind (M.bind (getM numbers3 (5 : Int)) fun y41 => modM y41 (s33.length : Int)) fun y43 => M.bind (popAtM s33 y43) fun made37 => M.ok made37 else M.ok s33) fun (s44 : ((List Int))) => M.bind (if (decide (fault2 = (3 : Int))) = true then M.bind (M.bind (getM numbers3 (5 : Int)) fun y53 => modM y53 (s44.length : Int)) fun i56 => M.bind (setM s44 i56 ((8 : Int) + s24)) fun made57 => M.ok made57 else M.ok s44) fun (s58 : ((List Int))) => M.bind (if (decide (fault2 = (4 : Int))) = true then M.bind (M.bind (getM numbers3 (5 : Int)) fun y68 => modM y68 (s58.length : Int)) fun i71 => M.bind (setM s58 i71 ((-(1 : Int)) - s24)) fun made72 => M.ok made72 else M.ok s58) fun (s73 : ((List Int))) => M.ok s73
def r__law_spoilt_shuttles (d : ((List Int) × Int × (List Int) × Unit)) : M (List Int) := q__law_spoilt_shuttles d.1 d.2.1 d.2.2.1
def c__law_spoilt_shuttles (d : ((List Int) × Int × (List Int) × Unit)) : M (List Int) := f_law_spoilt_shuttles d.1 d.2.1 d.2.2.1
theorem eq__law_spoilt_shuttles : r__law_spoilt_shuttles = c__law_spoilt_shuttles := by funext d; first | (simp only [r__law_spoilt_shuttles, c__law_spoilt_shuttles, q__law_spoilt_shuttles, f_law_spoilt_shuttles, M.bind_assoc, M.bok]; done) | (simp only [r__law_spoilt_shuttles, c__law_spoilt_shuttles, q__law_spoilt_shuttles, f_law_spoilt_shuttles, M.bind_assoc, M.bok]; rfl)
theorem bb__law_spoilt_shuttles {p : Pr} (X : Facts p) {g : G} (ok : OkS p (defScope s__law_spoilt_shuttles) N__law_spoilt_shuttles V__law_spoilt_shuttles G__law_spoilt_shuttles 0 g) (hX : g.LX = List.replicate N__law_spoilt_shuttles.length sAny) (shuttles1 : (List Int)) (fault2 : Int) (numbers3 : (List Int)) : EvB g [(sV false (tList tInt) shuttles1), (sV false tInt fault2), (sV false (tList tInt) numbers3), sAny, sAny] (defBody s__law_spoilt_shuttles) (fun r => .rtL false tInt r) (q__law_spoilt_shuttles shuttles1 fault2 numbers3) := (evb_own ok (i := 3) (j := 3) rfl rfl (wkX hX rfl) .sh (evl_copyQ (md := .sh) ok.toOk sq_l (j := 0) rfl X.g_list (ev_vsh ok.toOk (i := 0) (j := 0) rfl rfl rfl)) fun made4 => (evb_set ok (i := 4) (j := 4) rfl rfl (wkX hX rfl) .sh (ev_modC (md' := .sh) ok.toOk (by decide) (ev_ixQ ok.toOk sq_l (ev_vsh ok.toOk (i := 2) (j := 2) rfl rfl rfl) (ev_int (md := .sh))) (ev_int (md := .sh))) fun far5 => (evb_if (LJ := (fun (s24 : (Int)) => [(sV false (tList tInt) shuttles1), (sV false tInt fault2), (sV false (tList tInt) numbers3), (sOwn false tInt made4), (sV false tInt s24)])) (wkX hX rfl) (evt_c ok.toOk (c_eq s_int) (ev_modC (md' := .sh) ok.toOk (by decide) (ev_ixQ ok.toOk sq_l (ev_vsh ok.toOk (i := 2) (j := 2) rfl rfl rfl) (ev_int (md := .sh))) (ev_int (md := .sh))) (ev_int (md := .sh))) (evb_set ok (i := 4) (j := 4) rfl rfl (wkX hX rfl) .sh (ev_add (md' := .sh) ok.toOk (ev_mul (md' := .sh) ok.toOk (ev_ixQ ok.toOk sq_l (ev_vsh ok.toOk (i := 2) (j := 2) rfl rfl rfl) (ev_int (md := .sh))) (ev_powC (md' := .sh) (n := 54) ok.toOk (by decide) (by decide) (ev_int (md := .sh)) (ev_int (md := .sh)))) (ev_ixQ ok.toOk sq_l (ev_vsh ok.toOk (i := 2) (j := 2) rfl rfl rfl) (ev_int (md := .sh)))) fun far15 => (evb_nx (by rfl) (Wk.s (Wk.s (Wk.s (Wk.s (Wk.s Wk.n))))))) (evb_nx (by rfl) (Wk.s (Wk.s (Wk.s (Wk.s (Wk.s Wk.n)))))) fun s24 => (evb_if (LJ := (fun (s33 : ((List Int))) => [(sV false (tList tInt) shuttles1), (sV false tInt fault2), (sV false (tList tInt) numbers3), (sOwn false tInt s33), (sV false tInt s24)])) (wkX hX rfl) (evt_c ok.toOk (c_eq s_int) (ev_vsh ok.toOk (i := 1) (j := 1) rfl rfl rfl) (ev_int (md := .sh))) (evb_append ok (wkX hX rfl) (i := 3) (j := 3) rfl rfl rfl .sh (ev_modC (md' := .sh) ok.toOk (by decide) (ev_ixQ ok.toOk sq_l (ev_vsh ok.toOk (i := 2) (j := 2) rfl rfl rfl) (ev_int (md := .sh))) (ev_int (md := .sh))) fun made28 => (evb_nx (by rfl) (Wk.s (Wk.s (Wk.s (Wk.s (Wk.s Wk.n))))))) (evb_nx (by rfl) (Wk.s (Wk.s (Wk.s (Wk.s (Wk.s Wk.n)))))) fun s33 => (evb_if (LJ := (fun (s44 : ((List Int))) => [(sV false (tList tInt) shuttles1), (sV false tInt fault2), (sV false (tList tInt) numbers3), (sOwn false tInt s44), (sV false tInt s24)])) (wkX hX rfl) (evt_c ok.toOk (c_eq s_int) (ev_vsh ok.toOk (i := 1) (j := 1) rfl rfl rfl) (ev_int (md := .sh))) (evb_popAt ok (wkX hX rfl) (i := 3) (j := 3) rfl rfl rfl (ev_borrow (i := 3) (.inl flInt) rfl (ev_mod (md' := .sh) ok.toOk (ev_ixQ ok.toOk sq_l (ev_vsh ok.toOk (i := 2) (j := 2) rfl rfl rfl) (ev_int (md := .sh))) (ev_lenQ (md' := .sh) ok.toOk sq_l (j := 1) rfl X.g_len (ev_vsh ok.toOk (i := 3) (j := 3) rfl rfl rfl)))) fun made37 => (evb_nx (by rfl) (Wk.s (Wk.s (Wk.s (Wk.s (Wk.s Wk.n))))))) (evb_nx (by rfl) (Wk.s (Wk.s (Wk.s (Wk.s (Wk.s Wk.n)))))) fun s44 => (evb_if (LJ := (fun (s58 : ((List Int))) => [(sV false (tList tInt) shuttles1), (sV false tInt fault2), (sV false (tList tInt) numbers3), (sOwn false tInt s58), (sV false tInt s24)])) (wkX hX rfl) (evt_c ok.toOk (c_eq s_int) (ev_vsh ok.toOk (i := 1) (j := 1) rfl rfl rfl) (ev_int (md := .sh))) (evb_setitem ok (wkX hX rfl) (i := 3) (j := 3) rfl rfl rfl .sh (ev_add (md' := .sh) ok.toOk (ev_int (md := .sh)) (ev_vsh ok.toOk (i := 4) (j := 4) rfl rfl rfl)) (ev_borrow (i := 3) (.inl flInt) rfl (ev_mod (md' := .sh) ok.toOk (ev_ixQ ok.toOk sq_l (ev_vsh ok.toOk (i := 2) (j := 2) rfl rfl rfl) (ev_int (md := .sh))) (ev_lenQ (md' := .sh) ok.toOk sq_l (j := 1) rfl X.g_len (ev_vsh ok.toOk (i := 3) (j := 3) rfl rfl rfl)))) fun made57 => (evb_nx (by rfl) (Wk.s (Wk.s (Wk.s (Wk.s (Wk.s Wk.n))))))) (evb_nx (by rfl) (Wk.s (Wk.s (Wk.s (Wk.s (Wk.s Wk.n)))))) fun s58 => (evb_if (LJ := (fun (s73 : ((List Int))) => [(sV false (tList tInt) shuttles1), (sV false tInt fault2), (sV false (tList tInt) numbers3), (sOwn false tInt s73), (sV false tInt s24)])) (wkX hX rfl) (evt_c ok.toOk (c_eq s_int) (ev_vsh ok.toOk (i := 1) (j := 1) rfl rfl rfl) (ev_int (md := .sh))) (evb_setitem ok (wkX hX rfl) (i := 3) (j := 3) rfl rfl rfl .sh (ev_subt (md' := .sh) ok.toOk (ev_neg (md' := .sh) ok.toOk (ev_int (md := .sh))) (ev_vsh ok.toOk (i := 4) (j := 4) rfl rfl rfl)) (ev_borrow (i := 3) (.inl flInt) rfl (ev_mod (md' := .sh) ok.toOk (ev_ixQ ok.toOk sq_l (ev_vsh ok.toOk (i := 2) (j := 2) rfl rfl rfl) (ev_int (md := .sh))) (ev_lenQ (md' := .sh) ok.toOk sq_l (j := 1) rfl X.g_len (ev_vsh ok.toOk (i := 3) (j := 3) rfl rfl rfl)))) fun made72 => (evb_nx (by rfl) (Wk.s (Wk.s (Wk.s (Wk.s (Wk.s Wk.n))))))) (evb_nx (by rfl) (Wk.s (Wk.s (Wk.s (Wk.s (Wk.s Wk.n)))))) fun s73 => (evb_retOwn ok.toOk (i := 3) (j := 3) rfl rfl rfl (.inl rfl) (by rfl)))))))))
theorem b__law_spoilt_shuttles {p : Pr} (X : Facts p) : Body p s__law_spoilt_shuttles N__law_spoilt_shuttles V__law_spoilt_shuttles G__law_spoilt_shuttles 0 (fun (d : ((List Int) × Int × (List Int) × Unit)) => [(sV false (tList tInt) d.1), (sV false tInt d.2.1), (sV false (tList tInt) d.2.2.1), sAny, sAny]) (fun r => .rtL false tInt r) r__law_spoilt_shuttles := fun g ok hX d => bb__law_spoilt_shuttles X ok hX d.1 d.2.1 d.2.2.1
theorem fn__law_spoilt_shuttles {p : Pr} (X : Facts p) : Fn p 1 "_law_spoilt_shuttles" ["shuttles", "fault", "numbers"] (spM p (aCons (tList tInt) (aCons tInt (aCons (tList tInt) aNil))) (fun r => .rtL false tInt r) c__law_spoilt_shuttles) := by
  obtain ⟨f, fd, hF, hm⟩ := X.d__law_spoilt_shuttles
  exact ⟨f, fd, eq__law_spoilt_shuttles ▸ fn_rtL (m := 2) hF sc__law_spoilt_shuttles (.cons (.cons (.cons .nil))) rfl rfl (b__law_spoilt_shuttles X), hm, hF.kp, hF.bindsN fun _ _ _ _ _ _ us hl => match us, hl with | [_, _, _], _ => rfl⟩
/-! ### measured -/
abbrev s_measured : Stmt := topS 17
abbrev N_measured : List Str := ["cloth", "wide", "text", "sign"]
abbrev V_measured : List Str := ["cloth", "wide", "text", "sign"]
abbrev G_measured : List Str := ["len", "MOST_STRANDS", "NoCloth"]
theorem sc_measured : Sc s_measured N_measured V_measured ["cloth"] G_measured := ⟨⟨rfl, rfl, rfl, by decide +kernel, rfl, by decide +kernel, by decide +kernel⟩, by decide +kernel, by decide +kernel, by decide +kernel⟩
def r_f_measured_l1  : Unit → Tx → M Unit := fun s24 sign25 => M.bind (M.ok ((!decide (sign25 = (tx "#"))) && (!decide (sign25 = (tx "."))))) fun c31 => if c31 = true then M.ex .noCloth else M.ok ()
def f_measured_l1  : Unit → Tx → M Unit := fun s24 sign25 => if ((!decide (sign25 = (tx "#"))) && (!decide (sign25 = (tx ".")))) = true then M.ex .noCloth else M.ok ()
theorem eq_f_measured_l1  : r_f_measured_l1  = f_measured_l1  := by funext s24 sign25; first | (simp only [r_f_measured_l1, f_measured_l1, M.bind_assoc, M.bok]; done) | (simp only [r_f_measured_l1, f_measured_l1, M.bind_assoc, M.bok]; rfl)
def r_f_measured_l2 (wide9 : Int) : Unit → Tx → M Unit := fun s18 text19 => M.bind (M.bind (M.bind (M.ok text19) fun y20 => M.ok (y20.length : Int)) fun y21 => M.bind (M.ok wide9) fun y22 => M.ok (!decide (y21 = y22))) fun c35 => if c35 = true then M.ex .noCloth else M.bind (M.bind (M.ok text19) fun y23 => M.ok (y23.map fun c => [c])) fun xs33 => M.bind (forM r_f_measured_l1 () xs33) fun (s34 : Unit) => M.ok ()
def f_measured_l2 (wide9 : Int) : Unit → Tx → M Unit := fun s18 text19 => if (!decide ((text19.length : Int) = wide9)) = true then M.ex .noCloth else M.bind (forM f_measured_l1 () (text19.map fun c => [c])) fun (s34 : Unit) => M.ok ()
theorem eq_f_measured_l2 (wide9 : Int) : r_f_measured_l2 wide9 = f_measured_l2 wide9 := by funext s18 text19; first | (simp only [r_f_measured_l2, f_measured_l2, M.bind_assoc, M.bok, eq_f_measured_l1]; done) | (simp only [r_f_measured_l2, f_measured_l2, M.bind_assoc, M.bok, eq_f_measured_l1]; rfl)
def q_measured (cloth1 : (List Tx)) : M (Int × Int × Unit) := M.bind (M.ok ((decide ((cloth1.length : Int) < (1 : Int))) || (decide ((40 : Int) < (cloth1.length : Int))))) fun c49 => if c49 = true then M.ex .noCloth else M.bind (M.bind (M.bind (M.ok cloth1) fun y10 => M.bind (M.ok (0 : Int)) fun y11 => getM y10 y11) fun y12 => M.ok (y12.length : Int)) fun wide9 => M.bind (M.ok ((decide (wide9 < (1 : Int))) || (decide ((40 : Int) < wide9)))) fun c47 => if c47 = true then M.ex .noCloth else M.bind (M.ok cloth1) fun xs37 => M.bind (forM (r_f_measured_l2 wide9) () xs37) fun (s38 : Unit) => (M.bind (M.ok wide9) fun y42 => M.bind (M.bind (M.bind (M.ok cloth1) fun y39 => M.ok (y39.length : Int)) fun y40 => M.bind (M.ok ()) fun y41 => M.ok (y40, y41)) fun y43 => M.ok (y42, y43))
def f_measured (cloth1 : (List Tx)) : M (Int × Int × Unit) := if ((decide ((cloth1.length : Int) < (1 : Int))) || (decide ((40 : Int) < (cloth1.length : Int)))) = true then M.ex .noCloth else M.bind (M.bind (getM cloth1 (0 : Int)) fun y12 => M.ok (y12.length : Int)) fun wide9 => if ((decide (wide9 < (1 : Int))) || (decide ((40 : Int) < wide9))) = true then M.ex .noCloth else M.bind (forM (f_measured_l2 wide9) () cloth1) fun (s38 : Unit) => M.ok (wide9, (cloth1.length : Int), ())
def r_measured (d : ((List Tx) × Unit)) : M (Int × Int × Unit) := q_measured d.1
def c_measured (d : ((List Tx) × Unit)) : M (Int × Int × Unit) := f_measured d.1
theorem eq_measured : r_measured = c_measured := by funext d; first | (simp only [r_measured, c_measured, q_measured, f_measured, M.bind_assoc, M.bok, eq_f_measured_l1, eq_f_measured_l2]; done) | (simp only [r_measured, c_measured, q_measured, f_measured, M.bind_assoc, M.bok, eq_f_measured_l1, eq_f_measured_l2]; rfl)
theorem bb_measured {p : Pr} (X : Facts p) {g : G} (ok : OkS p (defScope s_measured) N_measured V_measured G_measured 0 g) (hX : g.LX = List.replicate N_measured.length sAny) (cloth1 : (List Tx)) : EvB g [(sV false (tList tStr) cloth1), sAny, sAny, sAny] (defBody s_measured) (fun r => .rt false (tTup (aCons tInt (aCons tInt aNil))) r) (q_measured cloth1) := (evb_ifr ok (wkX hX rfl) X.x_NoCloth (jj := 0) (j := 2) rfl (EvW.t (evw_orP (pureT (m := M.bind (M.bind (M.ok cloth1) fun y2 => M.ok (y2.length : Int)) fun y3 => M.bind (M.ok (1 : Int)) fun y4 => M.ok (decide (y3 < y4))) (evt_c ok.toOk c_lt (ev_lenQ (md' := .sh) ok.toOk sq_l (j := 0) rfl X.g_len (ev_vsh ok.toOk (i := 0) (j := 0) rfl rfl rfl)) (ev_int (md := .sh))) rfl) (pureW (m := M.bind (M.bind (M.ok cloth1) fun y5 => M.ok (y5.length : Int)) fun y6 => M.bind (M.ok (40 : Int)) fun y7 => M.ok (decide (y7 < y6))) (evw_or1 (evt_c ok.toOk c_gt (ev_lenQ (md' := .sh) ok.toOk sq_l (j := 0) rfl X.g_len (ev_vsh ok.toOk (i := 0) (j := 0) rfl rfl rfl)) (ev_gint (md := .sh) ok.toOk (j := 1) rfl X.c_MOST_STRANDS))) rfl))) (evb_set ok (i := 1) (j := 1) rfl rfl (wkX hX rfl) .sh (ev_lenS (md' := .sh) ok.toOk (j := 0) rfl X.g_len (ev_ixQ ok.toOk sq_l (ev_vsh ok.toOk (i := 0) (j := 0) rfl rfl rfl) (ev_int (md := .sh)))) fun wide9 => (evb_ifr ok (wkX hX rfl) X.x_NoCloth (jj := 0) (j := 2) rfl (EvW.t (evw_orP (pureT (m := M.bind (M.ok wide9) fun y13 => M.bind (M.ok (1 : Int)) fun y14 => M.ok (decide (y13 < y14))) (evt_c ok.toOk c_lt (ev_vsh ok.toOk (i := 1) (j := 1) rfl rfl rfl) (ev_int (md := .sh))) rfl) (pureW (m := M.bind (M.ok wide9) fun y15 => M.bind (M.ok (40 : Int)) fun y16 => M.ok (decide (y16 < y15))) (evw_or1 (evt_c ok.toOk c_gt (ev_vsh ok.toOk (i := 1) (j := 1) rfl rfl rfl) (ev_gint (md := .sh) ok.toOk (j := 1) rfl X.c_MOST_STRANDS))) rfl))) (evb_for (LF := (fun (s18 : Unit) => [(sV false (tList tStr) cloth1), (sV false tInt wide9), sAny, sAny])) (s0 := ()) ok (wkX hX rfl) (evi_seq ok.toOk sq_l (ev_vsh ok.toOk (i := 0) (j := 0) rfl rfl rfl)) (Wk.s (Wk.s (Wk.s (Wk.s Wk.n)))) (fun _ => evg_name ok (i := 2) (j := 2) rfl rfl) (fun s18 text19 => (evb_ifr ok (wkX hX rfl) X.x_NoCloth (jj := 0) (j := 2) rfl (evt_c ok.toOk (c_ne s_int) (ev_lenS (md' := .sh) ok.toOk (j := 0) rfl X.g_len (ev_vsh ok.toOk (i := 2) (j := 2) rfl rfl rfl)) (ev_vsh ok.toOk (i := 1) (j := 1) rfl rfl rfl)) (evb_for (LF := (fun (s24 : Unit) => [(sV false (tList tStr) cloth1), (sV false tInt wide9), (sV false tStr text19), sAny])) (s0 := ()) ok (wkX hX rfl) (evi_str (ev_vsh ok.toOk (i := 2) (j := 2) rfl rfl rfl)) (Wk.s (Wk.s (Wk.s (Wk.s Wk.n)))) (fun _ => evg_name ok (i := 3) (j := 3) rfl rfl) (fun s24 sign25 => (evb_ifr ok (wkX hX rfl) X.x_NoCloth (jj := 0) (j := 2) rfl (EvW.t (evw_andP (pureT (m := M.bind (M.ok sign25) fun y26 => M.bind (M.ok (tx "#")) fun y27 => M.ok (!decide (y26 = y27))) (evt_c ok.toOk (c_ne s_str) (ev_vsh ok.toOk (i := 3) (j := 3) rfl rfl rfl) (ev_str (md := .sh) (by decide +kernel))) rfl) (pureW (m := M.bind (M.ok sign25) fun y28 => M.bind (M.ok (tx ".")) fun y29 => M.ok (!decide (y28 = y29))) (evw_and1 (evt_c ok.toOk (c_ne s_str) (ev_vsh ok.toOk (i := 3) (j := 3) rfl rfl rfl) (ev_str (md := .sh) (by decide +kernel)))) rfl))) (evb_go (by rfl) (Wk.s (Wk.s (Wk.s (Wk.a Wk.n))))))) fun s34 => (evb_go (by rfl) (Wk.s (Wk.s (Wk.a (Wk.s Wk.n)))))))) fun s38 => (evb_ret (wkX hX rfl) .sh (by intro _; rfl) (ev_tup (fun d vs R h => by rw [(lenS (lenS len0)) h]; decide) (eva_cons (ev_vsh ok.toOk (i := 1) (j := 1) rfl rfl rfl) (eva_cons (ev_lenQ (md' := .sh) ok.toOk sq_l (j := 0) rfl X.g_len (ev_vsh ok.toOk (i := 0) (j := 0) rfl rfl rfl)) eva_nil))))))))
theorem b_measured {p : Pr} (X : Facts p) : Body p s_measured N_measured V_measured G_measured 0 (fun (d : ((List Tx) × Unit)) => [(sV false (tList tStr) d.1), sAny, sAny, sAny]) (fun r => .rt false (tTup (aCons tInt (aCons tInt aNil))) r) r_measured := fun g ok hX d => bb_measured X ok hX d.1
theorem fn_measured {p : Pr} (X : Facts p) : Fn p 1 "measured" ["cloth"] (spM p (aCons (tList tStr) aNil) (fun r => .rt false (tTup (aCons tInt (aCons tInt aNil))) r) c_measured) := by
  obtain ⟨f, fd, hF, hm⟩ := X.d_measured
  exact ⟨f, fd, eq_measured ▸ fn_rt (m := 3) hF sc_measured (.cons .nil) rfl rfl (b_measured X), hm, hF.kp, hF.bindsN fun _ _ _ _ _ _ us hl => match us, hl with | [_], _ => rfl⟩
/-! ### scores_of -/
abbrev s_scores_of : Stmt := topS 19
abbrev N_scores_of : List Str := ["cloth", "ends", "picks", "counts", "end", "pick", "row"]
abbrev V_scores_of : List Str := ["cloth", "ends", "picks", "counts", "end", "pick"]
abbrev G_scores_of : List Str := ["measured", "range", "len"]
theorem sc_scores_of : Sc s_scores_of N_scores_of V_scores_of ["cloth"] G_scores_of := ⟨⟨rfl, rfl, rfl, by decide +kernel, rfl, by decide +kernel, by decide +kernel⟩, by decide +kernel, by decide +kernel, by decide +kernel⟩
def r_f_scores_of_l1 (cloth1 : (List Tx)) : ((List Int)) → Int → M ((List Int)) := fun s8 end9 => M.bind (M.bind (M.bind (M.ok cloth1) fun xs18 => compM (fun row11 => M.bind (M.bind (M.bind (M.ok row11) fun y12 => M.bind (M.ok end9) fun y13 => getS y12 y13) fun y14 => M.bind (M.ok (tx "#")) fun y15 => M.ok (decide (y14 = y15))) fun c16 => if c16 = true then M.bind (M.ok row11) fun y17 => M.ok (some y17) else M.ok none) xs18) fun y19 => M.ok (y19.length : Int)) fun y20 => M.bind (pushM s8 y20) fun counts10 => M.ok counts10
def f_scores_of_l1 (cloth1 : (List Tx)) : ((List Int)) → Int → M ((List Int)) := fun s8 end9 => M.bind (M.bind (compM (fun row11 => M.bind (M.bind (getS row11 end9) fun y14 => M.ok (decide (y14 = (tx "#")))) fun c16 => if c16 = true then M.ok (some row11) else M.ok none) cloth1) fun y19 => M.ok (y19.length : Int)) fun y20 => M.bind (pushM s8 y20) fun counts10 => M.ok counts10
theorem eq_f_scores_of_l1 (cloth1 : (List Tx)) : r_f_scores_of_l1 cloth1 = f_scores_of_l1 cloth1 := by funext s8 end9; first | (simp only [r_f_scores_of_l1, f_scores_of_l1, M.bind_assoc, M.bok, c_measured]; done) | (simp only [r_f_scores_of_l1, f_scores_of_l1, M.bind_assoc, M.bok, c_measured]; rfl)
def r_f_scores_of_l2 (cloth1 : (List Tx)) : ((List Int)) → Int → M ((List Int)) := fun s24 pick25 => M.bind (M.bind (M.bind (M.ok cloth1) fun y27 => M.bind (M.ok pick25) fun y28 => getM y27 y28) fun y29 => M.bind (M.ok (tx ".")) fun y30 => countS y29 y30) fun y31 => M.bind (pushM s24 y31) fun counts26 => M.ok counts26
def f_scores_of_l2 (cloth1 : (List Tx)) : ((List Int)) → Int → M ((List Int)) := fun s24 pick25 => M.bind (M.bind (getM cloth1 pick25) fun y29 => countS y29 (tx ".")) fun y31 => M.bind (pushM s24 y31) fun counts26 => M.ok counts26
theorem eq_f_scores_of_l2 (cloth1 : (List Tx)) : r_f_scores_of_l2 cloth1 = f_scores_of_l2 cloth1 := by funext s24 pick25; first | (simp only [r_f_scores_of_l2, f_scores_of_l2, M.bind_assoc, M.bok, eq_f_scores_of_l1, c_measured]; done) | (simp only [r_f_scores_of_l2, f_scores_of_l2, M.bind_assoc, M.bok, eq_f_scores_of_l1, c_measured]; rfl)
def q_scores_of (cloth1 : (List Tx)) : M (List Int) := M.bind (M.bind (M.bind (M.ok cloth1) fun y2 => M.bind (M.ok ()) fun y3 => M.ok (y2, y3)) c_measured) fun t5 => M.bind (M.ok []) fun counts6 => M.bind (M.bind (M.ok t5.1) fun y7 => rangeM 0 y7) fun xs21 => M.bind (forM (r_f_scores_of_l1 cloth1) counts6 xs21) fun (s22 : ((List Int))) => M.bind (M.bind (M.ok t5.2.1) fun y23 => rangeM 0 y23) fun xs32 => M.bind (forM (r_f_scores_of_l2 cloth1) s22 xs32) fun (s33 : ((List Int))) => M.ok s33
def f_scores_of (cloth1 : (List Tx)) : M (List Int) := M.bind (f_measured cloth1) fun t5 => let counts6 : (List Int) := []; M.bind (rangeM 0 t5.1) fun xs21 => M.bind (forM (f_scores_of_l1 cloth1) counts6 xs21) fun (s22 : ((List Int))) => M.bind (rangeM 0 t5.2.1) fun xs32 => M.bind (forM (f_scores_of_l2 cloth1) s22 xs32) fun (s33 : ((List Int))) => M.ok s33
def r_scores_of (d : ((List Tx) × Unit)) : M (List Int) := q_scores_of d.1
def c_scores_of (d : ((List Tx) × Unit)) : M (List Int) := f_scores_of d.1
theorem eq_scores_of : r_scores_of = c_scores_of := by funext d; first | (simp only [r_scores_of, c_scores_of, q_scores_of, f_scores_of, M.bind_assoc, M.bok, eq_f_scores_of_l1, eq_f_scores_of_l2, c_measured]; done) | (simp only [r_scores_of, c_scores_of, q_scores_of, f_scores_of, M.bind_assoc, M.bok, eq_f_scores_of_l1, eq_f_scores_of_l2, c_measured]; rfl)
theorem bb_scores_of {p : Pr} (X : Facts p) {g : G} (ok : OkS p (defScope s_scores_of) N_scores_of V_scores_of G_scores_of 1 g) (hX : g.LX = List.replicate N_scores_of.length sAny) (cloth1 : (List Tx)) : EvB g [(sV false (tList tStr) cloth1), sAny, sAny, sAny, sAny, sAny, sAny] (defBody s_scores_of) (fun r => .rtL false tInt r) (q_scores_of cloth1) := (evb_asg ok (wkX hX rfl) (ev_call (md' := .sh) ok.toOk (fn_measured X) (by decide) (j := 0) rfl .sh (eva_cons (md := .sh) (ev_vsh ok.toOk (i := 0) (j := 0) rfl rfl rfl) eva_nil)) (evg_tup ok.toOk (lenS (lenS len0)) (evgs_cons (evg_name ok (i := 1) (j := 1) rfl rfl) fun _ => (evgs_cons (evg_name ok (i := 2) (j := 2) rfl rfl) fun _ => evgs_nil))) fun t5 => (evb_own ok (i := 3) (j := 3) rfl rfl (wkX hX rfl) .sh (evl_nil (md := .sh) (S := tInt)) fun counts6 => (evb_for (LF := (fun (s8 : ((List Int))) => [(sV false (tList tStr) cloth1), (sV false tInt t5.1), (sV false tInt t5.2.1), (sOwn false tInt s8), sAny, sAny, sAny])) (s0 := counts6) ok (wkX hX rfl) (evi_range1 ok.toOk (j := 1) rfl X.g_range (ev_vsh ok.toOk (i := 1) (j := 1) rfl rfl rfl)) (Wk.s (Wk.s (Wk.s (Wk.s (Wk.s (Wk.s (Wk.s Wk.n))))))) (fun _ => evg_name ok (i := 4) (j := 4) rfl rfl) (fun s8 end9 => (evb_append ok (wkX hX rfl) (i := 3) (j := 3) rfl rfl rfl .sh (ev_lenQ (md' := .sh) ok.toOk sq_l (j := 2) rfl X.g_len (ev_ofL (evl_lc (md := .sh) (VV' := ["row", "end"]) (GG' := []) (i := 6) ok.toOk (evi_seq ok.toOk sq_l (ev_vsh ok.toOk (i := 0) (j := 0) rfl rfl rfl)) rfl rfl no_any (by decide +kernel) (by decide +kernel) (by decide +kernel) (by decide +kernel) (fun g' okc row11 => (evpts_one (evt_c okc (c_eq s_str) (ev_ixS (md' := .sh) okc (ev_vsh okc (i := 6) (j := 0) rfl rfl rfl) (ev_vsh okc (i := 4) (j := 1) rfl rfl rfl)) (ev_str (md := .sh) (by decide +kernel))))) (fun g' okc row11 => (ev_vsh okc (i := 6) (j := 0) rfl rfl rfl))))) fun counts10 => (evb_go (by rfl) (Wk.s (Wk.s (Wk.s (Wk.s (Wk.a (Wk.s (Wk.s Wk.n)))))))))) fun s22 => (evb_for (LF := (fun (s24 : ((List Int))) => [(sV false (tList tStr) cloth1), (sV false tInt t5.1), (sV false tInt t5.2.1), (sOwn false tInt s24), sAny, sAny, sAny])) (s0 := s22) ok (wkX hX rfl) (evi_range1 ok.toOk (j := 1) rfl X.g_range (ev_vsh ok.toOk (i := 2) (j := 2) rfl rfl rfl)) (Wk.s (Wk.s (Wk.s (Wk.s (Wk.s (Wk.s (Wk.s Wk.n))))))) (fun _ => evg_name ok (i := 5) (j := 5) rfl rfl) (fun s24 pick25 => (evb_append ok (wkX hX rfl) (i := 3) (j := 3) rfl rfl rfl .sh (ev_countS (md' := .sh) ok.toOk (ev_ixQ ok.toOk sq_l (ev_vsh ok.toOk (i := 0) (j := 0) rfl rfl rfl) (ev_vsh ok.toOk (i := 5) (j := 5) rfl rfl rfl)) (ev_str (md := .sh) (by decide +kernel))) fun counts26 => (evb_go (by rfl) (Wk.s (Wk.s (Wk.s (Wk.s (Wk.s (Wk.a (Wk.s Wk.n)))))))))) fun s33 => (evb_retOwn ok.toOk (i := 3) (j := 3) rfl rfl rfl (.inl rfl) (by rfl))))))
theorem b_scores_of {p : Pr} (X : Facts p) : Body p s_scores_of N_scores_of V_scores_of G_scores_of 1 (fun (d : ((List Tx) × Unit)) => [(sV false (tList tStr) d.1), sAny, sAny, sAny, sAny, sAny, sAny]) (fun r => .rtL false tInt r) r_scores_of := fun g ok hX d => bb_scores_of X ok hX d.1
theorem fn_scores_of {p : Pr} (X : Facts p) : Fn p 2 "scores_of" ["cloth"] (spM p (aCons (tList tStr) aNil) (fun r => .rtL false tInt r) c_scores_of) := by
  obtain ⟨f, fd, hF, hm⟩ := X.d_scores_of
  exact ⟨f, fd, eq_scores_of ▸ fn_rtL (m := 6) hF sc_scores_of (.cons .nil) rfl rfl (b_scores_of X), hm, hF.kp, hF.bindsN fun _ _ _ _ _ _ us hl => match us, hl with | [_], _ => rfl⟩
/-! ### by_count -/
abbrev s_by_count : Stmt := topS 21
abbrev N_by_count : List Str := ["counts", "first", "behind"]
abbrev V_by_count : List Str := ["counts", "first", "behind"]
abbrev G_by_count : List Str := ["sorted", "range"]
theorem sc_by_count : Sc s_by_count N_by_count V_by_count ["counts", "first", "behind"] G_by_count := ⟨⟨rfl, rfl, rfl, by decide +kernel, rfl, by decide +kernel, by decide +kernel⟩, by decide +kernel, by decide +kernel, by decide +kernel⟩
def f_by_count (counts : List Int) (first : Int) (behind : Int) : M (List Int) := sortKeyM counts first behind
def c_by_count (d : (List Int × Int × Int × Unit)) : M (List Int) := f_by_count d.1 d.2.1 d.2.2.1
theorem fn_by_count {p : Pr} (X : Facts p) : Fn p 1 "by_count" ["counts", "first", "behind"] (spM p (aCons (tList tInt) (aCons tInt (aCons tInt aNil))) (fun r => .rtL false tInt r) c_by_count) := by
  obtain ⟨f, fd, hF, hm, c, P, hc, hT, TB⟩ := X.d_by_count
  refine ⟨f, fd, fn_genC (m := 0) hF sc_by_count (.cons (.cons (.cons .nil))) rfl rfl (fun g ok hX hcode hqual d => ?_), hm, hF.kp, hF.bindsN fun _ _ _ _ _ _ us hl => match us, hl with | [_, _, _], _ => rfl⟩
  exact evb_retL (m := M.bind (M.ok d.2.1) fun lo => M.bind (M.ok d.2.2.1) fun hi => sortKeyM d.1 lo hi) (wkX hX rfl) .sh (by intro _; rfl) (evl_sortLam (md' := .sh) ok (j := 0) rfl X.g_sorted (j2 := 1) rfl X.g_range (i := 0) rfl rfl (ev_vsh ok.toOk (i := 1) (j := 1) rfl rfl rfl) (ev_vsh ok.toOk (i := 2) (j := 2) rfl rfl rfl) hT TB (hcode.trans hc) (by rw [hqual]; decide +kernel) rfl ⟨rfl, rfl, rfl, by decide +kernel, by decide +kernel, by decide +kernel, by decide +kernel, by decide +kernel, by decide +kernel, by decide +kernel, fun _ _ _ _ _ => rfl⟩ (by decide +kernel))
/-! ### running_sums -/
abbrev s_running_sums : Stmt := topS 22
abbrev N_running_sums : List Str := ["counts", "line", "sums", "strand"]
abbrev V_running_sums : List Str := ["counts", "line", "sums", "strand"]
abbrev G_running_sums : List Str := []
theorem sc_running_sums : Sc s_running_sums N_running_sums V_running_sums ["counts", "line"] G_running_sums := ⟨⟨rfl, rfl, rfl, by decide +kernel, rfl, by decide +kernel, by decide +kernel⟩, by decide +kernel, by decide +kernel, by decide +kernel⟩
def r_f_running_sums_l1 (counts1 : (List Int)) : ((List Int)) → Int → M ((List Int)) := fun s7 strand8 => M.bind (M.bind (M.bind (M.ok s7) fun y11 => M.bind (M.bind (M.ok (1 : Int)) fun y10 => M.ok (-y10)) fun y12 => getM y11 y12) fun y15 => M.bind (M.bind (M.ok counts1) fun y13 => M.bind (M.ok strand8) fun y14 => getM y13 y14) fun y16 => M.ok (y15 + y16)) fun y17 => M.bind (pushM s7 y17) fun sums9 => M.ok sums9
def f_running_sums_l1 (counts1 : (List Int)) : ((List Int)) → Int → M ((List Int)) := fun s7 strand8 => M.bind (M.bind (getM s7 (-(1 : Int))) fun y15 => M.bind (getM counts1 strand8) fun y16 => M.ok (y15 + y16)) fun y17 => M.bind (pushM s7 y17) fun sums9 => M.ok sums9
theorem eq_f_running_sums_l1 (counts1 : (List Int)) : r_f_running_sums_l1 counts1 = f_running_sums_l1 counts1 := by funext s7 strand8; first | (simp only [r_f_running_sums_l1, f_running_sums_l1, M.bind_assoc, M.bok]; done) | (simp only [r_f_running_sums_l1, f_running_sums_l1, M.bind_assoc, M.bok]; rfl)
def q_running_sums (counts1 : (List Int)) (line2 : (List Int)) : M (List Int) := M.bind (M.bind (M.ok (0 : Int)) fun y4 => M.bind (M.ok []) fun y5 => M.ok (y4 :: y5)) fun sums3 => M.bind (M.ok line2) fun xs18 => M.bind (forM (r_f_running_sums_l1 counts1) sums3 xs18) fun (s19 : ((List Int))) => M.ok s19
def f_running_sums (counts1 : (List Int)) (line2 : (List Int)) : M (List Int) := let sums3 : (List Int) := [(0 : Int)]; M.bind (forM (f_running_sums_l1 counts1) sums3 line2) fun (s19 : ((List Int))) => M.ok s19
def r_running_sums (d : ((List Int) × (List Int) × Unit)) : M (List Int) := q_running_sums d.1 d.2.1
def c_running_sums (d : ((List Int) × (List Int) × Unit)) : M (List Int) := f_running_sums d.1 d.2.1
theorem eq_running_sums : r_running_sums = c_running_sums := by funext d; first | (simp only [r_running_sums, c_running_sums, q_running_sums, f_running_sums, M.bind_assoc, M.bok, eq_f_running_sums_l1]; done) | (simp only [r_running_sums, c_running_sums, q_running_sums, f_running_sums, M.bind_assoc, M.bok, eq_f_running_sums_l1]; rfl)
theorem bb_running_sums {p : Pr} (X : Facts p) {g : G} (ok : OkS p (defScope s_running_sums) N_running_sums V_running_sums G_running_sums 0 g) (hX : g.LX = List.replicate N_running_sums.length sAny) (counts1 : (List Int)) (line2 : (List Int)) : EvB g [(sV false (tList tInt) counts1), (sV false (tList tInt) line2), sAny, sAny] (defBody s_running_sums) (fun r => .rtL false tInt r) (q_running_sums counts1 line2) := (evb_own ok (i := 2) (j := 2) rfl rfl (wkX hX rfl) .sh (evl_lstN (n := 1) (lnS ln0) (by decide) (evs_cons (ev_int (md := .sh)) evs_nil)) fun sums3 => (evb_for (LF := (fun (s7 : ((List Int))) => [(sV false (tList tInt) counts1), (sV false (tList tInt) line2), (sOwn false tInt s7), sAny])) (s0 := sums3) ok (wkX hX rfl) (evi_seq ok.toOk sq_l (ev_vsh ok.toOk (i := 1) (j := 1) rfl rfl rfl)) (Wk.s (Wk.s (Wk.s (Wk.s Wk.n)))) (fun _ => evg_name ok (i := 3) (j := 3) rfl rfl) (fun s7 strand8 => (evb_append ok (wkX hX rfl) (i := 2) (j := 2) rfl rfl rfl .sh (ev_borrow (i := 2) (.inl flInt) rfl (ev_add (md' := .sh) ok.toOk (ev_ixQ ok.toOk sq_l (ev_vsh ok.toOk (i := 2) (j := 2) rfl rfl rfl) (ev_neg (md' := .sh) ok.toOk (ev_int (md := .sh)))) (ev_ixQ ok.toOk sq_l (ev_vsh ok.toOk (i := 0) (j := 0) rfl rfl rfl) (ev_vsh ok.toOk (i := 3) (j := 3) rfl rfl rfl)))) fun sums9 => (evb_go (by rfl) (Wk.s (Wk.s (Wk.s (Wk.a Wk.n))))))) fun s19 => (evb_retOwn ok.toOk (i := 2) (j := 2) rfl rfl rfl (.inl rfl) (by rfl))))
theorem b_running_sums {p : Pr} (X : Facts p) : Body p s_running_sums N_running_sums V_running_sums G_running_sums 0 (fun (d : ((List Int) × (List Int) × Unit)) => [(sV false (tList tInt) d.1), (sV false (tList tInt) d.2.1), sAny, sAny]) (fun r => .rtL false tInt r) r_running_sums := fun g ok hX d => bb_running_sums X ok hX d.1 d.2.1
theorem fn_running_sums {p : Pr} (X : Facts p) : Fn p 1 "running_sums" ["counts", "line"] (spM p (aCons (tList tInt) (aCons (tList tInt) aNil)) (fun r => .rtL false tInt r) c_running_sums) := by
  obtain ⟨f, fd, hF, hm⟩ := X.d_running_sums
  exact ⟨f, fd, eq_running_sums ▸ fn_rtL (m := 2) hF sc_running_sums (.cons (.cons .nil)) rfl rfl (b_running_sums X), hm, hF.kp, hF.bindsN fun _ _ _ _ _ _ us hl => match us, hl with | [_, _], _ => rfl⟩
/-! ### tops_of -/
abbrev s_tops_of : Stmt := topS 23
abbrev N_tops_of : List Str := ["cloth", "ends", "picks", "counts", "end_sums", "pick_sums", "found", "many", "more"]
abbrev V_tops_of : List Str := ["cloth", "ends", "picks", "counts", "end_sums", "pick_sums", "found", "many", "more"]
abbrev G_tops_of : List Str := ["measured", "scores_of", "by_count", "running_sums", "range"]
theorem sc_tops_of : Sc s_tops_of N_tops_of V_tops_of ["cloth"] G_tops_of := ⟨⟨rfl, rfl, rfl, by decide +kernel, rfl, by decide +kernel, by decide +kernel⟩, by decide +kernel, by decide +kernel, by decide +kernel⟩
def r_f_tops_of_l1 (t5 : (Int × Int × Unit)) (endsums10 : (List Int)) (picksums26 : (List Int)) (many49 : Int) : ((List (Int × Int × Unit))) → Int → M ((List (Int × Int × Unit))) := fun s53 more54 => M.bind (M.bind (M.bind (M.bind (M.ok endsums10) fun y55 => M.bind (M.ok many49) fun y56 => getM y55 y56) fun y59 => M.bind (M.bind (M.ok picksums26) fun y57 => M.bind (M.ok more54) fun y58 => getM y57 y58) fun y60 => M.ok (y59 + y60)) fun y71 => M.bind (M.bind (M.bind (M.bind (M.ok many49) fun y61 => M.bind (M.ok t5.2.1) fun y62 => mulM y61 y62) fun y65 => M.bind (M.bind (M.ok more54) fun y63 => M.bind (M.ok t5.1) fun y64 => mulM y63 y64) fun y66 => M.ok (y65 + y66)) fun y69 => M.bind (M.bind (M.ok many49) fun y67 => M.bind (M.ok more54) fun y68 => mulM y67 y68) fun y70 => M.ok (y69 - y70)) fun y72 => M.ok (decide (y71 = y72))) fun c73 => if c73 = true then M.bind (M.bind (M.ok many49) fun y77 => M.bind (M.bind (M.ok more54) fun y75 => M.bind (M.ok ()) fun y76 => M.ok (y75, y76)) fun y78 => M.ok (y77, y78)) fun y81 => M.bind (pushM s53 y81) fun found74 => M.ok found74 else M.ok s53
def f_tops_of_l1 (t5 : (Int × Int × Unit)) (endsums10 : (List Int)) (picksums26 : (List Int)) (many49 : Int) : ((List (Int × Int × Unit))) → Int → M ((List (Int × Int × Unit))) := fun s53 more54 => M.bind (M.bind (M.bind (getM endsums10 many49) fun y59 => M.bind (getM picksums26 more54) fun y60 => M.ok (y59 + y60)) fun y71 => M.bind (M.bind (M.bind (mulM many49 t5.2.1) fun y65 => M.bind (mulM more54 t5.1) fun y66 => M.ok (y65 + y66)) fun y69 => M.bind (mulM many49 more54) fun y70 => M.ok (y69 - y70)) fun y72 => M.ok (decide (y71 = y72))) fun c82 => if c82 = true then M.bind (pushM s53 (many49, more54, ())) fun found74 => M.ok found74 else M.ok s53
theorem eq_f_tops_of_l1 (t5 : (Int × Int × Unit)) (endsums10 : (List Int)) (picksums26 : (List Int)) (many49 : Int) : r_f_tops_of_l1 t5 endsums10 picksums26 many49 = f_tops_of_l1 t5 endsums10 picksums26 many49 := by funext s53 more54; first | (simp only [r_f_tops_of_l1, f_tops_of_l1, M.bind_assoc, M.bok, c_by_count, c_measured, c_running_sums, c_scores_of]; done) | (simp only [r_f_tops_of_l1, f_tops_of_l1, M.bind_assoc, M.bok, c_by_count, c_measured, c_running_sums, c_scores_of]; rfl)
def r_f_tops_of_l2 (t5 : (Int × Int × Unit)) (endsums10 : (List Int)) (picksums26 : (List Int)) : ((List (Int × Int × Unit))) → Int → M ((List (Int × Int × Unit))) := fun s48 many49 => M.bind (M.bind (M.bind (M.ok t5.2.1) fun y50 => M.bind (M.ok (1 : Int)) fun y51 => M.ok (y50 + y51)) fun y52 => rangeM 0 y52) fun xs83 => M.bind (forM (r_f_tops_of_l1 t5 endsums10 picksums26 many49) s48 xs83) fun (s84 : ((List (Int × Int × Unit)))) => M.ok s84
def f_tops_of_l2 (t5 : (Int × Int × Unit)) (endsums10 : (List Int)) (picksums26 : (List Int)) : ((List (Int × Int × Unit))) → Int → M ((List (Int × Int × Unit))) := fun s48 many49 => M.bind (rangeM 0 (t5.2.1 + (1 : Int))) fun xs83 => M.bind (forM (f_tops_of_l1 t5 endsums10 picksums26 many49) s48 xs83) fun (s84 : ((List (Int × Int × Unit)))) => M.ok s84
theorem eq_f_tops_of_l2 (t5 : (Int × Int × Unit)) (endsums10 : (List Int)) (picksums26 : (List Int)) : r_f_tops_of_l2 t5 endsums10 picksums26 = f_tops_of_l2 t5 endsums10 picksums26 := by funext s48 many49; first | (simp only [r_f_tops_of_l2, f_tops_of_l2, M.bind_assoc, M.bok, eq_f_tops_of_l1, c_by_count, c_measured, c_running_sums, c_scores_of]; done) | (simp only [r_f_tops_of_l2, f_tops_of_l2, M.bind_assoc, M.bok, eq_f_tops_of_l1, c_by_count, c_measured, c_running_sums, c_scores_of]; rfl)
def q_tops_of (cloth1 : (List Tx)) : M (List (Int × Int × Unit)) := M.bind (M.bind (M.bind (M.ok cloth1) fun y2 => M.bind (M.ok ()) fun y3 => M.ok (y2, y3)) c_measured) fun t5 => M.bind (M.bind (M.bind (M.ok cloth1) fun y7 => M.bind (M.ok ()) fun y8 => M.ok (y7, y8)) c_scores_of) fun counts6 => M.bind (M.bind (M.bind (M.ok counts6) fun y22 => M.bind (M.bind (M.bind (M.bind (M.ok counts6) fun y15 => M.bind (M.bind (M.ok (0 : Int)) fun y13 => M.bind (M.bind (M.ok t5.1) fun y11 => M.bind (M.ok ()) fun y12 => M.ok (y11, y12)) fun y14 => M.ok (y13, y14)) fun y16 => M.ok (y15, y16)) c_by_count) fun y20 => M.bind (M.ok ()) fun y21 => M.ok (y20, y21)) fun y23 => M.ok (y22, y23)) c_running_sums) fun endsums10 => M.bind (M.bind (M.bind (M.ok counts6) fun y40 => M.bind (M.bind (M.bind (M.bind (M.ok counts6) fun y33 => M.bind (M.bind (M.ok t5.1) fun y31 => M.bind (M.bind (M.bind (M.ok t5.1) fun y27 => M.bind (M.ok t5.2.1) fun y28 => M.ok (y27 + y28)) fun y29 => M.bind (M.ok ()) fun y30 => M.ok (y29, y30)) fun y32 => M.ok (y31, y32)) fun y34 => M.ok (y33, y34)) c_by_count) fun y38 => M.bind (M.ok ()) fun y39 => M.ok (y38, y39)) fun y41 => M.ok (y40, y41)) c_running_sums) fun picksums26 => M.bind (M.ok []) fun found44 => M.bind (M.bind (M.bind (M.ok t5.1) fun y45 => M.bind (M.ok (1 : Int)) fun y46 => M.ok (y45 + y46)) fun y47 => rangeM 0 y47) fun xs85 => M.bind (forM (r_f_tops_of_l2 t5 endsums10 picksums26) found44 xs85) fun (s86 : ((List (Int × Int × Unit)))) => M.ok s86
def f_tops_of (cloth1 : (List Tx)) : M (List (Int × Int × Unit)) := M.bind (f_measured cloth1) fun t5 => M.bind (f_scores_of cloth1) fun counts6 => M.bind (M.bind (f_by_count counts6 (0 : Int) t5.1) fun y25 => f_running_sums counts6 y25) fun endsums10 => M.bind (M.bind (f_by_count counts6 t5.1 (t5.1 + t5.2.1)) fun y43 => f_running_sums counts6 y43) fun picksums26 => let found44 : (List (Int × Int × Unit)) := []; M.bind (rangeM 0 (t5.1 + (1 : Int))) fun xs85 => M.bind (forM (f_tops_of_l2 t5 endsums10 picksums26) found44 xs85) fun (s86 : ((List (Int × Int × Unit)))) => M.ok s86
def r_tops_of (d : ((List Tx) × Unit)) : M (List (Int × Int × Unit)) := q_tops_of d.1
def c_tops_of (d : ((List Tx) × Unit)) : M (List (Int × Int × Unit)) := f_tops_of d.1
theorem eq_tops_of : r_tops_of = c_tops_of := by funext d; first | (simp only [r_tops_of, c_tops_of, q_tops_of, f_tops_of, M.bind_assoc, M.bok, eq_f_tops_of_l1, eq_f_tops_of_l2, c_by_count, c_measured, c_running_sums, c_scores_of]; done) | (simp only [r_tops_of, c_tops_of, q_tops_of, f_tops_of, M.bind_assoc, M.bok, eq_f_tops_of_l1, eq_f_tops_of_l2, c_by_count, c_measured, c_running_sums, c_scores_of]; rfl)
theorem bb_tops_of {p : Pr} (X : Facts p) {g : G} (ok : OkS p (defScope s_tops_of) N_tops_of V_tops_of G_tops_of 2 g) (hX : g.LX = List.replicate N_tops_of.length sAny) (cloth1 : (List Tx)) : EvB g [(sV false (tList tStr) cloth1), sAny, sAny, sAny, sAny, sAny, sAny, sAny, sAny] (defBody s_tops_of) (fun r => .rtL false (tTup (aCons tInt (aCons tInt aNil))) r) (q_tops_of cloth1) := (evb_asg ok (wkX hX rfl) (ev_call (md' := .sh) ok.toOk (fn_measured X) (by decide) (j := 0) rfl .sh (eva_cons (md := .sh) (ev_vsh ok.toOk (i := 0) (j := 0) rfl rfl rfl) eva_nil)) (evg_tup ok.toOk (lenS (lenS len0)) (evgs_cons (evg_name ok (i := 1) (j := 1) rfl rfl) fun _ => (evgs_cons (evg_name ok (i := 2) (j := 2) rfl rfl) fun _ => evgs_nil))) fun t5 => (evb_set ok (i := 3) (j := 3) rfl rfl (wkX hX rfl) .sh (ev_ofL (evl_call (md' := .sh) ok.toOk (fn_scores_of X) (by decide) (j := 1) rfl .sh (eva_cons (md := .sh) (ev_vsh ok.toOk (i := 0) (j := 0) rfl rfl rfl) eva_nil))) fun counts6 => (evb_set ok (i := 4) (j := 4) rfl rfl (wkX hX rfl) .sh (ev_ofL (evl_call (md' := .sh) ok.toOk (fn_running_sums X) (by decide) (j := 3) rfl .sh (eva_cons (md := .sh) (ev_vsh ok.toOk (i := 3) (j := 3) rfl rfl rfl) (eva_cons (md := .sh) (ev_ofL (evl_call (md' := .sh) ok.toOk (fn_by_count X) (by decide) (j := 2) rfl .sh (eva_cons (md := .sh) (ev_vsh ok.toOk (i := 3) (j := 3) rfl rfl rfl) (eva_cons (md := .sh) (ev_int (md := .sh)) (eva_cons (md := .sh) (ev_vsh ok.toOk (i := 1) (j := 1) rfl rfl rfl) eva_nil))))) eva_nil)))) fun endsums10 => (evb_set ok (i := 5) (j := 5) rfl rfl (wkX hX rfl) .sh (ev_ofL (evl_call (md' := .sh) ok.toOk (fn_running_sums X) (by decide) (j := 3) rfl .sh (eva_cons (md := .sh) (ev_vsh ok.toOk (i := 3) (j := 3) rfl rfl rfl) (eva_cons (md := .sh) (ev_ofL (evl_call (md' := .sh) ok.toOk (fn_by_count X) (by decide) (j := 2) rfl .sh (eva_cons (md := .sh) (ev_vsh ok.toOk (i := 3) (j := 3) rfl rfl rfl) (eva_cons (md := .sh) (ev_vsh ok.toOk (i := 1) (j := 1) rfl rfl rfl) (eva_cons (md := .sh) (ev_add (md' := .sh) ok.toOk (ev_vsh ok.toOk (i := 1) (j := 1) rfl rfl rfl) (ev_vsh ok.toOk (i := 2) (j := 2) rfl rfl rfl)) eva_nil))))) eva_nil)))) fun picksums26 => (evb_own ok (i := 6) (j := 6) rfl rfl (wkX hX rfl) .sh (evl_nil (md := .sh) (S := (tTup (aCons tInt (aCons tInt aNil))))) fun found44 => (evb_for (LF := (fun (s48 : ((List (Int × Int × Unit)))) => [(sV false (tList tStr) cloth1), (sV false tInt t5.1), (sV false tInt t5.2.1), (sV false (tList tInt) counts6), (sV false (tList tInt) endsums10), (sV false (tList tInt) picksums26), (sOwn false (tTup (aCons tInt (aCons tInt aNil))) s48), sAny, sAny])) (s0 := found44) ok (wkX hX rfl) (evi_range1 ok.toOk (j := 4) rfl X.g_range (ev_add (md' := .sh) ok.toOk (ev_vsh ok.toOk (i := 1) (j := 1) rfl rfl rfl) (ev_int (md := .sh)))) (Wk.s (Wk.s (Wk.s (Wk.s (Wk.s (Wk.s (Wk.s (Wk.s (Wk.s Wk.n))))))))) (fun _ => evg_name ok (i := 7) (j := 7) rfl rfl) (fun s48 many49 => (evb_for (LF := (fun (s53 : ((List (Int × Int × Unit)))) => [(sV false (tList tStr) cloth1), (sV false tInt t5.1), (sV false tInt t5.2.1), (sV false (tList tInt) counts6), (sV false (tList tInt) endsums10), (sV false (tList tInt) picksums26), (sOwn false (tTup (aCons tInt (aCons tInt aNil))) s53), (sV false tInt many49), sAny])) (s0 := s48) ok (wkX hX rfl) (evi_range1 ok.toOk (j := 4) rfl X.g_range (ev_add (md' := .sh) ok.toOk (ev_vsh ok.toOk (i := 2) (j := 2) rfl rfl rfl) (ev_int (md := .sh)))) (Wk.s (Wk.s (Wk.s (Wk.s (Wk.s (Wk.s (Wk.s (Wk.s (Wk.s Wk.n))))))))) (fun _ => evg_name ok (i := 8) (j := 8) rfl rfl) (fun s53 more54 => (evb_ifl (wkX hX rfl) (evt_c ok.toOk (c_eq s_int) (ev_add (md' := .sh) ok.toOk (ev_ixQ ok.toOk sq_l (ev_vsh ok.toOk (i := 4) (j := 4) rfl rfl rfl) (ev_vsh ok.toOk (i := 7) (j := 7) rfl rfl rfl)) (ev_ixQ ok.toOk sq_l (ev_vsh ok.toOk (i := 5) (j := 5) rfl rfl rfl) (ev_vsh ok.toOk (i := 8) (j := 8) rfl rfl rfl))) (ev_subt (md' := .sh) ok.toOk (ev_add (md' := .sh) ok.toOk (ev_mul (md' := .sh) ok.toOk (ev_vsh ok.toOk (i := 7) (j := 7) rfl rfl rfl) (ev_vsh ok.toOk (i := 2) (j := 2) rfl rfl rfl)) (ev_mul (md' := .sh) ok.toOk (ev_vsh ok.toOk (i := 8) (j := 8) rfl rfl rfl) (ev_vsh ok.toOk (i := 1) (j := 1) rfl rfl rfl))) (ev_mul (md' := .sh) ok.toOk (ev_vsh ok.toOk (i := 7) (j := 7) rfl rfl rfl) (ev_vsh ok.toOk (i := 8) (j := 8) rfl rfl rfl)))) (evb_append ok (wkX hX rfl) (i := 6) (j := 6) rfl rfl rfl .sh (ev_tup (fun d vs R h => by rw [(lenS (lenS len0)) h]; decide) (eva_cons (ev_vsh ok.toOk (i := 7) (j := 7) rfl rfl rfl) (eva_cons (ev_vsh ok.toOk (i := 8) (j := 8) rfl rfl rfl) eva_nil))) fun found74 => (evb_go (by rfl) (Wk.s (Wk.s (Wk.s (Wk.s (Wk.s (Wk.s (Wk.s (Wk.s (Wk.a Wk.n))))))))))) (evb_go (by rfl) (Wk.s (Wk.s (Wk.s (Wk.s (Wk.s (Wk.s (Wk.s (Wk.s (Wk.a Wk.n)))))))))))) fun s84 => (evb_go (by rfl) (Wk.s (Wk.s (Wk.s (Wk.s (Wk.s (Wk.s (Wk.s (Wk.a (Wk.s Wk.n)))))))))))) fun s86 => (evb_retOwn ok.toOk (i := 6) (j := 6) rfl rfl rfl (.inl rfl) (by rfl))))))))
theorem b_tops_of {p : Pr} (X : Facts p) : Body p s_tops_of N_tops_of V_tops_of G_tops_of 2 (fun (d : ((List Tx) × Unit)) => [(sV false (tList tStr) d.1), sAny, sAny, sAny, sAny, sAny, sAny, sAny, sAny]) (fun r => .rtL false (tTup (aCons tInt (aCons tInt aNil))) r) r_tops_of := fun g ok hX d => bb_tops_of X ok hX d.1
theorem fn_tops_of {p : Pr} (X : Facts p) : Fn p 3 "tops_of" ["cloth"] (spM p (aCons (tList tStr) aNil) (fun r => .rtL false (tTup (aCons tInt (aCons tInt aNil))) r) c_tops_of) := by
  obtain ⟨f, fd, hF, hm⟩ := X.d_tops_of
  exact ⟨f, fd, eq_tops_of ▸ fn_rtL (m := 8) hF sc_tops_of (.cons .nil) rfl rfl (b_tops_of X), hm, hF.kp, hF.bindsN fun _ _ _ _ _ _ us hl => match us, hl with | [_], _ => rfl⟩
/-! ### layers_of -/
abbrev s_layers_of : Stmt := topS 24
abbrev N_layers_of : List Str := ["cloth", "ends", "picks", "counts", "end_line", "pick_line", "found", "done", "reach", "layer"]
abbrev V_layers_of : List Str := ["cloth", "ends", "picks", "counts", "end_line", "pick_line", "found", "done", "reach", "layer"]
abbrev G_layers_of : List Str := ["measured", "scores_of", "by_count", "tops_of", "sorted"]
theorem sc_layers_of : Sc s_layers_of N_layers_of V_layers_of ["cloth"] G_layers_of := ⟨⟨rfl, rfl, rfl, by decide +kernel, rfl, by decide +kernel, by decide +kernel⟩, by decide +kernel, by decide +kernel, by decide +kernel⟩
def r_f_layers_of_l1 (endline10 : (List Int)) (pickline20 : (List Int)) : ((List (List Int)) × (Int × Int × Unit)) → (Int × Int × Unit) → M ((List (List Int)) × (Int × Int × Unit)) := fun s47 reach48 => M.bind (M.bind (M.bind (M.ok endline10) fun y54 => M.bind (M.bind (M.bind (M.ok s47.2) fun y50 => M.ok y50.1) fun y51 => M.ok (some y51)) fun y55 => M.bind (M.bind (M.bind (M.ok reach48) fun y52 => M.ok y52.1) fun y53 => M.ok (some y53)) fun y56 => M.ok (cutL y54 y55 y56)) fun y64 => M.bind (M.bind (M.ok pickline20) fun y61 => M.bind (M.bind (M.bind (M.ok s47.2) fun y57 => M.ok y57.2.1) fun y58 => M.ok (some y58)) fun y62 => M.bind (M.bind (M.bind (M.ok reach48) fun y59 => M.ok y59.2.1) fun y60 => M.ok (some y60)) fun y63 => M.ok (cutL y61 y62 y63)) fun y65 => catL y64 y65) fun layer49 => M.bind (M.bind (M.ok layer49) fun y67 => M.ok (sortI y67)) fun y68 => M.bind (pushM s47.1 y68) fun found66 => M.bind (M.ok reach48) fun done69 => M.ok (found66, done69)
def f_layers_of_l1 (endline10 : (List Int)) (pickline20 : (List Int)) : ((List (List Int)) × (Int × Int × Unit)) → (Int × Int × Unit) → M ((List (List Int)) × (Int × Int × Unit)) := fun s47 reach48 => M.bind (catL (cutL endline10 (some s47.2.1) (some reach48.1)) (cutL pickline20 (some s47.2.2.1) (some reach48.2.1))) fun layer49 => M.bind (pushM s47.1 (sortI layer49)) fun found66 => let done69 : (Int × Int × Unit) := reach48; M.ok (found66, done69)
theorem eq_f_layers_of_l1 (endline10 : (List Int)) (pickline20 : (List Int)) : r_f_layers_of_l1 endline10 pickline20 = f_layers_of_l1 endline10 pickline20 := by funext s47 reach48; first | (simp only [r_f_layers_of_l1, f_layers_of_l1, M.bind_assoc, M.bok, c_by_count, c_measured, c_scores_of, c_tops_of]; done) | (simp only [r_f_layers_of_l1, f_layers_of_l1, M.bind_assoc, M.bok, c_by_count, c_measured, c_scores_of, c_tops_of]; rfl)
def q_layers_of (cloth1 : (List Tx)) : M (List (List Int)) := M.bind (M.bind (M.bind (M.ok cloth1) fun y2 => M.bind (M.ok ()) fun y3 => M.ok (y2, y3)) c_measured) fun t5 => M.bind (M.bind (M.bind (M.ok cloth1) fun y7 => M.bind (M.ok ()) fun y8 => M.ok (y7, y8)) c_scores_of) fun counts6 => M.bind (M.bind (M.bind (M.ok counts6) fun y15 => M.bind (M.bind (M.ok (0 : Int)) fun y13 => M.bind (M.bind (M.ok t5.1) fun y11 => M.bind (M.ok ()) fun y12 => M.ok (y11, y12)) fun y14 => M.ok (y13, y14)) fun y16 => M.ok (y15, y16)) c_by_count) fun endline10 => M.bind (M.bind (M.bind (M.ok counts6) fun y27 => M.bind (M.bind (M.ok t5.1) fun y25 => M.bind (M.bind (M.bind (M.ok t5.1) fun y21 => M.bind (M.ok t5.2.1) fun y22 => M.ok (y21 + y22)) fun y23 => M.bind (M.ok ()) fun y24 => M.ok (y23, y24)) fun y26 => M.ok (y25, y26)) fun y28 => M.ok (y27, y28)) c_by_count) fun pickline20 => M.bind (M.ok []) fun found32 => M.bind (M.bind (M.ok (0 : Int)) fun y36 => M.bind (M.bind (M.ok (0 : Int)) fun y34 => M.bind (M.ok ()) fun y35 => M.ok (y34, y35)) fun y37 => M.ok (y36, y37)) fun done33 => M.bind (M.bind (M.bind (M.bind (M.ok cloth1) fun y40 => M.bind (M.ok ()) fun y41 => M.ok (y40, y41)) c_tops_of) fun y44 => M.bind (M.bind (M.ok (1 : Int)) fun y43 => M.ok (some y43)) fun y45 => M.bind (M.ok (none : Option Int)) fun y46 => M.ok (cutL y44 y45 y46)) fun xs70 => M.bind (forM (r_f_layers_of_l1 endline10 pickline20) (found32, done33) xs70) fun (s71 : ((List (List Int)) × (Int × Int × Unit))) => M.ok s71.1
def f_layers_of (cloth1 : (List Tx)) : M (List (List Int)) := M.bind (f_measured cloth1) fun t5 => M.bind (f_scores_of cloth1) fun counts6 => M.bind (f_by_count counts6 (0 : Int) t5.1) fun endline10 => M.bind (f_by_count counts6 t5.1 (t5.1 + t5.2.1)) fun pickline20 => let found32 : (List (List Int)) := []; let done33 : (Int × Int × Unit) := ((0 : Int), (0 : Int), ()); M.bind (M.bind (f_tops_of cloth1) fun y44 => M.ok (cutL y44 (some (1 : Int)) none)) fun xs70 => M.bind (forM (f_layers_of_l1 endline10 pickline20) (found32, done33) xs70) fun (s71 : ((List (List Int)) × (Int × Int × Unit))) => M.ok s71.1
def r_layers_of (d : ((List Tx) × Unit)) : M (List (List Int)) := q_layers_of d.1
def c_layers_of (d : ((List Tx) × Unit)) : M (List (List Int)) := f_layers_of d.1
theorem eq_layers_of : r_layers_of = c_layers_of := by funext d; first | (simp only [r_layers_of, c_layers_of, q_layers_of, f_layers_of, M.bind_assoc, M.bok, eq_f_layers_of_l1, c_by_count, c_measured, c_scores_of, c_tops_of]; done) | (simp only [r_layers_of, c_layers_of, q_layers_of, f_layers_of, M.bind_assoc, M.bok, eq_f_layers_of_l1, c_by_count, c_measured, c_scores_of, c_tops_of]; rfl)
theorem bb_layers_of {p : Pr} (X : Facts p) {g : G} (ok : OkS p (defScope s_layers_of) N_layers_of V_layers_of G_layers_of 3 g) (hX : g.LX = List.replicate N_layers_of.length sAny) (cloth1 : (List Tx)) : EvB g [(sV false (tList tStr) cloth1), sAny, sAny, sAny, sAny, sAny, sAny, sAny, sAny, sAny] (defBody s_layers_of) (fun r => .rtL false (tList tInt) r) (q_layers_of cloth1) := (evb_asg ok (wkX hX rfl) (ev_call (md' := .sh) ok.toOk (fn_measured X) (by decide) (j := 0) rfl .sh (eva_cons (md := .sh) (ev_vsh ok.toOk (i := 0) (j := 0) rfl rfl rfl) eva_nil)) (evg_tup ok.toOk (lenS (lenS len0)) (evgs_cons (evg_name ok (i := 1) (j := 1) rfl rfl) fun _ => (evgs_cons (evg_name ok (i := 2) (j := 2) rfl rfl) fun _ => evgs_nil))) fun t5 => (evb_set ok (i := 3) (j := 3) rfl rfl (wkX hX rfl) .sh (ev_ofL (evl_call (md' := .sh) ok.toOk (fn_scores_of X) (by decide) (j := 1) rfl .sh (eva_cons (md := .sh) (ev_vsh ok.toOk (i := 0) (j := 0) rfl rfl rfl) eva_nil))) fun counts6 => (evb_set ok (i := 4) (j := 4) rfl rfl (wkX hX rfl) .sh (ev_ofL (evl_call (md' := .sh) ok.toOk (fn_by_count X) (by decide) (j := 2) rfl .sh (eva_cons (md := .sh) (ev_vsh ok.toOk (i := 3) (j := 3) rfl rfl rfl) (eva_cons (md := .sh) (ev_int (md := .sh)) (eva_cons (md := .sh) (ev_vsh ok.toOk (i := 1) (j := 1) rfl rfl rfl) eva_nil))))) fun endline10 => (evb_set ok (i := 5) (j := 5) rfl rfl (wkX hX rfl) .sh (ev_ofL (evl_call (md' := .sh) ok.toOk (fn_by_count X) (by decide) (j := 2) rfl .sh (eva_cons (md := .sh) (ev_vsh ok.toOk (i := 3) (j := 3) rfl rfl rfl) (eva_cons (md := .sh) (ev_vsh ok.toOk (i := 1) (j := 1) rfl rfl rfl) (eva_cons (md := .sh) (ev_add (md' := .sh) ok.toOk (ev_vsh ok.toOk (i := 1) (j := 1) rfl rfl rfl) (ev_vsh ok.toOk (i := 2) (j := 2) rfl rfl rfl)) eva_nil))))) fun pickline20 => (evb_own ok (i := 6) (j := 6) rfl rfl (wkX hX rfl) .sh (evl_nil (md := .sh) (S := (tList tInt))) fun found32 => (evb_set ok (i := 7) (j := 7) rfl rfl (wkX hX rfl) .sh (ev_tup (fun d vs R h => by rw [(lenS (lenS len0)) h]; decide) (eva_cons (ev_int (md := .sh)) (eva_cons (ev_int (md := .sh)) eva_nil))) fun done33 => (evb_for (LF := (fun (s47 : ((List (List Int)) × (Int × Int × Unit))) => [(sV false (tList tStr) cloth1), (sV false tInt t5.1), (sV false tInt t5.2.1), (sV false (tList tInt) counts6), (sV false (tList tInt) endline10), (sV false (tList tInt) pickline20), (sOwn false (tList tInt) s47.1), (sV false (tTup (aCons tInt (aCons tInt aNil))) s47.2), sAny, sAny])) (s0 := (found32, done33)) ok (wkX hX rfl) (evi_seq ok.toOk sq_l (ev_ofL (evl_slQ (md := .sh) ok.toOk sq_l (ev_ofL (evl_call (md' := .sh) ok.toOk (fn_tops_of X) (by decide) (j := 3) rfl .sh (eva_cons (md := .sh) (ev_vsh ok.toOk (i := 0) (j := 0) rfl rfl rfl) eva_nil))) (evo_some (ev_int (md := .sh))) evo_none))) (Wk.s (Wk.s (Wk.s (Wk.s (Wk.s (Wk.s (Wk.s (Wk.s (Wk.s (Wk.s Wk.n)))))))))) (fun _ => evg_name ok (i := 8) (j := 8) rfl rfl) (fun s47 reach48 => (evb_set ok (i := 9) (j := 9) rfl rfl (wkX hX rfl) .sh (ev_ofL (evl_cat (md := .sh) ok.toOk (ev_ofL (evl_slQ (md := .sh) ok.toOk sq_l (ev_vsh ok.toOk (i := 4) (j := 4) rfl rfl rfl) (evo_some (ev_ixA (n := 0) ok.toOk .z (ev_vsh ok.toOk (i := 7) (j := 7) rfl rfl rfl) (ev_int (md := .sh)))) (evo_some (ev_ixA (n := 0) ok.toOk .z (ev_vsh ok.toOk (i := 8) (j := 8) rfl rfl rfl) (ev_int (md := .sh)))))) (ev_ofL (evl_slQ (md := .sh) ok.toOk sq_l (ev_vsh ok.toOk (i := 5) (j := 5) rfl rfl rfl) (evo_some (ev_ixA (n := 1) ok.toOk (.s .z) (ev_vsh ok.toOk (i := 7) (j := 7) rfl rfl rfl) (ev_int (md := .sh)))) (evo_some (ev_ixA (n := 1) ok.toOk (.s .z) (ev_vsh ok.toOk (i := 8) (j := 8) rfl rfl rfl) (ev_int (md := .sh)))))))) fun layer49 => (evb_append ok (wkX hX rfl) (i := 6) (j := 6) rfl rfl rfl .sh (ev_ofL (evl_sortI (md' := .sh) ok.toOk (j := 4) rfl X.g_sorted (ev_vsh ok.toOk (i := 9) (j := 9) rfl rfl rfl))) fun found66 => (evb_set ok (i := 7) (j := 7) rfl rfl (wkX hX rfl) .sh (ev_vsh ok.toOk (i := 8) (j := 8) rfl rfl rfl) fun done69 => (evb_go (by rfl) (Wk.s (Wk.s (Wk.s (Wk.s (Wk.s (Wk.s (Wk.s (Wk.s (Wk.a (Wk.a Wk.n))))))))))))))) fun s71 => (evb_retOwn ok.toOk (i := 6) (j := 6) rfl rfl rfl (.inl rfl) (by rfl)))))))))
theorem b_layers_of {p : Pr} (X : Facts p) : Body p s_layers_of N_layers_of V_layers_of G_layers_of 3 (fun (d : ((List Tx) × Unit)) => [(sV false (tList tStr) d.1), sAny, sAny, sAny, sAny, sAny, sAny, sAny, sAny, sAny]) (fun r => .rtL false (tList tInt) r) r_layers_of := fun g ok hX d => bb_layers_of X ok hX d.1
theorem fn_layers_of {p : Pr} (X : Facts p) : Fn p 4 "layers_of" ["cloth"] (spM p (aCons (tList tStr) aNil) (fun r => .rtL false (tList tInt) r) c_layers_of) := by
  obtain ⟨f, fd, hF, hm⟩ := X.d_layers_of
  exact ⟨f, fd, eq_layers_of ▸ fn_rtL (m := 9) hF sc_layers_of (.cons .nil) rfl rfl (b_layers_of X), hm, hF.kp, hF.bindsN fun _ _ _ _ _ _ us hl => match us, hl with | [_], _ => rfl⟩
/-! ### row_cut -/
abbrev s_row_cut : Stmt := topS 33
abbrev N_row_cut : List Str := ["row", "ends", "end"]
abbrev V_row_cut : List Str := ["row", "ends"]
abbrev G_row_cut : List Str := []
theorem sc_row_cut : Sc s_row_cut N_row_cut V_row_cut ["row", "ends"] G_row_cut := ⟨⟨rfl, rfl, rfl, by decide +kernel, rfl, by decide +kernel, by decide +kernel⟩, by decide +kernel, by decide +kernel, by decide +kernel⟩
def q_row_cut (row1 : Tx) (ends2 : (List Int)) : M Tx := M.bind (M.ok (tx "")) fun y9 => M.bind (M.bind (M.ok ends2) fun xs8 => compM (fun end3 => M.bind (M.ok true) fun c6 => if c6 = true then M.bind (M.bind (M.ok row1) fun y4 => M.bind (M.ok end3) fun y5 => getS y4 y5) fun y7 => M.ok (some y7) else M.ok none) xs8) fun y10 => joinM y9 y10
def f_row_cut (row1 : Tx) (ends2 : (List Int)) : M Tx := M.bind (compM (fun end3 => M.bind (getS row1 end3) fun y7 => M.ok (some y7)) ends2) fun y10 => joinM (tx "") y10
def r_row_cut (d : (Tx × (List Int) × Unit)) : M Tx := q_row_cut d.1 d.2.1
def c_row_cut (d : (Tx × (List Int) × Unit)) : M Tx := f_row_cut d.1 d.2.1
theorem eq_row_cut : r_row_cut = c_row_cut := by funext d; first | (simp only [r_row_cut, c_row_cut, q_row_cut, f_row_cut, M.bind_assoc, M.bok]; done) | (simp only [r_row_cut, c_row_cut, q_row_cut, f_row_cut, M.bind_assoc, M.bok]; rfl)
theorem bb_row_cut {p : Pr} (X : Facts p) {g : G} (ok : OkS p (defScope s_row_cut) N_row_cut V_row_cut G_row_cut 0 g) (hX : g.LX = List.replicate N_row_cut.length sAny) (row1 : Tx) (ends2 : (List Int)) : EvB g [(sV false tStr row1), (sV false (tList tInt) ends2), sAny] (defBody s_row_cut) (fun r => .rt false tStr r) (q_row_cut row1 ends2) := (evb_ret (wkX hX rfl) .sh (by intro _; rfl) (ev_join (md' := .sh) ok.toOk (ev_str (md := .sh) (by decide +kernel)) (ev_ofL (evl_lc (md := .sh) (VV' := ["row", "end"]) (GG' := []) (i := 2) ok.toOk (evi_seq ok.toOk sq_l (ev_vsh ok.toOk (i := 1) (j := 1) rfl rfl rfl)) rfl rfl no_any (by decide +kernel) (by decide +kernel) (by decide +kernel) (by decide +kernel) (fun g' okc end3 => evpts_nil) (fun g' okc end3 => (ev_ixS (md' := .sh) okc (ev_vsh okc (i := 0) (j := 0) rfl rfl rfl) (ev_vsh okc (i := 2) (j := 1) rfl rfl rfl)))))))
theorem b_row_cut {p : Pr} (X : Facts p) : Body p s_row_cut N_row_cut V_row_cut G_row_cut 0 (fun (d : (Tx × (List Int) × Unit)) => [(sV false tStr d.1), (sV false (tList tInt) d.2.1), sAny]) (fun r => .rt false tStr r) r_row_cut := fun g ok hX d => bb_row_cut X ok hX d.1 d.2.1
theorem fn_row_cut {p : Pr} (X : Facts p) : Fn p 1 "row_cut" ["row", "ends"] (spM p (aCons tStr (aCons (tList tInt) aNil)) (fun r => .rt false tStr r) c_row_cut) := by
  obtain ⟨f, fd, hF, hm⟩ := X.d_row_cut
  exact ⟨f, fd, eq_row_cut ▸ fn_rt (m := 1) hF sc_row_cut (.cons (.cons .nil)) rfl rfl (b_row_cut X), hm, hF.kp, hF.bindsN fun _ _ _ _ _ _ us hl => match us, hl with | [_, _], _ => rfl⟩
/-! ### cut_out -/
abbrev s_cut_out : Stmt := topS 34
abbrev N_cut_out : List Str := ["cloth", "ends", "picks", "pick"]
abbrev V_cut_out : List Str := ["cloth", "ends", "picks"]
abbrev G_cut_out : List Str := []
theorem sc_cut_out : Sc s_cut_out N_cut_out V_cut_out ["cloth", "ends", "picks"] G_cut_out := ⟨⟨rfl, rfl, rfl, by decide +kernel, rfl, by decide +kernel, by decide +kernel⟩, by decide +kernel, by decide +kernel, by decide +kernel⟩
def q_cut_out (cloth1 : (List Tx)) (ends2 : (List Int)) (picks3 : (List Int)) : M (List Tx) := M.bind (M.ok picks3) fun xs15 => compM (fun pick4 => M.bind (M.ok true) fun c13 => if c13 = true then M.bind (M.bind (M.bind (M.bind (M.ok cloth1) fun y5 => M.bind (M.ok pick4) fun y6 => getM y5 y6) fun y9 => M.bind (M.bind (M.ok ends2) fun y7 => M.bind (M.ok ()) fun y8 => M.ok (y7, y8)) fun y10 => M.ok (y9, y10)) c_row_cut) fun y14 => M.ok (some y14) else M.ok none) xs15
def f_cut_out (cloth1 : (List Tx)) (ends2 : (List Int)) (picks3 : (List Int)) : M (List Tx) := compM (fun pick4 => M.bind (M.bind (getM cloth1 pick4) fun y11 => f_row_cut y11 ends2) fun y14 => M.ok (some y14)) picks3
def r_cut_out (d : ((List Tx) × (List Int) × (List Int) × Unit)) : M (List Tx) := q_cut_out d.1 d.2.1 d.2.2.1
def c_cut_out (d : ((List Tx) × (List Int) × (List Int) × Unit)) : M (List Tx) := f_cut_out d.1 d.2.1 d.2.2.1
theorem eq_cut_out : r_cut_out = c_cut_out := by funext d; first | (simp only [r_cut_out, c_cut_out, q_cut_out, f_cut_out, M.bind_assoc, M.bok, c_row_cut]; done) | (simp only [r_cut_out, c_cut_out, q_cut_out, f_cut_out, M.bind_assoc, M.bok, c_row_cut]; rfl)
theorem bb_cut_out {p : Pr} (X : Facts p) {g : G} (ok : OkS p (defScope s_cut_out) N_cut_out V_cut_out G_cut_out 1 g) (hX : g.LX = List.replicate N_cut_out.length sAny) (cloth1 : (List Tx)) (ends2 : (List Int)) (picks3 : (List Int)) : EvB g [(sV false (tList tStr) cloth1), (sV false (tList tInt) ends2), (sV false (tList tInt) picks3), sAny] (defBody s_cut_out) (fun r => .rtL false tStr r) (q_cut_out cloth1 ends2 picks3) := (evb_retL (wkX hX rfl) .sh (by intro _; rfl) (evl_lc (md := .sh) (VV' := ["cloth", "pick", "ends"]) (GG' := ["row_cut"]) (i := 3) ok.toOk (evi_seq ok.toOk sq_l (ev_vsh ok.toOk (i := 2) (j := 2) rfl rfl rfl)) rfl rfl no_any (by decide +kernel) (by decide +kernel) (by decide +kernel) (by decide +kernel) (fun g' okc pick4 => evpts_nil) (fun g' okc pick4 => (ev_call (md' := .sh) okc (fn_row_cut X) (by decide) (j := 0) rfl .sh (eva_cons (md := .sh) (ev_ixQ okc sq_l (ev_vsh okc (i := 0) (j := 0) rfl rfl rfl) (ev_vsh okc (i := 3) (j := 1) rfl rfl rfl)) (eva_cons (md := .sh) (ev_vsh okc (i := 1) (j := 2) rfl rfl rfl) eva_nil))))))
theorem b_cut_out {p : Pr} (X : Facts p) : Body p s_cut_out N_cut_out V_cut_out G_cut_out 1 (fun (d : ((List Tx) × (List Int) × (List Int) × Unit)) => [(sV false (tList tStr) d.1), (sV false (tList tInt) d.2.1), (sV false (tList tInt) d.2.2.1), sAny]) (fun r => .rtL false tStr r) r_cut_out := fun g ok hX d => bb_cut_out X ok hX d.1 d.2.1 d.2.2.1
theorem fn_cut_out {p : Pr} (X : Facts p) : Fn p 2 "cut_out" ["cloth", "ends", "picks"] (spM p (aCons (tList tStr) (aCons (tList tInt) (aCons (tList tInt) aNil))) (fun r => .rtL false tStr r) c_cut_out) := by
  obtain ⟨f, fd, hF, hm⟩ := X.d_cut_out
  exact ⟨f, fd, eq_cut_out ▸ fn_rtL (m := 1) hF sc_cut_out (.cons (.cons (.cons .nil))) rfl rfl (b_cut_out X), hm, hF.kp, hF.bindsN fun _ _ _ _ _ _ us hl => match us, hl with | [_, _, _], _ => rfl⟩
/-! ### taken_apart -/
abbrev s_taken_apart : Stmt := topS 35
abbrev N_taken_apart : List Str := ["cloth", "wide", "high", "pieces", "ends", "picks", "layer", "warps", "wefts", "end", "pick", "strand"]
abbrev V_taken_apart : List Str := ["cloth", "wide", "high", "pieces", "ends", "picks", "layer", "warps", "wefts", "end", "pick"]
abbrev G_taken_apart : List Str := ["measured", "layers_of", "len", "cut_out"]
theorem sc_taken_apart : Sc s_taken_apart N_taken_apart V_taken_apart ["cloth"] G_taken_apart := ⟨⟨rfl, rfl, rfl, by decide +kernel, rfl, by decide +kernel, by decide +kernel⟩, by decide +kernel, by decide +kernel, by decide +kernel⟩
def r_f_taken_apart_l1 (s22 : ((List (List Tx)) × (List Int) × (List Int))) : ((List Int)) → Int → M ((List Int)) := fun s40 end41 => M.bind (M.bind (M.ok s22.1) fun y42 => M.ok (y42.length : Int)) fun y43 => M.bind (M.ok end41) fun i44 => M.bind (setM s40 i44 y43) fun ends45 => M.ok ends45
def f_taken_apart_l1 (s22 : ((List (List Tx)) × (List Int) × (List Int))) : ((List Int)) → Int → M ((List Int)) := fun s40 end41 => M.bind (setM s40 end41 (s22.1.length : Int)) fun ends45 => M.ok ends45
theorem eq_f_taken_apart_l1 (s22 : ((List (List Tx)) × (List Int) × (List Int))) : r_f_taken_apart_l1 s22 = f_taken_apart_l1 s22 := by funext s40 end41; first | (simp only [r_f_taken_apart_l1, f_taken_apart_l1, M.bind_assoc, M.bok, c_cut_out, c_layers_of, c_measured]; done) | (simp only [r_f_taken_apart_l1, f_taken_apart_l1, M.bind_assoc, M.bok, c_cut_out, c_layers_of, c_measured]; rfl)
def r_f_taken_apart_l2 (s22 : ((List (List Tx)) × (List Int) × (List Int))) : ((List Int)) → Int → M ((List Int)) := fun s48 pick49 => M.bind (M.bind (M.ok s22.1) fun y50 => M.ok (y50.length : Int)) fun y51 => M.bind (M.ok pick49) fun i52 => M.bind (setM s48 i52 y51) fun picks53 => M.ok picks53
def f_taken_apart_l2 (s22 : ((List (List Tx)) × (List Int) × (List Int))) : ((List Int)) → Int → M ((List Int)) := fun s48 pick49 => M.bind (setM s48 pick49 (s22.1.length : Int)) fun picks53 => M.ok picks53
theorem eq_f_taken_apart_l2 (s22 : ((List (List Tx)) × (List Int) × (List Int))) : r_f_taken_apart_l2 s22 = f_taken_apart_l2 s22 := by funext s48 pick49; first | (simp only [r_f_taken_apart_l2, f_taken_apart_l2, M.bind_assoc, M.bok, eq_f_taken_apart_l1, c_cut_out, c_layers_of, c_measured]; done) | (simp only [r_f_taken_apart_l2, f_taken_apart_l2, M.bind_assoc, M.bok, eq_f_taken_apart_l1, c_cut_out, c_layers_of, c_measured]; rfl)
def r_f_taken_apart_l3 (cloth1 : (List Tx)) (t5 : (Int × Int × Unit)) : ((List (List Tx)) × (List Int) × (List Int)) → (List Int) → M ((List (List Tx)) × (List Int) × (List Int)) := fun s22 layer23 => M.bind (M.bind (M.ok layer23) fun xs30 => compM (fun strand25 => M.bind (M.bind (M.ok strand25) fun y26 => M.bind (M.ok t5.1) fun y27 => M.ok (decide (y26 < y27))) fun c28 => if c28 = true then M.bind (M.ok strand25) fun y29 => M.ok (some y29) else M.ok none) xs30) fun warps24 => M.bind (M.bind (M.ok layer23) fun xs39 => compM (fun strand32 => M.bind (M.bind (M.ok strand32) fun y33 => M.bind (M.ok t5.1) fun y34 => M.ok (decide (y34 ≤ y33))) fun c37 => if c37 = true then M.bind (M.bind (M.ok strand32) fun y35 => M.bind (M.ok t5.1) fun y36 => M.ok (y35 - y36)) fun y38 => M.ok (some y38) else M.ok none) xs39) fun wefts31 => M.bind (M.ok warps24) fun xs46 => M.bind (forM (r_f_taken_apart_l1 s22) s22.2.1 xs46) fun (s47 : ((List Int))) => M.bind (M.ok wefts31) fun xs54 => M.bind (forM (r_f_taken_apart_l2 s22) s22.2.2 xs54) fun (s55 : ((List Int))) => M.bind (M.bind (M.bind (M.ok cloth1) fun y61 => M.bind (M.bind (M.ok warps24) fun y59 => M.bind (M.bind (M.ok wefts31) fun y57 => M.bind (M.ok ()) fun y58 => M.ok (y57, y58)) fun y60 => M.ok (y59, y60)) fun y62 => M.ok (y61, y62)) c_cut_out) fun y66 => M.bind (pushM s22.1 y66) fun pieces56 => M.ok (pieces56, s47, s55)
def f_taken_apart_l3 (cloth1 : (List Tx)) (t5 : (Int × Int × Unit)) : ((List (List Tx)) × (List Int) × (List Int)) → (List Int) → M ((List (List Tx)) × (List Int) × (List Int)) := fun s22 layer23 => M.bind (compM (fun strand25 => if (decide (strand25 < t5.1)) = true then M.ok (some strand25) else M.ok none) layer23) fun warps24 => M.bind (compM (fun strand32 => if (decide (t5.1 ≤ strand32)) = true then M.ok (some (strand32 - t5.1)) else M.ok none) layer23) fun wefts31 => M.bind (forM (f_taken_apart_l1 s22) s22.2.1 warps24) fun (s47 : ((List Int))) => M.bind (forM (f_taken_apart_l2 s22) s22.2.2 wefts31) fun (s55 : ((List Int))) => M.bind (f_cut_out cloth1 warps24 wefts31) fun y66 => M.bind (pushM s22.1 y66) fun pieces56 => M.ok (pieces56, s47, s55)
theorem eq_f_taken_apart_l3 (cloth1 : (List Tx)) (t5 : (Int × Int × Unit)) : r_f_taken_apart_l3 cloth1 t5 = f_taken_apart_l3 cloth1 t5 := by funext s22 layer23; first | (simp only [r_f_taken_apart_l3, f_taken_apart_l3, M.bind_assoc, M.bok, eq_f_taken_apart_l1, eq_f_taken_apart_l2, c_cut_out, c_layers_of, c_measured]; done) | (simp only [r_f_taken_apart_l3, f_taken_apart_l3, M.bind_assoc, M.bok, eq_f_taken_apart_l1, eq_f_taken_apart_l2, c_cut_out, c_layers_of, c_measured]; rfl)
def q_taken_apart (cloth1 : (List Tx)) : M ((List (List Tx)) × (List Int) × (List Int) × Unit) := M.bind (M.bind (M.bind (M.ok cloth1) fun y2 => M.bind (M.ok ()) fun y3 => M.ok (y2, y3)) c_measured) fun t5 => M.bind (M.ok []) fun pieces6 => M.bind (M.bind (M.bind (M.ok (0 : Int)) fun y8 => M.bind (M.ok []) fun y9 => M.ok (y8 :: y9)) fun y11 => M.bind (M.ok t5.1) fun y12 => repM y11 y12) fun ends7 => M.bind (M.bind (M.bind (M.ok (0 : Int)) fun y14 => M.bind (M.ok []) fun y15 => M.ok (y14 :: y15)) fun y17 => M.bind (M.ok t5.2.1) fun y18 => repM y17 y18) fun picks13 => M.bind (M.bind (M.bind (M.ok cloth1) fun y19 => M.bind (M.ok ()) fun y20 => M.ok (y19, y20)) c_layers_of) fun xs67 => M.bind (forM (r_f_taken_apart_l3 cloth1 t5) (pieces6, ends7, picks13) xs67) fun (s68 : ((List (List Tx)) × (List Int) × (List Int))) => (M.bind (M.ok s68.1) fun y73 => M.bind (M.bind (M.ok s68.2.1) fun y71 => M.bind (M.bind (M.ok s68.2.2) fun y69 => M.bind (M.ok ()) fun y70 => M.ok (y69, y70)) fun y72 => M.ok (y71, y72)) fun y74 => M.ok (y73, y74))
def f_taken_apart (cloth1 : (List Tx)) : M ((List (List Tx)) × (List Int) × (List Int) × Unit) := M.bind (f_measured cloth1) fun t5 => let pieces6 : (List (List Tx)) := []; M.bind (repM ([(0 : Int)]) t5.1) fun ends7 => M.bind (repM ([(0 : Int)]) t5.2.1) fun picks13 => M.bind (f_layers_of cloth1) fun xs67 => M.bind (forM (f_taken_apart_l3 cloth1 t5) (pieces6, ends7, picks13) xs67) fun (s68 : ((List (List Tx)) × (List Int) × (List Int))) => M.ok (s68.1, s68.2.1, s68.2.2, ())
def r_taken_apart (d : ((List Tx) × Unit)) : M ((List (List Tx)) × (List Int) × (List Int) × Unit) := q_taken_apart d.1
def c_taken_apart (d : ((List Tx) × Unit)) : M ((List (List Tx)) × (List Int) × (List Int) × Unit) := f_taken_apart d.1
theorem eq_taken_apart : r_taken_apart = c_taken_apart := by funext d; first | (simp only [r_taken_apart, c_taken_apart, q_taken_apart, f_taken_apart, M.bind_assoc, M.bok, eq_f_taken_apart_l1, eq_f_taken_apart_l2, eq_f_taken_apart_l3, c_cut_out, c_layers_of, c_measured]; done) | (simp only [r_taken_apart, c_taken_apart, q_taken_apart, f_taken_apart, M.bind_assoc, M.bok, eq_f_taken_apart_l1, eq_f_taken_apart_l2, eq_f_taken_apart_l3, c_cut_out, c_layers_of, c_measured]; rfl)
theorem bb_taken_apart {p : Pr} (X : Facts p) {g : G} (ok : OkS p (defScope s_taken_apart) N_taken_apart V_taken_apart G_taken_apart 4 g) (hX : g.LX = List.replicate N_taken_apart.length sAny) (cloth1 : (List Tx)) : EvB g [(sV false (tList tStr) cloth1), sAny, sAny, sAny, sAny, sAny, sAny, sAny, sAny, sAny, sAny, sAny] (defBody s_taken_apart) (fun r => .rt false (tTup (aCons (tList (tList tStr)) (aCons (tList tInt) (aCons (tList tInt) aNil)))) r) (q_taken_apart cloth1) := (evb_asg ok (wkX hX rfl) (ev_call (md' := .sh) ok.toOk (fn_measured X) (by decide) (j := 0) rfl .sh (eva_cons (md := .sh) (ev_vsh ok.toOk (i := 0) (j := 0) rfl rfl rfl) eva_nil)) (evg_tup ok.toOk (lenS (lenS len0)) (evgs_cons (evg_name ok (i := 1) (j := 1) rfl rfl) fun _ => (evgs_cons (evg_name ok (i := 2) (j := 2) rfl rfl) fun _ => evgs_nil))) fun t5 => (evb_own ok (i := 3) (j := 3) rfl rfl (wkX hX rfl) .sh (evl_nil (md := .sh) (S := (tList tStr))) fun pieces6 => (evb_own ok (i := 4) (j := 4) rfl rfl (wkX hX rfl) .sh (evl_rep (md := .sh) ok.toOk (evl_lstN (n := 1) (lnS ln0) (by decide) (evs_cons (ev_int (md := .sh)) evs_nil)) (ev_vsh ok.toOk (i := 1) (j := 1) rfl rfl rfl)) fun ends7 => (evb_own ok (i := 5) (j := 5) rfl rfl (wkX hX rfl) .sh (evl_rep (md := .sh) ok.toOk (evl_lstN (n := 1) (lnS ln0) (by decide) (evs_cons (ev_int (md := .sh)) evs_nil)) (ev_vsh ok.toOk (i := 2) (j := 2) rfl rfl rfl)) fun picks13 => (evb_for (LF := (fun (s22 : ((List (List Tx)) × (List Int) × (List Int))) => [(sV false (tList tStr) cloth1), (sV false tInt t5.1), (sV false tInt t5.2.1), (sOwn false (tList tStr) s22.1), (sOwn false tInt s22.2.1), (sOwn false tInt s22.2.2), sAny, sAny, sAny, sAny, sAny, sAny])) (s0 := (pieces6, ends7, picks13)) ok (wkX hX rfl) (evi_seq ok.toOk sq_l (ev_ofL (evl_call (md' := .sh) ok.toOk (fn_layers_of X) (by decide) (j := 1) rfl .sh (eva_cons (md := .sh) (ev_vsh ok.toOk (i := 0) (j := 0) rfl rfl rfl) eva_nil)))) (Wk.s (Wk.s (Wk.s (Wk.s (Wk.s (Wk.s (Wk.s (Wk.s (Wk.s (Wk.s (Wk.s (Wk.s Wk.n)))))))))))) (fun _ => evg_name ok (i := 6) (j := 6) rfl rfl) (fun s22 layer23 => (evb_setC (md := .sh) (VV' := ["strand", "wide"]) (GG' := []) (i := 11) (i2 := 7) ok rfl (wkX hX rfl) (by decide +kernel) (by rfl) (by decide +kernel) (evi_seq ok.toOk sq_l (ev_vsh ok.toOk (i := 6) (j := 6) rfl rfl rfl)) rfl rfl no_any (by decide +kernel) (by decide +kernel) (by decide +kernel) (by decide +kernel) (fun g' okc strand25 => (evpts_one (evt_c okc c_lt (ev_vsh okc (i := 11) (j := 0) rfl rfl rfl) (ev_vsh okc (i := 1) (j := 1) rfl rfl rfl)))) (fun g' okc strand25 => (ev_vsh okc (i := 11) (j := 0) rfl rfl rfl)) fun warps24 => (evb_setC (md := .sh) (VV' := ["strand", "wide"]) (GG' := []) (i := 11) (i2 := 8) ok rfl (wkX hX rfl) (by decide +kernel) (by rfl) (by decide +kernel) (evi_seq ok.toOk sq_l (ev_vsh ok.toOk (i := 6) (j := 6) rfl rfl rfl)) rfl rfl no_any (by decide +kernel) (by decide +kernel) (by decide +kernel) (by decide +kernel) (fun g' okc strand32 => (evpts_one (evt_c okc c_ge (ev_vsh okc (i := 11) (j := 0) rfl rfl rfl) (ev_vsh okc (i := 1) (j := 1) rfl rfl rfl)))) (fun g' okc strand32 => (ev_subt (md' := .sh) okc (ev_vsh okc (i := 11) (j := 0) rfl rfl rfl) (ev_vsh okc (i := 1) (j := 1) rfl rfl rfl))) fun wefts31 => (evb_for (LF := (fun (s40 : ((List Int))) => [(sV false (tList tStr) cloth1), (sV false tInt t5.1), (sV false tInt t5.2.1), (sOwn false (tList tStr) s22.1), (sOwn false tInt s40), (sOwn false tInt s22.2.2), (sV false (tList tInt) layer23), (sV false (tList tInt) warps24), (sV false (tList tInt) wefts31), sAny, sAny, sAny])) (s0 := s22.2.1) ok (wkX hX rfl) (evi_seq ok.toOk sq_l (ev_vsh ok.toOk (i := 7) (j := 7) rfl rfl rfl)) (Wk.s (Wk.s (Wk.s (Wk.s (Wk.s (Wk.s (Wk.s (Wk.s (Wk.s (Wk.s (Wk.s (Wk.s Wk.n)))))))))))) (fun _ => evg_name ok (i := 9) (j := 9) rfl rfl) (fun s40 end41 => (evb_setitem ok (wkX hX rfl) (i := 4) (j := 4) rfl rfl rfl .sh (ev_borrow (i := 3) (.inl flInt) rfl (ev_lenQ (md' := .sh) ok.toOk sq_l (j := 2) rfl X.g_len (ev_vsh ok.toOk (i := 3) (j := 3) rfl rfl rfl))) (ev_vsh ok.toOk (i := 9) (j := 9) rfl rfl rfl) fun ends45 => (evb_go (by rfl) (Wk.s (Wk.s (Wk.s (Wk.s (Wk.s (Wk.s (Wk.s (Wk.s (Wk.s (Wk.a (Wk.s (Wk.s Wk.n))))))))))))))) fun s47 => (evb_for (LF := (fun (s48 : ((List Int))) => [(sV false (tList tStr) cloth1), (sV false tInt t5.1), (sV false tInt t5.2.1), (sOwn false (tList tStr) s22.1), (sOwn false tInt s47), (sOwn false tInt s48), (sV false (tList tInt) layer23), (sV false (tList tInt) warps24), (sV false (tList tInt) wefts31), sAny, sAny, sAny])) (s0 := s22.2.2) ok (wkX hX rfl) (evi_seq ok.toOk sq_l (ev_vsh ok.toOk (i := 8) (j := 8) rfl rfl rfl)) (Wk.s (Wk.s (Wk.s (Wk.s (Wk.s (Wk.s (Wk.s (Wk.s (Wk.s (Wk.s (Wk.s (Wk.s Wk.n)))))))))))) (fun _ => evg_name ok (i := 10) (j := 10) rfl rfl) (fun s48 pick49 => (evb_setitem ok (wkX hX rfl) (i := 5) (j := 5) rfl rfl rfl .sh (ev_borrow (i := 3) (.inl flInt) rfl (ev_lenQ (md' := .sh) ok.toOk sq_l (j := 2) rfl X.g_len (ev_vsh ok.toOk (i := 3) (j := 3) rfl rfl rfl))) (ev_vsh ok.toOk (i := 10) (j := 10) rfl rfl rfl) fun picks53 => (evb_go (by rfl) (Wk.s (Wk.s (Wk.s (Wk.s (Wk.s (Wk.s (Wk.s (Wk.s (Wk.s (Wk.s (Wk.a (Wk.s Wk.n))))))))))))))) fun s55 => (evb_append ok (wkX hX rfl) (i := 3) (j := 3) rfl rfl rfl .sh (ev_ofL (evl_call (md' := .sh) ok.toOk (fn_cut_out X) (by decide) (j := 3) rfl .sh (eva_cons (md := .sh) (ev_vsh ok.toOk (i := 0) (j := 0) rfl rfl rfl) (eva_cons (md := .sh) (ev_vsh ok.toOk (i := 7) (j := 7) rfl rfl rfl) (eva_cons (md := .sh) (ev_vsh ok.toOk (i := 8) (j := 8) rfl rfl rfl) eva_nil))))) fun pieces56 => (evb_go (by rfl) (Wk.s (Wk.s (Wk.s (Wk.s (Wk.s (Wk.s (Wk.a (Wk.a (Wk.a (Wk.s (Wk.s (Wk.s Wk.n))))))))))))))))))) fun s68 => (evb_freeze (i := 3) rfl (evb_freeze (i := 4) rfl (evb_freeze (i := 5) rfl (evb_ret (wkX hX rfl) .sh (by intro _; rfl) (ev_tup (fun d vs R h => by rw [(lenS (lenS (lenS len0))) h]; decide) (eva_cons (ev_vsh ok.toOk (i := 3) (j := 3) rfl rfl rfl) (eva_cons (ev_vsh ok.toOk (i := 4) (j := 4) rfl rfl rfl) (eva_cons (ev_vsh ok.toOk (i := 5) (j := 5) rfl rfl rfl) eva_nil)))))))))))))
theorem b_taken_apart {p : Pr} (X : Facts p) : Body p s_taken_apart N_taken_apart V_taken_apart G_taken_apart 4 (fun (d : ((List Tx) × Unit)) => [(sV false (tList tStr) d.1), sAny, sAny, sAny, sAny, sAny, sAny, sAny, sAny, sAny, sAny, sAny]) (fun r => .rt false (tTup (aCons (tList (tList tStr)) (aCons (tList tInt) (aCons (tList tInt) aNil)))) r) r_taken_apart := fun g ok hX d => bb_taken_apart X ok hX d.1
theorem fn_taken_apart {p : Pr} (X : Facts p) : Fn p 5 "taken_apart" ["cloth"] (spM p (aCons (tList tStr) aNil) (fun r => .rt false (tTup (aCons (tList (tList tStr)) (aCons (tList tInt) (aCons (tList tInt) aNil)))) r) c_taken_apart) := by
  obtain ⟨f, fd, hF, hm⟩ := X.d_taken_apart
  exact ⟨f, fd, eq_taken_apart ▸ fn_rt (m := 11) hF sc_taken_apart (.cons .nil) rfl rfl (b_taken_apart X), hm, hF.kp, hF.bindsN fun _ _ _ _ _ _ us hl => match us, hl with | [_], _ => rfl⟩
/-! ### seen_shuttles -/
abbrev s_seen_shuttles : Stmt := topS 27
abbrev N_seen_shuttles : List Str := ["shuttles", "picks", "shuttle"]
abbrev V_seen_shuttles : List Str := ["shuttles", "picks", "shuttle"]
abbrev G_seen_shuttles : List Str := ["len", "NoShuttle"]
theorem sc_seen_shuttles : Sc s_seen_shuttles N_seen_shuttles V_seen_shuttles ["shuttles", "picks"] G_seen_shuttles := ⟨⟨rfl, rfl, rfl, by decide +kernel, rfl, by decide +kernel, by decide +kernel⟩, by decide +kernel, by decide +kernel, by decide +kernel⟩
def r_f_seen_shuttles_l1  : Unit → Int → M Unit := fun s6 shuttle7 => M.bind (M.bind (M.ok ((decide ((0 : Int) ≤ shuttle7)) && (decide (shuttle7 ≤ (7 : Int))))) fun y8 => M.ok (!y8)) fun c9 => if c9 = true then M.ex .noShuttle else M.ok ()
def f_seen_shuttles_l1  : Unit → Int → M Unit := fun s6 shuttle7 => if (!((decide ((0 : Int) ≤ shuttle7)) && (decide (shuttle7 ≤ (7 : Int))))) = true then M.ex .noShuttle else M.ok ()
theorem eq_f_seen_shuttles_l1  : r_f_seen_shuttles_l1  = f_seen_shuttles_l1  := by funext s6 shuttle7; first | (simp only [r_f_seen_shuttles_l1, f_seen_shuttles_l1, M.bind_assoc, M.bok]; done) | (simp only [r_f_seen_shuttles_l1, f_seen_shuttles_l1, M.bind_assoc, M.bok]; rfl)
def q_seen_shuttles (shuttles1 : (List Int)) (picks2 : Int) : M Unit := M.bind (M.bind (M.bind (M.ok shuttles1) fun y3 => M.ok (y3.length : Int)) fun y4 => M.bind (M.ok picks2) fun y5 => M.ok (!decide (y4 = y5))) fun c13 => if c13 = true then M.ex .noShuttle else M.bind (M.ok shuttles1) fun xs11 => M.bind (forM r_f_seen_shuttles_l1 () xs11) fun (s12 : Unit) => M.ok ()
def f_seen_shuttles (shuttles1 : (List Int)) (picks2 : Int) : M Unit := if (!decide ((shuttles1.length : Int) = picks2)) = true then M.ex .noShuttle else M.bind (forM f_seen_shuttles_l1 () shuttles1) fun (s12 : Unit) => M.ok ()
def r_seen_shuttles (d : ((List Int) × Int × Unit)) : M Unit := q_seen_shuttles d.1 d.2.1
def c_seen_shuttles (d : ((List Int) × Int × Unit)) : M Unit := f_seen_shuttles d.1 d.2.1
theorem eq_seen_shuttles : r_seen_shuttles = c_seen_shuttles := by funext d; first | (simp only [r_seen_shuttles, c_seen_shuttles, q_seen_shuttles, f_seen_shuttles, M.bind_assoc, M.bok, eq_f_seen_shuttles_l1]; done) | (simp only [r_seen_shuttles, c_seen_shuttles, q_seen_shuttles, f_seen_shuttles, M.bind_assoc, M.bok, eq_f_seen_shuttles_l1]; rfl)
theorem bb_seen_shuttles {p : Pr} (X : Facts p) {g : G} (ok : OkS p (defScope s_seen_shuttles) N_seen_shuttles V_seen_shuttles G_seen_shuttles 0 g) (hX : g.LX = List.replicate N_seen_shuttles.length sAny) (shuttles1 : (List Int)) (picks2 : Int) : EvB g [(sV false (tList tInt) shuttles1), (sV false tInt picks2), sAny] (defBody s_seen_shuttles) (fun _ => .nx (List.replicate 3 sAny)) (q_seen_shuttles shuttles1 picks2) := (evb_ifr ok (wkX hX rfl) X.x_NoShuttle (jj := 0) (j := 1) rfl (evt_c ok.toOk (c_ne s_int) (ev_lenQ (md' := .sh) ok.toOk sq_l (j := 0) rfl X.g_len (ev_vsh ok.toOk (i := 0) (j := 0) rfl rfl rfl)) (ev_vsh ok.toOk (i := 1) (j := 1) rfl rfl rfl)) (evb_for (LF := (fun (s6 : Unit) => [(sV false (tList tInt) shuttles1), (sV false tInt picks2), sAny])) (s0 := ()) ok (wkX hX rfl) (evi_seq ok.toOk sq_l (ev_vsh ok.toOk (i := 0) (j := 0) rfl rfl rfl)) (Wk.s (Wk.s (Wk.s Wk.n))) (fun _ => evg_name ok (i := 2) (j := 2) rfl rfl) (fun s6 shuttle7 => (evb_ifr ok (wkX hX rfl) X.x_NoShuttle (jj := 0) (j := 1) rfl (evt_not (evt_chainI ok.toOk ch_le ch_le (ev_int (md := .sh)) (ev_vsh ok.toOk (i := 2) (j := 2) rfl rfl rfl) (ev_int (md := .sh)) rfl rfl rfl)) (evb_go (by rfl) (Wk.s (Wk.s (Wk.a Wk.n)))))) fun s12 => (evb_nx (by rfl) (Wk.a (Wk.a (Wk.s Wk.n))))))
theorem b_seen_shuttles {p : Pr} (X : Facts p) : Body p s_seen_shuttles N_seen_shuttles V_seen_shuttles G_seen_shuttles 0 (fun (d : ((List Int) × Int × Unit)) => [(sV false (tList tInt) d.1), (sV false tInt d.2.1), sAny]) (fun _ => .nx (List.replicate 3 sAny)) r_seen_shuttles := fun g ok hX d => bb_seen_shuttles X ok hX d.1 d.2.1
theorem fn_seen_shuttles {p : Pr} (X : Facts p) : Fn p 1 "seen_shuttles" ["shuttles", "picks"] (spM p (aCons (tList tInt) (aCons tInt aNil)) (fun r => .rt false tNone r) c_seen_shuttles) := by
  obtain ⟨f, fd, hF, hm⟩ := X.d_seen_shuttles
  exact ⟨f, fd, eq_seen_shuttles ▸ fn_nx (m := 1) hF sc_seen_shuttles (.cons (.cons .nil)) rfl rfl (b_seen_shuttles X), hm, hF.kp, hF.bindsN fun _ _ _ _ _ _ us hl => match us, hl with | [_, _], _ => rfl⟩
/-! ### layer_numbers -/
abbrev s_layer_numbers : Stmt := topS 25
abbrev N_layer_numbers : List Str := ["cloth", "ends", "picks", "numbers", "k", "layer", "strand"]
abbrev V_layer_numbers : List Str := ["cloth", "ends", "picks", "numbers", "k", "layer", "strand"]
abbrev G_layer_numbers : List Str := ["measured", "layers_of", "enumerate"]
theorem sc_layer_numbers : Sc s_layer_numbers N_layer_numbers V_layer_numbers ["cloth"] G_layer_numbers := ⟨⟨rfl, rfl, rfl, by decide +kernel, rfl, by decide +kernel, by decide +kernel⟩, by decide +kernel, by decide +kernel, by decide +kernel⟩
def r_f_layer_numbers_l1 (t19 : (Int × (List Int) × Unit)) : ((List Int)) → Int → M ((List Int)) := fun s20 strand21 => M.bind (M.ok t19.1) fun y22 => M.bind (M.ok strand21) fun i23 => M.bind (setM s20 i23 y22) fun numbers24 => M.ok numbers24
def f_layer_numbers_l1 (t19 : (Int × (List Int) × Unit)) : ((List Int)) → Int → M ((List Int)) := fun s20 strand21 => M.bind (setM s20 strand21 t19.1) fun numbers24 => M.ok numbers24
theorem eq_f_layer_numbers_l1 (t19 : (Int × (List Int) × Unit)) : r_f_layer_numbers_l1 t19 = f_layer_numbers_l1 t19 := by funext s20 strand21; first | (simp only [r_f_layer_numbers_l1, f_layer_numbers_l1, M.bind_assoc, M.bok, c_layers_of, c_measured]; done) | (simp only [r_f_layer_numbers_l1, f_layer_numbers_l1, M.bind_assoc, M.bok, c_layers_of, c_measured]; rfl)
def r_f_layer_numbers_l2  : ((List Int)) → (Int × (List Int) × Unit) → M ((List Int)) := fun s18 t19 => M.bind (M.ok t19.2.1) fun xs25 => M.bind (forM (r_f_layer_numbers_l1 t19) s18 xs25) fun (s26 : ((List Int))) => M.ok s26
def f_layer_numbers_l2  : ((List Int)) → (Int × (List Int) × Unit) → M ((List Int)) := fun s18 t19 => M.bind (forM (f_layer_numbers_l1 t19) s18 t19.2.1) fun (s26 : ((List Int))) => M.ok s26
theorem eq_f_layer_numbers_l2  : r_f_layer_numbers_l2  = f_layer_numbers_l2  := by funext s18 t19; first | (simp only [r_f_layer_numbers_l2, f_layer_numbers_l2, M.bind_assoc, M.bok, eq_f_layer_numbers_l1, c_layers_of, c_measured]; done) | (simp only [r_f_layer_numbers_l2, f_layer_numbers_l2, M.bind_assoc, M.bok, eq_f_layer_numbers_l1, c_layers_of, c_measured]; rfl)
def q_layer_numbers (cloth1 : (List Tx)) : M (List Int) := M.bind (M.bind (M.bind (M.ok cloth1) fun y2 => M.bind (M.ok ()) fun y3 => M.ok (y2, y3)) c_measured) fun t5 => M.bind (M.bind (M.bind (M.ok (0 : Int)) fun y7 => M.bind (M.ok []) fun y8 => M.ok (y7 :: y8)) fun y12 => M.bind (M.bind (M.ok t5.1) fun y10 => M.bind (M.ok t5.2.1) fun y11 => M.ok (y10 + y11)) fun y13 => repM y12 y13) fun numbers6 => M.bind (M.bind (M.bind (M.bind (M.ok cloth1) fun y14 => M.bind (M.ok ()) fun y15 => M.ok (y14, y15)) c_layers_of) fun y17 => M.ok (enumL y17)) fun xs27 => M.bind (forM r_f_layer_numbers_l2 numbers6 xs27) fun (s28 : ((List Int))) => M.ok s28
def f_layer_numbers (cloth1 : (List Tx)) : M (List Int) := M.bind (f_measured cloth1) fun t5 => M.bind (repM ([(0 : Int)]) (t5.1 + t5.2.1)) fun numbers6 => M.bind (M.bind (f_layers_of cloth1) fun y17 => M.ok (enumL y17)) fun xs27 => M.bind (forM f_layer_numbers_l2 numbers6 xs27) fun (s28 : ((List Int))) => M.ok s28
def r_layer_numbers (d : ((List Tx) × Unit)) : M (List Int) := q_layer_numbers d.1
def c_layer_numbers (d : ((List Tx) × Unit)) : M (List Int) := f_layer_numbers d.1
theorem eq_layer_numbers : r_layer_numbers = c_layer_numbers := by funext d; first | (simp only [r_layer_numbers, c_layer_numbers, q_layer_numbers, f_layer_numbers, M.bind_assoc, M.bok, eq_f_layer_numbers_l1, eq_f_layer_numbers_l2, c_layers_of, c_measured]; done) | (simp only [r_layer_numbers, c_layer_numbers, q_layer_numbers, f_layer_numbers, M.bind_assoc, M.bok, eq_f_layer_numbers_l1, eq_f_layer_numbers_l2, c_layers_of, c_measured]; rfl)
theorem bb_layer_numbers {p : Pr} (X : Facts p) {g : G} (ok : OkS p (defScope s_layer_numbers) N_layer_numbers V_layer_numbers G_layer_numbers 4 g) (hX : g.LX = List.replicate N_layer_numbers.length sAny) (cloth1 : (List Tx)) : EvB g [(sV false (tList tStr) cloth1), sAny, sAny, sAny, sAny, sAny, sAny] (defBody s_layer_numbers) (fun r => .rtL false tInt r) (q_layer_numbers cloth1) := (evb_asg ok (wkX hX rfl) (ev_call (md' := .sh) ok.toOk (fn_measured X) (by decide) (j := 0) rfl .sh (eva_cons (md := .sh) (ev_vsh ok.toOk (i := 0) (j := 0) rfl rfl rfl) eva_nil)) (evg_tup ok.toOk (lenS (lenS len0)) (evgs_cons (evg_name ok (i := 1) (j := 1) rfl rfl) fun _ => (evgs_cons (evg_name ok (i := 2) (j := 2) rfl rfl) fun _ => evgs_nil))) fun t5 => (evb_own ok (i := 3) (j := 3) rfl rfl (wkX hX rfl) .sh (evl_rep (md := .sh) ok.toOk (evl_lstN (n := 1) (lnS ln0) (by decide) (evs_cons (ev_int (md := .sh)) evs_nil)) (ev_add (md' := .sh) ok.toOk (ev_vsh ok.toOk (i := 1) (j := 1) rfl rfl rfl) (ev_vsh ok.toOk (i := 2) (j := 2) rfl rfl rfl))) fun numbers6 => (evb_for (LF := (fun (s18 : ((List Int))) => [(sV false (tList tStr) cloth1), (sV false tInt t5.1), (sV false tInt t5.2.1), (sOwn false tInt s18), sAny, sAny, sAny])) (s0 := numbers6) ok (wkX hX rfl) (evi_enum ok.toOk sq_l (j := 2) rfl X.g_enumerate (ev_ofL (evl_call (md' := .sh) ok.toOk (fn_layers_of X) (by decide) (j := 1) rfl .sh (eva_cons (md := .sh) (ev_vsh ok.toOk (i := 0) (j := 0) rfl rfl rfl) eva_nil)))) (Wk.s (Wk.s (Wk.s (Wk.s (Wk.s (Wk.s (Wk.s Wk.n))))))) (fun _ => evg_tup ok.toOk (lenS (lenS len0)) (evgs_cons (evg_name ok (i := 4) (j := 4) rfl rfl) fun _ => (evgs_cons (evg_name ok (i := 5) (j := 5) rfl rfl) fun _ => evgs_nil))) (fun s18 t19 => (evb_for (LF := (fun (s20 : ((List Int))) => [(sV false (tList tStr) cloth1), (sV false tInt t5.1), (sV false tInt t5.2.1), (sOwn false tInt s20), (sV false tInt t19.1), (sV false (tList tInt) t19.2.1), sAny])) (s0 := s18) ok (wkX hX rfl) (evi_seq ok.toOk sq_l (ev_vsh ok.toOk (i := 5) (j := 5) rfl rfl rfl)) (Wk.s (Wk.s (Wk.s (Wk.s (Wk.s (Wk.s (Wk.s Wk.n))))))) (fun _ => evg_name ok (i := 6) (j := 6) rfl rfl) (fun s20 strand21 => (evb_setitem ok (wkX hX rfl) (i := 3) (j := 3) rfl rfl rfl .sh (ev_vsh ok.toOk (i := 4) (j := 4) rfl rfl rfl) (ev_vsh ok.toOk (i := 6) (j := 6) rfl rfl rfl) fun numbers24 => (evb_go (by rfl) (Wk.s (Wk.s (Wk.s (Wk.s (Wk.s (Wk.s (Wk.a Wk.n)))))))))) fun s26 => (evb_go (by rfl) (Wk.s (Wk.s (Wk.s (Wk.s (Wk.a (Wk.a (Wk.s Wk.n)))))))))) fun s28 => (evb_retOwn ok.toOk (i := 3) (j := 3) rfl rfl rfl (.inl rfl) (by rfl)))))
theorem b_layer_numbers {p : Pr} (X : Facts p) : Body p s_layer_numbers N_layer_numbers V_layer_numbers G_layer_numbers 4 (fun (d : ((List Tx) × Unit)) => [(sV false (tList tStr) d.1), sAny, sAny, sAny, sAny, sAny, sAny]) (fun r => .rtL false tInt r) r_layer_numbers := fun g ok hX d => bb_layer_numbers X ok hX d.1
theorem fn_layer_numbers {p : Pr} (X : Facts p) : Fn p 5 "layer_numbers" ["cloth"] (spM p (aCons (tList tStr) aNil) (fun r => .rtL false tInt r) c_layer_numbers) := by
  obtain ⟨f, fd, hF, hm⟩ := X.d_layer_numbers
  exact ⟨f, fd, eq_layer_numbers ▸ fn_rtL (m := 6) hF sc_layer_numbers (.cons .nil) rfl rfl (b_layer_numbers X), hm, hF.kp, hF.bindsN fun _ _ _ _ _ _ us hl => match us, hl with | [_], _ => rfl⟩
/-! ### turns_made -/
abbrev s_turns_made : Stmt := topS 28
abbrev N_turns_made : List Str := ["shuttles", "last", "throws", "turns", "pick", "shuttle", "side"]
abbrev V_turns_made : List Str := ["shuttles", "last", "throws", "turns", "pick", "shuttle", "side"]
abbrev G_turns_made : List Str := ["enumerate"]
theorem sc_turns_made : Sc s_turns_made N_turns_made V_turns_made ["shuttles"] G_turns_made := ⟨⟨rfl, rfl, rfl, by decide +kernel, rfl, by decide +kernel, by decide +kernel⟩, by decide +kernel, by decide +kernel, by decide +kernel⟩
def r_f_turns_made_l1  : ((List (Key × Int)) × (List Int) × (List (Int × Int × Tx × Unit))) → (Int × Int × Unit) → M ((List (Key × Int)) × (List Int) × (List (Int × Int × Tx × Unit))) := fun s11 t12 => M.bind (M.bind (M.bind (M.ok s11.2.1) fun y13 => M.bind (M.ok t12.2.1) fun y14 => getM y13 y14) fun y15 => M.bind (M.ok (0 : Int)) fun y16 => M.ok (decide (y16 < y15))) fun c17 => M.bind (if c17 = true then M.bind (M.ok (tx "left")) fun side18 => M.bind (M.bind (M.bind (M.bind (M.ok s11.2.1) fun y19 => M.bind (M.ok t12.2.1) fun y20 => getM y19 y20) fun y21 => M.ok (y21 % (2 : Int))) fun y22 => M.bind (M.ok (1 : Int)) fun y23 => M.ok (decide (y22 = y23))) fun c24 => M.bind (if c24 = true then M.bind (M.ok (tx "right")) fun side25 => M.ok side25 else M.ok side18) fun (s26 : (Tx)) => M.bind (M.bind (M.bind (M.ok t12.2.1) fun y28 => getDM s11.1 (.inl y28)) fun y33 => M.bind (M.bind (M.ok t12.1) fun y31 => M.bind (M.bind (M.ok s26) fun y29 => M.bind (M.ok ()) fun y30 => M.ok (y29, y30)) fun y32 => M.ok (y31, y32)) fun y34 => M.ok (y33, y34)) fun y38 => M.bind (pushM s11.2.2 y38) fun turns27 => M.ok turns27 else M.ok s11.2.2) fun (s39 : ((List (Int × Int × Tx × Unit)))) => M.bind (M.ok t12.1) fun y40 => M.bind (M.ok t12.2.1) fun i41 => M.bind (dputM s11.1 (.inl i41) y40) fun last42 => M.bind (M.ok t12.2.1) fun i44 => M.bind (getM s11.2.1 i44) fun v45 => M.bind (M.ok (1 : Int)) fun y43 => M.bind (setM s11.2.1 i44 (v45 + y43)) fun throws46 => M.ok (last42, throws46, s39)
def f_turns_made_l1  : ((List (Key × Int)) × (List Int) × (List (Int × Int × Tx × Unit))) → (Int × Int × Unit) → M ((List (Key × Int)) × (List Int) × (List (Int × Int × Tx × Unit))) := fun s11 t12 => M.bind (M.bind (getM s11.2.1 t12.2.1) fun y15 => M.ok (decide ((0 : Int) < y15))) fun c17 => M.bind (if c17 = true then let side18 : Tx := (tx "left"); M.bind (M.bind (M.bind (getM s11.2.1 t12.2.1) fun y21 => M.ok (y21 % (2 : Int))) fun y22 => M.ok (decide (y22 = (1 : Int)))) fun c24 => M.bind (if c24 = true then let side25 : Tx := (tx "right"); M.ok side25 else M.ok side18) fun (s26 : (Tx)) => M.bind (M.bind (getDM s11.1 (.inl t12.2.1)) fun y35 => M.ok (y35, t12.1, s26, ())) fun y38 => M.bind (pushM s11.2.2 y38) fun turns27 => M.ok turns27 else M.ok s11.2.2) fun (s39 : ((List (Int × Int × Tx × Unit)))) => M.bind (dputM s11.1 (.inl t12.2.1) t12.1) fun last42 => M.bind (getM s11.2.1 t12.2.1) fun v45 => M.bind (setM s11.2.1 t12.2.1 (v45 + (1 : Int))) fun throws46 => M.ok (last42, throws46, s39)
theorem eq_f_turns_made_l1  : r_f_turns_made_l1  = f_turns_made_l1  := by funext s11 t12; first | (simp only [r_f_turns_made_l1, f_turns_made_l1, M.bind_assoc, M.bok]; done) | (simp only [r_f_turns_made_l1, f_turns_made_l1, M.bind_assoc, M.bok]; rfl)
def q_turns_made (shuttles1 : (List Int)) : M (List (Int × Int × Tx × Unit)) := M.bind (M.ok ([] : (List (Key × Int)))) fun last2 => M.bind (M.bind (M.bind (M.ok (0 : Int)) fun y4 => M.bind (M.ok []) fun y5 => M.ok (y4 :: y5)) fun y7 => M.bind (M.ok (8 : Int)) fun y8 => repM y7 y8) fun throws3 => M.bind (M.ok []) fun turns9 => M.bind (M.bind (M.ok shuttles1) fun y10 => M.ok (enumL y10)) fun xs47 => M.bind (forM r_f_turns_made_l1 (last2, throws3, turns9) xs47) fun (s48 : ((List (Key × Int)) × (List Int) × (List (Int × Int × Tx × Unit)))) => M.ok s48.2.2
def f_turns_made (shuttles1 : (List Int)) : M (List (Int × Int × Tx × Unit)) := let last2 : (List (Key × Int)) := []; M.bind (repM ([(0 : Int)]) (8 : Int)) fun throws3 => let turns9 : (List (Int × Int × Tx × Unit)) := []; M.bind (forM f_turns_made_l1 (last2, throws3, turns9) (enumL shuttles1)) fun (s48 : ((List (Key × Int)) × (List Int) × (List (Int × Int × Tx × Unit)))) => M.ok s48.2.2
def r_turns_made (d : ((List Int) × Unit)) : M (List (Int × Int × Tx × Unit)) := q_turns_made d.1
def c_turns_made (d : ((List Int) × Unit)) : M (List (Int × Int × Tx × Unit)) := f_turns_made d.1
theorem eq_turns_made : r_turns_made = c_turns_made := by funext d; first | (simp only [r_turns_made, c_turns_made, q_turns_made, f_turns_made, M.bind_assoc, M.bok, eq_f_turns_made_l1]; done) | (simp only [r_turns_made, c_turns_made, q_turns_made, f_turns_made, M.bind_assoc, M.bok, eq_f_turns_made_l1]; rfl)
theorem bb_turns_made {p : Pr} (X : Facts p) {g : G} (ok : OkS p (defScope s_turns_made) N_turns_made V_turns_made G_turns_made 0 g) (hX : g.LX = List.replicate N_turns_made.length sAny) (shuttles1 : (List Int)) : EvB g [(sV false (tList tInt) shuttles1), sAny, sAny, sAny, sAny, sAny, sAny] (defBody s_turns_made) (fun r => .rtL false (tTup (aCons tInt (aCons tInt (aCons tStr aNil)))) r) (q_turns_made shuttles1) := (evb_newD (S := tInt) ok (i := 1) (j := 1) rfl rfl fun last2 => (evb_own ok (i := 2) (j := 2) rfl rfl (wkX hX rfl) .sh (evl_rep (md := .sh) ok.toOk (evl_lstN (n := 1) (lnS ln0) (by decide) (evs_cons (ev_int (md := .sh)) evs_nil)) (ev_int (md := .sh))) fun throws3 => (evb_own ok (i := 3) (j := 3) rfl rfl (wkX hX rfl) .sh (evl_nil (md := .sh) (S := (tTup (aCons tInt (aCons tInt (aCons tStr aNil)))))) fun turns9 => (evb_for (LF := (fun (s11 : ((List (Key × Int)) × (List Int) × (List (Int × Int × Tx × Unit)))) => [(sV false (tList tInt) shuttles1), (sDict false tInt s11.1), (sOwn false tInt s11.2.1), (sOwn false (tTup (aCons tInt (aCons tInt (aCons tStr aNil)))) s11.2.2), sAny, sAny, sAny])) (s0 := (last2, throws3, turns9)) ok (wkX hX rfl) (evi_enum ok.toOk sq_l (j := 0) rfl X.g_enumerate (ev_vsh ok.toOk (i := 0) (j := 0) rfl rfl rfl)) (Wk.s (Wk.s (Wk.s (Wk.s (Wk.s (Wk.s (Wk.s Wk.n))))))) (fun _ => evg_tup ok.toOk (lenS (lenS len0)) (evgs_cons (evg_name ok (i := 4) (j := 4) rfl rfl) fun _ => (evgs_cons (evg_name ok (i := 5) (j := 5) rfl rfl) fun _ => evgs_nil))) (fun s11 t12 => (evb_if (LJ := (fun (s39 : ((List (Int × Int × Tx × Unit)))) => [(sV false (tList tInt) shuttles1), (sDict false tInt s11.1), (sOwn false tInt s11.2.1), (sOwn false (tTup (aCons tInt (aCons tInt (aCons tStr aNil)))) s39), (sV false tInt t12.1), (sV false tInt t12.2.1), sAny])) (wkX hX rfl) (evt_borrow (i := 2) rfl (evt_c ok.toOk c_gt (ev_ixQ ok.toOk sq_l (ev_vsh ok.toOk (i := 2) (j := 2) rfl rfl rfl) (ev_vsh ok.toOk (i := 5) (j := 5) rfl rfl rfl)) (ev_int (md := .sh)))) (evb_set ok (i := 6) (j := 6) rfl rfl (wkX hX rfl) .sh (ev_str (md := .sh) (by decide +kernel)) fun side18 => (evb_if (LJ := (fun (s26 : (Tx)) => [(sV false (tList tInt) shuttles1), (sDict false tInt s11.1), (sOwn false tInt s11.2.1), (sOwn false (tTup (aCons tInt (aCons tInt (aCons tStr aNil)))) s11.2.2), (sV false tInt t12.1), (sV false tInt t12.2.1), (sV false tStr s26)])) (wkX hX rfl) (evt_borrow (i := 2) rfl (evt_c ok.toOk (c_eq s_int) (ev_and1 (md' := .sh) ok.toOk (ev_ixQ ok.toOk sq_l (ev_vsh ok.toOk (i := 2) (j := 2) rfl rfl rfl) (ev_vsh ok.toOk (i := 5) (j := 5) rfl rfl rfl)) (ev_int (md := .sh))) (ev_int (md := .sh)))) (evb_set ok (i := 6) (j := 6) rfl rfl (wkX hX rfl) .sh (ev_str (md := .sh) (by decide +kernel)) fun side25 => (evb_nx (by rfl) (Wk.s (Wk.s (Wk.s (Wk.s (Wk.s (Wk.s (Wk.s Wk.n))))))))) (evb_nx (by rfl) (Wk.s (Wk.s (Wk.s (Wk.s (Wk.s (Wk.s (Wk.s Wk.n)))))))) fun s26 => (evb_append ok (wkX hX rfl) (i := 3) (j := 3) rfl rfl rfl .sh (ev_tup (fun d vs R h => by rw [(lenS (lenS (lenS len0))) h]; decide) (eva_cons (ev_subOwn ok.toOk (i := 1) (j := 1) rfl rfl rfl (ev_vsh ok.toOk (i := 5) (j := 5) rfl rfl rfl)) (eva_cons (ev_vsh ok.toOk (i := 4) (j := 4) rfl rfl rfl) (eva_cons (ev_vsh ok.toOk (i := 6) (j := 6) rfl rfl rfl) eva_nil)))) fun turns27 => (evb_nx (by rfl) (Wk.s (Wk.s (Wk.s (Wk.s (Wk.s (Wk.s (Wk.a Wk.n))))))))))) (evb_nx (by rfl) (Wk.s (Wk.s (Wk.s (Wk.s (Wk.s (Wk.s (Wk.s Wk.n)))))))) fun s39 => (evb_putD ok (wkX hX rfl) (i := 1) (j := 1) rfl rfl rfl .sh (ev_vsh ok.toOk (i := 4) (j := 4) rfl rfl rfl) (ev_vsh ok.toOk (i := 5) (j := 5) rfl rfl rfl) fun last42 => (evb_augI ok (wkX hX rfl) (i := 2) (j := 2) rfl rfl rfl (ev_vsh ok.toOk (i := 5) (j := 5) rfl rfl rfl) (ev_int (md := .sh)) fun throws46 => (evb_go (by rfl) (Wk.s (Wk.s (Wk.s (Wk.s (Wk.a (Wk.a (Wk.s Wk.n)))))))))))) fun s48 => (evb_retOwn ok.toOk (i := 3) (j := 3) rfl rfl rfl (.inl rfl) (by rfl))))))
theorem b_turns_made {p : Pr} (X : Facts p) : Body p s_turns_made N_turns_made V_turns_made G_turns_made 0 (fun (d : ((List Int) × Unit)) => [(sV false (tList tInt) d.1), sAny, sAny, sAny, sAny, sAny, sAny]) (fun r => .rtL false (tTup (aCons tInt (aCons tInt (aCons tStr aNil)))) r) r_turns_made := fun g ok hX d => bb_turns_made X ok hX d.1
theorem fn_turns_made {p : Pr} (X : Facts p) : Fn p 1 "turns_made" ["shuttles"] (spM p (aCons (tList tInt) aNil) (fun r => .rtL false (tTup (aCons tInt (aCons tInt (aCons tStr aNil)))) r) c_turns_made) := by
  obtain ⟨f, fd, hF, hm⟩ := X.d_turns_made
  exact ⟨f, fd, eq_turns_made ▸ fn_rtL (m := 6) hF sc_turns_made (.cons .nil) rfl rfl (b_turns_made X), hm, hF.kp, hF.bindsN fun _ _ _ _ _ _ us hl => match us, hl with | [_], _ => rfl⟩
/-! ### seams_of -/
abbrev s_seams_of : Stmt := topS 29
abbrev N_seams_of : List Str := ["cloth", "shuttles", "wide", "high", "layers", "seams", "pick", "later", "side", "one", "other", "seam"]
abbrev V_seams_of : List Str := ["cloth", "shuttles", "wide", "high", "layers", "seams", "pick", "later", "side", "one", "other", "seam"]
abbrev G_seams_of : List Str := ["measured", "seen_shuttles", "layer_numbers", "turns_made", "min", "max", "sorted"]
theorem sc_seams_of : Sc s_seams_of N_seams_of V_seams_of ["cloth", "shuttles"] G_seams_of := ⟨⟨rfl, rfl, rfl, by decide +kernel, rfl, by decide +kernel, by decide +kernel⟩, by decide +kernel, by decide +kernel, by decide +kernel⟩
def r_f_seams_of_l1 (t6 : (Int × Int × Unit)) (layers14 : (List Int)) : ((List (Int × Int × Tx × Unit))) → (Int × Int × Tx × Unit) → M ((List (Int × Int × Tx × Unit))) := fun s22 t23 => M.bind (M.bind (M.ok layers14) fun y27 => M.bind (M.bind (M.ok t6.1) fun y25 => M.bind (M.ok t23.1) fun y26 => M.ok (y25 + y26)) fun y28 => getM y27 y28) fun one24 => M.bind (M.bind (M.ok layers14) fun y32 => M.bind (M.bind (M.ok t6.1) fun y30 => M.bind (M.ok t23.2.1) fun y31 => M.ok (y30 + y31)) fun y33 => getM y32 y33) fun other29 => M.bind (M.bind (M.ok one24) fun y34 => M.bind (M.ok other29) fun y35 => M.ok (decide (y34 = y35))) fun c36 => if c36 = true then M.ok s22 else M.bind (M.bind (M.bind (M.ok one24) fun y38 => M.bind (M.ok other29) fun y39 => M.ok (min y38 y39)) fun y46 => M.bind (M.bind (M.bind (M.ok one24) fun y40 => M.bind (M.ok other29) fun y41 => M.ok (max y40 y41)) fun y44 => M.bind (M.bind (M.ok t23.2.2.1) fun y42 => M.bind (M.ok ()) fun y43 => M.ok (y42, y43)) fun y45 => M.ok (y44, y45)) fun y47 => M.ok (y46, y47)) fun seam37 => M.bind (M.bind (M.ok seam37) fun y51 => M.bind (M.ok s22) fun y52 => M.ok (!memD y51 y52)) fun c53 => if c53 = true then M.bind (M.ok seam37) fun y55 => M.bind (pushM s22 y55) fun seams54 => M.ok seams54 else M.ok s22
def f_seams_of_l1 (t6 : (Int × Int × Unit)) (layers14 : (List Int)) : ((List (Int × Int × Tx × Unit))) → (Int × Int × Tx × Unit) → M ((List (Int × Int × Tx × Unit))) := fun s22 t23 => M.bind (getM layers14 (t6.1 + t23.1)) fun one24 => M.bind (getM layers14 (t6.1 + t23.2.1)) fun other29 => if (decide (one24 = other29)) = true then M.ok s22 else let seam37 : (Int × Int × Tx × Unit) := ((min one24 other29), (max one24 other29), t23.2.2.1, ()); if (!memD seam37 s22) = true then M.bind (pushM s22 seam37) fun seams54 => M.ok seams54 else M.ok s22
theorem eq_f_seams_of_l1 (t6 : (Int × Int × Unit)) (layers14 : (List Int)) : r_f_seams_of_l1 t6 layers14 = f_seams_of_l1 t6 layers14 := by funext s22 t23; first | (simp only [r_f_seams_of_l1, f_seams_of_l1, M.bind_assoc, M.bok, c_layer_numbers, c_measured, c_seen_shuttles, c_turns_made]; done) | (simp only [r_f_seams_of_l1, f_seams_of_l1, M.bind_assoc, M.bok, c_layer_numbers, c_measured, c_seen_shuttles, c_turns_made]; rfl)
def q_seams_of (cloth1 : (List Tx)) (shuttles2 : (List Int)) : M (List (Int × Int × Tx × Unit)) := M.bind (M.bind (M.bind (M.ok cloth1) fun y3 => M.bind (M.ok ()) fun y4 => M.ok (y3, y4)) c_measured) fun t6 => M.bind (M.bind (M.bind (M.ok shuttles2) fun y9 => M.bind (M.bind (M.ok t6.2.1) fun y7 => M.bind (M.ok ()) fun y8 => M.ok (y7, y8)) fun y10 => M.ok (y9, y10)) c_seen_shuttles) fun u13 => M.bind (M.bind (M.bind (M.ok cloth1) fun y15 => M.bind (M.ok ()) fun y16 => M.ok (y15, y16)) c_layer_numbers) fun layers14 => M.bind (M.ok []) fun seams18 => M.bind (M.bind (M.bind (M.ok shuttles2) fun y19 => M.bind (M.ok ()) fun y20 => M.ok (y19, y20)) c_turns_made) fun xs58 => M.bind (forM (r_f_seams_of_l1 t6 layers14) seams18 xs58) fun (s59 : ((List (Int × Int × Tx × Unit)))) => M.bind (M.ok s59) fun y60 => M.ok (sortD (oTup (oCons oInt (oCons oInt (oCons oStr oNil)))) y60)
def f_seams_of (cloth1 : (List Tx)) (shuttles2 : (List Int)) : M (List (Int × Int × Tx × Unit)) := M.bind (f_measured cloth1) fun t6 => M.bind (f_seen_shuttles shuttles2 t6.2.1) fun u13 => M.bind (f_layer_numbers cloth1) fun layers14 => let seams18 : (List (Int × Int × Tx × Unit)) := []; M.bind (f_turns_made shuttles2) fun xs58 => M.bind (forM (f_seams_of_l1 t6 layers14) seams18 xs58) fun (s59 : ((List (Int × Int × Tx × Unit)))) => M.ok (sortD (oTup (oCons oInt (oCons oInt (oCons oStr oNil)))) s59)
def r_seams_of (d : ((List Tx) × (List Int) × Unit)) : M (List (Int × Int × Tx × Unit)) := q_seams_of d.1 d.2.1
def c_seams_of (d : ((List Tx) × (List Int) × Unit)) : M (List (Int × Int × Tx × Unit)) := f_seams_of d.1 d.2.1
theorem eq_seams_of : r_seams_of = c_seams_of := by funext d; first | (simp only [r_seams_of, c_seams_of, q_seams_of, f_seams_of, M.bind_assoc, M.bok, eq_f_seams_of_l1, c_layer_numbers, c_measured, c_seen_shuttles, c_turns_made]; done) | (simp only [r_seams_of, c_seams_of, q_seams_of, f_seams_of, M.bind_assoc, M.bok, eq_f_seams_of_l1, c_layer_numbers, c_measured, c_seen_shuttles, c_turns_made]; rfl)
theorem bb_seams_of {p : Pr} (X : Facts p) {g : G} (ok : OkS p (defScope s_seams_of) N_seams_of V_seams_of G_seams_of 5 g) (hX : g.LX = List.replicate N_seams_of.length sAny) (cloth1 : (List Tx)) (shuttles2 : (List Int)) : EvB g [(sV false (tList tStr) cloth1), (sV false (tList tInt) shuttles2), sAny, sAny, sAny, sAny, sAny, sAny, sAny, sAny, sAny, sAny] (defBody s_seams_of) (fun r => .rtL false (tTup (aCons tInt (aCons tInt (aCons tStr aNil)))) r) (q_seams_of cloth1 shuttles2) := (evb_asg ok (wkX hX rfl) (ev_call (md' := .sh) ok.toOk (fn_measured X) (by decide) (j := 0) rfl .sh (eva_cons (md := .sh) (ev_vsh ok.toOk (i := 0) (j := 0) rfl rfl rfl) eva_nil)) (evg_tup ok.toOk (lenS (lenS len0)) (evgs_cons (evg_name ok (i := 2) (j := 2) rfl rfl) fun _ => (evgs_cons (evg_name ok (i := 3) (j := 3) rfl rfl) fun _ => evgs_nil))) fun t6 => (evb_expr (wkX hX rfl) (ev_call (md' := .sh) ok.toOk (fn_seen_shuttles X) (by decide) (j := 1) rfl .sh (eva_cons (md := .sh) (ev_vsh ok.toOk (i := 1) (j := 1) rfl rfl rfl) (eva_cons (md := .sh) (ev_vsh ok.toOk (i := 3) (j := 3) rfl rfl rfl) eva_nil))) fun u13 => (evb_set ok (i := 4) (j := 4) rfl rfl (wkX hX rfl) .sh (ev_ofL (evl_call (md' := .sh) ok.toOk (fn_layer_numbers X) (by decide) (j := 2) rfl .sh (eva_cons (md := .sh) (ev_vsh ok.toOk (i := 0) (j := 0) rfl rfl rfl) eva_nil))) fun layers14 => (evb_own ok (i := 5) (j := 5) rfl rfl (wkX hX rfl) .sh (evl_nil (md := .sh) (S := (tTup (aCons tInt (aCons tInt (aCons tStr aNil)))))) fun seams18 => (evb_for (LF := (fun (s22 : ((List (Int × Int × Tx × Unit)))) => [(sV false (tList tStr) cloth1), (sV false (tList tInt) shuttles2), (sV false tInt t6.1), (sV false tInt t6.2.1), (sV false (tList tInt) layers14), (sOwn false (tTup (aCons tInt (aCons tInt (aCons tStr aNil)))) s22), sAny, sAny, sAny, sAny, sAny, sAny])) (s0 := seams18) ok (wkX hX rfl) (evi_seq ok.toOk sq_l (ev_ofL (evl_call (md' := .sh) ok.toOk (fn_turns_made X) (by decide) (j := 3) rfl .sh (eva_cons (md := .sh) (ev_vsh ok.toOk (i := 1) (j := 1) rfl rfl rfl) eva_nil)))) (Wk.s (Wk.s (Wk.s (Wk.s (Wk.s (Wk.s (Wk.s (Wk.s (Wk.s (Wk.s (Wk.s (Wk.s Wk.n)))))))))))) (fun _ => evg_tup ok.toOk (lenS (lenS (lenS len0))) (evgs_cons (evg_name ok (i := 6) (j := 6) rfl rfl) fun _ => (evgs_cons (evg_name ok (i := 7) (j := 7) rfl rfl) fun _ => (evgs_cons (evg_name ok (i := 8) (j := 8) rfl rfl) fun _ => evgs_nil)))) (fun s22 t23 => (evb_set ok (i := 9) (j := 9) rfl rfl (wkX hX rfl) .sh (ev_ixQ ok.toOk sq_l (ev_vsh ok.toOk (i := 4) (j := 4) rfl rfl rfl) (ev_add (md' := .sh) ok.toOk (ev_vsh ok.toOk (i := 2) (j := 2) rfl rfl rfl) (ev_vsh ok.toOk (i := 6) (j := 6) rfl rfl rfl))) fun one24 => (evb_set ok (i := 10) (j := 10) rfl rfl (wkX hX rfl) .sh (ev_ixQ ok.toOk sq_l (ev_vsh ok.toOk (i := 4) (j := 4) rfl rfl rfl) (ev_add (md' := .sh) ok.toOk (ev_vsh ok.toOk (i := 2) (j := 2) rfl rfl rfl) (ev_vsh ok.toOk (i := 7) (j := 7) rfl rfl rfl))) fun other29 => (evb_ifx (wkX hX rfl) (evt_c ok.toOk (c_eq s_int) (ev_vsh ok.toOk (i := 9) (j := 9) rfl rfl rfl) (ev_vsh ok.toOk (i := 10) (j := 10) rfl rfl rfl)) (evb_cont (L' := ((fun (s22 : ((List (Int × Int × Tx × Unit)))) => [(sV false (tList tStr) cloth1), (sV false (tList tInt) shuttles2), (sV false tInt t6.1), (sV false tInt t6.2.1), (sV false (tList tInt) layers14), (sOwn false (tTup (aCons tInt (aCons tInt (aCons tStr aNil)))) s22), sAny, sAny, sAny, sAny, sAny, sAny]) s22)) (.inr rfl) (Wk.s (Wk.s (Wk.s (Wk.s (Wk.s (Wk.s (Wk.a (Wk.a (Wk.a (Wk.a (Wk.a (Wk.s Wk.n))))))))))))) (evb_set ok (i := 11) (j := 11) rfl rfl (wkX hX rfl) .sh (ev_tup (fun d vs R h => by rw [(lenS (lenS (lenS len0))) h]; decide) (eva_cons (ev_min2 (md' := .sh) ok.toOk (j := 4) rfl X.g_min (ev_vsh ok.toOk (i := 9) (j := 9) rfl rfl rfl) (ev_vsh ok.toOk (i := 10) (j := 10) rfl rfl rfl)) (eva_cons (ev_max2 (md' := .sh) ok.toOk (j := 5) rfl X.g_max (ev_vsh ok.toOk (i := 9) (j := 9) rfl rfl rfl) (ev_vsh ok.toOk (i := 10) (j := 10) rfl rfl rfl)) (eva_cons (ev_vsh ok.toOk (i := 8) (j := 8) rfl rfl rfl) eva_nil)))) fun seam37 => (evb_ifl (wkX hX rfl) (evt_borrow (i := 5) rfl (evt_c ok.toOk (c_notinD ok.toOk (dTup (dCons dInt (dCons dInt (dCons dStr dNil)))) (by decide)) (ev_vsh ok.toOk (i := 11) (j := 11) rfl rfl rfl) (ev_vsh ok.toOk (i := 5) (j := 5) rfl rfl rfl))) (evb_append ok (wkX hX rfl) (i := 5) (j := 5) rfl rfl rfl .sh (ev_vsh ok.toOk (i := 11) (j := 11) rfl rfl rfl) fun seams54 => (evb_go (by rfl) (Wk.s (Wk.s (Wk.s (Wk.s (Wk.s (Wk.s (Wk.a (Wk.a (Wk.a (Wk.a (Wk.a (Wk.a Wk.n)))))))))))))) (evb_go (by rfl) (Wk.s (Wk.s (Wk.s (Wk.s (Wk.s (Wk.s (Wk.a (Wk.a (Wk.a (Wk.a (Wk.a (Wk.a Wk.n))))))))))))))))))) fun s59 => (evb_freeze (i := 5) rfl (evb_retL (wkX hX rfl) .sh (by intro _; rfl) (evl_sortD (md := .sh) ok.toOk (oTup (oCons oInt (oCons oInt (oCons oStr oNil)))) (by decide) st_tup (j := 6) rfl X.g_sorted (ev_vsh ok.toOk (i := 5) (j := 5) rfl rfl rfl)))))))))
theorem b_seams_of {p : Pr} (X : Facts p) : Body p s_seams_of N_seams_of V_seams_of G_seams_of 5 (fun (d : ((List Tx) × (List Int) × Unit)) => [(sV false (tList tStr) d.1), (sV false (tList tInt) d.2.1), sAny, sAny, sAny, sAny, sAny, sAny, sAny, sAny, sAny, sAny]) (fun r => .rtL false (tTup (aCons tInt (aCons tInt (aCons tStr aNil)))) r) r_seams_of := fun g ok hX d => bb_seams_of X ok hX d.1 d.2.1
theorem fn_seams_of {p : Pr} (X : Facts p) : Fn p 6 "seams_of" ["cloth", "shuttles"] (spM p (aCons (tList tStr) (aCons (tList tInt) aNil)) (fun r => .rtL false (tTup (aCons tInt (aCons tInt (aCons tStr aNil)))) r) c_seams_of) := by
  obtain ⟨f, fd, hF, hm⟩ := X.d_seams_of
  exact ⟨f, fd, eq_seams_of ▸ fn_rtL (m := 10) hF sc_seams_of (.cons (.cons .nil)) rfl rfl (b_seams_of X), hm, hF.kp, hF.bindsN fun _ _ _ _ _ _ us hl => match us, hl with | [_, _], _ => rfl⟩
/-! ### tubes_of -/
abbrev s_tubes_of : Stmt := topS 30
abbrev N_tubes_of : List Str := ["cloth", "shuttles", "seams", "tubes", "upper", "lower", "side"]
abbrev V_tubes_of : List Str := ["cloth", "shuttles", "seams", "tubes", "upper", "lower", "side"]
abbrev G_tubes_of : List Str := ["seams_of"]
theorem sc_tubes_of : Sc s_tubes_of N_tubes_of V_tubes_of ["cloth", "shuttles"] G_tubes_of := ⟨⟨rfl, rfl, rfl, by decide +kernel, rfl, by decide +kernel, by decide +kernel⟩, by decide +kernel, by decide +kernel, by decide +kernel⟩
def r_f_tubes_of_l1 (seams3 : (List (Int × Int × Tx × Unit))) : ((List (Int × Int × Unit))) → (Int × Int × Tx × Unit) → M ((List (Int × Int × Unit))) := fun s11 t12 => M.bind (M.ok ((decide (t12.2.2.1 = (tx "left"))) && (memD (t12.1, t12.2.1, (tx "right"), ()) seams3))) fun c27 => if c27 = true then M.bind (M.bind (M.ok t12.1) fun y31 => M.bind (M.bind (M.ok t12.2.1) fun y29 => M.bind (M.ok ()) fun y30 => M.ok (y29, y30)) fun y32 => M.ok (y31, y32)) fun y35 => M.bind (pushM s11 y35) fun tubes28 => M.ok tubes28 else M.ok s11
def f_tubes_of_l1 (seams3 : (List (Int × Int × Tx × Unit))) : ((List (Int × Int × Unit))) → (Int × Int × Tx × Unit) → M ((List (Int × Int × Unit))) := fun s11 t12 => if ((decide (t12.2.2.1 = (tx "left"))) && (memD (t12.1, t12.2.1, (tx "right"), ()) seams3)) = true then M.bind (pushM s11 (t12.1, t12.2.1, ())) fun tubes28 => M.ok tubes28 else M.ok s11
theorem eq_f_tubes_of_l1 (seams3 : (List (Int × Int × Tx × Unit))) : r_f_tubes_of_l1 seams3 = f_tubes_of_l1 seams3 := by funext s11 t12; first | (simp only [r_f_tubes_of_l1, f_tubes_of_l1, M.bind_assoc, M.bok, c_seams_of]; done) | (simp only [r_f_tubes_of_l1, f_tubes_of_l1, M.bind_assoc, M.bok, c_seams_of]; rfl)
def q_tubes_of (cloth1 : (List Tx)) (shuttles2 : (List Int)) : M (List (Int × Int × Unit)) := M.bind (M.bind (M.bind (M.ok cloth1) fun y6 => M.bind (M.bind (M.ok shuttles2) fun y4 => M.bind (M.ok ()) fun y5 => M.ok (y4, y5)) fun y7 => M.ok (y6, y7)) c_seams_of) fun seams3 => M.bind (M.ok []) fun tubes10 => M.bind (M.ok seams3) fun xs37 => M.bind (forM (r_f_tubes_of_l1 seams3) tubes10 xs37) fun (s38 : ((List (Int × Int × Unit)))) => M.ok s38
def f_tubes_of (cloth1 : (List Tx)) (shuttles2 : (List Int)) : M (List (Int × Int × Unit)) := M.bind (f_seams_of cloth1 shuttles2) fun seams3 => let tubes10 : (List (Int × Int × Unit)) := []; M.bind (forM (f_tubes_of_l1 seams3) tubes10 seams3) fun (s38 : ((List (Int × Int × Unit)))) => M.ok s38
def r_tubes_of (d : ((List Tx) × (List Int) × Unit)) : M (List (Int × Int × Unit)) := q_tubes_of d.1 d.2.1
def c_tubes_of (d : ((List Tx) × (List Int) × Unit)) : M (List (Int × Int × Unit)) := f_tubes_of d.1 d.2.1
theorem eq_tubes_of : r_tubes_of = c_tubes_of := by funext d; first | (simp only [r_tubes_of, c_tubes_of, q_tubes_of, f_tubes_of, M.bind_assoc, M.bok, eq_f_tubes_of_l1, c_seams_of]; done) | (simp only [r_tubes_of, c_tubes_of, q_tubes_of, f_tubes_of, M.bind_assoc, M.bok, eq_f_tubes_of_l1, c_seams_of]; rfl)
theorem bb_tubes_of {p : Pr} (X : Facts p) {g : G} (ok : OkS p (defScope s_tubes_of) N_tubes_of V_tubes_of G_tubes_of 6 g) (hX : g.LX = List.replicate N_tubes_of.length sAny) (cloth1 : (List Tx)) (shuttles2 : (List Int)) : EvB g [(sV false (tList tStr) cloth1), (sV false (tList tInt) shuttles2), sAny, sAny, sAny, sAny, sAny] (defBody s_tubes_of) (fun r => .rtL false (tTup (aCons tInt (aCons tInt aNil))) r) (q_tubes_of cloth1 shuttles2) := (evb_set ok (i := 2) (j := 2) rfl rfl (wkX hX rfl) .sh (ev_ofL (evl_call (md' := .sh) ok.toOk (fn_seams_of X) (by decide) (j := 0) rfl .sh (eva_cons (md := .sh) (ev_vsh ok.toOk (i := 0) (j := 0) rfl rfl rfl) (eva_cons (md := .sh) (ev_vsh ok.toOk (i := 1) (j := 1) rfl rfl rfl) eva_nil)))) fun seams3 => (evb_own ok (i := 3) (j := 3) rfl rfl (wkX hX rfl) .sh (evl_nil (md := .sh) (S := (tTup (aCons tInt (aCons tInt aNil))))) fun tubes10 => (evb_for (LF := (fun (s11 : ((List (Int × Int × Unit)))) => [(sV false (tList tStr) cloth1), (sV false (tList tInt) shuttles2), (sV false (tList (tTup (aCons tInt (aCons tInt (aCons tStr aNil))))) seams3), (sOwn false (tTup (aCons tInt (aCons tInt aNil))) s11), sAny, sAny, sAny])) (s0 := tubes10) ok (wkX hX rfl) (evi_seq ok.toOk sq_l (ev_vsh ok.toOk (i := 2) (j := 2) rfl rfl rfl)) (Wk.s (Wk.s (Wk.s (Wk.s (Wk.s (Wk.s (Wk.s Wk.n))))))) (fun _ => evg_tup ok.toOk (lenS (lenS (lenS len0))) (evgs_cons (evg_name ok (i := 4) (j := 4) rfl rfl) fun _ => (evgs_cons (evg_name ok (i := 5) (j := 5) rfl rfl) fun _ => (evgs_cons (evg_name ok (i := 6) (j := 6) rfl rfl) fun _ => evgs_nil)))) (fun s11 t12 => (evb_ifl (wkX hX rfl) (EvW.t (evw_andP (pureT (m := M.bind (M.ok t12.2.2.1) fun y13 => M.bind (M.ok (tx "left")) fun y14 => M.ok (decide (y13 = y14))) (evt_c ok.toOk (c_eq s_str) (ev_vsh ok.toOk (i := 6) (j := 6) rfl rfl rfl) (ev_str (md := .sh) (by decide +kernel))) rfl) (pureW (m := M.bind (M.bind (M.ok t12.1) fun y19 => M.bind (M.bind (M.ok t12.2.1) fun y17 => M.bind (M.bind (M.ok (tx "right")) fun y15 => M.bind (M.ok ()) fun y16 => M.ok (y15, y16)) fun y18 => M.ok (y17, y18)) fun y20 => M.ok (y19, y20)) fun y24 => M.bind (M.ok seams3) fun y25 => M.ok (memD y24 y25)) (evw_and1 (evt_c ok.toOk (c_inD ok.toOk (dTup (dCons dInt (dCons dInt (dCons dStr dNil)))) (by decide)) (ev_tup (fun d vs R h => by rw [(lenS (lenS (lenS len0))) h]; decide) (eva_cons (ev_vsh ok.toOk (i := 4) (j := 4) rfl rfl rfl) (eva_cons (ev_vsh ok.toOk (i := 5) (j := 5) rfl rfl rfl) (eva_cons (ev_str (md := .sh) (by decide +kernel)) eva_nil)))) (ev_vsh ok.toOk (i := 2) (j := 2) rfl rfl rfl))) rfl))) (evb_append ok (wkX hX rfl) (i := 3) (j := 3) rfl rfl rfl .sh (ev_tup (fun d vs R h => by rw [(lenS (lenS len0)) h]; decide) (eva_cons (ev_vsh ok.toOk (i := 4) (j := 4) rfl rfl rfl) (eva_cons (ev_vsh ok.toOk (i := 5) (j := 5) rfl rfl rfl) eva_nil))) fun tubes28 => (evb_go (by rfl) (Wk.s (Wk.s (Wk.s (Wk.s (Wk.a (Wk.a (Wk.a Wk.n))))))))) (evb_go (by rfl) (Wk.s (Wk.s (Wk.s (Wk.s (Wk.a (Wk.a (Wk.a Wk.n)))))))))) fun s38 => (evb_retOwn ok.toOk (i := 3) (j := 3) rfl rfl rfl (.inl rfl) (by rfl)))))
theorem b_tubes_of {p : Pr} (X : Facts p) : Body p s_tubes_of N_tubes_of V_tubes_of G_tubes_of 6 (fun (d : ((List Tx) × (List Int) × Unit)) => [(sV false (tList tStr) d.1), (sV false (tList tInt) d.2.1), sAny, sAny, sAny, sAny, sAny]) (fun r => .rtL false (tTup (aCons tInt (aCons tInt aNil))) r) r_tubes_of := fun g ok hX d => bb_tubes_of X ok hX d.1 d.2.1
theorem fn_tubes_of {p : Pr} (X : Facts p) : Fn p 7 "tubes_of" ["cloth", "shuttles"] (spM p (aCons (tList tStr) (aCons (tList tInt) aNil)) (fun r => .rtL false (tTup (aCons tInt (aCons tInt aNil))) r) c_tubes_of) := by
  obtain ⟨f, fd, hF, hm⟩ := X.d_tubes_of
  exact ⟨f, fd, eq_tubes_of ▸ fn_rtL (m := 5) hF sc_tubes_of (.cons (.cons .nil)) rfl rfl (b_tubes_of X), hm, hF.kp, hF.bindsN fun _ _ _ _ _ _ us hl => match us, hl with | [_, _], _ => rfl⟩
/-! ### sheets_of -/
abbrev s_sheets_of : Stmt := topS 31
abbrev N_sheets_of : List Str := ["cloth", "shuttles", "seams", "many", "marks", "upper", "lower", "side", "low", "high", "sheets", "first", "sheet", "mark", "layer"]
abbrev V_sheets_of : List Str := ["cloth", "shuttles", "seams", "many", "marks", "upper", "lower", "side", "low", "high", "sheets", "first", "sheet"]
abbrev G_sheets_of : List Str := ["seams_of", "layer_numbers", "max", "list", "range", "min", "len"]
theorem sc_sheets_of : Sc s_sheets_of N_sheets_of V_sheets_of ["cloth", "shuttles"] G_sheets_of := ⟨⟨rfl, rfl, rfl, by decide +kernel, rfl, by decide +kernel, by decide +kernel⟩, by decide +kernel, by decide +kernel, by decide +kernel⟩
def r_f_sheets_of_l1  : ((List Int)) → (Int × Int × Tx × Unit) → M ((List Int)) := fun s19 t20 => M.bind (M.bind (M.bind (M.ok s19) fun y22 => M.bind (M.ok t20.1) fun y23 => getM y22 y23) fun y26 => M.bind (M.bind (M.ok s19) fun y24 => M.bind (M.ok t20.2.1) fun y25 => getM y24 y25) fun y27 => M.ok (min y26 y27)) fun low21 => M.bind (M.bind (M.bind (M.ok s19) fun y29 => M.bind (M.ok t20.1) fun y30 => getM y29 y30) fun y33 => M.bind (M.bind (M.ok s19) fun y31 => M.bind (M.ok t20.2.1) fun y32 => getM y31 y32) fun y34 => M.ok (max y33 y34)) fun high28 => M.bind (M.bind (M.ok s19) fun xs42 => compM (fun mark36 => M.bind (M.ok true) fun c40 => if c40 = true then M.bind (M.bind (M.bind (M.ok mark36) fun y37 => M.bind (M.ok high28) fun y38 => M.ok (decide (y37 = y38))) fun c39 => if c39 = true then M.ok low21 else M.ok mark36) fun y41 => M.ok (some y41) else M.ok none) xs42) fun marks35 => M.ok marks35
def f_sheets_of_l1  : ((List Int)) → (Int × Int × Tx × Unit) → M ((List Int)) := fun s19 t20 => M.bind (M.bind (getM s19 t20.1) fun y26 => M.bind (getM s19 t20.2.1) fun y27 => M.ok (min y26 y27)) fun low21 => M.bind (M.bind (getM s19 t20.1) fun y33 => M.bind (getM s19 t20.2.1) fun y34 => M.ok (max y33 y34)) fun high28 => M.bind (compM (fun mark36 => M.bind (if (decide (mark36 = high28)) = true then M.ok low21 else M.ok mark36) fun y41 => M.ok (some y41)) s19) fun marks35 => M.ok marks35
theorem eq_f_sheets_of_l1  : r_f_sheets_of_l1  = f_sheets_of_l1  := by funext s19 t20; first | (simp only [r_f_sheets_of_l1, f_sheets_of_l1, M.bind_assoc, M.bok, c_layer_numbers, c_seams_of]; done) | (simp only [r_f_sheets_of_l1, f_sheets_of_l1, M.bind_assoc, M.bok, c_layer_numbers, c_seams_of]; rfl)
def r_f_sheets_of_l2 (many10 : Int) (s44 : ((List Int))) : ((List (List Int))) → Int → M ((List (List Int))) := fun s47 first48 => M.bind (M.bind (M.bind (M.ok many10) fun y50 => rangeM 0 y50) fun xs58 => compM (fun layer51 => M.bind (M.bind (M.bind (M.ok s44) fun y52 => M.bind (M.ok layer51) fun y53 => getM y52 y53) fun y54 => M.bind (M.ok first48) fun y55 => M.ok (decide (y54 = y55))) fun c56 => if c56 = true then M.bind (M.ok layer51) fun y57 => M.ok (some y57) else M.ok none) xs58) fun sheet49 => M.bind (M.bind (M.bind (M.ok sheet49) fun y59 => M.ok (y59.length : Int)) fun y60 => M.bind (M.ok (0 : Int)) fun y61 => M.ok (decide (y61 < y60))) fun c62 => if c62 = true then M.bind (M.ok sheet49) fun y64 => M.bind (pushM s47 y64) fun sheets63 => M.ok sheets63 else M.ok s47
def f_sheets_of_l2 (many10 : Int) (s44 : ((List Int))) : ((List (List Int))) → Int → M ((List (List Int))) := fun s47 first48 => M.bind (M.bind (rangeM 0 many10) fun xs58 => compM (fun layer51 => M.bind (M.bind (getM s44 layer51) fun y54 => M.ok (decide (y54 = first48))) fun c56 => if c56 = true then M.ok (some layer51) else M.ok none) xs58) fun sheet49 => if (decide ((0 : Int) < (sheet49.length : Int))) = true then M.bind (pushM s47 sheet49) fun sheets63 => M.ok sheets63 else M.ok s47
theorem eq_f_sheets_of_l2 (many10 : Int) (s44 : ((List Int))) : r_f_sheets_of_l2 many10 s44 = f_sheets_of_l2 many10 s44 := by funext s47 first48; first | (simp only [r_f_sheets_of_l2, f_sheets_of_l2, M.bind_assoc, M.bok, eq_f_sheets_of_l1, c_layer_numbers, c_seams_of]; done) | (simp only [r_f_sheets_of_l2, f_sheets_of_l2, M.bind_assoc, M.bok, eq_f_sheets_of_l1, c_layer_numbers, c_seams_of]; rfl)
def q_sheets_of (cloth1 : (List Tx)) (shuttles2 : (List Int)) : M (List (List Int)) := M.bind (M.bind (M.bind (M.ok cloth1) fun y6 => M.bind (M.bind (M.ok shuttles2) fun y4 => M.bind (M.ok ()) fun y5 => M.ok (y4, y5)) fun y7 => M.ok (y6, y7)) c_seams_of) fun seams3 => M.bind (M.bind (M.bind (M.bind (M.bind (M.ok cloth1) fun y11 => M.bind (M.ok ()) fun y12 => M.ok (y11, y12)) c_layer_numbers) fun y14 => maxM y14) fun y15 => M.bind (M.ok (1 : Int)) fun y16 => M.ok (y15 + y16)) fun many10 => M.bind (M.bind (M.ok many10) fun y18 => rangeL 0 y18) fun marks17 => M.bind (M.ok seams3) fun xs43 => M.bind (forM r_f_sheets_of_l1 marks17 xs43) fun (s44 : ((List Int))) => M.bind (M.ok []) fun sheets45 => M.bind (M.bind (M.ok many10) fun y46 => rangeM 0 y46) fun xs66 => M.bind (forM (r_f_sheets_of_l2 many10 s44) sheets45 xs66) fun (s67 : ((List (List Int)))) => M.ok s67
def f_sheets_of (cloth1 : (List Tx)) (shuttles2 : (List Int)) : M (List (List Int)) := M.bind (f_seams_of cloth1 shuttles2) fun seams3 => M.bind (M.bind (M.bind (f_layer_numbers cloth1) fun y14 => maxM y14) fun y15 => M.ok (y15 + (1 : Int))) fun many10 => M.bind (rangeL 0 many10) fun marks17 => M.bind (forM f_sheets_of_l1 marks17 seams3) fun (s44 : ((List Int))) => let sheets45 : (List (List Int)) := []; M.bind (rangeM 0 many10) fun xs66 => M.bind (forM (f_sheets_of_l2 many10 s44) sheets45 xs66) fun (s67 : ((List (List Int)))) => M.ok s67
def r_sheets_of (d : ((List Tx) × (List Int) × Unit)) : M (List (List Int)) := q_sheets_of d.1 d.2.1
def c_sheets_of (d : ((List Tx) × (List Int) × Unit)) : M (List (List Int)) := f_sheets_of d.1 d.2.1
theorem eq_sheets_of : r_sheets_of = c_sheets_of := by funext d; first | (simp only [r_sheets_of, c_sheets_of, q_sheets_of, f_sheets_of, M.bind_assoc, M.bok, eq_f_sheets_of_l1, eq_f_sheets_of_l2, c_layer_numbers, c_seams_of]; done) | (simp only [r_sheets_of, c_sheets_of, q_sheets_of, f_sheets_of, M.bind_assoc, M.bok, eq_f_sheets_of_l1, eq_f_sheets_of_l2, c_layer_numbers, c_seams_of]; rfl)
theorem bb_sheets_of {p : Pr} (X : Facts p) {g : G} (ok : OkS p (defScope s_sheets_of) N_sheets_of V_sheets_of G_sheets_of 6 g) (hX : g.LX = List.replicate N_sheets_of.length sAny) (cloth1 : (List Tx)) (shuttles2 : (List Int)) : EvB g [(sV false (tList tStr) cloth1), (sV false (tList tInt) shuttles2), sAny, sAny, sAny, sAny, sAny, sAny, sAny, sAny, sAny, sAny, sAny, sAny, sAny] (defBody s_sheets_of) (fun r => .rtL false (tList tInt) r) (q_sheets_of cloth1 shuttles2) := (evb_set ok (i := 2) (j := 2) rfl rfl (wkX hX rfl) .sh (ev_ofL (evl_call (md' := .sh) ok.toOk (fn_seams_of X) (by decide) (j := 0) rfl .sh (eva_cons (md := .sh) (ev_vsh ok.toOk (i := 0) (j := 0) rfl rfl rfl) (eva_cons (md := .sh) (ev_vsh ok.toOk (i := 1) (j := 1) rfl rfl rfl) eva_nil)))) fun seams3 => (evb_set ok (i := 3) (j := 3) rfl rfl (wkX hX rfl) .sh (ev_add (md' := .sh) ok.toOk (ev_max1 (md' := .sh) ok.toOk (j := 2) rfl X.g_max (ev_ofL (evl_call (md' := .sh) ok.toOk (fn_layer_numbers X) (by decide) (j := 1) rfl .sh (eva_cons (md := .sh) (ev_vsh ok.toOk (i := 0) (j := 0) rfl rfl rfl) eva_nil)))) (ev_int (md := .sh))) fun many10 => (evb_set ok (i := 4) (j := 4) rfl rfl (wkX hX rfl) .sh (ev_ofL (evl_listRg1 (md' := .sh) ok.toOk (j := 3) rfl X.g_list (j2 := 4) rfl X.g_range (ev_vsh ok.toOk (i := 3) (j := 3) rfl rfl rfl))) fun marks17 => (evb_for (LF := (fun (s19 : ((List Int))) => [(sV false (tList tStr) cloth1), (sV false (tList tInt) shuttles2), (sV false (tList (tTup (aCons tInt (aCons tInt (aCons tStr aNil))))) seams3), (sV false tInt many10), (sV false (tList tInt) s19), sAny, sAny, sAny, sAny, sAny, sAny, sAny, sAny, sAny, sAny])) (s0 := marks17) ok (wkX hX rfl) (evi_seq ok.toOk sq_l (ev_vsh ok.toOk (i := 2) (j := 2) rfl rfl rfl)) (Wk.s (Wk.s (Wk.s (Wk.s (Wk.s (Wk.s (Wk.s (Wk.s (Wk.s (Wk.s (Wk.s (Wk.s (Wk.s (Wk.s (Wk.s Wk.n))))))))))))))) (fun _ => evg_tup ok.toOk (lenS (lenS (lenS len0))) (evgs_cons (evg_name ok (i := 5) (j := 5) rfl rfl) fun _ => (evgs_cons (evg_name ok (i := 6) (j := 6) rfl rfl) fun _ => (evgs_cons (evg_name ok (i := 7) (j := 7) rfl rfl) fun _ => evgs_nil)))) (fun s19 t20 => (evb_set ok (i := 8) (j := 8) rfl rfl (wkX hX rfl) .sh (ev_min2 (md' := .sh) ok.toOk (j := 5) rfl X.g_min (ev_ixQ ok.toOk sq_l (ev_vsh ok.toOk (i := 4) (j := 4) rfl rfl rfl) (ev_vsh ok.toOk (i := 5) (j := 5) rfl rfl rfl)) (ev_ixQ ok.toOk sq_l (ev_vsh ok.toOk (i := 4) (j := 4) rfl rfl rfl) (ev_vsh ok.toOk (i := 6) (j := 6) rfl rfl rfl))) fun low21 => (evb_set ok (i := 9) (j := 9) rfl rfl (wkX hX rfl) .sh (ev_max2 (md' := .sh) ok.toOk (j := 2) rfl X.g_max (ev_ixQ ok.toOk sq_l (ev_vsh ok.toOk (i := 4) (j := 4) rfl rfl rfl) (ev_vsh ok.toOk (i := 5) (j := 5) rfl rfl rfl)) (ev_ixQ ok.toOk sq_l (ev_vsh ok.toOk (i := 4) (j := 4) rfl rfl rfl) (ev_vsh ok.toOk (i := 6) (j := 6) rfl rfl rfl))) fun high28 => (evb_set (hs := (sw_cell (by rw [ok.scp]; exact isCell_k (by decide +kernel)))) ok (i := 4) (j := 4) rfl rfl (wkX hX rfl) .sh (ev_ofL (evl_lc (md := .sh) (VV' := ["mark", "high", "low"]) (GG' := []) (i := 13) ok.toOk (evi_seq ok.toOk sq_l (ev_vsh ok.toOk (i := 4) (j := 4) rfl rfl rfl)) rfl rfl no_any (by decide +kernel) (by decide +kernel) (by decide +kernel) (by decide +kernel) (fun g' okc mark36 => evpts_nil) (fun g' okc mark36 => (ev_ifx (evt_c okc (c_eq s_int) (ev_vsh okc (i := 13) (j := 0) rfl rfl rfl) (ev_vsh okc (i := 9) (j := 1) rfl rfl rfl)) (ev_vsh okc (i := 8) (j := 2) rfl rfl rfl) (ev_vsh okc (i := 13) (j := 0) rfl rfl rfl))))) fun marks35 => (evb_go (by rfl) (Wk.s (Wk.s (Wk.s (Wk.s (Wk.s (Wk.a (Wk.a (Wk.a (Wk.a (Wk.a (Wk.s (Wk.s (Wk.s (Wk.s (Wk.s Wk.n)))))))))))))))))))) fun s44 => (evb_own ok (i := 10) (j := 10) rfl rfl (wkX hX rfl) .sh (evl_nil (md := .sh) (S := (tList tInt))) fun sheets45 => (evb_for (LF := (fun (s47 : ((List (List Int)))) => [(sV false (tList tStr) cloth1), (sV false (tList tInt) shuttles2), (sV false (tList (tTup (aCons tInt (aCons tInt (aCons tStr aNil))))) seams3), (sV false tInt many10), (sV false (tList tInt) s44), sAny, sAny, sAny, sAny, sAny, (sOwn false (tList tInt) s47), sAny, sAny, sAny, sAny])) (s0 := sheets45) ok (wkX hX rfl) (evi_range1 ok.toOk (j := 4) rfl X.g_range (ev_vsh ok.toOk (i := 3) (j := 3) rfl rfl rfl)) (Wk.s (Wk.s (Wk.s (Wk.s (Wk.s (Wk.s (Wk.s (Wk.s (Wk.s (Wk.s (Wk.s (Wk.s (Wk.s (Wk.s (Wk.s Wk.n))))))))))))))) (fun _ => evg_name ok (i := 11) (j := 11) rfl rfl) (fun s47 first48 => (evb_setC (md := .sh) (VV' := ["marks", "layer", "first"]) (GG' := []) (i := 14) (i2 := 12) ok rfl (wkX hX rfl) (by decide +kernel) (by rfl) (by decide +kernel) (evi_range1 ok.toOk (j := 4) rfl X.g_range (ev_vsh ok.toOk (i := 3) (j := 3) rfl rfl rfl)) rfl rfl no_any (by decide +kernel) (by decide +kernel) (by decide +kernel) (by decide +kernel) (fun g' okc layer51 => (evpts_one (evt_c okc (c_eq s_int) (ev_ixQ okc sq_l (ev_vsh okc (i := 4) (j := 0) rfl rfl rfl) (ev_vsh okc (i := 14) (j := 1) rfl rfl rfl)) (ev_vsh okc (i := 11) (j := 2) rfl rfl rfl)))) (fun g' okc layer51 => (ev_vsh okc (i := 14) (j := 1) rfl rfl rfl)) fun sheet49 => (evb_ifl (wkX hX rfl) (evt_c ok.toOk c_gt (ev_lenQ (md' := .sh) ok.toOk sq_l (j := 6) rfl X.g_len (ev_vsh ok.toOk (i := 12) (j := 12) rfl rfl rfl)) (ev_int (md := .sh))) (evb_append ok (wkX hX rfl) (i := 10) (j := 10) rfl rfl rfl .sh (ev_vsh ok.toOk (i := 12) (j := 12) rfl rfl rfl) fun sheets63 => (evb_go (by rfl) (Wk.s (Wk.s (Wk.s (Wk.s (Wk.s (Wk.s (Wk.s (Wk.s (Wk.s (Wk.s (Wk.s (Wk.a (Wk.a (Wk.s (Wk.s Wk.n))))))))))))))))) (evb_go (by rfl) (Wk.s (Wk.s (Wk.s (Wk.s (Wk.s (Wk.s (Wk.s (Wk.s (Wk.s (Wk.s (Wk.s (Wk.a (Wk.a (Wk.s (Wk.s Wk.n))))))))))))))))))) fun s67 => (evb_retOwn ok.toOk (i := 10) (j := 10) rfl rfl rfl (.inl rfl) (by rfl))))))))
theorem b_sheets_of {p : Pr} (X : Facts p) : Body p s_sheets_of N_sheets_of V_sheets_of G_sheets_of 6 (fun (d : ((List Tx) × (List Int) × Unit)) => [(sV false (tList tStr) d.1), (sV false (tList tInt) d.2.1), sAny, sAny, sAny, sAny, sAny, sAny, sAny, sAny, sAny, sAny, sAny, sAny, sAny]) (fun r => .rtL false (tList tInt) r) r_sheets_of := fun g ok hX d => bb_sheets_of X ok hX d.1 d.2.1
theorem fn_sheets_of {p : Pr} (X : Facts p) : Fn p 7 "sheets_of" ["cloth", "shuttles"] (spM p (aCons (tList tStr) (aCons (tList tInt) aNil)) (fun r => .rtL false (tList tInt) r) c_sheets_of) := by
  obtain ⟨f, fd, hF, hm⟩ := X.d_sheets_of
  exact ⟨f, fd, eq_sheets_of ▸ fn_rtL (m := 13) hF sc_sheets_of (.cons (.cons .nil)) rfl rfl (b_sheets_of X), hm, hF.kp, hF.bindsN fun _ _ _ _ _ _ us hl => match us, hl with | [_, _], _ => rfl⟩
/-! ### _law_word -/
abbrev s__law_word : Stmt := topS 39
abbrev N__law_word : List Str := ["way", "given", "shuttles", "caught", "e", "word"]
abbrev V__law_word : List Str := ["way", "given", "shuttles", "caught", "e", "word"]
abbrev G__law_word : List Str := ["taken_apart", "seams_of", "tubes_of", "sheets_of", "NoColour", "NoLaying", "NoDeed", "NoStrand", "NoDraft", "TooLarge", "NoRow", "isinstance", "Twice", "Unknown", "NoPattern", "NoBlock", "ValueError", "NoCloth", "NoShuttle", "WeaveError"]
theorem sc__law_word : Sc s__law_word N__law_word V__law_word ["way", "given", "shuttles"] G__law_word := ⟨⟨rfl, rfl, rfl, by decide +kernel, rfl, by decide +kernel, by decide +kernel⟩, by decide +kernel, by decide +kernel, by decide +kernel⟩
def q__law_word (way1 : Int) (given2 : (List Tx)) (shuttles3 : (List Int)) : M Tx := M.bind (M.ok none) fun caught4 => M.bind (tryM kn_ .weave (M.bind (M.bind (M.ok way1) fun y5 => M.bind (M.ok (0 : Int)) fun y6 => M.ok (decide (y5 = y6))) fun c7 => if c7 = true then M.bind (M.bind (M.bind (M.ok given2) fun y8 => M.bind (M.ok ()) fun y9 => M.ok (y8, y9)) c_taken_apart) fun u11 => M.ok caught4 else M.bind (M.bind (M.ok way1) fun y12 => M.bind (M.ok (1 : Int)) fun y13 => M.ok (decide (y12 = y13))) fun c14 => if c14 = true then M.bind (M.bind (M.bind (M.ok given2) fun y17 => M.bind (M.bind (M.ok shuttles3) fun y15 => M.bind (M.ok ()) fun y16 => M.ok (y15, y16)) fun y18 => M.ok (y17, y18)) c_seams_of) fun u21 => M.ok caught4 else M.bind (M.bind (M.ok way1) fun y22 => M.bind (M.ok (2 : Int)) fun y23 => M.ok (decide (y22 = y23))) fun c24 => if c24 = true then M.bind (M.bind (M.bind (M.ok given2) fun y27 => M.bind (M.bind (M.ok shuttles3) fun y25 => M.bind (M.ok ()) fun y26 => M.ok (y25, y26)) fun y28 => M.ok (y27, y28)) c_tubes_of) fun u31 => M.ok caught4 else M.bind (M.bind (M.bind (M.ok given2) fun y34 => M.bind (M.bind (M.ok shuttles3) fun y32 => M.bind (M.ok ()) fun y33 => M.ok (y32, y33)) fun y35 => M.ok (y34, y35)) c_sheets_of) fun u38 => M.ok caught4) fun e43 => (some e43)) fun (s42 : ((Option Ec))) => M.bind (M.bind (M.ok s42) fun y44 => M.ok y44.isNone) fun c45 => if c45 = true then M.ok (tx "told") else M.bind (M.bind (M.ok s42) fun y47 => isEsM kn_ y47 [.noRow, .tooLarge, .noDraft, .noStrand, .noDeed, .noLaying, .noColour]) fun c48 => if c48 = true then M.ok (tx "another") else M.bind (M.bind (M.bind (M.ok s42) fun y50 => isEsM kn_ y50 [.noBlock, .noPattern, .unknown, .twice]) fun c53 => if c53 = true then M.ok true else M.bind (M.bind (M.ok s42) fun y51 => isVM kn_ y51) fun y52 => M.ok (!y52)) fun c55 => if c55 = true then M.ok (tx "another") else M.bind (M.bind (M.bind (M.ok s42) fun y58 => unM y58) fun y59 => calledM kc_ y59) fun word57 => M.bind (M.bind (M.bind (M.ok s42) fun y60 => isEM kn_ y60 .noCloth) fun c67 => if c67 = true then M.bind (M.bind (M.bind (M.ok s42) fun y61 => isEM kn_ y61 .noShuttle) fun y62 => M.ok (!y62)) fun c65 => if c65 = true then M.bind (M.ok word57) fun y63 => M.bind (M.ok (tx "NoCloth")) fun y64 => M.ok (decide (y63 = y64)) else M.ok false else M.ok false) fun c69 => if c69 = true then M.ok (tx "NoCloth") else M.bind (M.bind (M.bind (M.ok s42) fun y71 => isEM kn_ y71 .noShuttle) fun c78 => if c78 = true then M.bind (M.bind (M.bind (M.ok s42) fun y72 => isEM kn_ y72 .noCloth) fun y73 => M.ok (!y73)) fun c76 => if c76 = true then M.bind (M.ok word57) fun y74 => M.bind (M.ok (tx "NoShuttle")) fun y75 => M.ok (decide (y74 = y75)) else M.ok false else M.ok false) fun c80 => if c80 = true then M.ok (tx "NoShuttle") else M.ok (tx "another")
def f_law_word (way1 : Int) (given2 : (List Tx)) (shuttles3 : (List Int)) : M Tx := let caught4 : (Option Ec) := none; M.bind (tryM kn_ .weave (if (decide (way1 = (0 : Int))) = true then M.bind (f_taken_apart given2) fun u11 => M.ok caught4 else if (decide (way1 = (1 : Int))) = true then M.bind (f_seams_of given2 shuttles3) fun u21 => M.ok caught4 else if (decide (way1 = (2 : Int))) = true then M.bind (f_tubes_of given2 shuttles3) fun u31 => M.ok caught4 else M.bind (f_sheets_of given2 shuttles3) fun u38 => M.ok caught4) fun e43 => (some e43)) fun (s42 : ((Option Ec))) => if s42.isNone = true then M.ok (tx "told") else M.bind (isEsM kn_ s42 [.noRow, .tooLarge, .noDraft, .noStrand, .noDeed, .noLaying, .noColour]) fun c86 => if c86 = true then M.ok (tx "another") else M.bind (M.bind (isEsM kn_ s42 [.noBlock, .noPattern, .unknown, .twice]) fun c54 => if c54 = true then M.ok true else M.bind (isVM kn_ s42) fun y52 => M.ok (!y52)) fun c85 => if c85 = true then M.ok (tx "another") else M.bind (M.bind (unM s42) fun y59 => calledM kc_ y59) fun word57 => M.bind (M.bind (isEM kn_ s42 .noCloth) fun c68 => if c68 = true then M.bind (M.bind (isEM kn_ s42 .noShuttle) fun y62 => M.ok (!y62)) fun c66 => if c66 = true then M.ok (decide (word57 = (tx "NoCloth"))) else M.ok false else M.ok false) fun c84 => if c84 = true then M.ok (tx "NoCloth") else M.bind (M.bind (isEM kn_ s42 .noShuttle) fun c79 => if c79 = true then M.bind (M.bind (isEM kn_ s42 .noCloth) fun y73 => M.ok (!y73)) fun c77 => if c77 = true then M.ok (decide (word57 = (tx "NoShuttle"))) else M.ok false else M.ok false) fun c83 => if c83 = true then M.ok (tx "NoShuttle") else M.ok (tx "another")
def r__law_word (d : (Int × (List Tx) × (List Int) × Unit)) : M Tx := q__law_word d.1 d.2.1 d.2.2.1
def c__law_word (d : (Int × (List Tx) × (List Int) × Unit)) : M Tx := f_law_word d.1 d.2.1 d.2.2.1
theorem eq__law_word : r__law_word = c__law_word := by funext d; first | (simp only [r__law_word, c__law_word, q__law_word, f_law_word, M.bind_assoc, M.bok, c_seams_of, c_sheets_of, c_taken_apart, c_tubes_of]; done) | (simp only [r__law_word, c__law_word, q__law_word, f_law_word, M.bind_assoc, M.bok, c_seams_of, c_sheets_of, c_taken_apart, c_tubes_of]; rfl)
theorem bb__law_word {p : Pr} (X : Facts p) {g : G} (ok : OkS p (defScope s__law_word) N__law_word V__law_word G__law_word 7 g) (hX : g.LX = List.replicate N__law_word.length sAny) (way1 : Int) (given2 : (List Tx)) (shuttles3 : (List Int)) : EvB g [(sV false tInt way1), (sV false (tList tStr) given2), (sV false (tList tInt) shuttles3), sAny, sAny, sAny] (defBody s__law_word) (fun r => .rt false tStr r) (q__law_word way1 given2 shuttles3) := (evb_set ok (i := 3) (j := 3) rfl rfl (wkX hX rfl) .sh (ev_optN (md := .sh)) fun caught4 => (evb_tryA (LJ := (fun (s42 : ((Option Ec))) => [(sV false tInt way1), (sV false (tList tStr) given2), (sV false (tList tInt) shuttles3), (sV false (tOpt (tExc p)) s42), sAny, sAny])) (h := fun e43 => (some e43)) ok (wkX hX rfl) X.kn (by decide) X.x_WeaveError.gP (j := 19) rfl (iE := 4) (iC := 3) (jE := 4) (jC := 3) rfl rfl (by decide +kernel) rfl rfl rfl (fun g' ok hX => (evb_ifl (wkL hX (Wk.s (Wk.s (Wk.s (Wk.s (Wk.s (Wk.s Wk.n))))))) (evt_c ok.toOk (c_eq s_int) (ev_vsh ok.toOk (i := 0) (j := 0) rfl rfl rfl) (ev_int (md := .sh))) (evb_expr (wkL hX (Wk.s (Wk.s (Wk.s (Wk.s (Wk.s (Wk.s Wk.n))))))) (ev_call (md' := .sh) ok.toOk (fn_taken_apart X) (by decide) (j := 0) rfl .sh (eva_cons (md := .sh) (ev_vsh ok.toOk (i := 1) (j := 1) rfl rfl rfl) eva_nil)) fun u11 => (evb_nx (by rfl) (Wk.s (Wk.s (Wk.s (Wk.s (Wk.s (Wk.s Wk.n)))))))) (evb_ifl (wkL hX (Wk.s (Wk.s (Wk.s (Wk.s (Wk.s (Wk.s Wk.n))))))) (evt_c ok.toOk (c_eq s_int) (ev_vsh ok.toOk (i := 0) (j := 0) rfl rfl rfl) (ev_int (md := .sh))) (evb_expr (wkL hX (Wk.s (Wk.s (Wk.s (Wk.s (Wk.s (Wk.s Wk.n))))))) (ev_ofL (evl_call (md' := .sh) ok.toOk (fn_seams_of X) (by decide) (j := 1) rfl .sh (eva_cons (md := .sh) (ev_vsh ok.toOk (i := 1) (j := 1) rfl rfl rfl) (eva_cons (md := .sh) (ev_vsh ok.toOk (i := 2) (j := 2) rfl rfl rfl) eva_nil)))) fun u21 => (evb_nx (by rfl) (Wk.s (Wk.s (Wk.s (Wk.s (Wk.s (Wk.s Wk.n)))))))) (evb_ifl (wkL hX (Wk.s (Wk.s (Wk.s (Wk.s (Wk.s (Wk.s Wk.n))))))) (evt_c ok.toOk (c_eq s_int) (ev_vsh ok.toOk (i := 0) (j := 0) rfl rfl rfl) (ev_int (md := .sh))) (evb_expr (wkL hX (Wk.s (Wk.s (Wk.s (Wk.s (Wk.s (Wk.s Wk.n))))))) (ev_ofL (evl_call (md' := .sh) ok.toOk (fn_tubes_of X) (by decide) (j := 2) rfl .sh (eva_cons (md := .sh) (ev_vsh ok.toOk (i := 1) (j := 1) rfl rfl rfl) (eva_cons (md := .sh) (ev_vsh ok.toOk (i := 2) (j := 2) rfl rfl rfl) eva_nil)))) fun u31 => (evb_nx (by rfl) (Wk.s (Wk.s (Wk.s (Wk.s (Wk.s (Wk.s Wk.n)))))))) (evb_expr (wkL hX (Wk.s (Wk.s (Wk.s (Wk.s (Wk.s (Wk.s Wk.n))))))) (ev_ofL (evl_call (md' := .sh) ok.toOk (fn_sheets_of X) (by decide) (j := 3) rfl .sh (eva_cons (md := .sh) (ev_vsh ok.toOk (i := 1) (j := 1) rfl rfl rfl) (eva_cons (md := .sh) (ev_vsh ok.toOk (i := 2) (j := 2) rfl rfl rfl) eva_nil)))) fun u38 => (evb_nx (by rfl) (Wk.s (Wk.s (Wk.s (Wk.s (Wk.s (Wk.s Wk.n)))))))))))) (fun e43 => (Wk.s (Wk.s (Wk.s (Wk.s (Wk.s (Wk.s Wk.n))))))) fun s42 => (evb_ifx (wkX hX rfl) (evt_isN ok.toOk (ev_vsh ok.toOk (i := 3) (j := 3) rfl rfl rfl)) (evb_ret (wkX hX rfl) .sh (by intro _; rfl) (ev_str (md := .sh) (by decide +kernel))) (evb_ifx (wkX hX rfl) (evt_of (ev_isEs (md' := .sh) ok.toOk X.kn (by decide) (j := 11) rfl X.g_isinstance (ev_vsh ok.toOk (i := 3) (j := 3) rfl rfl rfl) (ev_tupL (n := 7) (lnS (lnS (lnS (lnS (lnS (lnS (lnS ln0))))))) (by decide) (evs_cons (ev_cls (md := .sh) ok.toOk (j := 10) rfl X.x_NoRow.gP) (evs_cons (ev_cls (md := .sh) ok.toOk (j := 9) rfl X.x_TooLarge.gP) (evs_cons (ev_cls (md := .sh) ok.toOk (j := 8) rfl X.x_NoDraft.gP) (evs_cons (ev_cls (md := .sh) ok.toOk (j := 7) rfl X.x_NoStrand.gP) (evs_cons (ev_cls (md := .sh) ok.toOk (j := 6) rfl X.x_NoDeed.gP) (evs_cons (ev_cls (md := .sh) ok.toOk (j := 5) rfl X.x_NoLaying.gP) (evs_cons (ev_cls (md := .sh) ok.toOk (j := 4) rfl X.x_NoColour.gP) evs_nil)))))))) rfl)) (evb_ret (wkX hX rfl) .sh (by intro _; rfl) (ev_str (md := .sh) (by decide +kernel))) (evb_ifx (wkX hX rfl) (EvW.t (evw_or (evt_of (ev_isEs (md' := .sh) ok.toOk X.kn (by decide) (j := 11) rfl X.g_isinstance (ev_vsh ok.toOk (i := 3) (j := 3) rfl rfl rfl) (ev_tupL (n := 4) (lnS (lnS (lnS (lnS ln0)))) (by decide) (evs_cons (ev_cls (md := .sh) ok.toOk (j := 15) rfl X.x_NoBlock.gP) (evs_cons (ev_cls (md := .sh) ok.toOk (j := 14) rfl X.x_NoPattern.gP) (evs_cons (ev_cls (md := .sh) ok.toOk (j := 13) rfl X.x_Unknown.gP) (evs_cons (ev_cls (md := .sh) ok.toOk (j := 12) rfl X.x_Twice.gP) evs_nil))))) rfl)) (evw_or1 (evt_not (evt_of (ev_isV (md' := .sh) ok.toOk X.kn (j := 11) rfl X.g_isinstance (ev_vsh ok.toOk (i := 3) (j := 3) rfl rfl rfl) (ev_ty (n := "ValueError") (md := .sh) ok.toOk (j := 16) rfl X.g_ValueError (by decide +kernel)))))))) (evb_ret (wkX hX rfl) .sh (by intro _; rfl) (ev_str (md := .sh) (by decide +kernel))) (evb_set ok (i := 5) (j := 5) rfl rfl (wkX hX rfl) .sh (ev_called (md' := .sh) ok.toOk (by decide) X.kn (hkc X) (ev_un1 (ev_vsh ok.toOk (i := 3) (j := 3) rfl rfl rfl))) fun word57 => (evb_ifx (wkX hX rfl) (EvW.t (evw_and (evt_of (ev_isE (md' := .sh) ok.toOk X.kn (by decide) (j := 11) rfl X.g_isinstance (ev_vsh ok.toOk (i := 3) (j := 3) rfl rfl rfl) (ev_cls (md := .sh) ok.toOk (j := 17) rfl X.x_NoCloth.gP))) (evw_and (evt_not (evt_of (ev_isE (md' := .sh) ok.toOk X.kn (by decide) (j := 11) rfl X.g_isinstance (ev_vsh ok.toOk (i := 3) (j := 3) rfl rfl rfl) (ev_cls (md := .sh) ok.toOk (j := 18) rfl X.x_NoShuttle.gP)))) (evw_and1 (evt_c ok.toOk (c_eq s_str) (ev_vsh ok.toOk (i := 5) (j := 5) rfl rfl rfl) (ev_str (md := .sh) (by decide +kernel))))))) (evb_ret (wkX hX rfl) .sh (by intro _; rfl) (ev_str (md := .sh) (by decide +kernel))) (evb_ifx (wkX hX rfl) (EvW.t (evw_and (evt_of (ev_isE (md' := .sh) ok.toOk X.kn (by decide) (j := 11) rfl X.g_isinstance (ev_vsh ok.toOk (i := 3) (j := 3) rfl rfl rfl) (ev_cls (md := .sh) ok.toOk (j := 18) rfl X.x_NoShuttle.gP))) (evw_and (evt_not (evt_of (ev_isE (md' := .sh) ok.toOk X.kn (by decide) (j := 11) rfl X.g_isinstance (ev_vsh ok.toOk (i := 3) (j := 3) rfl rfl rfl) (ev_cls (md := .sh) ok.toOk (j := 17) rfl X.x_NoCloth.gP)))) (evw_and1 (evt_c ok.toOk (c_eq s_str) (ev_vsh ok.toOk (i := 5) (j := 5) rfl rfl rfl) (ev_str (md := .sh) (by decide +kernel))))))) (evb_ret (wkX hX rfl) .sh (by intro _; rfl) (ev_str (md := .sh) (by decide +kernel))) (evb_ret (wkX hX rfl) .sh (by intro _; rfl) (ev_str (md := .sh) (by decide +kernel)))))))))))
theorem b__law_word {p : Pr} (X : Facts p) : Body p s__law_word N__law_word V__law_word G__law_word 7 (fun (d : (Int × (List Tx) × (List Int) × Unit)) => [(sV false tInt d.1), (sV false (tList tStr) d.2.1), (sV false (tList tInt) d.2.2.1), sAny, sAny, sAny]) (fun r => .rt false tStr r) r__law_word := fun g ok hX d => bb__law_word X ok hX d.1 d.2.1 d.2.2.1
theorem fn__law_word {p : Pr} (X : Facts p) : Fn p 8 "_law_word" ["way", "given", "shuttles"] (spM p (aCons tInt (aCons (tList tStr) (aCons (tList tInt) aNil))) (fun r => .rt false tStr r) c__law_word) := by
  obtain ⟨f, fd, hF, hm⟩ := X.d__law_word
  exact ⟨f, fd, eq__law_word ▸ fn_rt (m := 3) hF sc__law_word (.cons (.cons (.cons .nil))) rfl rfl (b__law_word X), hm, hF.kp, hF.bindsN fun _ _ _ _ _ _ us hl => match us, hl with | [_, _, _], _ => rfl⟩
/-! ### law -/
abbrev s_law : Stmt := topS 43
abbrev N_law : List Str := ["script", "numbers", "fault", "other", "high", "given", "shuttles", "bad", "odd", "way", "due", "j"]
abbrev V_law : List Str := ["script", "numbers", "fault", "other", "high", "given", "shuttles", "bad", "odd", "way", "due"]
abbrev G_law : List Str := ["_law_numbers", "max", "_law_cloth", "range", "_law_spoilt_cloth", "_law_spoilt_shuttles", "list", "_law_word"]
theorem sc_law : Sc s_law N_law V_law ["script"] G_law := ⟨⟨rfl, rfl, rfl, by decide +kernel, rfl, by decide +kernel, by decide +kernel⟩, by decide +kernel, by decide +kernel, by decide +kernel⟩
def r_f_law_l1 (fault9 : Int) (other17 : Int) (given41 : (List Tx)) (shuttles64 : (List Int)) (s94 : ((List Tx))) (odd95 : (List Int)) : Unit → Int → M (Fl Unit Bool) := fun s106 way107 => M.bind (M.ok (tx "told")) fun due108 => M.bind (M.ok ((decide ((0 : Int) < other17)) && (decide ((0 : Int) < way107)))) fun c114 => M.bind (if c114 = true then M.bind (M.ok (tx "NoShuttle")) fun due115 => M.ok due115 else M.ok due108) fun (s116 : (Tx)) => M.bind (M.bind (M.ok fault9) fun y117 => M.bind (M.ok (0 : Int)) fun y118 => M.ok (decide (y118 < y117))) fun c119 => M.bind (if c119 = true then M.bind (M.ok (tx "NoCloth")) fun due120 => M.ok due120 else M.ok s116) fun (s121 : (Tx)) => M.bind (M.bind (M.bind (M.bind (M.ok way107) fun y126 => M.bind (M.bind (M.ok s94) fun y124 => M.bind (M.bind (M.ok odd95) fun y122 => M.bind (M.ok ()) fun y123 => M.ok (y122, y123)) fun y125 => M.ok (y124, y125)) fun y127 => M.ok (y126, y127)) c__law_word) fun y131 => M.bind (M.ok s121) fun y132 => M.ok (!decide (y131 = y132))) fun c133 => if c133 = true then M.bind (M.ok false) fun r134 => M.ok (Fl.rt r134) else M.bind (M.bind (M.bind (M.bind (M.ok way107) fun y139 => M.bind (M.bind (M.ok given41) fun y137 => M.bind (M.bind (M.ok shuttles64) fun y135 => M.bind (M.ok ()) fun y136 => M.ok (y135, y136)) fun y138 => M.ok (y137, y138)) fun y140 => M.ok (y139, y140)) c__law_word) fun y144 => M.bind (M.ok (tx "told")) fun y145 => M.ok (!decide (y144 = y145))) fun c146 => if c146 = true then M.bind (M.ok false) fun r147 => M.ok (Fl.rt r147) else M.bind (M.bind (M.bind (M.bind (M.ok way107) fun y152 => M.bind (M.bind (M.ok s94) fun y150 => M.bind (M.bind (M.ok odd95) fun y148 => M.bind (M.ok ()) fun y149 => M.ok (y148, y149)) fun y151 => M.ok (y150, y151)) fun y153 => M.ok (y152, y153)) c__law_word) fun y157 => M.bind (M.ok s121) fun y158 => M.ok (!decide (y157 = y158))) fun c159 => if c159 = true then M.bind (M.ok false) fun r160 => M.ok (Fl.rt r160) else M.ok (Fl.nx ())
def f_law_l1 (fault9 : Int) (other17 : Int) (given41 : (List Tx)) (shuttles64 : (List Int)) (s94 : ((List Tx))) (odd95 : (List Int)) : Unit → Int → M (Fl Unit Bool) := fun s106 way107 => let due108 : Tx := (tx "told"); M.bind (if ((decide ((0 : Int) < other17)) && (decide ((0 : Int) < way107))) = true then let due115 : Tx := (tx "NoShuttle"); M.ok due115 else M.ok due108) fun (s116 : (Tx)) => M.bind (if (decide ((0 : Int) < fault9)) = true then let due120 : Tx := (tx "NoCloth"); M.ok due120 else M.ok s116) fun (s121 : (Tx)) => M.bind (M.bind (f_law_word way107 s94 odd95) fun y131 => M.ok (!decide (y131 = s121))) fun c163 => if c163 = true then M.ok (Fl.rt false) else M.bind (M.bind (f_law_word way107 given41 shuttles64) fun y144 => M.ok (!decide (y144 = (tx "told")))) fun c162 => if c162 = true then M.ok (Fl.rt false) else M.bind (M.bind (f_law_word way107 s94 odd95) fun y157 => M.ok (!decide (y157 = s121))) fun c161 => if c161 = true then M.ok (Fl.rt false) else M.ok (Fl.nx ())
theorem eq_f_law_l1 (fault9 : Int) (other17 : Int) (given41 : (List Tx)) (shuttles64 : (List Int)) (s94 : ((List Tx))) (odd95 : (List Int)) : r_f_law_l1 fault9 other17 given41 shuttles64 s94 odd95 = f_law_l1 fault9 other17 given41 shuttles64 s94 odd95 := by funext s106 way107; first | (simp only [r_f_law_l1, f_law_l1, M.bind_assoc, M.bok, c__law_cloth, c__law_numbers, c__law_spoilt_cloth, c__law_spoilt_shuttles, c__law_word]; done) | (simp only [r_f_law_l1, f_law_l1, M.bind_assoc, M.bok, c__law_cloth, c__law_numbers, c__law_spoilt_cloth, c__law_spoilt_shuttles, c__law_word]; rfl)
def q_law (script1 : (List Int)) : M Bool := M.bind (M.bind (M.bind (M.ok script1) fun y5 => M.bind (M.bind (M.ok (63 : Int)) fun y3 => M.bind (M.ok ()) fun y4 => M.ok (y3, y4)) fun y6 => M.ok (y5, y6)) c__law_numbers) fun numbers2 => M.bind (M.bind (M.ok (0 : Int)) fun y15 => M.bind (M.bind (M.bind (M.bind (M.ok numbers2) fun y10 => M.bind (M.ok (0 : Int)) fun y11 => getM y10 y11) fun y12 => M.ok (y12 % (9 : Int))) fun y13 => M.bind (M.ok (2 : Int)) fun y14 => M.ok (y13 - y14)) fun y16 => M.ok (max y15 y16)) fun fault9 => M.bind (M.bind (M.ok (0 : Int)) fun y23 => M.bind (M.bind (M.bind (M.bind (M.ok numbers2) fun y18 => M.bind (M.ok (1 : Int)) fun y19 => getM y18 y19) fun y20 => M.ok (y20 % (6 : Int))) fun y21 => M.bind (M.ok (1 : Int)) fun y22 => M.ok (y21 - y22)) fun y24 => M.ok (max y23 y24)) fun other17 => M.bind (M.bind (M.ok (1 : Int)) fun y29 => M.bind (M.bind (M.bind (M.ok numbers2) fun y26 => M.bind (M.ok (3 : Int)) fun y27 => getM y26 y27) fun y28 => M.ok (y28 % (5 : Int))) fun y30 => M.ok (y29 + y30)) fun high25 => M.bind (M.bind (M.ok fault9) fun y31 => M.bind (M.ok (5 : Int)) fun y32 => M.ok (decide (y31 = y32))) fun c33 => M.bind (if c33 = true then M.bind (M.bind (M.ok (2 : Int)) fun y38 => M.bind (M.bind (M.bind (M.ok numbers2) fun y35 => M.bind (M.ok (3 : Int)) fun y36 => getM y35 y36) fun y37 => M.ok (y37 % (4 : Int))) fun y39 => M.ok (y38 + y39)) fun high34 => M.ok high34 else M.ok high25) fun (s40 : (Int)) => M.bind (M.bind (M.bind (M.ok numbers2) fun y58 => M.bind (M.bind (M.bind (M.ok (1 : Int)) fun y45 => M.bind (M.bind (M.bind (M.ok numbers2) fun y42 => M.bind (M.ok (2 : Int)) fun y43 => getM y42 y43) fun y44 => M.ok (y44 % (5 : Int))) fun y46 => M.ok (y45 + y46)) fun y56 => M.bind (M.bind (M.ok s40) fun y54 => M.bind (M.bind (M.bind (M.ok (1 : Int)) fun y50 => M.bind (M.bind (M.bind (M.ok numbers2) fun y47 => M.bind (M.ok (7 : Int)) fun y48 => getM y47 y48) fun y49 => M.ok (y49 % (3 : Int))) fun y51 => M.ok (y50 + y51)) fun y52 => M.bind (M.ok ()) fun y53 => M.ok (y52, y53)) fun y55 => M.ok (y54, y55)) fun y57 => M.ok (y56, y57)) fun y59 => M.ok (y58, y59)) c__law_cloth) fun given41 => M.bind (M.bind (M.bind (M.ok s40) fun y65 => rangeM 0 y65) fun xs79 => compM (fun j66 => M.bind (M.ok true) fun c77 => if c77 = true then M.bind (M.bind (M.bind (M.bind (M.ok numbers2) fun y73 => M.bind (M.bind (M.ok (8 : Int)) fun y71 => M.bind (M.bind (M.bind (M.bind (M.ok j66) fun y67 => M.ok ((3 : Int) * y67)) fun y68 => M.bind (M.ok (2 : Int)) fun y69 => M.ok (y68 + y69)) fun y70 => M.ok (y70 % (55 : Int))) fun y72 => M.ok (y71 + y72)) fun y74 => getM y73 y74) fun y75 => M.ok (y75 / (5 : Int))) fun y76 => M.ok (y76 % (8 : Int))) fun y78 => M.ok (some y78) else M.ok none) xs79) fun shuttles64 => M.bind (M.ok given41) fun bad80 => M.bind (M.bind (M.ok fault9) fun y81 => M.bind (M.ok (0 : Int)) fun y82 => M.ok (decide (y82 < y81))) fun c83 => M.bind (if c83 = true then M.bind (M.bind (M.bind (M.ok given41) fun y89 => M.bind (M.bind (M.ok fault9) fun y87 => M.bind (M.bind (M.ok numbers2) fun y85 => M.bind (M.ok ()) fun y86 => M.ok (y85, y86)) fun y88 => M.ok (y87, y88)) fun y90 => M.ok (y89, y90)) c__law_spoilt_cloth) fun bad84 => M.ok bad84 else M.ok bad80) fun (s94 : ((List Tx))) => M.bind (M.bind (M.bind (M.ok shuttles64) fun y100 => M.bind (M.bind (M.ok other17) fun y98 => M.bind (M.bind (M.ok numbers2) fun y96 => M.bind (M.ok ()) fun y97 => M.ok (y96, y97)) fun y99 => M.ok (y98, y99)) fun y101 => M.ok (y100, y101)) c__law_spoilt_shuttles) fun odd95 => M.bind (M.bind (M.ok (4 : Int)) fun y105 => rangeM 0 y105) fun xs164 => M.bind (forF (r_f_law_l1 fault9 other17 given41 shuttles64 s94 odd95) () xs164) (Fl.el (fun (s165 : Unit) => M.ok true) fun r167 => M.ok r167)
def f_law (script1 : (List Int)) : M Bool := M.bind (f_law_numbers script1 (63 : Int)) fun numbers2 => M.bind (M.bind (M.bind (M.bind (getM numbers2 (0 : Int)) fun y12 => M.ok (y12 % (9 : Int))) fun y13 => M.ok (y13 - (2 : Int))) fun y16 => M.ok (max (0 : Int) y16)) fun fault9 => M.bind (M.bind (M.bind (M.bind (getM numbers2 (1 : Int)) fun y20 => M.ok (y20 % (6 : Int))) fun y21 => M.ok (y21 - (1 : Int))) fun y24 => M.ok (max (0 : Int) y24)) fun other17 => M.bind (M.bind (M.bind (getM numbers2 (3 : Int)) fun y28 => M.ok (y28 % (5 : Int))) fun y30 => M.ok ((1 : Int) + y30)) fun high25 => M.bind (if (decide (fault9 = (5 : Int))) = true then M.bind (M.bind (M.bind (getM numbers2 (3 : Int)) fun y37 => M.ok (y37 % (4 : Int))) fun y39 => M.ok ((2 : Int) + y39)) fun high34 => M.ok high34 else M.ok high25) fun (s40 : (Int)) => M.bind (M.bind (M.bind (M.bind (getM numbers2 (2 : Int)) fun y44 => M.ok (y44 % (5 : Int))) fun y46 => M.ok ((1 : Int) + y46)) fun y61 => M.bind (M.bind (M.bind (getM numbers2 (7 : Int)) fun y49 => M.ok (y49 % (3 : Int))) fun y51 => M.ok ((1 : Int) + y51)) fun y63 => f_law_cloth numbers2 y61 s40 y63) fun given41 => M.bind (M.bind (rangeM 0 s40) fun xs79 => compM (fun j66 => M.bind (M.bind (M.bind (getM numbers2 ((8 : Int) + ((((3 : Int) * j66) + (2 : Int)) % (55 : Int)))) fun y75 => M.ok (y75 / (5 : Int))) fun y76 => M.ok (y76 % (8 : Int))) fun y78 => M.ok (some y78)) xs79) fun shuttles64 => let bad80 : (List Tx) := given41; M.bind (if (decide ((0 : Int) < fault9)) = true then M.bind (f_law_spoilt_cloth given41 fault9 numbers2) fun bad84 => M.ok bad84 else M.ok bad80) fun (s94 : ((List Tx))) => M.bind (f_law_spoilt_shuttles shuttles64 other17 numbers2) fun odd95 => M.bind (rangeM 0 (4 : Int)) fun xs164 => M.bind (forF (f_law_l1 fault9 other17 given41 shuttles64 s94 odd95) () xs164) (Fl.el (fun (s165 : Unit) => M.ok true) fun r167 => M.ok r167)
def r_law (d : ((List Int) × Unit)) : M Bool := q_law d.1
def c_law (d : ((List Int) × Unit)) : M Bool := f_law d.1
theorem eq_law : r_law = c_law := by funext d; first | (simp only [r_law, c_law, q_law, f_law, M.bind_assoc, M.bok, eq_f_law_l1, c__law_cloth, c__law_numbers, c__law_spoilt_cloth, c__law_spoilt_shuttles, c__law_word]; done) | (simp only [r_law, c_law, q_law, f_law, M.bind_assoc, M.bok, eq_f_law_l1, c__law_cloth, c__law_numbers, c__law_spoilt_cloth, c__law_spoilt_shuttles, c__law_word]; rfl)
theorem bb_law {p : Pr} (X : Facts p) {g : G} (ok : OkS p (defScope s_law) N_law V_law G_law 8 g) (hX : g.LX = List.replicate N_law.length sAny) (script1 : (List Int)) : EvB g [(sV false (tListK p.K tInt) script1), sAny, sAny, sAny, sAny, sAny, sAny, sAny, sAny, sAny, sAny, sAny] (defBody s_law) (fun r => .rt false tBool r) (q_law script1) := (evb_set ok (i := 1) (j := 1) rfl rfl (wkX hX rfl) .sh (ev_ofL (evl_call (md' := .sh) ok.toOk (fn__law_numbers X) (by decide) (j := 0) rfl .sh (eva_cons (md := .sh) (ev_vsh ok.toOk (i := 0) (j := 0) rfl rfl rfl) (eva_cons (md := .sh) (ev_int (md := .sh)) eva_nil)))) fun numbers2 => (evb_set ok (i := 2) (j := 2) rfl rfl (wkX hX rfl) .sh (ev_max2 (md' := .sh) ok.toOk (j := 1) rfl X.g_max (ev_int (md := .sh)) (ev_subt (md' := .sh) ok.toOk (ev_modC (md' := .sh) ok.toOk (by decide) (ev_ixQ ok.toOk sq_l (ev_vsh ok.toOk (i := 1) (j := 1) rfl rfl rfl) (ev_int (md := .sh))) (ev_int (md := .sh))) (ev_int (md := .sh)))) fun fault9 => (evb_set ok (i := 3) (j := 3) rfl rfl (wkX hX rfl) .sh (ev_max2 (md' := .sh) ok.toOk (j := 1) rfl X.g_max (ev_int (md := .sh)) (ev_subt (md' := .sh) ok.toOk (ev_modC (md' := .sh) ok.toOk (by decide) (ev_ixQ ok.toOk sq_l (ev_vsh ok.toOk (i := 1) (j := 1) rfl rfl rfl) (ev_int (md := .sh))) (ev_int (md := .sh))) (ev_int (md := .sh)))) fun other17 => (evb_set ok (i := 4) (j := 4) rfl rfl (wkX hX rfl) .sh (ev_add (md' := .sh) ok.toOk (ev_int (md := .sh)) (ev_modC (md' := .sh) ok.toOk (by decide) (ev_ixQ ok.toOk sq_l (ev_vsh ok.toOk (i := 1) (j := 1) rfl rfl rfl) (ev_int (md := .sh))) (ev_int (md := .sh)))) fun high25 => (evb_if (LJ := (fun (s40 : (Int)) => [(sV false (tListK p.K tInt) script1), (sV false (tList tInt) numbers2), (sV false tInt fault9), (sV false tInt other17), (sV false tInt s40), sAny, sAny, sAny, sAny, sAny, sAny, sAny])) (wkX hX rfl) (evt_c ok.toOk (c_eq s_int) (ev_vsh ok.toOk (i := 2) (j := 2) rfl rfl rfl) (ev_int (md := .sh))) (evb_set ok (i := 4) (j := 4) rfl rfl (wkX hX rfl) .sh (ev_add (md' := .sh) ok.toOk (ev_int (md := .sh)) (ev_modC (md' := .sh) ok.toOk (by decide) (ev_ixQ ok.toOk sq_l (ev_vsh ok.toOk (i := 1) (j := 1) rfl rfl rfl) (ev_int (md := .sh))) (ev_int (md := .sh)))) fun high34 => (evb_nx (by rfl) (Wk.s (Wk.s (Wk.s (Wk.s (Wk.s (Wk.s (Wk.s (Wk.s (Wk.s (Wk.s (Wk.s (Wk.s Wk.n)))))))))))))) (evb_nx (by rfl) (Wk.s (Wk.s (Wk.s (Wk.s (Wk.s (Wk.s (Wk.s (Wk.s (Wk.s (Wk.s (Wk.s (Wk.s Wk.n))))))))))))) fun s40 => (evb_set ok (i := 5) (j := 5) rfl rfl (wkX hX rfl) .sh (ev_ofL (evl_call (md' := .sh) ok.toOk (fn__law_cloth X) (by decide) (j := 2) rfl .sh (eva_cons (md := .sh) (ev_vsh ok.toOk (i := 1) (j := 1) rfl rfl rfl) (eva_cons (md := .sh) (ev_add (md' := .sh) ok.toOk (ev_int (md := .sh)) (ev_modC (md' := .sh) ok.toOk (by decide) (ev_ixQ ok.toOk sq_l (ev_vsh ok.toOk (i := 1) (j := 1) rfl rfl rfl) (ev_int (md := .sh))) (ev_int (md := .sh)))) (eva_cons (md := .sh) (ev_vsh ok.toOk (i := 4) (j := 4) rfl rfl rfl) (eva_cons (md := .sh) (ev_add (md' := .sh) ok.toOk (ev_int (md := .sh)) (ev_modC (md' := .sh) ok.toOk (by decide) (ev_ixQ ok.toOk sq_l (ev_vsh ok.toOk (i := 1) (j := 1) rfl rfl rfl) (ev_int (md := .sh))) (ev_int (md := .sh)))) eva_nil)))))) fun given41 => (evb_setC (md := .sh) (VV' := ["numbers", "j"]) (GG' := []) (i := 11) (i2 := 6) ok rfl (wkX hX rfl) (by decide +kernel) (by rfl) (by decide +kernel) (evi_range1 ok.toOk (j := 3) rfl X.g_range (ev_vsh ok.toOk (i := 4) (j := 4) rfl rfl rfl)) rfl rfl no_any (by decide +kernel) (by decide +kernel) (by decide +kernel) (by decide +kernel) (fun g' okc j66 => evpts_nil) (fun g' okc j66 => (ev_modC (md' := .sh) okc (by decide) (ev_divC (md' := .sh) okc (by decide) (by decide) (ev_ixQ okc sq_l (ev_vsh okc (i := 1) (j := 0) rfl rfl rfl) (ev_add (md' := .sh) okc (ev_int (md := .sh)) (ev_modC (md' := .sh) okc (by decide) (ev_add (md' := .sh) okc (ev_mulL (md' := .sh) okc (by decide) (ev_int (md := .sh)) (ev_vsh okc (i := 11) (j := 1) rfl rfl rfl)) (ev_int (md := .sh))) (ev_int (md := .sh))))) (ev_int (md := .sh))) (ev_int (md := .sh)))) fun shuttles64 => (evb_set ok (i := 7) (j := 7) rfl rfl (wkX hX rfl) .sh (ev_vsh ok.toOk (i := 5) (j := 5) rfl rfl rfl) fun bad80 => (evb_if (LJ := (fun (s94 : ((List Tx))) => [(sV false (tListK p.K tInt) script1), (sV false (tList tInt) numbers2), (sV false tInt fault9), (sV false tInt other17), (sV false tInt s40), (sV false (tList tStr) given41), (sV false (tList tInt) shuttles64), (sV false (tList tStr) s94), sAny, sAny, sAny, sAny])) (wkX hX rfl) (evt_c ok.toOk c_gt (ev_vsh ok.toOk (i := 2) (j := 2) rfl rfl rfl) (ev_int (md := .sh))) (evb_set ok (i := 7) (j := 7) rfl rfl (wkX hX rfl) .sh (ev_ofL (evl_call (md' := .sh) ok.toOk (fn__law_spoilt_cloth X) (by decide) (j := 4) rfl .sh (eva_cons (md := .sh) (ev_vsh ok.toOk (i := 5) (j := 5) rfl rfl rfl) (eva_cons (md := .sh) (ev_vsh ok.toOk (i := 2) (j := 2) rfl rfl rfl) (eva_cons (md := .sh) (ev_vsh ok.toOk (i := 1) (j := 1) rfl rfl rfl) eva_nil))))) fun bad84 => (evb_nx (by rfl) (Wk.s (Wk.s (Wk.s (Wk.s (Wk.s (Wk.s (Wk.s (Wk.s (Wk.s (Wk.s (Wk.s (Wk.s Wk.n)))))))))))))) (evb_nx (by rfl) (Wk.s (Wk.s (Wk.s (Wk.s (Wk.s (Wk.s (Wk.s (Wk.s (Wk.s (Wk.s (Wk.s (Wk.s Wk.n))))))))))))) fun s94 => (evb_set ok (i := 8) (j := 8) rfl rfl (wkX hX rfl) .sh (ev_ofL (evl_call (md' := .sh) ok.toOk (fn__law_spoilt_shuttles X) (by decide) (j := 5) rfl .sh (eva_cons (md := .sh) (ev_vsh ok.toOk (i := 6) (j := 6) rfl rfl rfl) (eva_cons (md := .sh) (ev_vsh ok.toOk (i := 3) (j := 3) rfl rfl rfl) (eva_cons (md := .sh) (ev_vsh ok.toOk (i := 1) (j := 1) rfl rfl rfl) eva_nil))))) fun odd95 => (evb_forF (LF := (fun (s106 : Unit) => [(sV false (tListK p.K tInt) script1), (sV false (tList tInt) numbers2), (sV false tInt fault9), (sV false tInt other17), (sV false tInt s40), (sV false (tList tStr) given41), (sV false (tList tInt) shuttles64), (sV false (tList tStr) s94), (sV false (tList tInt) odd95), sAny, sAny, sAny])) (s0 := ()) (dr := fun r167 => r167) ok (wkX hX rfl) (evi_range1 ok.toOk (j := 3) rfl X.g_range (ev_int (md := .sh))) (Wk.s (Wk.s (Wk.s (Wk.s (Wk.s (Wk.s (Wk.s (Wk.s (Wk.s (Wk.s (Wk.s (Wk.s Wk.n)))))))))))) (fun _ => evg_name ok (i := 9) (j := 9) rfl rfl) (fun s106 way107 => (evb_set ok (i := 10) (j := 10) rfl rfl (wkX hX rfl) .sh (ev_str (md := .sh) (by decide +kernel)) fun due108 => (evb_if (LJ := (fun (s116 : (Tx)) => [(sV false (tListK p.K tInt) script1), (sV false (tList tInt) numbers2), (sV false tInt fault9), (sV false tInt other17), (sV false tInt s40), (sV false (tList tStr) given41), (sV false (tList tInt) shuttles64), (sV false (tList tStr) s94), (sV false (tList tInt) odd95), (sV false tInt way107), (sV false tStr s116), sAny])) (wkX hX rfl) (EvW.t (evw_andP (pureT (m := M.bind (M.ok other17) fun y109 => M.bind (M.ok (0 : Int)) fun y110 => M.ok (decide (y110 < y109))) (evt_c ok.toOk c_gt (ev_vsh ok.toOk (i := 3) (j := 3) rfl rfl rfl) (ev_int (md := .sh))) rfl) (pureW (m := M.bind (M.ok way107) fun y111 => M.bind (M.ok (0 : Int)) fun y112 => M.ok (decide (y112 < y111))) (evw_and1 (evt_c ok.toOk c_gt (ev_vsh ok.toOk (i := 9) (j := 9) rfl rfl rfl) (ev_int (md := .sh)))) rfl))) (evb_set ok (i := 10) (j := 10) rfl rfl (wkX hX rfl) .sh (ev_str (md := .sh) (by decide +kernel)) fun due115 => (evb_nx (by rfl) (Wk.s (Wk.s (Wk.s (Wk.s (Wk.s (Wk.s (Wk.s (Wk.s (Wk.s (Wk.s (Wk.s (Wk.s Wk.n)))))))))))))) (evb_nx (by rfl) (Wk.s (Wk.s (Wk.s (Wk.s (Wk.s (Wk.s (Wk.s (Wk.s (Wk.s (Wk.s (Wk.s (Wk.s Wk.n))))))))))))) fun s116 => (evb_if (LJ := (fun (s121 : (Tx)) => [(sV false (tListK p.K tInt) script1), (sV false (tList tInt) numbers2), (sV false tInt fault9), (sV false tInt other17), (sV false tInt s40), (sV false (tList tStr) given41), (sV false (tList tInt) shuttles64), (sV false (tList tStr) s94), (sV false (tList tInt) odd95), (sV false tInt way107), (sV false tStr s121), sAny])) (wkX hX rfl) (evt_c ok.toOk c_gt (ev_vsh ok.toOk (i := 2) (j := 2) rfl rfl rfl) (ev_int (md := .sh))) (evb_set ok (i := 10) (j := 10) rfl rfl (wkX hX rfl) .sh (ev_str (md := .sh) (by decide +kernel)) fun due120 => (evb_nx (by rfl) (Wk.s (Wk.s (Wk.s (Wk.s (Wk.s (Wk.s (Wk.s (Wk.s (Wk.s (Wk.s (Wk.s (Wk.s Wk.n)))))))))))))) (evb_nx (by rfl) (Wk.s (Wk.s (Wk.s (Wk.s (Wk.s (Wk.s (Wk.s (Wk.s (Wk.s (Wk.s (Wk.s (Wk.s Wk.n))))))))))))) fun s121 => (evb_ifx (wkX hX rfl) (evt_c ok.toOk (c_ne s_str) (ev_call (md' := .sh) ok.toOk (fn__law_word X) (by decide) (j := 7) rfl .sh (eva_cons (md := .sh) (ev_vsh ok.toOk (i := 9) (j := 9) rfl rfl rfl) (eva_cons (md := .sh) (ev_ofL (evl_copyQ (md := .sh) ok.toOk sq_l (j := 6) rfl X.g_list (ev_vsh ok.toOk (i := 7) (j := 7) rfl rfl rfl))) (eva_cons (md := .sh) (ev_ofL (evl_copyQ (md := .sh) ok.toOk sq_l (j := 6) rfl X.g_list (ev_vsh ok.toOk (i := 8) (j := 8) rfl rfl rfl))) eva_nil)))) (ev_vsh ok.toOk (i := 10) (j := 10) rfl rfl rfl)) (evb_retF (mk := fun r134 => Fl.rt r134) (wkX hX rfl) .sh (by intro _; rfl) (ev_bool (md := .sh))) (evb_ifx (wkX hX rfl) (evt_c ok.toOk (c_ne s_str) (ev_call (md' := .sh) ok.toOk (fn__law_word X) (by decide) (j := 7) rfl .sh (eva_cons (md := .sh) (ev_vsh ok.toOk (i := 9) (j := 9) rfl rfl rfl) (eva_cons (md := .sh) (ev_vsh ok.toOk (i := 5) (j := 5) rfl rfl rfl) (eva_cons (md := .sh) (ev_vsh ok.toOk (i := 6) (j := 6) rfl rfl rfl) eva_nil)))) (ev_str (md := .sh) (by decide +kernel))) (evb_retF (mk := fun r147 => Fl.rt r147) (wkX hX rfl) .sh (by intro _; rfl) (ev_bool (md := .sh))) (evb_ifl (wkX hX rfl) (evt_c ok.toOk (c_ne s_str) (ev_call (md' := .sh) ok.toOk (fn__law_word X) (by decide) (j := 7) rfl .sh (eva_cons (md := .sh) (ev_vsh ok.toOk (i := 9) (j := 9) rfl rfl rfl) (eva_cons (md := .sh) (ev_ofL (evl_copyQ (md := .sh) ok.toOk sq_l (j := 6) rfl X.g_list (ev_vsh ok.toOk (i := 7) (j := 7) rfl rfl rfl))) (eva_cons (md := .sh) (ev_ofL (evl_copyQ (md := .sh) ok.toOk sq_l (j := 6) rfl X.g_list (ev_vsh ok.toOk (i := 8) (j := 8) rfl rfl rfl))) eva_nil)))) (ev_vsh ok.toOk (i := 10) (j := 10) rfl rfl rfl)) (evb_retF (mk := fun r160 => Fl.rt r160) (wkX hX rfl) .sh (by intro _; rfl) (ev_bool (md := .sh))) (evb_go (by rfl) (Wk.s (Wk.s (Wk.s (Wk.s (Wk.s (Wk.s (Wk.s (Wk.s (Wk.s (Wk.a (Wk.a (Wk.s Wk.n)))))))))))))))))))) fun s165 => (evb_ret (wkX hX rfl) .sh (by intro _; rfl) (ev_bool (md := .sh))))))))))))))
theorem b_law {p : Pr} (X : Facts p) : Body p s_law N_law V_law G_law 8 (fun (d : ((List Int) × Unit)) => [(sV false (tListK p.K tInt) d.1), sAny, sAny, sAny, sAny, sAny, sAny, sAny, sAny, sAny, sAny, sAny]) (fun r => .rt false tBool r) r_law := fun g ok hX d => bb_law X ok hX d.1
theorem fnok_law {p : Pr} (X : Facts p) {f : Addr} {fd : FuncData} (hF : FunD p.K "law" "law" (defArgs s_law) (defBody s_law) (defScope s_law) [] [] f fd) : FnOk p.P p.w p.K p.mg p.base (L2.CX p.P p.w) 9 f fd ["script"] (spM p (aCons (tListK p.K tInt) aNil) (fun r => .rt false tBool r) c_law) := eq_law ▸ fn_rt (m := 11) hF sc_law (.cons .nil) rfl rfl (b_law X)
theorem measured_ok {rows : List Tx} {w h : Nat} (hc : Cloth rows w h) : f_measured rows = .ok ((w : Int), (h : Int), ()) := by
  obtain ⟨hh, ww, sg, w1, w2, h1, h2⟩ := hc
  have hl : rows ≠ [] := fun e => by subst e; simp at hh; omega
  obtain ⟨r0, rs, rfl⟩ := List.exists_cons_of_ne_nil hl
  have e0 : r0.length = w := ww r0 List.mem_cons_self
  refine oke ?_
  unfold f_measured
  refine okif (fun c => ?_) fun _ => ?_
  · simp only [Bool.or_eq_true, decide_eq_true_eq] at c; omega
  refine okb (P := (· = (w : Int))) ?_ fun wd e => ?_
  · rw [show getM (r0 :: rs) 0 = .ok r0 from getM_at (by omega) rfl]
    exact okv (by omega)
  subst e
  refine okif (fun c => ?_) fun _ => ?_
  · simp only [Bool.or_eq_true, decide_eq_true_eq] at c; omega
  refine okb (P := fun _ => True) (ok_forI (fun _ => True) trivial fun text ht s _ => ?_) fun _ _ => okv (by rw [hh])
  unfold f_measured_l2
  refine okif (fun c => ?_) fun _ => ?_
  · have := ww text ht
    simp only [Bool.not_eq_true', decide_eq_false_iff_not] at c; omega
  refine okb (P := fun _ => True) (ok_forI (fun _ => True) trivial fun sign hs s _ => ?_) fun _ _ => okv trivial
  unfold f_measured_l1
  refine okif (fun c => ?_) fun _ => okv trivial
  obtain ⟨n, hn, rfl⟩ := List.mem_map.mp hs
  rw [tx_hash, tx_dot] at c
  rcases sg text ht n hn with e | e <;> subst e <;> simp at c

theorem forM_chk {α : Type} {f : Unit → α → M Unit} {b : α → Bool} {e : Ec} : ∀ {xs : List α}, (∀ x ∈ xs, f () x = if b x = true then .ok () else .ex e) → forM f () xs = if xs.all b = true then .ok () else .ex e
  | [], _ => rfl
  | x :: xs, h => by
    show (f () x).bind (fun s => forM f s xs) = _
    rw [h x List.mem_cons_self, List.all_cons]
    cases hb : b x with
    | true =>
      show forM f () xs = _
      rw [forM_chk fun y hy => h y (List.mem_cons_of_mem _ hy)]; rfl
    | false => rfl
theorem measured_ex {rows : List Tx} (h : ∀ w h, ¬ Cloth rows w h) : f_measured rows = .ex .noCloth := by
  unfold f_measured
  by_cases c1 : (rows.length : Int) < 1 ∨ 40 < (rows.length : Int)
  · rw [if_pos (by simp only [Bool.or_eq_true, decide_eq_true_eq]; exact c1)]
  · rw [if_neg (by simp only [Bool.or_eq_true, decide_eq_true_eq]; exact c1)]
    have hr0 : rows[0]? = some (rows[0]'(by omega)) := by simp
    rw [getM_at (by omega) hr0, M.bind_ok, M.bind_ok]
    generalize hq : (rows[0]'(by omega)) = r0 at hr0
    by_cases c2 : (r0.length : Int) < 1 ∨ 40 < (r0.length : Int)
    · rw [if_pos (by simp only [Bool.or_eq_true, decide_eq_true_eq]; exact c2)]
    · rw [if_neg (by simp only [Bool.or_eq_true, decide_eq_true_eq]; exact c2)]
      rw [forM_chk (b := fun (t : Tx) => decide (t.length = r0.length) && t.all fun c => decide (c = 35 ∨ c = 46)) (e := .noCloth) fun t ht => ?_]
      · cases hall : rows.all (fun (t : Tx) => decide (t.length = r0.length) && t.all fun c => decide (c = 35 ∨ c = 46)) with
        | false => rfl
        | true =>
          exfalso
          rw [List.all_eq_true] at hall
          have key : ∀ t ∈ rows, t.length = r0.length ∧ ∀ c ∈ t, c = 35 ∨ c = 46 := fun t ht => by
            have := hall t ht
            rw [Bool.and_eq_true, decide_eq_true_eq, List.all_eq_true] at this
            exact ⟨this.1, fun c hc => of_decide_eq_true (this.2 c hc)⟩
          exact h r0.length rows.length ⟨rfl, fun t ht => (key t ht).1, fun t ht => (key t ht).2, by omega, by omega, by omega, by omega⟩
      · unfold f_measured_l2
        by_cases c3 : t.length = r0.length
        · rw [if_neg (by simp [c3]), decide_eq_true c3, Bool.true_and]
          rw [forM_chk (b := fun (s : Tx) => decide (s = [35] ∨ s = [46])) (e := .noCloth) fun s hs => ?_]
          · have : (t.map fun c => [c]).all (fun (s : Tx) => decide (s = [35] ∨ s = [46])) = t.all fun c => decide (c = 35 ∨ c = 46) := by
              rw [List.all_map]
              congr 1
              funext c
              simp
            rw [this]
            cases t.all fun c => decide (c = 35 ∨ c = 46) <;> rfl
          · unfold f_measured_l1
            rw [tx_hash, tx_dot]
            by_cases a : s = [35] <;> by_cases b : s = [46] <;> simp [a, b]
        · rw [if_pos (by simp; omega), decide_eq_false c3]; rfl

def sgn (rows : List Tx) (j k : Int) : Nat := ((rows[j.toNat]?.getD [])[k.toNat]?).getD 0
def ovB (rows : List Tx) (w : Int) (a b : Int) : Bool := if a < w ∧ w ≤ b then sgn rows (b - w) a == 35 else if b < w ∧ w ≤ a then sgn rows (a - w) b == 46 else false
theorem sgn_ok {rows : List Tx} {w h : Nat} (hc : Cloth rows w h) {j k : Int} (j0 : 0 ≤ j) (j1 : j < h) (k0 : 0 ≤ k) (k1 : k < w) : ∃ r, getM rows j = .ok r ∧ getS r k = .ok [sgn rows j k] := by
  obtain ⟨r, e, hr⟩ := ok_get (xs := rows) j0 (by have := hc.hh; omega)
  have hw := hc.ww r (List.mem_of_getElem? hr)
  obtain ⟨v, e2, c, hc', rfl⟩ := ok_getS (x := r) k0 (by omega)
  refine ⟨r, e, ?_⟩
  unfold sgn
  rw [hr]
  show _ = M.ok [(r[k.toNat]?).getD 0]
  rw [hc']
  exact e2
theorem sgn_or {rows : List Tx} {w h : Nat} (hc : Cloth rows w h) {j k : Int} (j0 : 0 ≤ j) (j1 : j < h) (k0 : 0 ≤ k) (k1 : k < w) : sgn rows j k = 35 ∨ sgn rows j k = 46 := by
  have hj : j.toNat < rows.length := by have := hc.hh; omega
  have hm : rows[j.toNat] ∈ rows := List.getElem_mem hj
  have hw := hc.ww _ hm
  have hk : k.toNat < rows[j.toNat].length := by omega
  have e : sgn rows j k = rows[j.toNat][k.toNat] := by
    unfold sgn
    rw [List.getElem?_eq_getElem hj]
    show (rows[j.toNat][k.toNat]?).getD 0 = _
    rw [List.getElem?_eq_getElem hk]; rfl
  rw [e]
  exact hc.sg _ hm _ (List.getElem_mem hk)
theorem first_row {rows : List Tx} {w h : Nat} (hc : Cloth rows w h) : ∃ r0, getM rows 0 = .ok r0 ∧ r0.length = w := by
  have hh := hc.hh
  have h1 := hc.h1
  obtain ⟨r0, hr0⟩ : ∃ r, rows[0]? = some r := ⟨rows[0], by simp⟩
  exact ⟨r0, getM_at (by omega) hr0, hc.ww r0 (List.mem_of_getElem? hr0)⟩
theorem one_tx {n m : Nat} : decide (([n] : Tx) = [m]) = (n == m) := by
  by_cases h : n = m
  · subst h; simp
  · simp [h]
theorem ovB_irr {rows : List Tx} {w : Int} (a : Int) : ovB rows w a a = false := by
  unfold ovB
  rw [if_neg (by omega), if_neg (by omega)]
/-- two strands that cross: just one lies over -/
theorem ovB_not {rows : List Tx} {w h : Nat} (hc : Cloth rows w h) {a b : Int} (a0 : 0 ≤ a) (a1 : a < w) (b0 : (w : Int) ≤ b) (b1 : b < (w : Int) + h) : ovB rows w b a = !ovB rows w a b := by
  unfold ovB
  rw [if_neg (by omega), if_pos (by omega), if_pos (by omega)]
  rcases sgn_or hc (j := b - w) (k := a) (by omega) (by omega) a0 a1 with e | e <;> rw [e] <;> rfl

/-- over how many picks an end lies -/
def cntE (rows : List Tx) (e : Nat) : Nat := (rows.filter fun r => decide (r[e]? = some 35)).length
theorem scores_ok {rows : List Tx} {w h : Nat} (hc : Cloth rows w h) : f_scores_of rows = .ok ((List.range w).map (fun e => (cntE rows e : Int)) ++ rows.map fun r => (r.count 46 : Int)) := by
  refine oke ?_
  unfold f_scores_of
  rw [measured_ok hc, M.bind_ok]
  have hh := hc.hh
  have hw2 := hc.w2
  have hh2 := hc.h2
  show Okm (M.bind (rangeM 0 (w : Int)) _) _
  refine okb ok_range fun xs e => ?_
  subst e
  rw [show ((w : Int) - 0).toNat = w by omega]
  refine okb (ok_forR (fun i (s : List Int) => s = (List.range i).map (fun e => (cntE rows e : Int))) rfl fun i s hi e => ?_) fun s e => ?_
  · subst e
    unfold f_scores_of_l1
    refine okb (P := (· = (cntE rows i : Int))) ?_ fun y e => ?_
    · rw [comp_eq (g := fun r => if r[i]? = some 35 then some r else none) (by omega) fun r hr => ?_]
      · refine okv ?_
        show ((List.filterMap _ rows).length : Int) = _
        unfold cntE
        congr 1
        clear hc hh
        induction rows with
        | nil => rfl
        | cons r rs ih =>
          rw [List.filterMap_cons, List.filter_cons]
          by_cases hq : r[i]? = some 35
          · simp [hq, ih]
          · simp [hq, ih]
      · have hrl := hc.ww r hr
        have hlt : i < r.length := by omega
        rw [show getS r (0 + (i : Int)) = .ok [r[i]] from by rw [Int.zero_add]; exact getS_nat (by simp [hlt])]
        simp only [M.bind_ok, tx_hash]
        by_cases hq : r[i] = 35
        · simp [hq, hlt]
        · simp [hq, hlt]
    · subst e
      refine okb (ok_push (by simp; omega)) fun s e => okv ?_
      subst e
      rw [List.range_succ, List.map_append]; rfl
  · subst e
    show Okm (M.bind (rangeM 0 (h : Int)) _) _
    refine okb ok_range fun xs e => ?_
    subst e
    rw [show ((h : Int) - 0).toNat = h by omega]
    refine okb (ok_forR (fun i (s : List Int) => s = (List.range w).map (fun e => (cntE rows e : Int)) ++ (rows.take i).map fun r => (r.count 46 : Int)) (by simp) fun i s hi e => ?_) fun s e => okv ?_
    · subst e
      unfold f_scores_of_l2
      have hlt : i < rows.length := by omega
      rw [show getM rows (0 + (i : Int)) = .ok rows[i] from by rw [Int.zero_add]; exact getM_nat (by simp [hlt])]
      rw [tx_dot]
      refine okb (P := (· = (rows[i].count 46 : Int))) (okv rfl) fun y e => ?_
      subst e
      refine okb (ok_push (by simp; omega)) fun s e => okv ?_
      subst e
      rw [List.take_add_one, List.getElem?_eq_getElem hlt, List.map_append, List.append_assoc]
      rfl
    · subst e
      rw [← hh, List.take_length]
theorem map_sum_add (f g : Nat → Int) : ∀ l : List Nat, (l.map fun e => f e + g e).sum = (l.map f).sum + (l.map g).sum
  | [] => rfl
  | a :: l => by simp only [List.map_cons, List.sum_cons, map_sum_add f g l]; omega
theorem sum_ind (r : Tx) : ((List.range r.length).map fun e => if r[e]? = some 35 then (1 : Int) else 0).sum = (r.count 35 : Int) := by
  induction r with
  | nil => rfl
  | cons c r ih =>
    rw [List.length_cons, List.range_succ_eq_map, List.map_cons, List.map_map, List.sum_cons]
    have : ((List.range r.length).map ((fun e => if (c :: r)[e]? = some 35 then (1 : Int) else 0) ∘ Nat.succ)) = (List.range r.length).map fun e => if r[e]? = some 35 then (1 : Int) else 0 := by
      apply List.map_congr_left
      intro e _
      simp
    rw [this, ih, List.count_cons]
    by_cases h : c = 35
    · subst h; simp; omega
    · simp [h]
theorem sum_cntE {rows : List Tx} {w : Nat} (hw : ∀ r ∈ rows, r.length = w) : ((List.range w).map fun e => (cntE rows e : Int)).sum = (rows.map fun r => (r.count 35 : Int)).sum := by
  induction rows with
  | nil =>
    simp only [List.map_nil, List.sum_nil]
    have : ((List.range w).map fun e => (cntE [] e : Int)) = List.replicate w 0 := by
      rw [List.eq_replicate_iff]
      exact ⟨by simp, fun b hb => by obtain ⟨e, _, rfl⟩ := List.mem_map.mp hb; rfl⟩
    rw [this]; simp
  | cons r rs ih =>
    have e1 : ((List.range w).map fun e => (cntE (r :: rs) e : Int)) = (List.range w).map fun e => (if r[e]? = some 35 then (1 : Int) else 0) + (cntE rs e : Int) := by
      apply List.map_congr_left
      intro e _
      unfold cntE
      rw [List.filter_cons]
      by_cases h : r[e]? = some 35
      · simp [h]; omega
      · simp [h]
    rw [e1, map_sum_add, ih fun q hq => hw q (List.mem_cons_of_mem _ hq), List.map_cons, List.sum_cons, ← hw r List.mem_cons_self, sum_ind]
theorem count_two {r : Tx} (h : ∀ c ∈ r, c = 35 ∨ c = 46) : r.count 35 + r.count 46 = r.length := by
  induction r with
  | nil => rfl
  | cons c r ih =>
    have := ih fun d hd => h d (List.mem_cons_of_mem _ hd)
    rw [List.count_cons, List.count_cons, List.length_cons]
    rcases h c List.mem_cons_self with e | e <;> subst e <;> simp <;> omega
theorem scores_sum {rows : List Tx} {w h : Nat} (hc : Cloth rows w h) : ((List.range w).map (fun e => (cntE rows e : Int)) ++ rows.map fun r => (r.count 46 : Int)).sum = (h : Int) * (w : Int) := by
  rw [List.sum_append, sum_cntE hc.ww]
  have key : ∀ l : List Tx, (∀ r ∈ l, r.length = w) → (∀ r ∈ l, ∀ c ∈ r, c = 35 ∨ c = 46) → (l.map fun r => (r.count 35 : Int)).sum + (l.map fun r => (r.count 46 : Int)).sum = (l.length : Int) * (w : Int) := by
    intro l
    induction l with
    | nil => intro _ _; simp
    | cons r rs ih =>
      intro h1 h2
      have := ih (fun q hq => h1 q (List.mem_cons_of_mem _ hq)) fun q hq => h2 q (List.mem_cons_of_mem _ hq)
      have e1 := count_two (h2 r List.mem_cons_self)
      have e2 := h1 r List.mem_cons_self
      simp only [List.map_cons, List.sum_cons, List.length_cons]
      push_cast
      rw [Int.add_mul]
      omega
  rw [key rows hc.ww hc.sg, hc.hh]

/-! counting the crossings of two sets of strands -/
section
variable {ov : Int → Int → Bool}
theorem sum_map_add {α : Type} (f g : α → Nat) : ∀ l : List α, (l.map fun x => f x + g x).sum = (l.map f).sum + (l.map g).sum
  | [] => rfl
  | a :: r => by simp only [List.map_cons, List.sum_cons, sum_map_add f g r]; omega
theorem sum_map_congr {α : Type} {f g : α → Nat} : ∀ {l : List α}, (∀ x ∈ l, f x = g x) → (l.map f).sum = (l.map g).sum
  | [], _ => rfl
  | a :: r, h => by simp only [List.map_cons, List.sum_cons]; rw [h a List.mem_cons_self, sum_map_congr fun x hx => h x (List.mem_cons_of_mem _ hx)]
theorem sum_ind1 {α : Type} (p : α → Bool) : ∀ l : List α, (l.map fun x => if p x = true then 1 else 0).sum = l.countP p
  | [] => rfl
  | a :: r => by rw [List.map_cons, List.sum_cons, List.countP_cons, sum_ind1 p r]; omega
theorem countP_not' {α : Type} (p : α → Bool) : ∀ l : List α, l.countP p + l.countP (fun x => !p x) = l.length
  | [] => rfl
  | a :: r => by
    have := countP_not' p r
    rw [List.countP_cons, List.countP_cons, List.length_cons]
    cases p a <;> simp <;> omega
/-- each crossing once -/
theorem dbl : ∀ (S T : List Int), (∀ a ∈ S, ∀ b ∈ T, ov b a = !ov a b) → (S.map fun a => T.countP (ov a)).sum + (T.map fun b => S.countP (ov b)).sum = S.length * T.length
  | [], T, _ => by
    have : ∀ l : List Int, (l.map fun _ => 0).sum = 0 := fun l => by induction l with
      | nil => rfl
      | cons a r ih => rw [List.map_cons, List.sum_cons, ih]
    simp only [List.map_nil, List.sum_nil, List.countP_nil, List.length_nil, Nat.zero_mul, Nat.zero_add]
    exact this T
  | a :: S, T, h => by
    have ih := dbl S T fun x hx => h x (List.mem_cons_of_mem _ hx)
    have e1 : (T.map fun b => (a :: S).countP (ov b)).sum = (T.map fun b => S.countP (ov b)).sum + T.countP (fun b => ov b a) := by
      rw [← sum_ind1 (fun b => ov b a) T, ← sum_map_add]
      refine sum_map_congr fun b hb => ?_
      rw [List.countP_cons]
    have e2 : T.countP (fun b => ov b a) = T.countP (fun b => !ov a b) := List.countP_congr fun b hb => by rw [h a List.mem_cons_self b hb]
    have e3 := countP_not' (ov a) T
    rw [e1, e2, List.map_cons, List.sum_cons, List.length_cons, Nat.succ_mul]
    omega
/-- at most all -/
theorem sum_le (S T : List Int) : (S.map fun a => T.countP (ov a)).sum ≤ S.length * T.length ∧ ((S.map fun a => T.countP (ov a)).sum = S.length * T.length ↔ ∀ a ∈ S, ∀ b ∈ T, ov a b = true) := by
  induction S with
  | nil => simp
  | cons a S ih =>
    have h1 : T.countP (ov a) ≤ T.length := List.countP_le_length
    rw [List.map_cons, List.sum_cons, List.length_cons, Nat.succ_mul]
    refine ⟨by omega, fun e => ?_, fun h => ?_⟩
    · have e1 : T.countP (ov a) = T.length := by omega
      have e2 := ih.2.mp (by omega)
      intro x hx b hb
      rcases List.mem_cons.mp hx with rfl | hx
      · exact List.countP_eq_length.mp e1 b hb
      · exact e2 x hx b hb
    · have e1 : T.countP (ov a) = T.length := List.countP_eq_length.mpr fun b hb => h a List.mem_cons_self b hb
      have e2 := ih.2.mpr fun x hx => h x (List.mem_cons_of_mem _ hx)
      omega
/-- a set of ends S and picks T lies over the other ends S' and picks T' -/
def ClosedL (ov : Int → Int → Bool) (S S' T T' : List Int) : Prop := (∀ a ∈ S, ∀ b ∈ T', ov a b = true) ∧ ∀ b ∈ T, ∀ a ∈ S', ov b a = true
theorem closed_iff {S S' T T' : List Int} (hx : ∀ a ∈ S ++ S', ∀ b ∈ T ++ T', ov b a = !ov a b) :
    (S.map fun a => (T ++ T').countP (ov a)).sum + (T.map fun b => (S ++ S').countP (ov b)).sum ≤ S.length * T.length + S.length * T'.length + T.length * S'.length ∧
    ((S.map fun a => (T ++ T').countP (ov a)).sum + (T.map fun b => (S ++ S').countP (ov b)).sum = S.length * T.length + S.length * T'.length + T.length * S'.length ↔ ClosedL ov S S' T T') := by
  have e1 : (S.map fun a => (T ++ T').countP (ov a)).sum = (S.map fun a => T.countP (ov a)).sum + (S.map fun a => T'.countP (ov a)).sum := by
    rw [← sum_map_add]; exact sum_map_congr fun a _ => List.countP_append
  have e2 : (T.map fun b => (S ++ S').countP (ov b)).sum = (T.map fun b => S.countP (ov b)).sum + (T.map fun b => S'.countP (ov b)).sum := by
    rw [← sum_map_add]; exact sum_map_congr fun a _ => List.countP_append
  have d := dbl S T fun a ha b hb => hx a (List.mem_append_left _ ha) b (List.mem_append_left _ hb)
  obtain ⟨l1, l2⟩ := sum_le (ov := ov) S T'
  obtain ⟨m1, m2⟩ := sum_le (ov := ov) T S'
  rw [e1, e2]
  refine ⟨by omega, fun e => ⟨l2.mp (by omega), m2.mp (by omega)⟩, fun ⟨c1, c2⟩ => ?_⟩
  have a1 := l2.mpr c1
  have a2 := m2.mpr c2
  omega
end
theorem countP_up {α : Type} (p : α → Bool) (d : α) : ∀ (l : List α) (lo : Int), (upFrom lo l.length).countP (fun b => p (l[(b - lo).toNat]?.getD d)) = l.countP p
  | [], lo => rfl
  | a :: r, lo => by
    rw [List.length_cons, upFrom, List.countP_cons, List.countP_cons, ← countP_up p d r (lo + 1)]
    congr 1
    · refine List.countP_congr fun b hb => ?_
      have := upFrom_mem.mp hb
      rw [show (b - lo).toNat = (b - (lo + 1)).toNat + 1 by omega, List.getElem?_cons_succ]
    · rw [show (lo - lo).toNat = 0 by omega]; rfl
/-! ### a list and its beginnings -/
theorem take_perm_sum {l : List Int} (s : Nat) (f : Int → Nat) : ((l.take s).map f).sum + ((l.drop s).map f).sum = (l.map f).sum := by
  rw [← List.sum_append_nat, ← List.map_append, List.take_append_drop]
/-- the first ones of a falling list sum to most -/
theorem top_most {f : Int → Nat} : ∀ {l : List Int} {A B : List Int}, l.Pairwise (fun p q => f q ≤ f p) → (A ++ B).Perm l → (A.map f).sum ≤ ((l.take A.length).map f).sum := by
  intro l
  induction l with
  | nil =>
    intro A B _ hp
    have : A ++ B = [] := List.perm_nil.mp hp
    rw [(List.append_eq_nil_iff.mp this).1]; simp
  | cons x l ih =>
    intro A B hs hp
    obtain ⟨h1, h2⟩ := List.pairwise_cons.mp hs
    cases A with
    | nil => simp
    | cons a A =>
      by_cases hx : x ∈ a :: A
      · have p1 : (a :: A).Perm (x :: (a :: A).erase x) := List.perm_cons_erase hx
        have p2 : ((a :: A).erase x ++ B).Perm l := by
          have : (x :: ((a :: A).erase x ++ B)).Perm (x :: l) := (List.Perm.append_right B p1).symm.trans hp
          exact (List.perm_cons x).mp this
        have := ih h2 p2
        have e1 : ((a :: A).map f).sum = f x + (((a :: A).erase x).map f).sum := by
          rw [(p1.map f).sum_nat, List.map_cons, List.sum_cons]
        have e2 : ((a :: A).erase x).length = A.length := by have := List.length_erase_of_mem hx; simpa using this
        rw [e1, List.length_cons, List.take_succ_cons, List.map_cons, List.sum_cons, ← e2]
        omega
      · have hxB : x ∈ B := by
          have : x ∈ (a :: A) ++ B := hp.mem_iff.mpr List.mem_cons_self
          rcases List.mem_append.mp this with h | h
          · exact absurd h hx
          · exact h
        have hax : f a ≤ f x := by
          have : a ∈ x :: l := hp.mem_iff.mp (by simp)
          rcases List.mem_cons.mp this with h | h
          · rw [h]; exact Nat.le_refl _
          · exact h1 a h
        have p2 : (A ++ (a :: B.erase x)).Perm l := by
          have q1 : ((a :: A) ++ B).Perm (x :: (A ++ (a :: B.erase x))) := by
            have b1 : B.Perm (x :: B.erase x) := List.perm_cons_erase hxB
            have b2 : ((a :: A) ++ B).Perm ((a :: A) ++ (x :: B.erase x)) := List.Perm.append_left _ b1
            refine b2.trans ?_
            have b3 : ((a :: A) ++ (x :: B.erase x)).Perm (x :: ((a :: A) ++ B.erase x)) := List.perm_middle
            refine b3.trans ((List.perm_cons x).mpr ?_)
            exact (List.perm_middle (l₁ := A) (a := a) (l₂ := B.erase x)).symm
          exact (List.perm_cons x).mp (q1.symm.trans hp)
        have := ih h2 p2
        rw [List.map_cons, List.sum_cons, List.length_cons, List.take_succ_cons, List.map_cons, List.sum_cons]
        omega

theorem Cloth.pos {rows : List Tx} {w h : Nat} (hc : Cloth rows w h) : 1 ≤ w ∧ w ≤ 40 ∧ 1 ≤ h ∧ h ≤ 40 ∧ rows.length = h := ⟨hc.w1, hc.w2, hc.h1, hc.h2, hc.hh⟩
/-- the counts of a cloth's strands -/
def cntL (rows : List Tx) (w : Nat) : List Int := (List.range w).map (fun e => (cntE rows e : Int)) ++ rows.map fun r => (r.count 46 : Int)
/-- over how many strands a strand lies -/
def scN (rows : List Tx) (w h : Nat) (a : Int) : Nat := if a < w then (upFrom w h).countP (ovB rows w a) else (upFrom 0 w).countP (ovB rows w a)
theorem cntL_len {rows : List Tx} {w h : Nat} (hc : Cloth rows w h) : (cntL rows w).length = w + h := by unfold cntL; have := hc.hh; simp; omega
theorem cntL_at {rows : List Tx} {w h : Nat} (hc : Cloth rows w h) {a : Int} (a0 : 0 ≤ a) (a1 : a < (w : Int) + h) : (cntL rows w)[a.toNat]? = some (scN rows w h a : Int) := by
  have hh := hc.hh
  unfold cntL scN
  by_cases c : a < w
  · rw [if_pos c, List.getElem?_append_left (by simp; omega), List.getElem?_map, List.getElem?_range (by omega)]
    show some ((cntE rows a.toNat : Nat) : Int) = _
    refine congrArg (fun n : Nat => some (n : Int)) ?_
    unfold cntE
    rw [← List.countP_eq_length_filter, ← countP_up (fun r : Tx => decide (r[a.toNat]? = some 35)) [] rows w, hh]
    refine List.countP_congr fun b hb => ?_
    have hb := upFrom_mem.mp hb
    unfold ovB
    rw [if_pos (by omega)]
    have hs := sgn_or hc (j := b - w) (k := a) (by omega) (by omega) a0 c
    unfold sgn at hs ⊢
    cases q : (rows[(b - (w : Int)).toNat]?.getD [])[a.toNat]? with
    | none => rw [q] at hs; simp at hs
    | some c' => rw [decide_eq_true_eq]; simp
  · rw [if_neg c, List.getElem?_append_right (by simp; omega), List.getElem?_map]
    have hlt : a.toNat - ((List.range w).map fun e => (cntE rows e : Int)).length < rows.length := by simp; omega
    rw [List.getElem?_eq_getElem hlt]
    show some ((List.count 46 (rows[a.toNat - ((List.range w).map fun e => (cntE rows e : Int)).length]'hlt) : Nat) : Int) = _
    refine congrArg (fun n : Nat => some (n : Int)) ?_
    have hw := hc.ww _ (List.getElem_mem hlt)
    rw [List.count_eq_countP, ← countP_up (fun c : Nat => c == 46) 0 _ 0, hw]
    refine List.countP_congr fun b hb => ?_
    have hb := upFrom_mem.mp hb
    unfold ovB
    rw [if_neg (by omega), if_pos (by omega)]
    unfold sgn
    rw [show (a - (w : Int)).toNat = a.toNat - ((List.range w).map fun e => (cntE rows e : Int)).length by simp, List.getElem?_eq_getElem hlt]
    show _ ↔ (((rows[a.toNat - ((List.range w).map fun e => (cntE rows e : Int)).length])[b.toNat]?).getD 0 == 46) = true
    rw [Int.sub_zero]
/-! ### the lines by count -/
theorem sortKey_perm (cs : List Int) (lo hi : Int) : (sortKey cs lo hi).Perm (upFrom lo (hi - lo).toNat) := List.mergeSort_perm _ _
theorem sortKey_sorted (cs : List Int) (lo hi : Int) : (sortKey cs lo hi).Pairwise (fun p q => keyC cs p < keyC cs q ∨ (keyC cs p = keyC cs q ∧ p ≤ q)) := by
  refine (List.pairwise_mergeSort (le := fun p q => decide (keyC cs p < keyC cs q ∨ (keyC cs p = keyC cs q ∧ p ≤ q))) (fun a b c h1 h2 => ?_) (fun a b => ?_) _).imp fun {a b} h => by simpa using h
  · simp only [decide_eq_true_eq] at *; omega
  · simp only [Bool.or_eq_true, decide_eq_true_eq]; omega
/-- the ends, the picks, those that lie over more come first -/
def eL (rows : List Tx) (w : Nat) : List Int := sortKey (cntL rows w) 0 w
def pL (rows : List Tx) (w h : Nat) : List Int := sortKey (cntL rows w) w (w + h)
section
variable {rows : List Tx} {w h : Nat}
theorem eL_perm : (eL rows w).Perm (upFrom 0 w) := by have := sortKey_perm (cntL rows w) 0 w; rwa [show ((w : Int) - 0).toNat = w by omega] at this
theorem pL_perm : (pL rows w h).Perm (upFrom w h) := by have := sortKey_perm (cntL rows w) w (w + h); rwa [show ((w : Int) + h - w).toNat = h by omega] at this
theorem eL_len : (eL rows w).length = w := by rw [eL_perm.length_eq, upFrom_len]
theorem pL_len : (pL rows w h).length = h := by rw [pL_perm.length_eq, upFrom_len]
theorem eL_mem {a : Int} : a ∈ eL rows w ↔ 0 ≤ a ∧ a < w := by rw [eL_perm.mem_iff, upFrom_mem]; omega
theorem pL_mem {a : Int} : a ∈ pL rows w h ↔ (w : Int) ≤ a ∧ a < (w : Int) + h := by rw [pL_perm.mem_iff, upFrom_mem]
theorem keyC_at (hc : Cloth rows w h) {a : Int} (a0 : 0 ≤ a) (a1 : a < (w : Int) + h) : keyC (cntL rows w) a = -(scN rows w h a : Int) := by
  unfold keyC; rw [cntL_at hc a0 a1]; rfl
theorem eL_fall (hc : Cloth rows w h) : (eL rows w).Pairwise (fun p q => scN rows w h q ≤ scN rows w h p ∧ (scN rows w h p = scN rows w h q → p ≤ q)) := by
  have := hc.pos
  refine (List.Pairwise.and_mem.mp (sortKey_sorted (cntL rows w) 0 w)).imp fun {p q} ⟨hp, hq, h'⟩ => ?_
  have h1 := eL_mem.mp hp
  have h2 := eL_mem.mp hq
  rw [keyC_at hc h1.1 (by omega), keyC_at hc h2.1 (by omega)] at h'
  omega
theorem pL_fall (hc : Cloth rows w h) : (pL rows w h).Pairwise (fun p q => scN rows w h q ≤ scN rows w h p ∧ (scN rows w h p = scN rows w h q → p ≤ q)) := by
  have := hc.pos
  refine (List.Pairwise.and_mem.mp (sortKey_sorted (cntL rows w) w (w + h))).imp fun {p q} ⟨hp, hq, h'⟩ => ?_
  have h1 := pL_mem.mp hp
  have h2 := pL_mem.mp hq
  rw [keyC_at hc (by omega) h1.2, keyC_at hc (by omega) h2.2] at h'
  omega
theorem cross (hc : Cloth rows w h) : ∀ a ∈ eL rows w, ∀ b ∈ pL rows w h, ovB rows w b a = !ovB rows w a b := fun a ha b hb => by
  have h1 := eL_mem.mp ha
  have h2 := pL_mem.mp hb
  exact ovB_not hc h1.1 h1.2 h2.1 h2.2
theorem scN_end {a : Int} (ha : a ∈ eL rows w) : scN rows w h a = (pL rows w h).countP (ovB rows w a) := by
  unfold scN
  rw [if_pos (eL_mem.mp ha).2, pL_perm.countP_eq]
theorem scN_pick {b : Int} (hb : b ∈ pL rows w h) : scN rows w h b = (eL rows w).countP (ovB rows w b) := by
  unfold scN
  rw [if_neg (by have := (pL_mem.mp hb).1; omega), eL_perm.countP_eq]
/-- the first s ends and the first t picks lie over all others -/
def Top (rows : List Tx) (w h : Nat) (s t : Nat) : Prop := ClosedL (ovB rows w) ((eL rows w).take s) ((eL rows w).drop s) ((pL rows w h).take t) ((pL rows w h).drop t)
/-- sets of ends and picks, by the sum of their counts -/
theorem set_iff (hc : Cloth rows w h) {S S' T T' : List Int} (he : (S ++ S').Perm (eL rows w)) (hp : (T ++ T').Perm (pL rows w h)) :
    (S.map (scN rows w h)).sum + (T.map (scN rows w h)).sum + S.length * T.length ≤ S.length * h + T.length * w ∧
    ((S.map (scN rows w h)).sum + (T.map (scN rows w h)).sum + S.length * T.length = S.length * h + T.length * w ↔ ClosedL (ovB rows w) S S' T T') := by
  have le := he.length_eq
  have lp := hp.length_eq
  rw [List.length_append, eL_len] at le
  rw [List.length_append, pL_len] at lp
  obtain ⟨k1, k2⟩ := closed_iff (ov := ovB rows w) (S := S) (S' := S') (T := T) (T' := T') fun a ha b hb => cross hc a (he.mem_iff.mp ha) b (hp.mem_iff.mp hb)
  have e1 : (S.map (scN rows w h)).sum = (S.map fun a => (T ++ T').countP (ovB rows w a)).sum := sum_map_congr fun a ha => by rw [scN_end (he.mem_iff.mp (List.mem_append_left _ ha)), hp.countP_eq]
  have e2 : (T.map (scN rows w h)).sum = (T.map fun b => (S ++ S').countP (ovB rows w b)).sum := sum_map_congr fun b hb => by rw [scN_pick (hp.mem_iff.mp (List.mem_append_left _ hb)), he.countP_eq]
  rw [e1, e2]
  have m1 : S.length * h = S.length * T.length + S.length * T'.length := by rw [← lp, Nat.mul_add]
  have m2 : T.length * w = S.length * T.length + T.length * S'.length := by rw [← le, Nat.mul_add, Nat.mul_comm T.length S.length]
  rw [m1, m2]
  refine ⟨by omega, ?_⟩
  rw [← k2]
  omega
theorem top_iff (hc : Cloth rows w h) {s t : Nat} (hs : s ≤ w) (ht : t ≤ h) : (((eL rows w).take s).map (scN rows w h)).sum + (((pL rows w h).take t).map (scN rows w h)).sum + s * t = s * h + t * w ↔ Top rows w h s t := by
  have k := (set_iff hc (S := (eL rows w).take s) (S' := (eL rows w).drop s) (T := (pL rows w h).take t) (T' := (pL rows w h).drop t) (by rw [List.take_append_drop]) (by rw [List.take_append_drop])).2
  rw [List.length_take, List.length_take, eL_len, pL_len, Nat.min_eq_left hs, Nat.min_eq_left ht] at k
  exact k
/-- any set that lies over all others has the size of a top -/
theorem top_of_set (hc : Cloth rows w h) {S S' T T' : List Int} (he : (S ++ S').Perm (eL rows w)) (hp : (T ++ T').Perm (pL rows w h)) (hcl : ClosedL (ovB rows w) S S' T T') : Top rows w h S.length T.length := by
  have le := he.length_eq
  have lp := hp.length_eq
  rw [List.length_append, eL_len] at le
  rw [List.length_append, pL_len] at lp
  have k1 := (set_iff hc he hp).2.mpr hcl
  have k2 := (set_iff hc (S := (eL rows w).take S.length) (S' := (eL rows w).drop S.length) (T := (pL rows w h).take T.length) (T' := (pL rows w h).drop T.length) (by rw [List.take_append_drop]) (by rw [List.take_append_drop])).1
  rw [List.length_take, List.length_take, eL_len, pL_len, Nat.min_eq_left (by omega), Nat.min_eq_left (by omega)] at k2
  have g1 := top_most (f := scN rows w h) ((eL_fall hc).imp fun h => h.1) he
  have g2 := top_most (f := scN rows w h) ((pL_fall hc).imp fun h => h.1) hp
  exact (top_iff hc (by omega) (by omega)).mp (by omega)
theorem top_zero : Top rows w h 0 0 := ⟨fun a ha => by simp at ha, fun b hb => by simp at hb⟩
theorem top_all : Top rows w h w h := ⟨fun a _ b hb => by rw [List.drop_of_length_le (by rw [pL_len]; exact Nat.le_refl _)] at hb; simp at hb, fun b _ a ha => by rw [List.drop_of_length_le (by rw [eL_len]; exact Nat.le_refl _)] at ha; simp at ha⟩
theorem eL_at {s : Nat} (hs : s < w) : ∃ a, (eL rows w)[s]? = some a := ⟨(eL rows w)[s]'(by rw [eL_len]; exact hs), List.getElem?_eq_getElem _⟩
theorem pL_at {t : Nat} (ht : t < h) : ∃ b, (pL rows w h)[t]? = some b := ⟨(pL rows w h)[t]'(by rw [pL_len]; exact ht), List.getElem?_eq_getElem _⟩
theorem mem_take_of {α : Type} {l : List α} {i n : Nat} {x : α} (h : l[i]? = some x) (hi : i < n) : x ∈ l.take n := List.mem_iff_getElem?.mpr ⟨i, by rw [List.getElem?_take_of_lt hi]; exact h⟩
theorem mem_drop_of {α : Type} {l : List α} {i n : Nat} {x : α} (h : l[i]? = some x) (hi : n ≤ i) : x ∈ l.drop n := List.mem_iff_getElem?.mpr ⟨i - n, by rw [List.getElem?_drop, show n + (i - n) = i by omega]; exact h⟩
theorem of_mem_drop {α : Type} {l : List α} {n : Nat} {x : α} (h : x ∈ l.drop n) : ∃ i, n ≤ i ∧ l[i]? = some x := by
  obtain ⟨i, hi⟩ := List.mem_iff_getElem?.mp h
  rw [List.getElem?_drop] at hi
  exact ⟨n + i, by omega, hi⟩
theorem of_mem_take {α : Type} {l : List α} {n : Nat} {x : α} (h : x ∈ l.take n) : ∃ i, i < n ∧ l[i]? = some x := by
  obtain ⟨i, hi⟩ := List.mem_iff_getElem?.mp h
  by_cases q : i < n
  · rw [List.getElem?_take_of_lt q] at hi; exact ⟨i, q, hi⟩
  · rw [List.getElem?_take_eq_none (by omega)] at hi; cases hi
/-- two tops: one is in the other -/
theorem top_chain (hc : Cloth rows w h) {s t s' t' : Nat} (h1 : Top rows w h s t) (h2 : Top rows w h s' t') (hs : s < s') (hs' : s' ≤ w) (ht : t ≤ h) : t ≤ t' := by
  refine Nat.le_of_not_lt fun q => ?_
  obtain ⟨a, ha⟩ := eL_at (rows := rows) (w := w) (s := s) (by omega)
  obtain ⟨b, hb⟩ := pL_at (rows := rows) (w := w) (h := h) (t := t') (by omega)
  have g1 := h1.2 b (mem_take_of hb q) a (mem_drop_of ha (Nat.le_refl _))
  have g2 := h2.1 a (mem_take_of ha hs) b (mem_drop_of hb (Nat.le_refl _))
  rw [cross hc a (List.mem_of_getElem? ha) b (List.mem_of_getElem? hb), g2] at g1
  cases g1
/-- between two tops that follow each other -/
theorem top_step (hc : Cloth rows w h) {s t s' t' : Nat} (h1 : Top rows w h s t) (h2 : Top rows w h s' t') (hs : s ≤ s') (ht : t ≤ t') (hs' : s' ≤ w) (ht' : t' ≤ h) (hne : ¬ (s' = s ∧ t' = t))
    (hno : ∀ x y, s ≤ x → x ≤ s' → t ≤ y → y ≤ t' → Top rows w h x y → (x = s ∧ y = t) ∨ (x = s' ∧ y = t')) : (s' - s) + (t' - t) = 1 ∨ (2 ≤ s' - s ∧ 2 ≤ t' - t) := by
  -- one end more
  have endMore : s < s' → (∀ i, t ≤ i → i < t' → ∀ a b, (eL rows w)[s]? = some a → (pL rows w h)[i]? = some b → ovB rows w a b = true) → Top rows w h (s + 1) t := fun q ho => by
    refine ⟨fun a ha b hb => ?_, fun b hb a ha => ?_⟩
    · obtain ⟨i, hi, ea⟩ := of_mem_take ha
      obtain ⟨j, hj, eb⟩ := of_mem_drop hb
      by_cases c1 : i < s
      · exact h1.1 a (mem_take_of ea c1) b hb
      · by_cases c2 : j < t'
        · exact ho j hj c2 a b (by rw [show s = i by omega]; exact ea) eb
        · exact h2.1 a (mem_take_of ea (by omega)) b (mem_drop_of eb (by omega))
    · obtain ⟨i, hi, ea⟩ := of_mem_drop ha
      exact h1.2 b hb a (mem_drop_of ea (by omega))
  have pickMore : t < t' → (∀ i, s ≤ i → i < s' → ∀ b a, (pL rows w h)[t]? = some b → (eL rows w)[i]? = some a → ovB rows w b a = true) → Top rows w h s (t + 1) := fun q ho => by
    refine ⟨fun a ha b hb => ?_, fun b hb a ha => ?_⟩
    · obtain ⟨i, hi, eb⟩ := of_mem_drop hb
      exact h1.1 a ha b (mem_drop_of eb (by omega))
    · obtain ⟨i, hi, eb⟩ := of_mem_take hb
      obtain ⟨j, hj, ea⟩ := of_mem_drop ha
      by_cases c1 : i < t
      · exact h1.2 b (mem_take_of eb c1) a ha
      · by_cases c2 : j < s'
        · exact ho j hj c2 b a (by rw [show t = i by omega]; exact eb) ea
        · exact h2.2 b (mem_take_of eb (by omega)) a (mem_drop_of ea (by omega))
  by_cases c : (s' - s) + (t' - t) = 1
  · exact .inl c
  refine .inr (Decidable.byContradiction fun q => ?_)
  -- the count of a strand between
  have cntPick : ∀ i b, t ≤ i → i < t' → (pL rows w h)[i]? = some b → s' = s + 1 → ∀ a, (eL rows w)[s]? = some a → scN rows w h b = (w - s') + if ovB rows w b a = true then 1 else 0 := fun i b i0 i1 eb e a ea => by
    rw [scN_pick (List.mem_of_getElem? eb)]
    have sp : eL rows w = (eL rows w).take s ++ a :: (eL rows w).drop s' := by
      have := List.take_append_drop s (eL rows w)
      rw [List.drop_eq_getElem_cons (by rw [eL_len]; omega)] at this
      rw [List.getElem?_eq_getElem (by rw [eL_len]; omega)] at ea
      rw [Option.some.inj ea] at this
      rw [e]; exact this.symm
    rw [sp, List.countP_append, List.countP_cons]
    have z1 : ((eL rows w).take s).countP (ovB rows w b) = 0 := List.countP_eq_zero.mpr fun x hx => by
      have := h1.1 x hx b (mem_drop_of eb i0)
      rw [cross hc x (List.mem_of_mem_take hx) b (List.mem_of_getElem? eb), this]; simp
    have z2 : ((eL rows w).drop s').countP (ovB rows w b) = w - s' := by
      rw [List.countP_eq_length.mpr fun x hx => h2.2 b (mem_take_of eb i1) x hx, List.length_drop, eL_len]
    rw [z1, z2]; omega
  have cntEnd : ∀ i a, s ≤ i → i < s' → (eL rows w)[i]? = some a → t' = t + 1 → ∀ b, (pL rows w h)[t]? = some b → scN rows w h a = (h - t') + if ovB rows w a b = true then 1 else 0 := fun i a i0 i1 ea e b eb => by
    rw [scN_end (h := h) (List.mem_of_getElem? ea)]
    have sp : pL rows w h = (pL rows w h).take t ++ b :: (pL rows w h).drop t' := by
      have := List.take_append_drop t (pL rows w h)
      rw [List.drop_eq_getElem_cons (by rw [pL_len]; omega)] at this
      rw [List.getElem?_eq_getElem (by rw [pL_len]; omega)] at eb
      rw [Option.some.inj eb] at this
      rw [e]; exact this.symm
    rw [sp, List.countP_append, List.countP_cons]
    have z1 : ((pL rows w h).take t).countP (ovB rows w a) = 0 := List.countP_eq_zero.mpr fun x hx => by
      have := h1.2 x hx a (mem_drop_of ea i0)
      rw [cross hc a (List.mem_of_getElem? ea) x (List.mem_of_mem_take hx)] at this
      cases z : ovB rows w a x
      · simp
      · rw [z] at this; simp at this
    have z2 : ((pL rows w h).drop t').countP (ovB rows w a) = h - t' := by
      rw [List.countP_eq_length.mpr fun x hx => h2.1 a (mem_take_of ea i1) x hx, List.length_drop, pL_len]
    rw [z1, z2]; omega
  by_cases ct : t' = t
  · have := hno (s + 1) t (by omega) (by omega) (by omega) (by omega) (endMore (by omega) fun i i0 i1 => by omega)
    omega
  by_cases cs : s' = s
  · have := hno s (t + 1) (by omega) (by omega) (by omega) (by omega) (pickMore (by omega) fun i i0 i1 => by omega)
    omega
  by_cases ce : s' = s + 1
  · -- one end and some picks
    obtain ⟨a, ha⟩ := eL_at (rows := rows) (w := w) (s := s) (by omega)
    obtain ⟨b, hb⟩ := pL_at (rows := rows) (w := w) (h := h) (t := t) (by omega)
    cases z : ovB rows w b a with
    | true =>
      have := hno s (t + 1) (by omega) (by omega) (by omega) (by omega) (pickMore (by omega) fun i i0 i1 b' a' eb ea => by
        rw [hb] at eb; cases eb
        rw [show i = s by omega, ha] at ea; cases ea
        exact z)
      omega
    | false =>
      have c0 := cntPick t b (Nat.le_refl _) (by omega) hb ce a ha
      rw [z] at c0
      have := hno (s + 1) t (by omega) (by omega) (by omega) (by omega) (endMore (by omega) fun i i0 i1 a' b' ea eb => by
        rw [ha] at ea; cases ea
        have c1 := cntPick i b' i0 i1 eb ce a ha
        have hle : scN rows w h b' ≤ scN rows w h b := by
          by_cases e : i = t
          · rw [e, hb] at eb; cases eb; exact Nat.le_refl _
          · have hlt : t < i := by omega
            have l1 := (List.getElem?_eq_some_iff.mp hb).1
            have l2 := (List.getElem?_eq_some_iff.mp eb).1
            have := (List.pairwise_iff_getElem.mp (pL_fall hc)) t i l1 l2 hlt
            rw [(List.getElem?_eq_some_iff.mp hb).2, (List.getElem?_eq_some_iff.mp eb).2] at this
            exact this.1
        have nb : ovB rows w b' a = false := by
          cases z2 : ovB rows w b' a with
          | false => rfl
          | true => rw [z2] at c1; simp at c0 c1; omega
        have := cross hc a (List.mem_of_getElem? ha) b' (List.mem_of_getElem? eb)
        rw [nb] at this
        cases z3 : ovB rows w a b' with
        | true => rfl
        | false => rw [z3] at this; cases this)
      omega
  · -- one pick and some ends
    have cp : t' = t + 1 := by omega
    obtain ⟨a, ha⟩ := eL_at (rows := rows) (w := w) (s := s) (by omega)
    obtain ⟨b, hb⟩ := pL_at (rows := rows) (w := w) (h := h) (t := t) (by omega)
    cases z : ovB rows w a b with
    | true =>
      have := hno (s + 1) t (by omega) (by omega) (by omega) (by omega) (endMore (by omega) fun i i0 i1 a' b' ea eb => by
        rw [ha] at ea; cases ea
        rw [show i = t by omega, hb] at eb; cases eb
        exact z)
      omega
    | false =>
      have c0 := cntEnd s a (Nat.le_refl _) (by omega) ha cp b hb
      rw [z] at c0
      have := hno s (t + 1) (by omega) (by omega) (by omega) (by omega) (pickMore (by omega) fun i i0 i1 b' a' eb ea => by
        rw [hb] at eb; cases eb
        have c1 := cntEnd i a' i0 i1 ea cp b hb
        have hle : scN rows w h a' ≤ scN rows w h a := by
          by_cases e : i = s
          · rw [e, ha] at ea; cases ea; exact Nat.le_refl _
          · have hlt : s < i := by omega
            have l1 := (List.getElem?_eq_some_iff.mp ha).1
            have l2 := (List.getElem?_eq_some_iff.mp ea).1
            have := (List.pairwise_iff_getElem.mp (eL_fall hc)) s i l1 l2 hlt
            rw [(List.getElem?_eq_some_iff.mp ha).2, (List.getElem?_eq_some_iff.mp ea).2] at this
            exact this.1
        have na : ovB rows w a' b = false := by
          cases z2 : ovB rows w a' b with
          | false => rfl
          | true => rw [z2] at c1; simp at c0 c1; omega
        rw [cross hc a' (List.mem_of_getElem? ea) b (List.mem_of_getElem? hb), na]; rfl)
      omega
end

/-! ### the sums of the beginnings of a list -/
def preI (l : List Int) : List Int := (List.range (l.length + 1)).map fun i => (l.take i).sum
theorem preI_len {l : List Int} : (preI l).length = l.length + 1 := by unfold preI; simp
theorem preI_snoc (l : List Int) (x : Int) : preI (l ++ [x]) = preI l ++ [l.sum + x] := by
  unfold preI
  rw [List.length_append, List.length_singleton, List.range_succ, List.map_append]
  congr 1
  · refine List.map_congr_left fun i hi => ?_
    rw [List.mem_range] at hi
    rw [List.take_append_of_le_length (by omega)]
  · rw [List.map_singleton, List.take_of_length_le (by simp), List.sum_append]; simp
theorem preI_last (l : List Int) : (preI l).getLast? = some l.sum := by
  unfold preI
  rw [List.range_succ, List.map_append, List.map_singleton, List.getLast?_concat, List.take_length]
theorem preI_at (l : List Int) {i : Nat} (h : i ≤ l.length) : (preI l)[i]? = some (l.take i).sum := by
  unfold preI
  rw [List.getElem?_map, List.getElem?_range (by omega)]; rfl
theorem runs_ok {cs line : List Int} (hl : line.length < 100000) (h : ∀ a ∈ line, 0 ≤ a ∧ a < cs.length) : f_running_sums cs line = .ok (preI (line.map fun a => cs[a.toNat]?.getD 0)) := by
  refine oke ?_
  unfold f_running_sums
  show Okm (M.bind (forM (f_running_sums_l1 cs) [0] line) _) _
  refine okb (ok_for (fun i (s : List Int) => s = preI ((line.take i).map fun a => cs[a.toNat]?.getD 0)) (by simp; rfl) fun i a s ha e => ?_) fun s e => okv (by rw [e, List.take_length])
  subst e
  have hlt := (List.getElem?_eq_some_iff.mp ha).1
  obtain ⟨h0, h1⟩ := h a (List.mem_of_getElem? ha)
  unfold f_running_sums_l1
  rw [getM_last (preI_last _)]
  refine okb (P := (· = ((line.take i).map fun a => cs[a.toNat]?.getD 0).sum + cs[a.toNat]?.getD 0)) ?_ fun y e => ?_
  · rw [M.bind_ok]
    refine okb (ok_get h0 h1) fun v hv => okv ?_
    rw [hv]; rfl
  · subst e
    refine okb (ok_push (by rw [preI_len, List.length_map, List.length_take]; omega)) fun s e => okv ?_
    rw [e, List.take_succ, ha, List.map_append, ← preI_snoc]
    rfl
/-! ### the tops, one by one -/
/-- the condition that is asked -/
def TopC (rows : List Tx) (w h s t : Nat) : Prop := (((eL rows w).take s).map (scN rows w h)).sum + (((pL rows w h).take t).map (scN rows w h)).sum + s * t = s * h + t * w
instance {rows : List Tx} {w h s t : Nat} : Decidable (TopC rows w h s t) := by unfold TopC; infer_instance
abbrev P2 := Int × Int × Unit
def p2 (s t : Nat) : P2 := ((s : Int), (t : Int), ())
/-- a row of the tops -/
def tlRow (rows : List Tx) (w h : Nat) (s n : Nat) : List P2 := ((List.range n).filter fun t => decide (TopC rows w h s t)).map (p2 s)
/-- the tops -/
def tl (rows : List Tx) (w h : Nat) (m : Nat) : List P2 := (List.range m).flatMap fun s => tlRow rows w h s (h + 1)
def PE (rows : List Tx) (w h : Nat) : List Int := preI ((eL rows w).map fun a => (scN rows w h a : Int))
def PP (rows : List Tx) (w h : Nat) : List Int := preI ((pL rows w h).map fun a => (scN rows w h a : Int))
theorem sum_cast (f : Int → Nat) : ∀ l : List Int, (l.map fun a => (f a : Int)).sum = ((l.map f).sum : Nat)
  | [] => rfl
  | a :: r => by rw [List.map_cons, List.sum_cons, sum_cast f r, List.map_cons, List.sum_cons]; omega
section
variable {rows : List Tx} {w h : Nat}
theorem tlRow_len {s n : Nat} : (tlRow rows w h s n).length ≤ n := by
  unfold tlRow
  rw [List.length_map]
  exact Nat.le_trans (List.length_filter_le _ _) (by rw [List.length_range]; exact Nat.le_refl _)
theorem tl_succ {m : Nat} : tl rows w h (m + 1) = tl rows w h m ++ tlRow rows w h m (h + 1) := by
  unfold tl; rw [List.range_succ, List.flatMap_append]; simp
theorem tl_len : ∀ {m : Nat}, (tl rows w h m).length ≤ m * (h + 1)
  | 0 => by simp [tl]
  | m + 1 => by rw [tl_succ, List.length_append, Nat.succ_mul]; have := tl_len (m := m); have := tlRow_len (rows := rows) (w := w) (h := h) (s := m) (n := h + 1); omega
theorem tlRow_succ {s n : Nat} : tlRow rows w h s (n + 1) = tlRow rows w h s n ++ if TopC rows w h s n then [p2 s n] else [] := by
  unfold tlRow
  rw [List.range_succ, List.filter_append, List.map_append]
  congr 1
  by_cases c : TopC rows w h s n <;> simp [c]
theorem PE_at {s : Nat} (hs : s ≤ w) : getM (PE rows w h) (s : Int) = .ok ((((eL rows w).take s).map (scN rows w h)).sum : Nat) := by
  refine getM_nat ?_
  unfold PE
  rw [preI_at _ (by rw [List.length_map, eL_len]; exact hs), ← List.map_take, sum_cast]
theorem PP_at {t : Nat} (ht : t ≤ h) : getM (PP rows w h) (t : Int) = .ok ((((pL rows w h).take t).map (scN rows w h)).sum : Nat) := by
  refine getM_nat ?_
  unfold PP
  rw [preI_at _ (by rw [List.length_map, pL_len]; exact ht), ← List.map_take, sum_cast]
theorem topC_int {s t : Nat} : TopC rows w h s t ↔ ((((eL rows w).take s).map (scN rows w h)).sum : Nat) + ((((pL rows w h).take t).map (scN rows w h)).sum : Nat) = (s : Int) * (h : Int) + (t : Int) * (w : Int) - (s : Int) * (t : Int) := by
  unfold TopC
  constructor
  · intro e
    have : ((((((eL rows w).take s).map (scN rows w h)).sum + (((pL rows w h).take t).map (scN rows w h)).sum + s * t : Nat)) : Int) = ((s * h + t * w : Nat) : Int) := by rw [e]
    push_cast at this
    omega
  · intro e
    have : ((((((eL rows w).take s).map (scN rows w h)).sum + (((pL rows w h).take t).map (scN rows w h)).sum + s * t : Nat)) : Int) = ((s * h + t * w : Nat) : Int) := by
      push_cast
      omega
    exact Int.ofNat.inj this
/-- two nested loops that gather the tops -/
theorem tops_loop {f2 : List P2 → Int → M (List P2)} {f1 : Int → List P2 → Int → M (List P2)} (hw : w ≤ 40) (hh : h ≤ 40)
    (e2 : ∀ s k, f2 s k = M.bind (rangeM 0 ((h : Int) + 1)) fun xs => M.bind (forM (f1 k) s xs) fun s => M.ok s)
    (e1 : ∀ (s t : Nat), s ≤ w → t ≤ h → ∀ acc : List P2, acc.length < 10000 → f1 (s : Int) acc (t : Int) = .ok (if TopC rows w h s t then acc ++ [p2 s t] else acc)) :
    forM f2 [] (upFrom 0 (w + 1)) = .ok (tl rows w h (w + 1)) := by
  refine oke (ok_forR (fun i (s : List P2) => s = tl rows w h i) rfl fun i s hi e => ?_)
  subst e
  rw [e2]
  refine okb (ok_range) fun xs e => ?_
  subst e
  rw [show ((h : Int) + 1 - 0).toNat = h + 1 by omega]
  refine okb (ok_forR (fun j (s : List P2) => s = tl rows w h i ++ tlRow rows w h i j) (by simp [tlRow]) fun j s hj e => ?_) fun s e => okv (by rw [e, ← tl_succ])
  subst e
  rw [Int.zero_add, Int.zero_add, e1 i j (by omega) (by omega) _ ?_]
  · refine okv ?_
    rw [tlRow_succ]
    by_cases c : TopC rows w h i j <;> simp [c]
  · rw [List.length_append]
    have h1 := tl_len (rows := rows) (w := w) (h := h) (m := i)
    have h2 := tlRow_len (rows := rows) (w := w) (h := h) (s := i) (n := j)
    have h3 : i * (h + 1) ≤ 40 * (40 + 1) := Nat.mul_le_mul (by omega) (by omega)
    omega
theorem natAbs_lt {n : Nat} (h : n ≤ 40) : ((n : Int)).natAbs < 2 ^ 64 := by
  have : n < 2 ^ 64 := by omega
  simpa using this
theorem tops_ok (hc : Cloth rows w h) : f_tops_of rows = .ok (tl rows w h (w + 1)) := by
  have hw2 := hc.w2
  have hh2 := hc.h2
  have hcl := cntL_len hc
  unfold f_tops_of
  rw [measured_ok hc, M.bind_ok, show f_scores_of rows = .ok (cntL rows w) from scores_ok hc, M.bind_ok]
  show (M.bind (M.bind (sortKeyM (cntL rows w) 0 (w : Int)) _) _) = _
  have s1 : sortKeyM (cntL rows w) 0 (w : Int) = .ok (eL rows w) := if_pos ⟨by omega, by omega, by omega, by omega, by omega⟩
  have s2 : sortKeyM (cntL rows w) (w : Int) ((w : Int) + (h : Int)) = .ok (pL rows w h) := if_pos ⟨by omega, by omega, by omega, by omega, by omega⟩
  rw [s1, M.bind_ok, runs_ok (by rw [eL_len]; omega) fun a ha => by have := eL_mem.mp ha; omega, M.bind_ok]
  show (M.bind (M.bind (sortKeyM (cntL rows w) (w : Int) ((w : Int) + (h : Int))) _) _) = _
  rw [s2, M.bind_ok, runs_ok (by rw [pL_len]; omega) fun a ha => by have := pL_mem.mp ha; omega, M.bind_ok]
  have p1 : (eL rows w).map (fun a => (cntL rows w)[a.toNat]?.getD 0) = (eL rows w).map fun a => (scN rows w h a : Int) := List.map_congr_left fun a ha => by
    have := eL_mem.mp ha
    rw [cntL_at hc this.1 (by omega)]; rfl
  have p2' : (pL rows w h).map (fun a => (cntL rows w)[a.toNat]?.getD 0) = (pL rows w h).map fun a => (scN rows w h a : Int) := List.map_congr_left fun a ha => by
    have := pL_mem.mp ha
    rw [cntL_at hc (by omega) this.2]; rfl
  rw [p1, p2']
  show M.bind (rangeM 0 ((w : Int) + 1)) _ = _
  rw [range_eq, M.bind_ok, show ((w : Int) + 1 - 0).toNat = w + 1 by omega]
  show M.bind (forM (f_tops_of_l2 ((w : Int), (h : Int), ()) (PE rows w h) (PP rows w h)) [] _) _ = _
  rw [tops_loop (f2 := f_tops_of_l2 ((w : Int), (h : Int), ()) (PE rows w h) (PP rows w h)) (f1 := f_tops_of_l1 ((w : Int), (h : Int), ()) (PE rows w h) (PP rows w h)) hw2 hh2 (fun s k => rfl) fun s t hs ht acc ha => ?_]
  · rfl
  · refine oke ?_
    unfold f_tops_of_l1
    refine okb (P := (· = decide (TopC rows w h s t))) ?_ fun c e => ?_
    · rw [PE_at hs, PP_at ht]
      refine okb (P := (· = (((((eL rows w).take s).map (scN rows w h)).sum : Nat) : Int) + ((((pL rows w h).take t).map (scN rows w h)).sum : Nat))) (okv rfl) fun y e => ?_
      subst e
      refine okb (P := (· = (s : Int) * (h : Int) + (t : Int) * (w : Int) - (s : Int) * (t : Int))) ?_ fun y e => okv ?_
      · refine okb (okb (ok_mul 64 64 (natAbs_lt (by omega)) (natAbs_lt (by omega))) fun a e1 => okb (P := (· = (t : Int) * (w : Int))) (ok_mul 64 64 (natAbs_lt (by omega)) (natAbs_lt (by omega))) fun b e2 => okv (P := (· = (s : Int) * (h : Int) + (t : Int) * (w : Int))) ?_) fun y e => okb (ok_mul 64 64 (natAbs_lt (by omega)) (natAbs_lt (by omega))) fun b e2 => okv ?_
        · rw [e1, e2]
        · rw [e, e2]
      · subst e
        rw [decide_eq_decide]
        exact topC_int.symm
    · subst e
      by_cases c : TopC rows w h s t
      · simp only [c, decide_true, if_true]
        refine okb (ok_push (by omega)) fun s e => okv ?_
        rw [e]; rfl
      · simp only [c, decide_false, Bool.false_eq_true, if_false]
        exact okv rfl
/-! ### facts of the list of tops -/
def Lex (p q : P2) : Prop := p.1 < q.1 ∨ (p.1 = q.1 ∧ p.2.1 < q.2.1)
theorem mem_tl (hc : Cloth rows w h) {x : P2} : x ∈ tl rows w h (w + 1) ↔ ∃ s t, s ≤ w ∧ t ≤ h ∧ x = p2 s t ∧ Top rows w h s t := by
  unfold tl tlRow
  simp only [List.mem_flatMap, List.mem_range, List.mem_map, List.mem_filter, decide_eq_true_eq]
  constructor
  · rintro ⟨s, hs, t, ⟨ht, hT⟩, rfl⟩
    exact ⟨s, t, by omega, by omega, rfl, (top_iff hc (by omega) (by omega)).mp hT⟩
  · rintro ⟨s, t, hs, ht, rfl, hT⟩
    exact ⟨s, by omega, t, ⟨by omega, (top_iff hc hs ht).mpr hT⟩, rfl⟩
theorem tl_sorted : ∀ m, (tl rows w h m).Pairwise Lex ∧ ∀ x ∈ tl rows w h m, x.1 < (m : Int)
  | 0 => ⟨by simp [tl], by simp [tl]⟩
  | m + 1 => by
    obtain ⟨i1, i2⟩ := tl_sorted m
    have r1 : ∀ n, (tlRow rows w h m n).Pairwise Lex ∧ ∀ x ∈ tlRow rows w h m n, x.1 = (m : Int) ∧ x.2.1 < (n : Int) := fun n => by
      induction n with
      | zero => exact ⟨by simp [tlRow], by simp [tlRow]⟩
      | succ n ih =>
        rw [tlRow_succ]
        by_cases c : TopC rows w h m n
        · rw [if_pos c]
          refine ⟨List.pairwise_append.mpr ⟨ih.1, List.pairwise_singleton _ _, fun a ha b hb => ?_⟩, fun x hx => ?_⟩
          · rw [List.mem_singleton.mp hb]
            have := ih.2 a ha
            exact .inr ⟨this.1, this.2⟩
          · rcases List.mem_append.mp hx with hx | hx
            · have := ih.2 x hx; exact ⟨this.1, by omega⟩
            · rw [List.mem_singleton.mp hx]; exact ⟨rfl, by show (n : Int) < ((n + 1 : Nat) : Int); omega⟩
        · rw [if_neg c, List.append_nil]
          exact ⟨ih.1, fun x hx => by have := ih.2 x hx; exact ⟨this.1, by omega⟩⟩
    rw [tl_succ]
    refine ⟨List.pairwise_append.mpr ⟨i1, (r1 _).1, fun a ha b hb => .inl ?_⟩, fun x hx => ?_⟩
    · have := i2 a ha
      have := ((r1 _).2 b hb).1
      omega
    · rcases List.mem_append.mp hx with hx | hx
      · have := i2 x hx; omega
      · have := ((r1 _).2 x hx).1; omega
theorem tl_lt {i j : Nat} {p q : P2} (hij : i < j) (hp : (tl rows w h (w + 1))[i]? = some p) (hq : (tl rows w h (w + 1))[j]? = some q) : Lex p q := by
  obtain ⟨l1, rfl⟩ := List.getElem?_eq_some_iff.mp hp
  obtain ⟨l2, rfl⟩ := List.getElem?_eq_some_iff.mp hq
  exact List.pairwise_iff_getElem.mp (tl_sorted (w + 1)).1 i j l1 l2 hij
/-- the first top, the last top -/
theorem tl_first (hc : Cloth rows w h) : (tl rows w h (w + 1))[0]? = some (p2 0 0) := by
  have hm : p2 0 0 ∈ tl rows w h (w + 1) := (mem_tl hc).mpr ⟨0, 0, Nat.zero_le _, Nat.zero_le _, rfl, top_zero⟩
  obtain ⟨i, hi⟩ := List.mem_iff_getElem?.mp hm
  by_cases c : i = 0
  · rw [c] at hi; exact hi
  · have hl := (List.getElem?_eq_some_iff.mp hi).1
    have h0 : (tl rows w h (w + 1))[0]? = some (tl rows w h (w + 1))[0] := List.getElem?_eq_getElem (by omega)
    have lx := tl_lt (by omega) h0 hi
    obtain ⟨s, t, hs, ht, e, _⟩ := (mem_tl hc).mp (List.mem_of_getElem? h0)
    rw [e] at lx
    unfold Lex p2 at lx
    simp only at lx
    omega
theorem tl_last (hc : Cloth rows w h) : (tl rows w h (w + 1)).getLast? = some (p2 w h) := by
  have hm : p2 w h ∈ tl rows w h (w + 1) := (mem_tl hc).mpr ⟨w, h, Nat.le_refl _, Nat.le_refl _, rfl, top_all⟩
  obtain ⟨i, hi⟩ := List.mem_iff_getElem?.mp hm
  have hl := (List.getElem?_eq_some_iff.mp hi).1
  rw [List.getLast?_eq_getElem?]
  by_cases c : i = (tl rows w h (w + 1)).length - 1
  · rw [← c]; exact hi
  · have h0 : (tl rows w h (w + 1))[(tl rows w h (w + 1)).length - 1]? = some (tl rows w h (w + 1))[(tl rows w h (w + 1)).length - 1] := List.getElem?_eq_getElem (by omega)
    have lx := tl_lt (by omega) hi h0
    obtain ⟨s, t, hs, ht, e, _⟩ := (mem_tl hc).mp (List.mem_of_getElem? h0)
    rw [e] at lx
    unfold Lex p2 at lx
    simp only at lx
    omega
theorem tl_two (hc : Cloth rows w h) : 2 ≤ (tl rows w h (w + 1)).length := by
  have hw := hc.w1
  have h1 := tl_first hc
  have h2 := tl_last hc
  have hl := (List.getElem?_eq_some_iff.mp h1).1
  rw [List.getLast?_eq_getElem?] at h2
  by_cases c : (tl rows w h (w + 1)).length = 1
  · rw [c] at h2
    rw [h1] at h2
    have := congrArg (fun o => o.map fun x : P2 => x.1) h2
    simp [p2] at this
    omega
  · omega
/-- two tops that follow each other -/
theorem tl_next (hc : Cloth rows w h) {k : Nat} {p q : P2} (hp : (tl rows w h (w + 1))[k]? = some p) (hq : (tl rows w h (w + 1))[k + 1]? = some q) :
    ∃ s t s' t', p = p2 s t ∧ q = p2 s' t' ∧ s ≤ s' ∧ t ≤ t' ∧ s' ≤ w ∧ t' ≤ h ∧ Top rows w h s t ∧ Top rows w h s' t' ∧ ¬ (s' = s ∧ t' = t) ∧
      (∀ x y, s ≤ x → x ≤ s' → t ≤ y → y ≤ t' → Top rows w h x y → (x = s ∧ y = t) ∨ (x = s' ∧ y = t')) := by
  obtain ⟨s, t, hs, ht, rfl, hT⟩ := (mem_tl hc).mp (List.mem_of_getElem? hp)
  obtain ⟨s', t', hs', ht', rfl, hT'⟩ := (mem_tl hc).mp (List.mem_of_getElem? hq)
  have lx := tl_lt (Nat.lt_succ_self k) hp hq
  unfold Lex p2 at lx
  simp only at lx
  have hle : s ≤ s' := by omega
  have hlt : t ≤ t' := by
    by_cases c : s < s'
    · exact top_chain hc hT hT' c hs' ht
    · omega
  refine ⟨s, t, s', t', rfl, rfl, hle, hlt, hs', ht', hT, hT', by omega, fun x y x0 x1 y0 y1 hxy => ?_⟩
  obtain ⟨m, hm⟩ := List.mem_iff_getElem?.mp ((mem_tl hc).mpr ⟨x, y, by omega, by omega, rfl, hxy⟩)
  by_cases c1 : m < k
  · have := tl_lt c1 hm hp
    unfold Lex p2 at this
    simp only at this
    omega
  · by_cases c2 : k + 1 < m
    · have := tl_lt c2 hq hm
      unfold Lex p2 at this
      simp only at this
      omega
    · by_cases c3 : m = k
      · rw [c3, hp] at hm
        have := Option.some.inj hm
        unfold p2 at this
        simp only [Prod.mk.injEq] at this
        left; omega
      · rw [show m = k + 1 by omega, hq] at hm
        have := Option.some.inj hm
        unfold p2 at this
        simp only [Prod.mk.injEq] at this
        right; omega
end

/-- loops that ask all -/
theorem forF_chk {α ρ : Type} {f : Unit → α → M (Fl Unit ρ)} {b : α → Bool} {r : ρ} : ∀ {xs : List α}, (∀ x ∈ xs, f () x = .ok (if b x = true then Fl.nx () else Fl.rt r)) → forF f () xs = .ok (if xs.all b = true then Fl.nx () else Fl.rt r)
  | [], _ => rfl
  | x :: xs, h => by
    show (f () x).bind (Fl.el (fun s => forF f s xs) fun q => .ok (.rt q)) = _
    rw [h x List.mem_cons_self]
    cases hb : b x with
    | true =>
      show forF f () xs = _
      rw [forF_chk fun y hy => h y (List.mem_cons_of_mem _ hy), List.all_cons, hb]; rfl
    | false =>
      rw [List.all_cons, hb]; rfl
theorem all_upFrom {n : Nat} {b : Int → Bool} {c : Nat → Bool} (h : ∀ i, i < n → b i = c i) : (upFrom 0 n).all b = (List.range n).all c := by
  rw [Bool.eq_iff_iff, List.all_eq_true, List.all_eq_true]
  constructor
  · intro H i hi
    rw [List.mem_range] at hi
    rw [← h i hi]
    exact H (i : Int) (upFrom_mem.mpr (by omega))
  · intro H i hi
    rw [upFrom_mem] at hi
    obtain ⟨k, rfl⟩ : ∃ k : Nat, i = k := ⟨i.toNat, by omega⟩
    rw [h k (by omega)]
    exact H k (List.mem_range.mpr (by omega))
theorem row_at {rows : List Tx} {w h : Nat} (hc : Cloth rows w h) {i : Int} (h0 : 0 ≤ i) (h1 : i < h) : ∃ r, rows[i.toNat]? = some r ∧ getM rows i = .ok r ∧ r.length = w ∧ r ∈ rows := by
  have hh := hc.hh
  have hlt : i.toNat < rows.length := by omega
  have hr : rows[i.toNat]? = some rows[i.toNat] := by simp [hlt]
  exact ⟨_, hr, getM_at h0 hr, hc.ww _ (List.getElem_mem hlt), List.getElem_mem hlt⟩
theorem getS_m1 {x : Tx} {c : Nat} (h : x.getLast? = some c) : getS x (-1) = .ok [c] := by
  have hne : x ≠ [] := fun e => by rw [e] at h; cases h
  have hl : 0 < x.length := List.length_pos_iff.mpr hne
  unfold getS L2.atI L2.ixN
  rw [if_neg (by decide), if_pos (by omega)]
  show (match x[(-1 + (x.length : Int)).toNat]? with | some d => M.ok [d] | none => .no) = _
  rw [show (-1 + (x.length : Int)).toNat = x.length - 1 by omega, ← List.getLast?_eq_getElem?, h]

/-! ### lists of layers: each strand once -/
theorem sortI_perm (l : List Int) : (sortI l).Perm l := List.mergeSort_perm _ _
theorem sortI_sorted (l : List Int) : (sortI l).Pairwise (· ≤ ·) := by
  refine (List.pairwise_mergeSort (le := fun a b => decide (a ≤ b)) (fun a b c h1 h2 => ?_) (fun a b => ?_) l).imp fun h => by simpa using h
  · simp only [decide_eq_true_eq] at *; omega
  · simp only [Bool.or_eq_true, decide_eq_true_eq]; omega
theorem sortI_strict {l : List Int} (h : l.Nodup) : (sortI l).Pairwise (· < ·) := by
  have h1 := sortI_sorted l
  have h2 : (sortI l).Nodup := (sortI_perm l).nodup_iff.mpr h
  exact (List.Pairwise.and h1 h2).imp fun {a b} ⟨x, y⟩ => by omega
theorem upFrom_nodup {lo : Int} {n : Nat} : (upFrom lo n).Nodup := by
  induction n generalizing lo with
  | zero => exact List.nodup_nil
  | succ n ih =>
    rw [upFrom]
    refine List.nodup_cons.mpr ⟨fun h => ?_, ih⟩
    have := upFrom_mem.mp h
    omega
structure Part (n : Nat) (LY : List (List Int)) : Prop where
  perm : LY.flatten.Perm (upFrom 0 n)
  ne : ∀ l ∈ LY, l ≠ []
  up : ∀ l ∈ LY, l.Pairwise (· < ·)
section
variable {n : Nat} {LY : List (List Int)}
theorem Part.mem (P : Part n LY) {x : Int} : (∃ l ∈ LY, x ∈ l) ↔ 0 ≤ x ∧ x < n := by
  rw [← List.mem_flatten, P.perm.mem_iff, upFrom_mem]; omega
theorem Part.nodup (P : Part n LY) : LY.flatten.Nodup := P.perm.nodup_iff.mpr upFrom_nodup
theorem flat_len_ne : ∀ {LY : List (List Int)}, (∀ l ∈ LY, l ≠ []) → LY.length ≤ LY.flatten.length
  | [], _ => by simp
  | l :: r, h => by
    have := flat_len_ne fun x hx => h x (List.mem_cons_of_mem _ hx)
    have := List.length_pos_iff.mpr (h l List.mem_cons_self)
    rw [List.length_cons, List.flatten_cons, List.length_append]; omega
theorem Part.len (P : Part n LY) : LY.length ≤ n := by
  have := flat_len_ne P.ne
  rw [P.perm.length_eq, upFrom_len] at this
  exact this
/-- the layer of a strand -/
def pk (LY : List (List Int)) (x : Int) : Nat := LY.findIdx fun l => decide (x ∈ l)
theorem Part.pk_eq (P : Part n LY) {k : Nat} {l : List Int} {x : Int} (hl : LY[k]? = some l) (hx : x ∈ l) : pk LY x = k := by
  obtain ⟨hk, e⟩ := List.getElem?_eq_some_iff.mp hl
  have h1 : pk LY x < LY.length := List.findIdx_lt_length_of_exists ⟨l, List.mem_of_getElem? hl, by simpa using hx⟩
  have h2 : decide (x ∈ LY[pk LY x]) = true := List.findIdx_getElem (w := h1)
  rw [decide_eq_true_eq] at h2
  have hd := (List.pairwise_flatten.mp P.nodup).2
  rcases Nat.lt_trichotomy (pk LY x) k with c | c | c
  · exact absurd rfl (List.pairwise_iff_getElem.mp hd _ _ h1 hk c x h2 x (e ▸ hx))
  · exact c
  · exact absurd rfl (List.pairwise_iff_getElem.mp hd _ _ hk h1 c x (e ▸ hx) x h2)
theorem Part.pk_get (P : Part n LY) {x : Int} (h0 : 0 ≤ x) (h1 : x < n) : ∃ l, LY[pk LY x]? = some l ∧ x ∈ l := by
  obtain ⟨l, hl, hx⟩ := P.mem.mpr ⟨h0, h1⟩
  obtain ⟨k, hk⟩ := List.mem_iff_getElem?.mp hl
  exact ⟨l, by rw [P.pk_eq hk hx]; exact hk, hx⟩
/-- a list of numbers, one for each strand -/
def vec (n : Nat) (f : Int → Int) : List Int := (upFrom 0 n).map f
theorem vec_len {f : Int → Int} : (vec n f).length = n := by unfold vec; rw [List.length_map, upFrom_len]
theorem vec_at {f : Int → Int} {x : Int} (h0 : 0 ≤ x) (h1 : x < n) : (vec n f)[x.toNat]? = some (f x) := by
  unfold vec
  rw [List.getElem?_map, upFrom_get, if_pos (by omega), show (0 : Int) + (x.toNat : Int) = x by omega]; rfl
theorem vec_get {f : Int → Int} {x : Int} (h0 : 0 ≤ x) (h1 : x < n) : getM (vec n f) x = .ok (f x) := getM_at h0 (vec_at h0 h1)
theorem vec_ext {f g : Int → Int} (h : ∀ x : Int, 0 ≤ x → x < n → f x = g x) : vec n f = vec n g := List.map_congr_left fun x hx => by
  have := upFrom_mem.mp hx
  exact h x (by omega) (by omega)
theorem vec_set {f g : Int → Int} {x v : Int} (h0 : 0 ≤ x) (h1 : x < n) (hv : g x = v) (hg : ∀ y, y ≠ x → g y = f y) : setM (vec n f) x v = .ok (vec n g) := by
  refine oke (okmono (ok_set h0 (by rw [vec_len]; exact h1)) fun s e => ?_)
  rw [e]
  refine List.ext_getElem? fun i => ?_
  rw [List.getElem?_set, vec_len]
  by_cases c : i < n
  · have e1 := vec_at (n := n) (f := g) (x := (i : Int)) (by omega) (by omega)
    rw [Int.toNat_natCast] at e1
    rw [e1]
    by_cases d : x.toNat = i
    · rw [if_pos d, if_pos (by omega), ← hv, show x = (i : Int) by omega]
    · rw [if_neg d]
      have e2 := vec_at (n := n) (f := f) (x := (i : Int)) (by omega) (by omega)
      rw [Int.toNat_natCast] at e2
      rw [e2, hg i (by omega)]
  · have e1 : (vec n g)[i]? = none := List.getElem?_eq_none (by rw [vec_len]; omega)
    have e2 : (vec n f)[i]? = none := List.getElem?_eq_none (by rw [vec_len]; omega)
    rw [e1, e2]
    by_cases d : x.toNat = i
    · omega
    · rw [if_neg d]
theorem vec_const {v : Int} : vec n (fun _ => v) = List.replicate n v := by
  unfold vec
  rw [List.eq_replicate_iff]
  exact ⟨by rw [List.length_map, upFrom_len], fun b hb => by obtain ⟨_, _, rfl⟩ := List.mem_map.mp hb; rfl⟩
/-- the numbers of the layers, as they are written in -/
def plc (LY : List (List Int)) (seen : List Int) (x : Int) : Int := if x ∈ seen then (pk LY x : Int) else 0
theorem plc_set {seen : List Int} {x : Int} {k : Nat} (h0 : 0 ≤ x) (h1 : x < n) (hk : pk LY x = k) : setM (vec n (plc LY seen)) x (k : Int) = .ok (vec n (plc LY (seen ++ [x]))) := by
  refine vec_set h0 h1 ?_ fun y hy => ?_
  · unfold plc; rw [if_pos (by simp), hk]
  · unfold plc
    by_cases c : y ∈ seen
    · rw [if_pos c, if_pos (List.mem_append_left _ c)]
    · rw [if_neg c, if_neg fun h => (List.mem_append.mp h).elim c fun h => hy (List.mem_singleton.mp h)]
theorem flat_take {k : Nat} {l : List Int} (hl : LY[k]? = some l) : (LY.take (k + 1)).flatten = (LY.take k).flatten ++ l := by
  rw [List.take_succ, hl, List.flatten_append]; simp
theorem Part.bnd (P : Part n LY) {k : Nat} {l : List Int} {x : Int} (hl : LY[k]? = some l) (hx : x ∈ l) : 0 ≤ x ∧ x < n := P.mem.mp ⟨l, List.mem_of_getElem? hl, hx⟩
theorem plc_row (P : Part n LY) {k : Nat} {l : List Int} (hl : LY[k]? = some l) {f : List Int → Int → M (List Int)} (hf : ∀ s x, f s x = M.bind (setM s x (k : Int)) fun s => M.ok s) : forM f (vec n (plc LY (LY.take k).flatten)) l = .ok (vec n (plc LY (LY.take (k + 1)).flatten)) := by
  rw [flat_take hl]
  refine oke (okmono (ok_for (fun i (s : List Int) => s = vec n (plc LY ((LY.take k).flatten ++ l.take i))) (by simp) fun i x s hx e => ?_) fun s e => by rw [e, List.take_length])
  subst e
  obtain ⟨b0, b1⟩ := P.bnd hl (List.mem_of_getElem? hx)
  rw [hf, plc_set b0 b1 (P.pk_eq hl (List.mem_of_getElem? hx))]
  refine okv ?_
  rw [List.append_assoc, List.take_succ, hx]; rfl
theorem plc_all (P : Part n LY) : vec n (plc LY LY.flatten) = vec n fun x => (pk LY x : Int) := vec_ext fun x h0 h1 => by
  unfold plc
  rw [if_pos]
  exact P.perm.mem_iff.mpr (upFrom_mem.mpr (by omega))
theorem plc_none : vec n (plc LY []) = List.replicate n 0 := by
  rw [← vec_const]
  exact vec_ext fun x _ _ => by unfold plc; rw [if_neg (by simp)]
theorem enumL_len {α : Type} {xs : List α} : (enumL xs).length = xs.length := by unfold enumL; rw [List.length_mapIdx]
theorem enumL_at {α : Type} {xs : List α} {k : Nat} {x : Int × α × Unit} (h : (enumL xs)[k]? = some x) : ∃ l, xs[k]? = some l ∧ x = ((k : Int), l, ()) := by
  unfold enumL at h
  rw [List.getElem?_mapIdx] at h
  obtain ⟨l, hl, e⟩ := Option.map_eq_some_iff.mp h
  exact ⟨l, hl, e.symm⟩
/-- the strands that are counted -/
def cnv (seen : List Int) (x : Int) : Int := (seen.count x : Int)
theorem cnv_set {seen : List Int} {x : Int} (h0 : 0 ≤ x) (h1 : x < n) : setM (vec n (cnv seen)) x (cnv seen x + 1) = .ok (vec n (cnv (seen ++ [x]))) := by
  refine vec_set h0 h1 ?_ fun y hy => ?_
  · unfold cnv; rw [List.count_append, List.count_singleton_self]; push_cast; omega
  · unfold cnv; rw [List.count_append, List.count_singleton, if_neg (by simp; exact fun h => hy h.symm)]; rfl
theorem cnv_all (P : Part n LY) : vec n (cnv LY.flatten) = List.replicate n 1 := by
  rw [← vec_const]
  refine vec_ext fun x h0 h1 => ?_
  unfold cnv
  rw [P.perm.count_eq, List.Nodup.count upFrom_nodup, if_pos (upFrom_mem.mpr (by omega))]; rfl
theorem cnv_none : vec n (cnv []) = List.replicate n 0 := by
  rw [← vec_const]
  exact vec_ext fun x _ _ => rfl
/-- the loop that counts a layer's strands -/
theorem sets_row (P : Part n LY) {k : Nat} {l : List Int} (hl : LY[k]? = some l) {f : (List Int × Int) → Int → M (Fl (List Int × Int) Bool)}
    (hf : ∀ (s : List Int) (x b : Int), 0 ≤ x → x < n → b < x → f (s, b) x = M.bind (M.bind (getM s x) fun y => M.ok (y + 1)) fun y => M.bind (setM s x y) fun s => M.ok (Fl.nx (s, x))) :
    Okm (forF f (vec n (cnv (LY.take k).flatten), -1) l) (FlP (fun s => s.1 = vec n (cnv (LY.take (k + 1)).flatten)) fun _ => False) := by
  rw [flat_take hl]
  refine okmono (ok_forF (fun i (s : List Int × Int) => s.1 = vec n (cnv ((LY.take k).flatten ++ l.take i)) ∧ s.2 = (if i = 0 then -1 else (l[i - 1]?.getD 0))) (fun _ => False) ⟨by simp, rfl⟩ fun i x s hx ⟨e1, e2⟩ => ?_) fun s hs => ?_
  · obtain ⟨s1, s2⟩ := s
    subst e1
    obtain ⟨b0, b1⟩ := P.bnd hl (List.mem_of_getElem? hx)
    have hb : s2 < x := by
      have e3 : s2 = (if i = 0 then -1 else (l[i - 1]?.getD 0)) := e2
      rw [e3]
      by_cases c : i = 0
      · rw [if_pos c]; omega
      · rw [if_neg c]
        obtain ⟨l1, rfl⟩ := List.getElem?_eq_some_iff.mp hx
        rw [List.getElem?_eq_getElem (by omega)]
        exact List.pairwise_iff_getElem.mp (P.up l (List.mem_of_getElem? hl)) (i - 1) i (by omega) l1 (by omega)
    rw [hf _ _ _ b0 b1 hb, vec_get b0 b1, M.bind_ok, M.bind_ok, cnv_set b0 b1, M.bind_ok]
    refine okv ⟨?_, ?_⟩
    · show vec n _ = _
      rw [List.append_assoc, List.take_succ, hx]; rfl
    · show x = _
      rw [if_neg (by omega), show i + 1 - 1 = i by omega, hx]; rfl
  · cases s with
    | nx s => exact (by have := hs.1; rw [List.take_length] at this; exact this)
    | rt r => exact hs
end

/-! ### the layers of a cloth -/
def seg (l : List Int) (a b : Nat) : List Int := (l.drop a).take (b - a)
theorem mem_seg {l : List Int} {a b : Nat} {x : Int} : x ∈ seg l a b ↔ ∃ i, a ≤ i ∧ i < b ∧ l[i]? = some x := by
  unfold seg
  constructor
  · intro h
    obtain ⟨i, hi, e⟩ := of_mem_take h
    rw [List.getElem?_drop] at e
    exact ⟨a + i, by omega, by omega, e⟩
  · rintro ⟨i, h1, h2, e⟩
    exact mem_take_of (i := i - a) (by rw [List.getElem?_drop, show a + (i - a) = i by omega]; exact e) (by omega)
theorem seg_len {l : List Int} {a b : Nat} (h1 : a ≤ b) (h2 : b ≤ l.length) : (seg l a b).length = b - a := by
  unfold seg; rw [List.length_take, List.length_drop]; omega
theorem take_seg {l : List Int} {a b : Nat} (h : a ≤ b) : l.take b = l.take a ++ seg l a b := by
  unfold seg
  rw [← List.take_append_drop a (l.take b), List.take_take, Nat.min_eq_left h, List.drop_take]
def lyOf (rows : List Tx) (w h : Nat) (p q : P2) : List Int := sortI (seg (eL rows w) p.1.toNat q.1.toNat ++ seg (pL rows w h) p.2.1.toNat q.2.1.toNat)
def lyGo (rows : List Tx) (w h : Nat) : P2 → List P2 → List (List Int)
  | _, [] => []
  | p, q :: r => lyOf rows w h p q :: lyGo rows w h q r
/-- the layers -/
def lays (rows : List Tx) (w h : Nat) : List (List Int) := lyGo rows w h (p2 0 0) (tl rows w h (w + 1)).tail
section
variable {rows : List Tx} {w h : Nat}
theorem lyGo_len : ∀ {l : List P2} {p : P2}, (lyGo rows w h p l).length = l.length
  | [], _ => rfl
  | q :: r, _ => by rw [lyGo, List.length_cons, List.length_cons, lyGo_len]
theorem lyGo_at : ∀ {l : List P2} {p : P2} {k : Nat}, (lyGo rows w h p l)[k]? = ((p :: l)[k]?).bind fun a => ((p :: l)[k + 1]?).map fun b => lyOf rows w h a b
  | [], p, k => by rw [lyGo, List.getElem?_cons_succ]; cases k <;> simp
  | q :: r, p, 0 => by simp [lyGo]
  | q :: r, p, k + 1 => by rw [lyGo, List.getElem?_cons_succ, lyGo_at]; simp only [List.getElem?_cons_succ]
theorem tl_cons (hc : Cloth rows w h) : p2 0 0 :: (tl rows w h (w + 1)).tail = tl rows w h (w + 1) := by
  have := tl_first hc
  cases e : tl rows w h (w + 1) with
  | nil => rw [e] at this; cases this
  | cons a r => rw [e] at this; cases this; rfl
theorem lays_len (hc : Cloth rows w h) : (lays rows w h).length + 1 = (tl rows w h (w + 1)).length := by
  unfold lays; rw [lyGo_len, List.length_tail]; have := tl_two hc; omega
theorem lays_at (hc : Cloth rows w h) {k : Nat} : (lays rows w h)[k]? = ((tl rows w h (w + 1))[k]?).bind fun a => ((tl rows w h (w + 1))[k + 1]?).map fun b => lyOf rows w h a b := by
  unfold lays; rw [lyGo_at, tl_cons hc]
structure LaySpec (rows : List Tx) (w h k : Nat) (l : List Int) (s t s' t' : Nat) : Prop where
  at1 : (tl rows w h (w + 1))[k]? = some (p2 s t)
  at2 : (tl rows w h (w + 1))[k + 1]? = some (p2 s' t')
  s1 : s ≤ s'
  t1 : t ≤ t'
  s2 : s' ≤ w
  t2 : t' ≤ h
  T1 : Top rows w h s t
  T2 : Top rows w h s' t'
  ne : ¬ (s' = s ∧ t' = t)
  no : ∀ x y, s ≤ x → x ≤ s' → t ≤ y → y ≤ t' → Top rows w h x y → (x = s ∧ y = t) ∨ (x = s' ∧ y = t')
  eq : l = sortI (seg (eL rows w) s s' ++ seg (pL rows w h) t t')
theorem lay_spec (hc : Cloth rows w h) {k : Nat} {l : List Int} (hl : (lays rows w h)[k]? = some l) : ∃ s t s' t', LaySpec rows w h k l s t s' t' := by
  rw [lays_at hc] at hl
  obtain ⟨p, hp, hl⟩ := Option.bind_eq_some_iff.mp hl
  obtain ⟨q, hq, hl⟩ := Option.map_eq_some_iff.mp hl
  obtain ⟨s, t, s', t', rfl, rfl, a1, a2, a3, a4, a5, a6, a7, a8⟩ := tl_next hc hp hq
  exact ⟨s, t, s', t', hp, hq, a1, a2, a3, a4, a5, a6, a7, a8, hl.symm⟩
variable {k : Nat} {l : List Int} {s t s' t' : Nat}
theorem LaySpec.mem (S : LaySpec rows w h k l s t s' t') {x : Int} : x ∈ l ↔ (∃ i, s ≤ i ∧ i < s' ∧ (eL rows w)[i]? = some x) ∨ (∃ j, t ≤ j ∧ j < t' ∧ (pL rows w h)[j]? = some x) := by
  rw [S.eq, (sortI_perm _).mem_iff, List.mem_append, mem_seg, mem_seg]
theorem LaySpec.len (S : LaySpec rows w h k l s t s' t') : l.length = (s' - s) + (t' - t) := by
  have := S.s1; have := S.t1; have := S.s2; have := S.t2
  rw [S.eq, (sortI_perm _).length_eq, List.length_append, seg_len S.s1 (by rw [eL_len]; exact S.s2), seg_len S.t1 (by rw [pL_len]; exact S.t2)]
theorem eL_nodup : (eL rows w).Nodup := eL_perm.nodup_iff.mpr upFrom_nodup
theorem pL_nodup : (pL rows w h).Nodup := pL_perm.nodup_iff.mpr upFrom_nodup
theorem seg_sub {l : List Int} {a b : Nat} : (seg l a b).Sublist l := (List.take_sublist _ _).trans (List.drop_sublist _ _)
theorem lays_flat (hc : Cloth rows w h) : ∀ k, k ≤ (lays rows w h).length → ∃ s t, (tl rows w h (w + 1))[k]? = some (p2 s t) ∧ (((lays rows w h).take k).flatten).Perm ((eL rows w).take s ++ (pL rows w h).take t)
  | 0, _ => ⟨0, 0, tl_first hc, by simp⟩
  | k + 1, hk => by
    obtain ⟨s, t, h1, h2⟩ := lays_flat hc k (by omega)
    obtain ⟨l, hl⟩ : ∃ l, (lays rows w h)[k]? = some l := ⟨_, List.getElem?_eq_getElem (by omega)⟩
    obtain ⟨a, b, s', t', S⟩ := lay_spec hc hl
    have e : p2 a b = p2 s t := Option.some.inj (S.at1.symm.trans h1)
    unfold p2 at e
    simp only [Prod.mk.injEq] at e
    have ea : a = s := by omega
    have eb : b = t := by omega
    subst ea; subst eb
    refine ⟨s', t', S.at2, ?_⟩
    rw [flat_take hl, take_seg S.s1, take_seg S.t1, S.eq]
    refine (List.Perm.append h2 (sortI_perm _)).trans ?_
    rw [List.append_assoc, List.append_assoc]
    refine List.Perm.append_left _ ?_
    rw [← List.append_assoc, ← List.append_assoc]
    exact List.Perm.append_right _ List.perm_append_comm
theorem lays_part (hc : Cloth rows w h) : Part (w + h) (lays rows w h) := by
  refine ⟨?_, fun l hl => ?_, fun l hl => ?_⟩
  · obtain ⟨s, t, h1, h2⟩ := lays_flat hc _ (Nat.le_refl _)
    rw [List.take_length] at h2
    have hlast := tl_last hc
    rw [List.getLast?_eq_getElem?, ← lays_len hc, Nat.add_sub_cancel, h1] at hlast
    have e := Option.some.inj hlast
    unfold p2 at e
    simp only [Prod.mk.injEq] at e
    have es : s = w := by omega
    have et : t = h := by omega
    rw [es, et, List.take_of_length_le (by rw [eL_len]; exact Nat.le_refl _), List.take_of_length_le (by rw [pL_len]; exact Nat.le_refl _)] at h2
    refine h2.trans ((List.Perm.append eL_perm pL_perm).trans ?_)
    rw [show upFrom 0 (w + h) = upFrom 0 w ++ upFrom w h from ?_]
    refine List.ext_getElem? fun i => ?_
    rw [upFrom_get]
    by_cases c : i < w
    · rw [List.getElem?_append_left (by rw [upFrom_len]; exact c), upFrom_get, if_pos c, if_pos (by omega)]
    · rw [List.getElem?_append_right (by rw [upFrom_len]; omega), upFrom_get, upFrom_len]
      by_cases d : i < w + h
      · rw [if_pos d, if_pos (by omega)]; congr 1; omega
      · rw [if_neg d, if_neg (by omega)]
  · obtain ⟨k, hk⟩ := List.mem_iff_getElem?.mp hl
    obtain ⟨s, t, s', t', S⟩ := lay_spec hc hk
    have a1 := S.len
    have a2 := S.ne
    have a3 := S.s1
    have a4 := S.t1
    intro e
    rw [e, List.length_nil] at a1
    omega
  · obtain ⟨k, hk⟩ := List.mem_iff_getElem?.mp hl
    obtain ⟨s, t, s', t', S⟩ := lay_spec hc hk
    rw [S.eq]
    refine sortI_strict (List.nodup_append.mpr ⟨eL_nodup.sublist seg_sub, pL_nodup.sublist seg_sub, fun a ha b hb => ?_⟩)
    have h1 := eL_mem.mp (seg_sub.subset ha)
    have h2 := pL_mem.mp (seg_sub.subset hb)
    omega
theorem tl_mono (hc : Cloth rows w h) {i j : Nat} {s t s' t' : Nat} (hij : i ≤ j) (h1 : (tl rows w h (w + 1))[i]? = some (p2 s t)) (h2 : (tl rows w h (w + 1))[j]? = some (p2 s' t')) : s ≤ s' ∧ t ≤ t' := by
  have tp : ∀ {i s t : Nat}, (tl rows w h (w + 1))[i]? = some (p2 s t) → s ≤ w ∧ t ≤ h ∧ Top rows w h s t := fun {i s t} hi => by
    obtain ⟨a, b, h1, h2, e, hT⟩ := (mem_tl hc).mp (List.mem_of_getElem? hi)
    unfold p2 at e
    simp only [Prod.mk.injEq] at e
    rw [show s = a by omega, show t = b by omega]
    exact ⟨h1, h2, hT⟩
  by_cases c : i = j
  · subst c
    have e := Option.some.inj (h1.symm.trans h2)
    unfold p2 at e
    simp only [Prod.mk.injEq] at e
    omega
  · have lx := tl_lt (show i < j by omega) h1 h2
    unfold Lex p2 at lx
    simp only at lx
    obtain ⟨a1, a2, a3⟩ := tp h1
    obtain ⟨b1, b2, b3⟩ := tp h2
    by_cases d : s < s'
    · exact ⟨by omega, top_chain hc a3 b3 d b1 a2⟩
    · omega
/-- a strand of a higher layer lies over those of lower ones that it meets -/
theorem lay_over (hc : Cloth rows w h) {k' : Nat} {l' : List Int} (hk : (lays rows w h)[k]? = some l) (hk' : (lays rows w h)[k']? = some l') (hlt : k < k') {x y : Int} (hx : x ∈ l) (hy : y ∈ l') (hxy : (x < w) ≠ (y < w)) : ovB rows w x y = true := by
  obtain ⟨s, t, s1, t1, S⟩ := lay_spec hc hk
  obtain ⟨s2, t2, s3, t3, S'⟩ := lay_spec hc hk'
  obtain ⟨m1, m2⟩ := tl_mono hc (show k + 1 ≤ k' by omega) S.at2 S'.at1
  rcases S.mem.mp hx with ⟨i, i0, i1, ei⟩ | ⟨i, i0, i1, ei⟩ <;> rcases S'.mem.mp hy with ⟨j, j0, j1, ej⟩ | ⟨j, j0, j1, ej⟩
  · have h1 := eL_mem.mp (List.mem_of_getElem? ei)
    have h2 := eL_mem.mp (List.mem_of_getElem? ej)
    exact absurd (propext ⟨fun _ => h2.2, fun _ => h1.2⟩) hxy
  · exact S.T2.1 x (mem_take_of ei i1) y (mem_drop_of ej (by omega))
  · exact S.T2.2 x (mem_take_of ei i1) y (mem_drop_of ej (by omega))
  · have h1 := pL_mem.mp (List.mem_of_getElem? ei)
    have h2 := pL_mem.mp (List.mem_of_getElem? ej)
    exact absurd (propext ⟨fun _ => by omega, fun _ => by omega⟩) hxy
/-- the ends of a layer -/
theorem lay_ends (S : LaySpec rows w h k l s t s' t') : (l.filter fun x => decide (x < (w : Int))).length = s' - s := by
  rw [S.eq, ((sortI_perm _).filter _).length_eq, List.filter_append, List.length_append]
  rw [List.filter_eq_self.mpr fun x hx => by have := eL_mem.mp (seg_sub.subset hx); rw [decide_eq_true_eq]; omega]
  rw [List.filter_eq_nil_iff.mpr fun x hx => by have := pL_mem.mp (seg_sub.subset hx); rw [decide_eq_true_eq]; omega]
  rw [seg_len S.s1 (by rw [eL_len]; exact S.s2)]
  rfl
/-- two single strands of one kind, one under the other -/
theorem lay_single (hc : Cloth rows w h) {x y : Int} (hk : (lays rows w h)[k]? = some [x]) (hk' : (lays rows w h)[k + 1]? = some [y]) (hxy : (x < w) ↔ (y < w)) : x ≤ y := by
  obtain ⟨s, t, s1, t1, S⟩ := lay_spec hc hk
  obtain ⟨s2, t2, s3, t3, S'⟩ := lay_spec hc hk'
  have e := Option.some.inj (S.at2.symm.trans S'.at1)
  unfold p2 at e
  simp only [Prod.mk.injEq] at e
  have ea : s2 = s1 := by omega
  have eb : t2 = t1 := by omega
  subst ea; subst eb
  have l1 := S.len
  have l2 := S'.len
  rw [List.length_singleton] at l1 l2
  have q1 := S.s1; have q2 := S.t1; have q3 := S'.s1; have q4 := S'.t1
  rcases S.mem.mp (List.mem_singleton_self x) with ⟨i, i0, i1, ei⟩ | ⟨i, i0, i1, ei⟩ <;> rcases S'.mem.mp (List.mem_singleton_self y) with ⟨j, j0, j1, ej⟩ | ⟨j, j0, j1, ej⟩
  · have hi := List.getElem?_eq_some_iff.mp ei
    have hj := List.getElem?_eq_some_iff.mp ej
    have f := List.pairwise_iff_getElem.mp (eL_fall hc) i j hi.1 hj.1 (by omega)
    rw [hi.2, hj.2] at f
    refine f.2 ?_
    have cnt : ∀ {i : Nat} {a : Int} {s t s' t' : Nat}, (eL rows w)[i]? = some a → s ≤ i → i < s' → t = t' → Top rows w h s t → Top rows w h s' t' → scN rows w h a = h - t := fun {i a s t s' t'} ea b0 b1 ht T T' => by
      subst ht
      rw [scN_end (h := h) (List.mem_of_getElem? ea)]
      conv => lhs; rw [← List.take_append_drop t (pL rows w h)]
      rw [List.countP_append]
      have z1 : ((pL rows w h).take t).countP (ovB rows w a) = 0 := List.countP_eq_zero.mpr fun b hb => by
        have := T.2 b hb a (mem_drop_of ea b0)
        rw [cross hc a (List.mem_of_getElem? ea) b (List.mem_of_mem_take hb)] at this
        intro h'
        rw [h'] at this; cases this
      have z2 : ((pL rows w h).drop t).countP (ovB rows w a) = h - t := by
        rw [List.countP_eq_length.mpr fun b hb => T'.1 a (mem_take_of ea b1) b hb, List.length_drop, pL_len]
      rw [z1, z2]; omega
    have tt : t = t2 := by omega
    have tt' : t2 = t3 := by omega
    rw [cnt ei i0 i1 tt S.T1 S.T2, cnt ej j0 j1 tt' S'.T1 S'.T2, tt]
  · have h1 := eL_mem.mp (List.mem_of_getElem? ei)
    have h2 := pL_mem.mp (List.mem_of_getElem? ej)
    omega
  · have h1 := pL_mem.mp (List.mem_of_getElem? ei)
    have h2 := eL_mem.mp (List.mem_of_getElem? ej)
    omega
  · have hi := List.getElem?_eq_some_iff.mp ei
    have hj := List.getElem?_eq_some_iff.mp ej
    have f := List.pairwise_iff_getElem.mp (pL_fall hc) i j hi.1 hj.1 (by omega)
    rw [hi.2, hj.2] at f
    refine f.2 ?_
    have cnt : ∀ {i : Nat} {b : Int} {s t s' t' : Nat}, (pL rows w h)[i]? = some b → t ≤ i → i < t' → s = s' → Top rows w h s t → Top rows w h s' t' → scN rows w h b = w - s := fun {i b s t s' t'} eb b0 b1 hs T T' => by
      subst hs
      rw [scN_pick (List.mem_of_getElem? eb)]
      conv => lhs; rw [← List.take_append_drop s (eL rows w)]
      rw [List.countP_append]
      have z1 : ((eL rows w).take s).countP (ovB rows w b) = 0 := List.countP_eq_zero.mpr fun a ha => by
        have := T.1 a ha b (mem_drop_of eb b0)
        rw [cross hc a (List.mem_of_mem_take ha) b (List.mem_of_getElem? eb), this]; simp
      have z2 : ((eL rows w).drop s).countP (ovB rows w b) = w - s := by
        rw [List.countP_eq_length.mpr fun a ha => T'.2 b (mem_take_of eb b1) a ha, List.length_drop, eL_len]
      rw [z1, z2]; omega
    have ss : s = s2 := by omega
    have ss' : s2 = s3 := by omega
    rw [cnt ei i0 i1 ss S.T1 S.T2, cnt ej j0 j1 ss' S'.T1 S'.T2, ss]
theorem layers_ok (hc : Cloth rows w h) : f_layers_of rows = .ok (lays rows w h) := by
  have hw2 := hc.w2
  have hh2 := hc.h2
  have hcl := cntL_len hc
  unfold f_layers_of
  rw [measured_ok hc, M.bind_ok, show f_scores_of rows = .ok (cntL rows w) from scores_ok hc, M.bind_ok]
  have s1 : sortKeyM (cntL rows w) 0 (w : Int) = .ok (eL rows w) := if_pos ⟨by omega, by omega, by omega, by omega, by omega⟩
  have s2 : sortKeyM (cntL rows w) (w : Int) ((w : Int) + (h : Int)) = .ok (pL rows w h) := if_pos ⟨by omega, by omega, by omega, by omega, by omega⟩
  show (M.bind (sortKeyM (cntL rows w) 0 (w : Int)) fun e => M.bind (sortKeyM (cntL rows w) (w : Int) ((w : Int) + (h : Int))) _) = _
  rw [s1, M.bind_ok, s2, M.bind_ok]
  show M.bind (M.bind (f_tops_of rows) _) _ = _
  rw [tops_ok hc, M.bind_ok, M.bind_ok]
  have hcut : cutL (tl rows w h (w + 1)) (some 1) none = (tl rows w h (w + 1)).tail := by
    rw [cut_from (by omega) (by have := tl_two hc; omega)]
    exact List.drop_one
  rw [hcut]
  have hall : ∀ x ∈ (tl rows w h (w + 1)).tail, ∃ s t, s ≤ w ∧ t ≤ h ∧ x = p2 s t := fun x hx => by
    obtain ⟨s, t, h1, h2, e, _⟩ := (mem_tl hc).mp (List.mem_of_mem_tail hx)
    exact ⟨s, t, h1, h2, e⟩
  have hmono : (p2 0 0 :: (tl rows w h (w + 1)).tail).Pairwise (fun p q => p.1.toNat ≤ q.1.toNat ∧ p.2.1.toNat ≤ q.2.1.toNat) := by
    rw [tl_cons hc]
    refine List.pairwise_iff_getElem.mpr fun i j hi hj hij => ?_
    have e1 := List.getElem?_eq_getElem hi
    have e2 := List.getElem?_eq_getElem hj
    obtain ⟨s, t, _, _, f1, _⟩ := (mem_tl hc).mp (List.mem_of_getElem? e1)
    obtain ⟨s', t', _, _, f2, _⟩ := (mem_tl hc).mp (List.mem_of_getElem? e2)
    rw [f1] at e1 ⊢
    rw [f2] at e2 ⊢
    obtain ⟨m1, m2⟩ := tl_mono hc (Nat.le_of_lt hij) e1 e2
    unfold p2
    exact ⟨by simp only; omega, by simp only; omega⟩
  have hlen : (tl rows w h (w + 1)).tail.length < 10000 := by
    rw [List.length_tail]
    have h3 := tl_len (rows := rows) (w := w) (h := h) (m := w + 1)
    have h4 : (w + 1) * (h + 1) ≤ 41 * 41 := Nat.mul_le_mul (by omega) (by omega)
    omega
  have key : ∀ (L : List P2) (p : P2) (acc : List (List Int)), (∃ s t, s ≤ w ∧ t ≤ h ∧ p = p2 s t) → (∀ x ∈ L, ∃ s t, s ≤ w ∧ t ≤ h ∧ x = p2 s t) → (p :: L).Pairwise (fun p q => p.1.toNat ≤ q.1.toNat ∧ p.2.1.toNat ≤ q.2.1.toNat) → acc.length + L.length < 10000 →
      Okm (forM (f_layers_of_l1 (eL rows w) (pL rows w h)) (acc, p) L) (fun r => r.1 = acc ++ lyGo rows w h p L) := by
    intro L
    induction L with
    | nil => intro p acc _ _ _ _; exact okv (by simp [lyGo])
    | cons q r ih =>
      intro p acc hp hx hm hlen
      have hq := hx q List.mem_cons_self
      obtain ⟨s, t, a1, a2, rfl⟩ := hp
      obtain ⟨s', t', b1, b2, rfl⟩ := hq
      obtain ⟨m1, m2⟩ := List.pairwise_cons.mp hm
      have mm := m1 _ List.mem_cons_self
      have e1 : s ≤ s' := by have := mm.1; unfold p2 at this; simp only at this; omega
      have e2 : t ≤ t' := by have := mm.2; unfold p2 at this; simp only at this; omega
      show Okm (M.bind (f_layers_of_l1 (eL rows w) (pL rows w h) (acc, p2 s t) (p2 s' t')) fun s => forM (f_layers_of_l1 (eL rows w) (pL rows w h)) s r) _
      unfold f_layers_of_l1
      have c1 : cutL (eL rows w) (some (p2 s t).1) (some (p2 s' t').1) = seg (eL rows w) s s' := by
        unfold seg
        rw [show (p2 s t).1 = (s : Int) from rfl, show (p2 s' t').1 = (s' : Int) from rfl, cut_mid (by omega) (by omega) (by rw [eL_len]; omega), Int.toNat_natCast, Int.toNat_natCast]
      have c2 : cutL (pL rows w h) (some (p2 s t).2.1) (some (p2 s' t').2.1) = seg (pL rows w h) t t' := by
        unfold seg
        rw [show (p2 s t).2.1 = (t : Int) from rfl, show (p2 s' t').2.1 = (t' : Int) from rfl, cut_mid (by omega) (by omega) (by rw [pL_len]; omega), Int.toNat_natCast, Int.toNat_natCast]
      refine okb (P := fun (z : List (List Int) × P2) => z = (acc ++ [lyOf rows w h (p2 s t) (p2 s' t')], p2 s' t')) ?_ fun s e => ?_
      · show Okm (M.bind (catL (cutL (eL rows w) (some (p2 s t).1) (some (p2 s' t').1)) (cutL (pL rows w h) (some (p2 s t).2.1) (some (p2 s' t').2.1))) _) _
        rw [c1, c2]
        refine okb (ok_catL (by rw [seg_len e1 (by rw [eL_len]; omega), seg_len e2 (by rw [pL_len]; omega)]; omega)) fun ly e => ?_
        subst e
        refine okb (ok_push (by show acc.length < _; simp only [List.length_cons] at hlen; omega)) fun s e => okv ?_
        rw [e]
        unfold lyOf
        rfl
      · subst e
        refine okmono (ih _ _ ⟨s', t', b1, b2, rfl⟩ (fun x hx' => hx x (List.mem_cons_of_mem _ hx')) m2 (by simp only [List.length_append, List.length_cons, List.length_nil] at hlen ⊢; omega)) fun r e => ?_
        rw [e, List.append_assoc]; rfl
  refine oke (okb (key _ (p2 0 0) [] ⟨0, 0, Nat.zero_le _, Nat.zero_le _, rfl⟩ hall hmono (by simpa using hlen)) fun s e => okv ?_)
  rw [e]; rfl
end

section
variable {rows : List Tx} {w h : Nat}
theorem numbers_of (hc : Cloth rows w h) : f_layer_numbers rows = .ok (vec (w + h) fun x => (pk (lays rows w h) x : Int)) := by
  have P := lays_part hc
  have hl := P.len
  have w2 := hc.w2
  have h2 := hc.h2
  refine oke ?_
  unfold f_layer_numbers
  rw [measured_ok hc, M.bind_ok]
  show Okm (M.bind (repM [0] ((w : Int) + (h : Int))) _) _
  refine okb (ok_rep1 (by omega) (by omega)) fun s0 e => ?_
  subst e
  rw [layers_ok hc, M.bind_ok, M.bind_ok, show ((w : Int) + (h : Int)).toNat = w + h by omega, ← plc_none (n := w + h) (LY := lays rows w h)]
  refine okb (ok_for (fun k (s : List Int) => s = vec (w + h) (plc (lays rows w h) ((lays rows w h).take k).flatten)) rfl fun k x s hx e => ?_) fun s e => okv ?_
  · subst e
    obtain ⟨l, hl, rfl⟩ := enumL_at hx
    unfold f_layer_numbers_l2
    show Okm (M.bind (forM (f_layer_numbers_l1 ((k : Int), l, ())) _ l) _) _
    rw [plc_row P hl (f := f_layer_numbers_l1 ((k : Int), l, ())) fun s x => rfl]
    exact okv rfl
  · rw [e, enumL_len, List.take_length, plc_all P]
end

/-- what is no cloth -/
theorem no_len {rows : List Tx} {a b : Tx} (ha : a ∈ rows) (hb : b ∈ rows) (h : a.length ≠ b.length) (w h' : Nat) : ¬ Cloth rows w h' := fun c => h ((c.ww a ha).trans (c.ww b hb).symm)
theorem no_bad {rows : List Tx} {a : Tx} (ha : a ∈ rows) (h : a.length = 0 ∨ 40 < a.length ∨ ∃ c ∈ a, c ≠ 35 ∧ c ≠ 46) (w h' : Nat) : ¬ Cloth rows w h' := fun c => by
  have h1 := c.ww a ha
  have h2 := c.w1
  have h3 := c.w2
  rcases h with h | h | ⟨d, hd, h4, h5⟩
  · omega
  · omega
  · rcases c.sg a ha d hd with e | e
    · exact h4 e
    · exact h5 e
theorem no_high {rows : List Tx} (h : rows.length = 0 ∨ 40 < rows.length) (w h' : Nat) : ¬ Cloth rows w h' := fun c => by
  have h1 := c.hh
  have h2 := c.h1
  have h3 := c.h2
  omega
/-- a row put in place of another -/
theorem put_eq {rows : List Tx} {at_ : Int} {x : Tx} (h0 : 0 ≤ at_) (h1 : at_ < rows.length) (hl : rows.length ≤ 1000) : Okm (M.bind (catL (cutL rows none (some at_)) [x]) fun y => catL y (cutL rows (some (at_ + 1)) none)) (· = rows.take at_.toNat ++ [x] ++ rows.drop (at_ + 1).toNat) := by
  rw [cut_to h0 (by omega), cut_from (by omega) (by omega)]
  refine okb (ok_catL (by simp; omega)) fun y e => ?_
  subst e
  exact ok_catL (by simp; omega)
theorem put_mem {rows : List Tx} {at_ : Int} {x : Tx} : x ∈ rows.take at_.toNat ++ [x] ++ rows.drop (at_ + 1).toNat := by simp
theorem put_cloth {rows : List Tx} {w h : Nat} (hc : Cloth rows w h) {at_ : Int} {x : Tx} (h0 : 0 ≤ at_) (h1 : at_ < h) (hx : x.length = w) (hs : ∀ c ∈ x, c = 35 ∨ c = 46) : Cloth (rows.take at_.toNat ++ [x] ++ rows.drop (at_ + 1).toNat) w h := by
  have hh := hc.hh
  have key : ∀ q ∈ rows.take at_.toNat ++ [x] ++ rows.drop (at_ + 1).toNat, q.length = w ∧ ∀ d ∈ q, d = 35 ∨ d = 46 := fun q hq => by
    rcases List.mem_append.mp hq with hq | hq
    · rcases List.mem_append.mp hq with hq | hq
      · exact ⟨hc.ww q (List.mem_of_mem_take hq), hc.sg q (List.mem_of_mem_take hq)⟩
      · rw [List.mem_singleton.mp hq]; exact ⟨hx, hs⟩
    · exact ⟨hc.ww q (List.mem_of_mem_drop hq), hc.sg q (List.mem_of_mem_drop hq)⟩
  exact ⟨by simp; omega, fun q hq => (key q hq).1, fun q hq => (key q hq).2, hc.w1, hc.w2, hc.h1, hc.h2⟩

theorem singles_flat : ∀ l : List Tx, (∀ x ∈ l, x.length = 1) → (l.map List.length).sum = l.length ∧ l.flatten.length = l.length ∧ ∀ (k : Nat) (c : Nat), l[k]? = some [c] → l.flatten[k]? = some c := by
  intro l
  induction l with
  | nil => intro _; exact ⟨rfl, rfl, fun k c h => by simp at h⟩
  | cons x r ih =>
    intro hx
    obtain ⟨d, rfl⟩ := List.length_eq_one_iff.mp (hx x List.mem_cons_self)
    obtain ⟨i1, i2, i3⟩ := ih fun y hy => hx y (List.mem_cons_of_mem _ hy)
    refine ⟨by rw [List.map_cons, List.sum_cons, i1]; simp; omega, by rw [List.flatten_cons, List.length_append, i2]; simp; omega, fun k c hk => ?_⟩
    cases k with
    | zero => simpa using hk
    | succ k => exact i3 k c (by simpa using hk)
theorem join_singles {s : List Tx} (h : ∀ x ∈ s, x.length = 1) (hl : s.length ≤ 1000) : Okm (joinM [] s) (fun t => t.length = s.length ∧ ∀ (k : Nat) (c : Nat), s[k]? = some [c] → t[k]? = some c) := by
  obtain ⟨q1, q2, q3⟩ := singles_flat s h
  exact okmono (ok_join (by omega)) fun t e => by rw [e]; exact ⟨q2, q3⟩
theorem zipL_get {α β : Type} {xs : List α} {ys : List β} {j : Nat} {t : α × β × Unit} (h : (zipL xs ys)[j]? = some t) : xs[j]? = some t.1 ∧ ys[j]? = some t.2.1 := by
  unfold zipL at h
  rw [List.getElem?_map] at h
  cases hz : (xs.zip ys)[j]? with
  | none => rw [hz] at h; cases h
  | some d =>
    rw [hz] at h
    cases h
    exact List.getElem?_zip_eq_some.mp hz
theorem enumL_get {α : Type} {xs : List α} {j : Nat} {t : Int × α × Unit} (h : (enumL xs)[j]? = some t) : t.1 = (j : Int) ∧ xs[j]? = some t.2.1 := by
  unfold enumL at h
  rw [List.getElem?_mapIdx] at h
  cases hz : xs[j]? with
  | none => rw [hz] at h; cases h
  | some d =>
    rw [hz] at h
    cases h
    exact ⟨rfl, rfl⟩

theorem numbers_ok {script : List Int} {many : Int} (hl : script.length ≤ 63) (h1 : 63 ≤ many) (h2 : many ≤ 1000) : Okm (f_law_numbers script many) (fun ns => ns.length = many.toNat ∧ ∀ x ∈ ns, 0 ≤ x ∧ x < 1000000) := by
  unfold f_law_numbers
  show Okm (M.bind (if (decide ((0 : Int) < (script.length : Int))) = true then M.bind (M.bind (M.bind (getM script (0 : Int)) fun y12 => M.ok (y12 % (2147483646 : Int))) fun y14 => M.ok ((1 : Int) + y14)) fun step9 => M.ok step9 else M.ok 1) _) _
  refine okb (P := fun _ => True) (okif (fun c => ?_) fun _ => okv trivial) fun st _ => ?_
  · rw [decide_eq_true_eq] at c
    exact okb (P := fun _ => True) (okb (P := fun _ => True) (okb (ok_get (by omega) (by omega)) fun _ _ => okv trivial) fun _ _ => okv trivial) fun _ _ => okv trivial
  refine okb ok_range fun xs e => ?_
  subst e
  refine okb (ok_forR (fun i (s : List Int × Int) => s.1.length = i ∧ ∀ x ∈ s.1, 0 ≤ x ∧ x < 1000000) ⟨rfl, fun x hx => nomatch hx⟩ fun i s hi ⟨a1, a2⟩ => ?_) fun s ⟨a1, a2⟩ => ?_
  · unfold f_law_numbers_l1
    refine okb (ok_push (by omega)) fun s' e => okv ?_
    subst e
    refine ⟨by simp [a1], fun x hx => (List.mem_append.mp hx).elim (a2 x) fun h => ?_⟩
    rw [List.mem_singleton.mp h]
    omega
  refine okb ok_range fun xs e => ?_
  subst e
  refine okb (ok_forR (fun i (s : List Int) => s.length = many.toNat ∧ ∀ x ∈ s, 0 ≤ x ∧ x < 1000000) ⟨by rw [a1]; omega, a2⟩ fun i s hi ⟨b1, b2⟩ => ?_) fun s hs => okv hs
  unfold f_law_numbers_l2
  have m0 := Int.emod_nonneg (0 + (i : Int)) (show many ≠ 0 by omega)
  have m1 := Int.emod_lt_of_pos (0 + (i : Int)) (show 0 < many by omega)
  rw [oke (ok_mod (by omega : 0 < many)), M.bind_ok]
  refine okb (P := fun v => 0 ≤ v ∧ v < (1000000 : Int)) ?_ fun v hv => ?_
  · refine okb (P := fun _ => True) (okb (ok_get m0 (by omega)) fun a _ => okb (ok_get (by omega) (by omega)) fun b _ => okv trivial) fun a _ => okv ⟨by omega, by omega⟩
  rw [M.bind_ok]
  refine okb (ok_set m0 (by omega)) fun s' e => okv ?_
  subst e
  refine ⟨by rw [List.length_set]; exact b1, fun x hx => ?_⟩
  rcases List.mem_or_eq_of_mem_set hx with hx | hx
  · exact b2 x hx
  · subst hx; exact hv

theorem dget_map {α : Type} (k k' : Key) (d : α) : ∀ ds : List (Key × α), dgetL (ds.map fun kv => if kv.1 = k then (kv.1, d) else kv) k' = (dgetL ds k').map fun x => if k' = k then d else x
  | [] => rfl
  | (q, x) :: ds => by
    have ih := dget_map k k' d ds
    unfold dgetL at ih ⊢
    rw [List.map_cons]
    by_cases a : q = k'
    · subst a
      by_cases b : q = k
      · subst b; simp [List.find?_cons]
      · simp [List.find?_cons, b]
    · by_cases b : q = k
      · subst b; simpa [List.find?_cons, a] using ih
      · simpa [List.find?_cons, a, b] using ih
theorem dget_snoc {α : Type} (k k' : Key) (d : α) : ∀ ds : List (Key × α), dgetL (ds ++ [(k, d)]) k' = match dgetL ds k' with | some x => some x | none => if k' = k then some d else none
  | [] => by
    unfold dgetL
    by_cases a : k = k'
    · subst a; simp [List.find?_cons]
    · have : ¬ k' = k := fun e => a e.symm
      simp [List.find?_cons, a, this]
  | (q, x) :: ds => by
    have ih := dget_snoc k k' d ds
    unfold dgetL at ih ⊢
    by_cases a : q = k'
    · subst a; simp [List.find?_cons]
    · simpa [List.find?_cons, a] using ih
theorem dget_any {α : Type} (k : Key) : ∀ ds : List (Key × α), (ds.any fun kv => decide (kv.1 = k)) = (dgetL ds k).isSome
  | [] => rfl
  | (q, x) :: ds => by
    have ih := dget_any k ds
    unfold dgetL at ih ⊢
    by_cases a : q = k
    · subst a; simp [List.find?_cons]
    · simpa [List.find?_cons, a] using ih
theorem dget_put {α : Type} (ds : List (Key × α)) (k k' : Key) (d : α) : dgetL (dputL ds k d) k' = if k' = k then some d else dgetL ds k' := by
  unfold dputL
  split
  · rename_i h
    rw [dget_map]
    by_cases a : k' = k
    · subst a
      rw [dget_any] at h
      obtain ⟨x, hx⟩ := Option.isSome_iff_exists.mp h
      rw [hx]; simp
    · simp [a]
  · rename_i h
    rw [dget_snoc]
    by_cases a : k' = k
    · subst a
      rw [dget_any] at h
      cases hx : dgetL ds k' with
      | none => rfl
      | some x => rw [hx] at h; exact absurd rfl h
    · simp only [a, if_false]
      cases dgetL ds k' <;> rfl
theorem dput_len {α : Type} (ds : List (Key × α)) (k : Key) (d : α) : (dputL ds k d).length ≤ ds.length + 1 := by
  unfold dputL
  split <;> simp
theorem take_count {l : List Int} {i : Nat} {x n : Int} (h : l[i]? = some x) : (l.take (i + 1)).count n = (l.take i).count n + if x = n then 1 else 0 := by
  rw [List.take_add_one, h, List.count_append]
  by_cases e : x = n
  · subst e; simp
  · simp [e]
/-- where a number stands -/
def posL (l : List Int) (n : Int) (i : Nat) : List Nat := (List.range i).filter fun k => decide (l[k]? = some n)
theorem pos_ok {l : List Int} {n : Int} : ∀ {i : Nat}, i ≤ l.length → (posL l n i).length = (l.take i).count n ∧ ∀ a k, (posL l n i)[a]? = some k → k < i ∧ l[k]? = some n ∧ (l.take k).count n = a
  | 0, _ => ⟨by simp [posL], fun a k h => by simp [posL] at h⟩
  | i + 1, hi => by
    obtain ⟨h1, h2⟩ := pos_ok (l := l) (n := n) (i := i) (by omega)
    have hx : l[i]? = some (l[i]'(by omega)) := by simp
    generalize (l[i]'(by omega)) = x at hx
    have e : posL l n (i + 1) = posL l n i ++ if x = n then [i] else [] := by
      unfold posL
      rw [List.range_succ, List.filter_append]
      congr 1
      by_cases e : x = n
      · simp [hx, e]
      · simp [hx, e]
    rw [e, take_count hx, ← h1]
    by_cases c : x = n
    · subst c
      refine ⟨by simp, fun a k hk => ?_⟩
      rw [if_pos rfl] at hk
      by_cases ha : a < (posL l x i).length
      · rw [List.getElem?_append_left ha] at hk
        obtain ⟨q1, q2, q3⟩ := h2 a k hk
        exact ⟨by omega, q2, q3⟩
      · have hk2 := (List.getElem?_eq_some_iff.mp hk).1
        simp at hk2
        have : a = (posL l x i).length := by omega
        subst this
        rw [List.getElem?_append_right (Nat.le_refl _), Nat.sub_self] at hk
        have hk : i = k := by simpa using hk
        subst hk
        exact ⟨by omega, hx, h1.symm⟩
    · refine ⟨by simp [c], fun a k hk => ?_⟩
      rw [if_neg c, List.append_nil] at hk
      obtain ⟨q1, q2, q3⟩ := h2 a k hk
      exact ⟨by omega, q2, q3⟩
theorem pos_comp {l : List Int} {n : Int} : ∀ i : Nat, (upFrom 0 i).filterMap (fun k : Int => if l[k.toNat]? = some n then some k else none) = (posL l n i).map fun k : Nat => (k : Int)
  | 0 => rfl
  | i + 1 => by
    rw [upFrom_succ', List.filterMap_append, pos_comp i]
    unfold posL
    rw [List.range_succ, List.filter_append, List.map_append]
    congr 1
    rw [Int.zero_add]
    by_cases e : l[i]? = some n
    · simp [e]
    · simp [e]

theorem posL_up {l : List Int} {n : Int} {i : Nat} : (posL l n i).Pairwise (· < ·) := by
  unfold posL
  exact List.Pairwise.filter _ List.pairwise_lt_range
theorem mem_posL {l : List Int} {n : Int} {i k : Nat} : k ∈ posL l n i ↔ k < i ∧ l[k]? = some n := by
  unfold posL
  rw [List.mem_filter, List.mem_range, decide_eq_true_eq]
theorem posL_rank {l : List Int} {n : Int} {k : Nat} (hk : l[k]? = some n) : (posL l n l.length)[(l.take k).count n]? = some k := by
  have hlt := (List.getElem?_eq_some_iff.mp hk).1
  obtain ⟨a, ha⟩ := List.mem_iff_getElem?.mp (mem_posL.mpr ⟨hlt, hk⟩)
  have := ((pos_ok (l := l) (n := n) (Nat.le_refl _)).2 a k ha).2.2
  rw [this]; exact ha
theorem posL_len {l : List Int} {n : Int} : (posL l n l.length).length = l.count n := by
  have := (pos_ok (l := l) (n := n) (Nat.le_refl _)).1
  rwa [List.take_length] at this

/-! ### turns -/
abbrev Trn : Type := Int × Int × Tx × Unit
def sideT (m : Nat) : Tx := if m % 2 = 1 then tx "right" else tx "left"
def turnAt (sh : List Int) (j : Nat) : Option Trn :=
  if 0 < (sh.take j).count (sh[j]?.getD 0) then some ((((posL sh (sh[j]?.getD 0) sh.length)[(sh.take j).count (sh[j]?.getD 0) - 1]?.getD 0 : Nat) : Int), (j : Int), sideT ((sh.take j).count (sh[j]?.getD 0)), ()) else none
def turnsL (sh : List Int) (i : Nat) : List Trn := (List.range i).filterMap (turnAt sh)
theorem turnsL_succ {sh : List Int} {i : Nat} : turnsL sh (i + 1) = turnsL sh i ++ (turnAt sh i).toList := by
  unfold turnsL
  rw [List.range_succ, List.filterMap_append]
  cases h : turnAt sh i <;> simp [h]
theorem turnsL_len {sh : List Int} {i : Nat} : (turnsL sh i).length ≤ i := by
  unfold turnsL
  exact Nat.le_trans (List.length_filterMap_le _ _) (by simp)
theorem sh_key {x y : Int} (h : x ≠ y) : ¬ (Sum.inl x : Key) = .inl y := fun z => h (Sum.inl.inj z)
theorem turns_ok {sh : List Int} (h8 : ∀ x ∈ sh, 0 ≤ x ∧ x ≤ 7) (hl : sh.length ≤ 40) : f_turns_made sh = .ok (turnsL sh sh.length) := by
  refine oke ?_
  unfold f_turns_made
  show Okm (M.bind (repM [(0 : Int)] (8 : Int)) _) _
  rw [oke (ok_rep1 (by omega) (by omega)), M.bind_ok]
  show Okm (M.bind (forM f_turns_made_l1 ([], List.replicate 8 (0 : Int), []) (enumL sh)) _) _
  refine okb (ok_for (fun i (s : List (Key × Int) × List Int × List Trn) => (∀ x : Int, dgetL s.1 (.inl x) = if (sh.take i).count x = 0 then none else some (((posL sh x sh.length)[(sh.take i).count x - 1]?.getD 0 : Nat) : Int)) ∧ s.1.length ≤ i ∧ s.2.1.length = 8 ∧ (∀ x : Nat, x < 8 → s.2.1[x]? = some (((sh.take i).count (x : Int) : Nat) : Int)) ∧ s.2.2 = turnsL sh i) ⟨fun x => by simp [dgetL], Nat.le_refl _, rfl, fun x hx => ?_, rfl⟩ fun i t s ht ⟨a1, a2, a3, a4, a5⟩ => ?_) fun s ⟨_, _, _, _, a5⟩ => okv ?_
  · rw [List.take_zero, List.count_nil]
    show (List.replicate 8 (0 : Int))[x]? = some 0
    rw [List.getElem?_replicate, if_pos hx]
  · obtain ⟨x, hx, rfl⟩ := enumL_at ht
    have hb := h8 x (List.mem_of_getElem? hx)
    have hil := (List.getElem?_eq_some_iff.mp hx).1
    have g4 := a4 x.toNat (by omega)
    rw [show ((x.toNat : Nat) : Int) = x by omega] at g4
    have tl := turnsL_len (sh := sh) (i := i)
    unfold f_turns_made_l1
    show Okm (M.bind (M.bind (getM s.2.1 x) fun y => M.ok (decide ((0 : Int) < y))) _) _
    rw [getM_at hb.1 g4, M.bind_ok, M.bind_ok]
    have eA : turnAt sh i = if 0 < (sh.take i).count x then some ((((posL sh x sh.length)[(sh.take i).count x - 1]?.getD 0 : Nat) : Int), (i : Int), sideT ((sh.take i).count x), ()) else none := by
      unfold turnAt; rw [hx]; rfl
    refine okb (P := (· = turnsL sh (i + 1))) ?_ fun tr e => ?_
    · refine okif (fun c => ?_) fun c => ?_
      · rw [decide_eq_true_eq] at c
        show Okm (M.bind (M.bind (M.bind (M.ok (((sh.take i).count x : Nat) : Int)) fun y => M.ok (y % 2)) fun y => M.ok (decide (y = 1))) _) _
        rw [M.bind_ok, M.bind_ok, M.bind_ok]
        refine okb (P := (· = sideT ((sh.take i).count x))) (okif (fun q => ?_) fun q => ?_) fun sd e => ?_
        · rw [decide_eq_true_eq] at q
          exact okv (by show tx "right" = _; unfold sideT; rw [if_pos (by omega)])
        · rw [decide_eq_false_iff_not] at q
          exact okv (by unfold sideT; rw [if_neg (by omega)])
        subst e
        have gd : getDM s.1 (.inl x) = .ok (((posL sh x sh.length)[(sh.take i).count x - 1]?.getD 0 : Nat) : Int) := by
          unfold getDM
          rw [a1 x, if_neg (by omega)]
        show Okm (M.bind (M.bind (getDM s.1 (.inl x)) _) _) _
        rw [gd, M.bind_ok, M.bind_ok, a5]
        refine okb (ok_push (by omega)) fun tr e => okv ?_
        rw [e, turnsL_succ, eA, if_pos (by omega)]; rfl
      · rw [decide_eq_false_iff_not] at c
        refine okv ?_
        rw [a5, turnsL_succ, eA, if_neg (by omega)]; simp
    · subst e
      refine okb (m := dputM _ _ _) (P := (· = dputL s.1 (.inl x) (i : Int))) ?_ fun d e => ?_
      · unfold dputM
        rw [if_pos (Nat.lt_of_le_of_lt (show s.1.length ≤ 1000 by omega) (by decide))]
        exact okv rfl
      subst e
      rw [M.bind_ok]
      refine okb (ok_set (xs := s.2.1) (i := x) hb.1 (by omega)) fun th e => okv ?_
      subst e
      have ln := dput_len s.1 (.inl x) (i : Int)
      refine ⟨fun y => ?_, by show (dputL s.1 (.inl x) (i : Int)).length ≤ _; omega, by show (s.2.1.set _ _).length = _; rw [List.length_set]; exact a3, fun y hy => ?_, rfl⟩
      · show dgetL (dputL s.1 (.inl x) (i : Int)) (.inl y) = _
        rw [dget_put, take_count hx]
        by_cases z : y = x
        · subst z
          rw [if_pos rfl, if_pos rfl, if_neg (by omega), show (sh.take i).count y + 1 - 1 = (sh.take i).count y by omega, posL_rank hx]; rfl
        · have z' : ¬ x = y := fun q => z q.symm
          rw [if_neg (sh_key z)]
          simp only [if_neg z', Nat.add_zero]
          exact a1 y
      · show (s.2.1.set x.toNat (((sh.take i).count x : Nat) + 1 : Int))[y]? = _
        rw [take_count hx]
        by_cases z : x = (y : Int)
        · subst z
          rw [if_pos rfl, Int.toNat_natCast, List.getElem?_set_self (by omega)]
          push_cast; rfl
        · rw [if_neg z, Nat.add_zero, List.getElem?_set_ne (by omega)]; exact a4 y hy
  · rw [a5, enumL_len]
/-! ### seams -/
def seamOf (picks : List Int) (t : Trn) : Option Trn :=
  if picks[t.1.toNat]?.getD 0 = picks[t.2.1.toNat]?.getD 0 then none else some (min (picks[t.1.toNat]?.getD 0) (picks[t.2.1.toNat]?.getD 0), max (picks[t.1.toNat]?.getD 0) (picks[t.2.1.toNat]?.getD 0), t.2.2.1, ())
def IsSeam (picks sh : List Int) (x : Trn) : Prop := ∃ t ∈ turnsL sh sh.length, seamOf picks t = some x
theorem turn_in {sh : List Int} {t : Trn} (h : t ∈ turnsL sh sh.length) : ∃ (x : Int) (m j k : Nat), x ∈ sh ∧ (posL sh x sh.length)[m]? = some k ∧ (posL sh x sh.length)[m + 1]? = some j ∧ t = ((k : Int), (j : Int), sideT (m + 1), ()) ∧ k < sh.length ∧ j < sh.length := by
  unfold turnsL at h
  obtain ⟨j, hj, e⟩ := List.mem_filterMap.mp h
  rw [List.mem_range] at hj
  obtain ⟨x, hx⟩ : ∃ x, sh[j]? = some x := ⟨_, List.getElem?_eq_getElem hj⟩
  unfold turnAt at e
  rw [hx] at e
  simp only [Option.getD_some] at e
  split at e
  · rename_i hm
    have hr := posL_rank hx
    have hrl := (List.getElem?_eq_some_iff.mp hr).1
    obtain ⟨k, hk⟩ : ∃ k, (posL sh x sh.length)[(sh.take j).count x - 1]? = some k := ⟨_, List.getElem?_eq_getElem (by omega)⟩
    have := (pos_ok (l := sh) (n := x) (i := sh.length) (Nat.le_refl _)).2 _ k hk
    refine ⟨x, (sh.take j).count x - 1, j, k, List.mem_of_getElem? hx, hk, by rw [show (sh.take j).count x - 1 + 1 = (sh.take j).count x by omega]; exact hr, ?_, this.1, hj⟩
    rw [hk] at e
    rw [show (sh.take j).count x - 1 + 1 = (sh.take j).count x by omega]
    exact (Option.some.inj e).symm
  · cases e
theorem in_turn {sh : List Int} {x : Int} {m j k : Nat} (hk : (posL sh x sh.length)[m]? = some k) (hj : (posL sh x sh.length)[m + 1]? = some j) : (((k : Int), (j : Int), sideT (m + 1), ()) : Trn) ∈ turnsL sh sh.length := by
  have h := (pos_ok (l := sh) (n := x) (i := sh.length) (Nat.le_refl _)).2 _ j hj
  unfold turnsL
  refine List.mem_filterMap.mpr ⟨j, List.mem_range.mpr h.1, ?_⟩
  unfold turnAt
  rw [h.2.1]
  simp only [Option.getD_some]
  rw [h.2.2, if_pos (by omega), show m + 1 - 1 = m by omega, hk]
  rfl
abbrev ltT : Trn → Trn → Bool := (oTup (oCons oInt (oCons oInt (oCons oStr oNil)))).lt
theorem str_irr (s : Tx) : ¬ s < s := List.lt_irrefl s
theorem str_mid {a b c : Tx} (h : c < a) : c < b ∨ b < a := by
  by_cases q : c < b
  · exact .inl q
  · by_cases r : b < a
    · exact .inr r
    · exact absurd h (List.not_lt.mpr (List.le_trans (List.not_lt.mp r) (List.not_lt.mp q)))
theorem str_tri {a b : Tx} (h1 : ¬ a < b) (h2 : ¬ b < a) : a = b := List.le_antisymm (List.not_lt.mp h2) (List.not_lt.mp h1)
theorem str_asym {a b : Tx} (h1 : a < b) : ¬ b < a := List.lt_asymm h1
theorem ltT_iff {a b : Trn} : ltT a b = true ↔ a.1 < b.1 ∨ (a.1 = b.1 ∧ (a.2.1 < b.2.1 ∨ (a.2.1 = b.2.1 ∧ a.2.2.1 < b.2.2.1))) := by
  show (if a.1 = b.1 then (if a.2.1 = b.2.1 then (if a.2.2.1 = b.2.2.1 then false else decide (a.2.2.1 < b.2.2.1)) else decide (a.2.1 < b.2.1)) else decide (a.1 < b.1)) = true ↔ _
  by_cases h1 : a.1 = b.1
  · rw [if_pos h1]
    by_cases h2 : a.2.1 = b.2.1
    · rw [if_pos h2]
      by_cases h3 : a.2.2.1 = b.2.2.1
      · rw [if_pos h3, h1, h2, h3]
        simp [str_irr]
      · rw [if_neg h3, h1, h2]
        simp
    · rw [if_neg h2, h1]
      simp [h2]
  · rw [if_neg h1]
    simp [h1]
theorem ltT_mid {a b c : Trn} (h : ltT c a = true) : ltT c b = true ∨ ltT b a = true := by
  rw [ltT_iff] at h ⊢
  rw [ltT_iff]
  by_cases q1 : c.1 < b.1
  · exact .inl (.inl q1)
  by_cases q2 : b.1 < a.1
  · exact .inr (.inl q2)
  have e1 : c.1 = b.1 := by rcases h with h | ⟨h, _⟩ <;> omega
  have e2 : b.1 = a.1 := by rcases h with h | ⟨h, _⟩ <;> omega
  rcases h with h | ⟨_, h⟩
  · omega
  by_cases r1 : c.2.1 < b.2.1
  · exact .inl (.inr ⟨e1, .inl r1⟩)
  by_cases r2 : b.2.1 < a.2.1
  · exact .inr (.inr ⟨e2, .inl r2⟩)
  have f1 : c.2.1 = b.2.1 := by rcases h with h | ⟨h, _⟩ <;> omega
  have f2 : b.2.1 = a.2.1 := by rcases h with h | ⟨h, _⟩ <;> omega
  rcases h with h | ⟨_, h⟩
  · omega
  rcases str_mid (b := b.2.2.1) h with z | z
  · exact .inl (.inr ⟨e1, .inr ⟨f1, z⟩⟩)
  · exact .inr (.inr ⟨e2, .inr ⟨f2, z⟩⟩)
theorem ltT_asym {a b : Trn} (h : ltT a b = true) : ltT b a = false := by
  cases z : ltT b a with
  | false => rfl
  | true =>
    rw [ltT_iff] at h z
    exfalso
    rcases h with h | ⟨e, h | ⟨f, h⟩⟩ <;> rcases z with z | ⟨e', z | ⟨f', z⟩⟩ <;> first | omega | exact str_asym h z
theorem ltT_tri {a b : Trn} (h1 : ltT a b = false) (h2 : ltT b a = false) : a = b := by
  have n1 : ¬ (ltT a b = true) := by rw [h1]; exact Bool.false_ne_true
  have n2 : ¬ (ltT b a = true) := by rw [h2]; exact Bool.false_ne_true
  rw [ltT_iff] at n1 n2
  obtain ⟨a1, a2, a3, a4⟩ := a
  obtain ⟨b1, b2, b3, b4⟩ := b
  simp only at n1 n2
  have e1 : a1 = b1 := by
    rcases Int.lt_trichotomy a1 b1 with z | z | z
    · exact absurd (.inl z) n1
    · exact z
    · exact absurd (.inl z) n2
  subst e1
  have e2 : a2 = b2 := by
    rcases Int.lt_trichotomy a2 b2 with z | z | z
    · exact absurd (.inr ⟨rfl, .inl z⟩) n1
    · exact z
    · exact absurd (.inr ⟨rfl, .inl z⟩) n2
  subst e2
  have e3 : a3 = b3 := str_tri (fun z => n1 (.inr ⟨rfl, .inr ⟨rfl, z⟩⟩)) (fun z => n2 (.inr ⟨rfl, .inr ⟨rfl, z⟩⟩))
  subst e3
  rfl
theorem sortT_ok (l : List Trn) (hn : l.Nodup) : (sortD (oTup (oCons oInt (oCons oInt (oCons oStr oNil)))) l).Perm l ∧ (sortD (oTup (oCons oInt (oCons oInt (oCons oStr oNil)))) l).Pairwise (fun a b => ltT a b = true) := by
  have p : (sortD (oTup (oCons oInt (oCons oInt (oCons oStr oNil)))) l).Perm l := List.mergeSort_perm _ _
  refine ⟨p, ?_⟩
  have h1 : (sortD (oTup (oCons oInt (oCons oInt (oCons oStr oNil)))) l).Pairwise (fun a b => (!ltT b a) = true) := List.pairwise_mergeSort (fun a b c h1 h2 => ?_) (fun a b => ?_) l
  · have hn' := p.nodup_iff.mpr hn
    refine (h1.and hn').imp fun {a b} ⟨q1, q2⟩ => ?_
    cases z : ltT a b with
    | true => rfl
    | false => exact absurd (ltT_tri z (by simpa using q1)) q2
  · cases z : ltT c a with
    | false => rfl
    | true =>
      rcases ltT_mid (b := b) z with q | q
      · rw [q] at h2; cases h2
      · rw [q] at h1; cases h1
  · cases z : ltT b a with
    | false => rfl
    | true => rw [ltT_asym z]; rfl

section
variable {picks : List Int} {found : List Tx} {w h : Nat}
theorem seen_sh_ok {sh : List Int} {n : Nat} (h8 : ∀ x ∈ sh, 0 ≤ x ∧ x ≤ 7) (hl : sh.length = n) : f_seen_shuttles sh (n : Int) = .ok () := by
  refine oke ?_
  unfold f_seen_shuttles
  rw [if_neg (by simp [hl])]
  refine okb (P := fun _ => True) (ok_forI (fun _ => True) trivial fun x hx s _ => ?_) fun _ _ => okv rfl
  unfold f_seen_shuttles_l1
  have := h8 x hx
  refine okif (fun c => ?_) fun _ => okv trivial
  exfalso
  rw [Bool.not_eq_true', Bool.and_eq_false_iff, decide_eq_false_iff_not, decide_eq_false_iff_not] at c
  omega
theorem seams_gen (hc : Cloth found w h) (hpl : picks.length = h) (hp : ∀ (j : Nat) (u : Int), picks[j]? = some u → (vec (w + h) fun y => (pk (lays found w h) y : Int))[w + j]? = some u) {sh : List Int} (h8 : ∀ x ∈ sh, 0 ≤ x ∧ x ≤ 7) (hsl : sh.length = picks.length) :
    Okm (f_seams_of found sh) (fun r => r.Pairwise (fun a b => ltT a b = true) ∧ (∀ x, x ∈ r ↔ IsSeam picks sh x) ∧ r.length ≤ 40) := by
  have p2 := hc.h2
  unfold f_seams_of
  rw [measured_ok hc, M.bind_ok]
  show Okm (M.bind (f_seen_shuttles sh (h : Int)) _) _
  rw [seen_sh_ok h8 (hsl.trans hpl), M.bind_ok, numbers_of hc, M.bind_ok]
  show Okm (M.bind (f_turns_made sh) _) _
  rw [turns_ok h8 (by omega), M.bind_ok]
  have tl := turnsL_len (sh := sh) (i := sh.length)
  refine okb (ok_for (fun i (s : List Trn) => s.Nodup ∧ (∀ x, x ∈ s ↔ ∃ t ∈ (turnsL sh sh.length).take i, seamOf picks t = some x) ∧ s.length ≤ i) ⟨List.nodup_nil, fun x => by simp, Nat.le_refl _⟩ fun i t s ht ⟨a1, a2, a3⟩ => ?_) fun s ⟨a1, a2, a3⟩ => ?_
  · have til := (List.getElem?_eq_some_iff.mp ht).1
    obtain ⟨x, m, j, k, _, _, _, e, hk, hj⟩ := turn_in (List.mem_of_getElem? ht)
    have e1 : t.1 = (k : Int) := by rw [e]
    have e2 : t.2.1 = (j : Int) := by rw [e]
    obtain ⟨u, hu⟩ : ∃ u, picks[k]? = some u := ⟨_, List.getElem?_eq_getElem (by omega)⟩
    obtain ⟨v, hv⟩ : ∃ u, picks[j]? = some u := ⟨_, List.getElem?_eq_getElem (by omega)⟩
    have g1 := hp k u hu
    have g2 := hp j v hv
    have es : seamOf picks t = if u = v then none else some (min u v, max u v, t.2.2.1, ()) := by
      unfold seamOf
      rw [e1, e2, Int.toNat_natCast, Int.toNat_natCast, hu, hv]; rfl
    have step : ∀ x, (∃ t' ∈ (turnsL sh sh.length).take (i + 1), seamOf picks t' = some x) ↔ (∃ t' ∈ (turnsL sh sh.length).take i, seamOf picks t' = some x) ∨ seamOf picks t = some x := fun x => by
      rw [List.take_add_one, ht]
      simp only [Option.toList_some, List.mem_append, List.mem_singleton]
      constructor
      · rintro ⟨t', q | q, h⟩
        · exact .inl ⟨t', q, h⟩
        · exact .inr (q ▸ h)
      · rintro (⟨t', q, h⟩ | h)
        · exact ⟨t', .inl q, h⟩
        · exact ⟨t, .inr rfl, h⟩
    unfold f_seams_of_l1
    show Okm (M.bind (getM _ ((w : Int) + t.1)) _) _
    rw [e1, e2, show (w : Int) + (k : Int) = ((w + k : Nat) : Int) by omega, getM_nat g1, M.bind_ok]
    show Okm (M.bind (getM _ ((w : Int) + (j : Int))) _) _
    rw [show (w : Int) + (j : Int) = ((w + j : Nat) : Int) by omega, getM_nat g2, M.bind_ok]
    refine okif (fun c => ?_) fun c => ?_
    · rw [decide_eq_true_eq] at c
      refine okv ⟨a1, fun x => ?_, by omega⟩
      rw [step x, es, if_pos c, a2 x]; simp
    · rw [decide_eq_false_iff_not] at c
      rw [if_neg c] at es
      show Okm (if (!memD (min u v, max u v, t.2.2.1, ()) s) = true then M.bind (pushM s (min u v, max u v, t.2.2.1, ())) fun f => M.ok f else M.ok s) _
      refine okif (fun q => ?_) fun q => ?_
      · have q : (min u v, max u v, t.2.2.1, ()) ∉ s := by unfold memD at q; simpa using q
        refine okb (ok_push (by omega)) fun f e => okv ?_
        subst e
        refine ⟨List.nodup_append.mpr ⟨a1, by simp, fun a ha b hb => fun z => q (by rw [List.mem_singleton] at hb; subst hb; rw [← z]; exact ha)⟩, fun x => ?_, by simp; omega⟩
        rw [step x, es, List.mem_append, List.mem_singleton, a2 x]
        constructor
        · rintro (h | h)
          · exact .inl h
          · exact .inr (by rw [h])
        · rintro (h | h)
          · exact .inl h
          · exact .inr (Option.some.inj h).symm
      · have q : (min u v, max u v, t.2.2.1, ()) ∈ s := by unfold memD at q; simpa using q
        refine okv ⟨a1, fun x => ?_, by omega⟩
        rw [step x, es]
        constructor
        · exact fun h => .inl ((a2 x).mp h)
        · rintro (h | h)
          · exact (a2 x).mpr h
          · rw [← Option.some.inj h]; exact q
  · rw [List.take_length] at a2
    obtain ⟨s1, s2⟩ := sortT_ok s a1
    exact okv ⟨s2, fun x => s1.mem_iff.trans (a2 x), by have := s1.length_eq; omega⟩
theorem seam_bd {sh : List Int} (hsl : sh.length = picks.length) {x : Trn} (hx : IsSeam picks sh x) : ∃ u ∈ picks, ∃ v ∈ picks, x.1 = min u v ∧ x.2.1 = max u v := by
  obtain ⟨t, ht, e⟩ := hx
  obtain ⟨y, m, j, k, _, _, _, et, hk, hj⟩ := turn_in ht
  obtain ⟨u, hu⟩ : ∃ u, picks[k]? = some u := ⟨_, List.getElem?_eq_getElem (by omega)⟩
  obtain ⟨v, hv⟩ : ∃ u, picks[j]? = some u := ⟨_, List.getElem?_eq_getElem (by omega)⟩
  rw [et] at e
  unfold seamOf at e
  simp only [Int.toNat_natCast] at e
  rw [hu, hv] at e
  simp only [Option.getD_some] at e
  split at e
  · cases e
  · rw [← Option.some.inj e]
    exact ⟨u, List.mem_of_getElem? hu, v, List.mem_of_getElem? hv, rfl, rfl⟩
/-- the picks' layers -/
def pkL (rows : List Tx) (w h : Nat) : List Int := (vec (w + h) fun y => (pk (lays rows w h) y : Int)).drop w
theorem pkL_len : (pkL found w h).length = h := by unfold pkL; rw [List.length_drop, vec_len]; omega
theorem pkL_at (j : Nat) (u : Int) (hu : (pkL found w h)[j]? = some u) : (vec (w + h) fun y => (pk (lays found w h) y : Int))[w + j]? = some u := by
  unfold pkL at hu
  rwa [List.getElem?_drop] at hu
theorem pkL_mem {u : Int} (hu : u ∈ pkL found w h) : u ∈ vec (w + h) fun y => (pk (lays found w h) y : Int) := List.mem_of_mem_drop hu
theorem vec_bd (hc : Cloth found w h) {u : Int} (hu : u ∈ vec (w + h) fun y => (pk (lays found w h) y : Int)) : 0 ≤ u ∧ u < (lays found w h).length := by
  unfold vec at hu
  obtain ⟨x, hx, rfl⟩ := List.mem_map.mp hu
  rw [upFrom_mem] at hx
  obtain ⟨l, hl, _⟩ := (lays_part hc).pk_get (x := x) (by omega) (by omega)
  have := (List.getElem?_eq_some_iff.mp hl).1
  exact ⟨by omega, by omega⟩
theorem maxM_ok {l : List Int} (hl : l ≠ []) : ∃ m, maxM l = .ok m ∧ m ∈ l ∧ ∀ x ∈ l, x ≤ m := by
  cases l with
  | nil => exact absurd rfl hl
  | cons x r =>
    obtain ⟨h1, h2, h3⟩ := foldl_max_le r x
    refine ⟨r.foldl max x, rfl, ?_, fun y hy => ?_⟩
    · rcases h3 with h | h
      · rw [h]; exact List.mem_cons_self
      · exact List.mem_cons_of_mem _ h
    · rcases List.mem_cons.mp hy with e | hy
      · rw [e]; exact h1
      · exact h2 y hy
end

section
variable {rows : List Tx} {w h : Nat}
/-- a cloth is taken apart: it refuses nothing -/
theorem cut_any (hc : Cloth rows w h) {es ps : List Int} (he : ∀ e ∈ es, 0 ≤ e ∧ e < (w : Int)) (hp : ∀ p ∈ ps, 0 ≤ p ∧ p < (h : Int)) (l1 : es.length ≤ 1000) (l2 : ps.length ≤ 1000) : Okm (f_cut_out rows es ps) (fun _ => True) := by
  have hh := hc.hh
  unfold f_cut_out
  refine okmono (ok_comp (fun _ (_ : Tx) => True) (by omega) fun p hpm => ?_) fun _ _ => trivial
  have bp := hp p hpm
  refine okb (P := fun _ => True) (okb (ok_get bp.1 (by omega)) fun r hr => ?_) fun t _ => okv ⟨t, rfl, trivial⟩
  have rw_ := hc.ww r (List.mem_of_getElem? hr)
  unfold f_row_cut
  rw [tx_nil]
  refine okb (ok_comp (fun _ (t : Tx) => t.length = 1) (by omega) fun e hem => ?_) fun ts ⟨t1, t2⟩ => ?_
  · have be := he e hem
    exact okb (ok_getS be.1 (by omega)) fun s ⟨c, _, es⟩ => okv ⟨s, rfl, by rw [es]; rfl⟩
  · refine okmono (join_singles (fun t ht => ?_) (by omega)) fun _ _ => trivial
    obtain ⟨i, hi⟩ := List.mem_iff_getElem?.mp ht
    have hlt := (List.getElem?_eq_some_iff.mp hi).1
    obtain ⟨e, he'⟩ : ∃ e, es[i]? = some e := ⟨_, List.getElem?_eq_getElem (by omega)⟩
    exact t2 i e t he' hi
theorem set_any {f : List Int → Int → M (List Int)} {v : Int} (hf : ∀ s e, f s e = M.bind (setM s e v) fun s => M.ok s) {es s0 : List Int} (he : ∀ e ∈ es, 0 ≤ e ∧ e < (s0.length : Int)) : Okm (forM f s0 es) (fun s => s.length = s0.length) :=
  ok_forI (fun s : List Int => s.length = s0.length) rfl fun e hem s hs => by
    rw [hf]
    have := he e hem
    refine okb (ok_set this.1 (by omega)) fun s' e' => okv ?_
    rw [e', List.length_set]; exact hs
theorem torn_any (hc : Cloth rows w h) : Okm (f_taken_apart rows) (fun _ => True) := by
  have w2 := hc.w2
  have h2 := hc.h2
  have P := lays_part hc
  have pl := P.len
  unfold f_taken_apart
  rw [measured_ok hc, M.bind_ok]
  show Okm (M.bind (repM [(0 : Int)] (w : Int)) fun e => M.bind (repM [(0 : Int)] (h : Int)) _) _
  rw [oke (ok_rep1 (by omega) (by omega)), M.bind_ok, oke (ok_rep1 (by omega) (by omega)), M.bind_ok, layers_ok hc, M.bind_ok]
  refine okb (ok_for (fun i (s : List (List Tx) × List Int × List Int) => s.1.length = i ∧ s.2.1.length = w ∧ s.2.2.length = h) ⟨rfl, by simp, by simp⟩ fun i l s hl ⟨a1, a2, a3⟩ => ?_) fun s _ => okv trivial
  have hil := (List.getElem?_eq_some_iff.mp hl).1
  have hll : l.length ≤ 80 := by
    obtain ⟨s, t, s', t', S⟩ := lay_spec hc hl
    have := S.len; have := S.s2; have := S.t2; omega
  unfold f_taken_apart_l3
  show Okm (M.bind (compM (fun strand => if (decide (strand < (w : Int))) = true then M.ok (some strand) else M.ok none) l) _) _
  rw [comp_eq (g := fun s => if decide (s < (w : Int)) = true then some s else none) (by omega) fun s _ => by split <;> rfl, M.bind_ok]
  show Okm (M.bind (compM (fun strand => if (decide ((w : Int) ≤ strand)) = true then M.ok (some (strand - (w : Int))) else M.ok none) l) _) _
  rw [comp_eq (g := fun s => if decide ((w : Int) ≤ s) = true then some (s - (w : Int)) else none) (by omega) fun s _ => by split <;> rfl, M.bind_ok]
  have he : ∀ e ∈ l.filterMap (fun s => if decide (s < (w : Int)) = true then some s else none), 0 ≤ e ∧ e < (w : Int) := fun e hem => by
    obtain ⟨x, hx, q⟩ := List.mem_filterMap.mp hem
    have := P.bnd hl hx
    split at q
    · rename_i z
      rw [decide_eq_true_eq] at z
      cases q
      exact ⟨this.1, z⟩
    · cases q
  have hp : ∀ e ∈ l.filterMap (fun s => if decide ((w : Int) ≤ s) = true then some (s - (w : Int)) else none), 0 ≤ e ∧ e < (h : Int) := fun e hem => by
    obtain ⟨x, hx, q⟩ := List.mem_filterMap.mp hem
    have := P.bnd hl hx
    split at q
    · rename_i z
      rw [decide_eq_true_eq] at z
      cases q
      exact ⟨by omega, by omega⟩
    · cases q
  refine okb (set_any (f := f_taken_apart_l1 s) (fun s e => rfl) (by rw [a2]; exact he)) fun s1 hs1 => ?_
  refine okb (set_any (f := f_taken_apart_l2 s) (fun s e => rfl) (by rw [a3]; exact hp)) fun s2 hs2 => ?_
  refine okb (cut_any hc he hp (Nat.le_trans (List.length_filterMap_le _ _) (by omega)) (Nat.le_trans (List.length_filterMap_le _ _) (by omega))) fun c _ => ?_
  refine okb (ok_push (by omega)) fun p e => okv ⟨?_, ?_, ?_⟩
  · rw [e]; simp [a1]
  · exact hs1.trans a2
  · exact hs2.trans a3
end

section
variable {rows : List Tx} {w h : Nat} {sh : List Int}
theorem seams_any (hc : Cloth rows w h) (h8 : ∀ x ∈ sh, 0 ≤ x ∧ x ≤ 7) (hl : sh.length = h) : Okm (f_seams_of rows sh) (fun r => r.length ≤ 40 ∧ ∀ x ∈ r, ∃ u ∈ pkL rows w h, ∃ v ∈ pkL rows w h, x.1 = min u v ∧ x.2.1 = max u v) :=
  okmono (seams_gen hc pkL_len pkL_at h8 (hl.trans pkL_len.symm)) fun r ⟨_, r2, r3⟩ => ⟨r3, fun x hx => seam_bd (hl.trans pkL_len.symm) ((r2 x).mp hx)⟩
theorem tubes_any (hc : Cloth rows w h) (h8 : ∀ x ∈ sh, 0 ≤ x ∧ x ≤ 7) (hl : sh.length = h) : Okm (f_tubes_of rows sh) (fun _ => True) := by
  unfold f_tubes_of
  refine okb (seams_any hc h8 hl) fun r ⟨r1, _⟩ => ?_
  refine okb (ok_for (fun i (s : List (Int × Int × Unit)) => s.length ≤ i) (Nat.le_refl _) fun i t s hi a1 => ?_) fun s _ => okv trivial
  have hil := (List.getElem?_eq_some_iff.mp hi).1
  unfold f_tubes_of_l1
  refine okif (fun _ => ?_) fun _ => okv (by omega)
  refine okb (ok_push (by omega)) fun s' e => okv ?_
  rw [e]; simp; omega
theorem sheets_any (hc : Cloth rows w h) (h8 : ∀ x ∈ sh, 0 ≤ x ∧ x ≤ 7) (hl : sh.length = h) : Okm (f_sheets_of rows sh) (fun _ => True) := by
  have w2 := hc.w2
  have h2 := hc.h2
  have w1 := hc.w1
  have pl := (lays_part hc).len
  unfold f_sheets_of
  refine okb (seams_any hc h8 hl) fun r ⟨r1, r2⟩ => ?_
  rw [numbers_of hc, M.bind_ok]
  have vl : (vec (w + h) fun y => (pk (lays rows w h) y : Int)).length = w + h := vec_len
  obtain ⟨m, em, m1, m2⟩ := maxM_ok (l := vec (w + h) fun y => (pk (lays rows w h) y : Int)) (fun e => by rw [e] at vl; simp at vl; omega)
  have mb := vec_bd hc m1
  rw [em, M.bind_ok, M.bind_ok]
  have erg : rangeL 0 (m + 1) = .ok (upFrom 0 (m + 1).toNat) := by
    unfold rangeL
    rw [if_pos ⟨by omega, by omega, by omega, by omega, by omega⟩, Int.sub_zero]
  rw [erg, M.bind_ok]
  refine okb (ok_forI (fun s : List Int => s.length = (m + 1).toNat) (upFrom_len _ _) fun x hx s hs => ?_) fun s hs => ?_
  · obtain ⟨u, hu, v, hv, e1, e2⟩ := r2 x hx
    have bu := m2 u (pkL_mem hu)
    have bv := m2 v (pkL_mem hv)
    have zu := (vec_bd hc (pkL_mem hu)).1
    have zv := (vec_bd hc (pkL_mem hv)).1
    unfold f_sheets_of_l1
    rw [e1, e2]
    obtain ⟨p, ep, _⟩ := ok_get (xs := s) (i := min u v) (by omega) (by omega)
    obtain ⟨q, eq, _⟩ := ok_get (xs := s) (i := max u v) (by omega) (by omega)
    rw [ep, eq]
    simp only [M.bind_ok]
    rw [comp_map (g := fun mark => if mark = max p q then min p q else mark) (by omega) fun y _ => ?_]
    · exact okv (by rw [List.length_map]; exact hs)
    · by_cases z : y = max p q
      · rw [if_pos (by simp [z]), M.bind_ok, if_pos z]
      · rw [if_neg (by simp [z]), M.bind_ok, if_neg z]
  · rw [range_eq, M.bind_ok, show ((m + 1 : Int) - 0).toNat = (m + 1).toNat by omega]
    refine okb (ok_forR (fun i (t : List (List Int)) => t.length ≤ i) (Nat.le_refl _) fun i t hi a1 => ?_) fun t _ => okv trivial
    unfold f_sheets_of_l2
    rw [range_eq, M.bind_ok, show ((m + 1 : Int) - 0).toNat = (m + 1).toNat by omega]
    rw [comp_eq (g := fun layer : Int => if s[layer.toNat]? = some ((0 : Int) + i) then some layer else none) (by rw [upFrom_len]; omega) fun y hy => ?_]
    · rw [M.bind_ok]
      refine okif (fun _ => ?_) fun _ => okv (by omega)
      refine okb (ok_push (by omega)) fun t' e => okv ?_
      rw [e]; simp; omega
    · rw [upFrom_mem] at hy
      obtain ⟨v, e, hv⟩ := ok_get (xs := s) (i := y) (by omega) (by omega)
      rw [e, hv, M.bind_ok, M.bind_ok]
      by_cases z : v = (0 : Int) + i
      · rw [decide_eq_true z, if_pos rfl, if_pos (by rw [z])]
      · rw [decide_eq_false z, if_neg Bool.false_ne_true, if_neg (fun q => z (Option.some.inj q))]
/-! ### what the law's word is -/
theorem word_told (h0 : Okm (f_taken_apart rows) (fun _ => True)) (h1 : Okm (f_seams_of rows sh) (fun _ => True)) (h2 : Okm (f_tubes_of rows sh) (fun _ => True)) (h3 : Okm (f_sheets_of rows sh) (fun _ => True)) (way : Int) : f_law_word way rows sh = .ok (tx "told") := by
  obtain ⟨_, e0, _⟩ := h0
  obtain ⟨_, e1, _⟩ := h1
  obtain ⟨_, e2, _⟩ := h2
  obtain ⟨_, e3, _⟩ := h3
  unfold f_law_word
  rw [e0, e1, e2, e3]
  simp only [M.bind_ok, ite_self]
  rfl
theorem word_ex {c : Ec} (way : Int) (h0 : way = 0 → f_taken_apart rows = .ex c) (h1 : f_seams_of rows sh = .ex c) (h2 : f_tubes_of rows sh = .ex c) (h3 : f_sheets_of rows sh = .ex c) (hc : c = .noCloth ∨ c = .noShuttle) : f_law_word way rows sh = .ok (if c = .noCloth then tx "NoCloth" else tx "NoShuttle") := by
  have e : (if (decide (way = (0 : Int))) = true then M.bind (f_taken_apart rows) fun u11 => M.ok (none : Option Ec) else if (decide (way = (1 : Int))) = true then M.bind (f_seams_of rows sh) fun u21 => M.ok none else if (decide (way = (2 : Int))) = true then M.bind (f_tubes_of rows sh) fun u31 => M.ok none else M.bind (f_sheets_of rows sh) fun u38 => M.ok none) = .ex c := by
    rw [h1, h2, h3]
    by_cases z : way = 0
    · rw [if_pos (by simp [z]), h0 z]; rfl
    · rw [if_neg (by simp [z])]
      split
      · rfl
      split <;> rfl
  unfold f_law_word
  show M.bind (tryM kn_ .weave (if (decide (way = (0 : Int))) = true then _ else _) _) _ = _
  rw [e]
  rcases hc with rfl | rfl <;> rfl
theorem seen_bad {n : Nat} (hb : sh.length ≠ n ∨ ∃ x ∈ sh, x < 0 ∨ 7 < x) : f_seen_shuttles sh (n : Int) = .ex .noShuttle := by
  unfold f_seen_shuttles
  by_cases z : sh.length = n
  · obtain ⟨x, hx, hb⟩ := hb.resolve_left fun q => q z
    rw [if_neg (by simp [z])]
    rw [forM_chk (b := fun x : Int => decide (0 ≤ x) && decide (x ≤ 7)) (e := .noShuttle) fun x hx => ?_]
    · rw [if_neg]
      · rfl
      · intro q
        have := List.all_eq_true.mp q x hx
        simp only [Bool.and_eq_true, decide_eq_true_eq] at this
        omega
    · unfold f_seen_shuttles_l1
      cases (decide ((0 : Int) ≤ x) && decide (x ≤ 7)) <;> rfl
  · rw [if_pos (by simp; omega)]
theorem odd_ok (n : Int) : Okm (f_law_odd_sign n) (fun s => ∃ c, s = [c] ∧ c ≠ 35 ∧ c ≠ 46) := by
  unfold f_law_odd_sign
  have hl : (tx " !\"$&'()*+,-/0123456789:;<=>?@ABCDEFGHIJKLMNOPQRSTUVWXYZ[\\]^_`abcdefghijklmnopqrstuvwxyz{|}~").length = 92 := by decide +kernel
  have hs : ∀ c ∈ tx " !\"$&'()*+,-/0123456789:;<=>?@ABCDEFGHIJKLMNOPQRSTUVWXYZ[\\]^_`abcdefghijklmnopqrstuvwxyz{|}~", c ≠ 35 ∧ c ≠ 46 := by decide +kernel
  generalize tx " !\"$&'()*+,-/0123456789:;<=>?@ABCDEFGHIJKLMNOPQRSTUVWXYZ[\\]^_`abcdefghijklmnopqrstuvwxyz{|}~" = t at hl hs
  have m0 := Int.emod_nonneg n (show (92 : Int) ≠ 0 by decide)
  have m1 := Int.emod_lt_of_pos n (show (0 : Int) < 92 by decide)
  exact okmono (ok_getS m0 (by omega)) fun s ⟨c, hc, e⟩ => ⟨c, e, hs c (List.mem_of_getElem? hc)⟩
theorem spoilt_no {ns : List Int} (hc : Cloth rows w h) (hl : ns.length = 63) {fault : Int} (f1 : 1 ≤ fault) (f2 : fault ≤ 6) (h5 : fault = 5 → 2 ≤ h) : Okm (f_law_spoilt_cloth rows fault ns) (fun sp => ∀ w h, ¬ Cloth sp w h) := by
  have hh := hc.hh
  have h1 := hc.h1
  have h2 := hc.h2
  have w1 := hc.w1
  have w2 := hc.w2
  obtain ⟨r0, hr0⟩ : ∃ r, rows[0]? = some r := ⟨rows[0], by simp⟩
  have hr0m := List.mem_of_getElem? hr0
  unfold f_law_spoilt_cloth
  refine okb (P := fun p => 0 ≤ p ∧ p < (rows.length : Int)) (okb (P := fun _ => True) (okmono (ok_get (by omega) (by omega)) fun _ _ => trivial) fun y _ => okmono (ok_mod (by omega)) fun z e => by
    rw [e]; exact ⟨Int.emod_nonneg _ (by omega), Int.emod_lt_of_pos _ (by omega)⟩) fun pick ⟨p0, p1⟩ => ?_
  obtain ⟨row, hrow, hr⟩ := ok_get (xs := rows) p0 p1
  have hrm := List.mem_of_getElem? hr
  have hrw := hc.ww row hrm
  rw [hrow, M.bind_ok]
  refine okif (fun _ => okv (no_high (.inl rfl))) fun q1 => okif (fun _ => ?_) fun q2 => ?_
  · refine okb ok_range fun xs e => ?_
    subst e
    refine okmono (ok_comp (fun _ (_ : Tx) => True) (by rw [upFrom_len]; omega) fun k _ => ?_) fun sp ⟨l1, _⟩ => no_high (.inr (by rw [l1, upFrom_len]; omega))
    refine okb (P := fun _ => True) (okb (ok_mod (by omega)) fun i hi => okmono (ok_get (by rw [hi]; exact Int.emod_nonneg _ (by omega)) (by rw [hi]; exact Int.emod_lt_of_pos _ (by omega))) fun _ _ => trivial) fun r _ => okv ⟨r, rfl, trivial⟩
  refine okb (P := fun t : Tx => t.length = if fault = 3 then 0 else w) ?_ fun t ht => ?_
  · refine okif (fun q => okv ?_) fun q => okv ?_
    · rw [decide_eq_true_eq] at q; rw [if_pos q, tx_nil]; rfl
    · rw [decide_eq_false_iff_not] at q; rw [if_neg q]; exact hrw
  refine okif (fun _ => ?_) fun q4 => ?_
  · have e20 : repS (tx "#.") 20 = .ok (List.replicate 20 [35, 46]).flatten := by
      have ht : tx "#." = [35, 46] := by decide +kernel
      rw [ht]; unfold repS
      rw [if_pos (by decide)]; rfl
    rw [e20]
    rw [comp_map (g := fun r : Tx => cutL (r ++ (List.replicate 20 [35, 46]).flatten) none (some (41 : Int))) (by omega) fun r hr => ?_]
    · refine okv (no_bad (List.mem_map.mpr ⟨r0, hr0m, rfl⟩) (.inr (.inl ?_)))
      have hw := hc.ww r0 hr0m
      have l40 : (List.replicate 20 [35, 46]).flatten.length = 40 := by decide
      unfold cutL HT.sIx
      simp only [List.drop_zero, Nat.sub_zero]
      rw [if_neg (by omega), List.length_take, List.length_append, l40]
      omega
    · have hw := hc.ww r hr
      have l40 : (List.replicate 20 [35, 46]).flatten.length = 40 := by decide
      rw [M.bind_ok, oke (ok_cat (by rw [l40]; omega)), M.bind_ok, M.bind_ok]
  rw [decide_eq_false_iff_not] at q1 q2 q4
  -- the text of that place
  have place : ∀ x : Tx, (x.length = 0 ∨ 40 < x.length ∨ ∃ c ∈ x, c ≠ 35 ∧ c ≠ 46) ∨ (x.length ≠ w ∧ 2 ≤ h) → Okm (M.bind (catL (cutL rows none (some pick)) [x]) fun y => catL y (cutL rows (some (pick + 1)) none)) (fun sp => ∀ w h, ¬ Cloth sp w h) := fun x hx => by
    refine okmono (put_eq p0 p1 (by omega)) fun sp es => ?_
    subst es
    rcases hx with hx | ⟨hx, hh2⟩
    · exact no_bad put_mem hx
    · obtain ⟨k, hk⟩ : ∃ k : Nat, k < rows.length ∧ (k : Int) ≠ pick := by
        by_cases z : pick = 0
        · exact ⟨1, by omega, by omega⟩
        · exact ⟨0, by omega, by omega⟩
      obtain ⟨r, hr2⟩ : ∃ r, rows[k]? = some r := ⟨_, List.getElem?_eq_getElem hk.1⟩
      have hrw2 := hc.ww r (List.mem_of_getElem? hr2)
      have : r ∈ rows.take pick.toNat ++ [x] ++ rows.drop (pick + 1).toNat := by
        by_cases c : (k : Int) < pick
        · exact List.mem_append_left _ (List.mem_append_left _ (List.mem_of_getElem? (i := k) (by rw [List.getElem?_take_of_lt (by omega)]; exact hr2)))
        · exact List.mem_append_right _ (List.mem_of_getElem? (i := k - (pick + 1).toNat) (by rw [List.getElem?_drop, show (pick + 1).toNat + (k - (pick + 1).toNat) = k by omega]; exact hr2))
      exact no_len this put_mem (by omega)
  refine okb (P := fun b => b = true → fault = 5) (okif (fun q => ?_) fun _ => okv fun z => nomatch z) fun b hb => ?_
  · rw [decide_eq_true_eq] at q
    exact okb (P := fun _ => True) (okb (P := fun _ => True) (okmono (ok_get (by omega) (by omega)) fun _ _ => trivial) fun y _ => okv trivial) fun y _ => okv fun _ => q
  refine okb (P := fun t' : Tx => (fault = 3 → t'.length = 0) ∧ (fault = 5 → t'.length ≠ w) ∧ (fault = 6 → t'.length = w) ∧ t'.length ≤ 100) ?_ fun t' ⟨t3, t5, t6, tl⟩ => ?_
  · have tw : fault ≠ 3 → t.length = w := fun z => by rw [if_neg z] at ht; exact ht
    refine okif (fun q => ?_) fun q => okif (fun q5 => ?_) fun q5 => ?_
    · have f5 := hb q
      refine okb (P := fun t' : Tx => (fault = 3 → t'.length = 0) ∧ (fault = 5 → t'.length ≠ w) ∧ (fault = 6 → t'.length = w) ∧ t'.length ≤ 100) ?_ fun u hu => okv hu
      refine okb (P := fun s : Tx => s.length = 1) (okb (P := fun y => 0 ≤ y ∧ y < 2) (okb (P := fun _ => True) (okmono (ok_get (by omega) (by omega)) fun _ _ => trivial) fun y _ => okv ⟨Int.emod_nonneg _ (by decide), Int.emod_lt_of_pos _ (by decide)⟩) fun y hy => ?_) fun s hs => ?_
      · have ht2 : (tx ".#").length = 2 := by decide +kernel
        exact okmono (ok_getS hy.1 (by omega)) fun s ⟨c, _, e⟩ => by rw [e]; rfl
      · have := tw (by omega)
        refine okmono (ok_cat (by omega)) fun u e => ?_
        subst e
        exact ⟨fun z => by omega, fun _ => by rw [List.length_append]; omega, fun z => by omega, by rw [List.length_append]; omega⟩
    · rw [decide_eq_true_eq] at q5
      have := tw (by omega)
      refine okv ⟨fun z => by omega, fun _ => ?_, fun z => by omega, ?_⟩
      · rw [cut_from (by omega) (by omega), List.length_drop]
        have : (1 : Int).toNat = 1 := rfl
        omega
      · rw [cut_from (by omega) (by omega), List.length_drop]; omega
    · rw [decide_eq_false_iff_not] at q5
      refine okv ⟨fun z => by rw [if_pos z] at ht; exact ht, fun z => absurd z q5, fun z => tw (by omega), ?_⟩
      split at ht <;> omega
  refine okb (P := fun x : Tx => (x.length = 0 ∨ 40 < x.length ∨ ∃ c ∈ x, c ≠ 35 ∧ c ≠ 46) ∨ (x.length ≠ w ∧ 2 ≤ h)) (okif (fun q => ?_) fun q => okv ?_) fun x hx => place x hx
  · rw [decide_eq_true_eq] at q
    have tw := t6 q
    refine okb (P := fun p => 0 ≤ p ∧ p < (t'.length : Int)) (okb (P := fun _ => True) (okmono (ok_get (by omega) (by omega)) fun _ _ => trivial) fun y _ => okmono (ok_mod (by omega)) fun z e => by
      rw [e]; exact ⟨Int.emod_nonneg _ (by omega), Int.emod_lt_of_pos _ (by omega)⟩) fun pl ⟨e0, e1⟩ => ?_
    rw [cut_to e0 (by omega), cut_from (by omega) (by omega)]
    refine okb (P := fun x : Tx => ∃ c ∈ x, c ≠ 35 ∧ c ≠ 46) ?_ fun x hx => okv (.inl (.inr (.inr hx)))
    refine okb (P := fun y : Tx => y.length ≤ 200 ∧ ∃ c ∈ y, c ≠ 35 ∧ c ≠ 46) (okb (P := fun s => ∃ c, s = [c] ∧ c ≠ 35 ∧ c ≠ 46) (okb (P := fun _ => True) (okmono (ok_get (by omega) (by omega)) fun _ _ => trivial) fun y _ => odd_ok y) fun s ⟨c, es, c1, c2⟩ => ?_) fun y ⟨yl, c, hcc, c1, c2⟩ => ?_
    · subst es
      refine okmono (ok_cat (by rw [List.length_take, List.length_singleton]; omega)) fun y ey => ?_
      subst ey
      exact ⟨by rw [List.length_append, List.length_take, List.length_singleton]; omega, c, by simp, c1, c2⟩
    · refine okmono (ok_cat (by rw [List.length_drop]; omega)) fun x ex => ?_
      subst ex
      exact ⟨c, List.mem_append_left _ hcc, c1, c2⟩
  · rw [decide_eq_false_iff_not] at q
    by_cases z : fault = 3
    · exact .inl (.inl (t3 z))
    · exact .inr ⟨t5 (by omega), h5 (by omega)⟩
end

section
variable {rows : List Tx} {w h : Nat}
theorem cloth37 {ns : List Int} {wide high layered : Int} (hl : ns.length = 63) (hn : ∀ x ∈ ns, 0 ≤ x ∧ x < 1000000) (w1 : 1 ≤ wide) (w2 : wide ≤ 40) (h1 : 1 ≤ high) (h2 : high ≤ 40) (l1 : 1 ≤ layered) : Okm (f_law_cloth ns wide high layered) (fun rows => Cloth rows wide.toNat high.toNat) := by
  have gt : ∀ i : Int, 0 ≤ i → i < 63 → Okm (getM ns i) (fun y => 0 ≤ y ∧ y < 1000000) := fun i h0 h1 => okmono (ok_get h0 (by omega)) fun y hy => hn y (List.mem_of_getElem? hy)
  unfold f_law_cloth
  show Okm (M.bind (rangeM 0 high) _) _
  refine okb ok_range fun xs e => ?_
  subst e
  refine okb (ok_forR (fun i (rows : List Tx) => rows.length = i ∧ ∀ r ∈ rows, r.length = wide.toNat ∧ ∀ c ∈ r, c = 35 ∨ c = 46) ⟨rfl, fun r h => nomatch h⟩ fun i rows hi ⟨a1, a2⟩ => ?_) fun rows ⟨a1, a2⟩ => okv ⟨by omega, fun r hr => (a2 r hr).1, fun r hr => (a2 r hr).2, by omega, by omega, by omega, by omega⟩
  unfold f_law_cloth_l2
  show Okm (M.bind (rangeM 0 wide) _) _
  refine okb ok_range fun xs e => ?_
  subst e
  refine okb (ok_forR (fun j (t : Tx) => t.length = j ∧ ∀ c ∈ t, c = 35 ∨ c = 46) ⟨by rw [tx_nil]; rfl, by rw [tx_nil]; exact fun c h => nomatch h⟩ fun j t hj ⟨b1, b2⟩ => ?_) fun t ⟨b1, b2⟩ => ?_
  · unfold f_law_cloth_l1
    refine okb (P := fun v => v = 0 ∨ v = 1) ?_ fun bit hbit => ?_
    · exact okb (P := fun _ => True) (okb (gt _ (by omega) (by omega)) fun y _ => okmono (ok_div (by omega) (by omega)) fun _ _ => trivial) fun y _ => okv (by omega)
    refine okb (P := fun v => v = 0 ∨ v = 1) (okif (fun _ => ?_) fun _ => okv hbit) fun v hv => ?_
    · refine okb (P := fun _ => True) (okb (P := fun _ => True) (okb (gt _ (by omega) (by omega)) fun y _ => okv trivial) fun y _ => okmono (ok_mod (by omega)) fun _ _ => trivial) fun up _ => ?_
      refine okb (P := fun _ => True) (okb (P := fun _ => True) (okb (gt _ (by omega) (by omega)) fun y _ => okv trivial) fun y _ => okmono (ok_mod (by omega)) fun _ _ => trivial) fun low _ => ?_
      refine okif (fun _ => okv ?_) fun _ => okv hbit
      cases decide (up < low)
      · exact .inl rfl
      · exact .inr rfl
    refine okb (P := fun t => t.length = j + 1 ∧ ∀ c ∈ t, c = 35 ∨ c = 46) ?_ fun t ht => okv ht
    refine okb (P := fun q => q = [35] ∨ q = [46]) ?_ fun q hq => okmono (ok_cat (by rcases hq with e | e <;> rw [e] <;> simp <;> omega)) fun y e => ?_
    · rw [show tx ".#" = [46, 35] by decide +kernel]
      rcases hv with e | e <;> subst e
      · exact ⟨[46], getS_at (by decide) rfl, .inr rfl⟩
      · exact ⟨[35], getS_at (by decide) rfl, .inl rfl⟩
    · subst e
      rcases hq with e | e <;> subst e
      · exact ⟨by simp [b1], fun c hc => (List.mem_append.mp hc).elim (b2 c) fun h => .inl (List.mem_singleton.mp h)⟩
      · exact ⟨by simp [b1], fun c hc => (List.mem_append.mp hc).elim (b2 c) fun h => .inr (List.mem_singleton.mp h)⟩
  · refine okb (ok_push (by omega)) fun rows' e => okv ?_
    subst e
    refine ⟨by simp [a1], fun r hr => ?_⟩
    rcases List.mem_append.mp hr with h | h
    · exact a2 r h
    · rw [List.mem_singleton.mp h]
      exact ⟨by omega, b2⟩
theorem spoilt_sh {ns sh : List Int} {n : Nat} (hl : ns.length = 63) (hn : ∀ x ∈ ns, 0 ≤ x ∧ x < 1000000) (hs : sh.length = n) (n1 : 1 ≤ n) (n2 : n ≤ 40) {fault : Int} (f0 : 0 ≤ fault) (f2 : fault ≤ 4) : Okm (f_law_spoilt_shuttles sh fault ns) (fun r => (fault = 0 → r = sh) ∧ (0 < fault → r.length ≠ n ∨ ∃ x ∈ r, x < 0 ∨ 7 < x)) := by
  have gt : ∀ i : Int, 0 ≤ i → i < 63 → Okm (getM ns i) (fun y => 0 ≤ y ∧ y < 1000000) := fun i h0 h1 => okmono (ok_get h0 (by omega)) fun y hy => hn y (List.mem_of_getElem? hy)
  unfold f_law_spoilt_shuttles
  refine okb (P := fun y => 0 ≤ y) (okb (gt _ (by omega) (by omega)) fun y hy => okv (Int.emod_nonneg _ (by decide))) fun far0 hf0 => ?_
  refine okb (P := fun _ => True) (okb (P := fun _ => True) (okb (gt _ (by omega) (by omega)) fun y _ => okv trivial) fun y _ => okv trivial) fun c _ => ?_
  refine okb (P := fun y => 0 ≤ y) (okif (fun _ => ?_) fun _ => okv hf0) fun far hf => ?_
  · refine okb (P := fun y => 0 ≤ y) ?_ fun z hz => okv hz
    refine okb (P := fun y => 0 ≤ y) (okb (gt _ (by omega) (by omega)) fun y hy => okmono (ok_mul 64 200 (by omega) (by decide)) fun z e => by rw [e]; exact Int.mul_nonneg hy.1 (by decide)) fun y hy => ?_
    exact okb (gt _ (by omega) (by omega)) fun z hz => okv (by omega)
  refine okb (P := fun r : List Int => (fault = 1 → r.length = n + 1) ∧ (fault ≠ 1 → r = sh)) (okif (fun q => ?_) fun q => ?_) fun r1 ⟨a1, a2⟩ => ?_
  · rw [decide_eq_true_eq] at q
    refine okb (P := fun _ => True) (okb (gt _ (by omega) (by omega)) fun y _ => okv trivial) fun y _ => ?_
    refine okb (ok_push (by omega)) fun r e => okv ⟨fun _ => by rw [e]; simp [hs], fun z => absurd q z⟩
  · rw [decide_eq_false_iff_not] at q
    exact okv ⟨fun z => absurd z q, fun _ => rfl⟩
  refine okb (P := fun r : List Int => (fault = 1 → r.length = n + 1) ∧ (fault = 2 → r.length + 1 = n) ∧ (fault ≠ 1 → fault ≠ 2 → r = sh)) (okif (fun q => ?_) fun q => ?_) fun r2 ⟨b1, b2, b3⟩ => ?_
  · rw [decide_eq_true_eq] at q
    have e1 := a2 (by omega)
    subst e1
    refine okb (P := fun i => 0 ≤ i ∧ i < (r1.length : Int)) (okb (gt _ (by omega) (by omega)) fun y _ => okmono (ok_mod (by omega)) fun z e => by
      rw [e]; exact ⟨Int.emod_nonneg _ (by omega), Int.emod_lt_of_pos _ (by omega)⟩) fun i ⟨i0, i1⟩ => ?_
    have ep : popAtM r1 i = .ok (r1.eraseIdx i.toNat) := by
      unfold popAtM; rw [if_pos ⟨i0, i1, by omega⟩]
    rw [ep, M.bind_ok]
    refine okv ⟨fun z => by omega, fun _ => ?_, fun _ z => absurd q z⟩
    rw [List.length_eraseIdx_of_lt (by omega)]; omega
  · rw [decide_eq_false_iff_not] at q
    exact okv ⟨a1, fun z => absurd z q, fun z _ => a2 z⟩
  have setat : ∀ (v : Int), r2 = sh → Okm (M.bind (M.bind (getM ns 5) fun y => modM y (r2.length : Int)) fun i => M.bind (setM r2 i v) fun m => M.ok m) (fun r => v ∈ r) := fun v e1 => by
    subst e1
    refine okb (P := fun i => 0 ≤ i ∧ i < (r2.length : Int)) (okb (gt _ (by omega) (by omega)) fun y _ => okmono (ok_mod (by omega)) fun z e => by
      rw [e]; exact ⟨Int.emod_nonneg _ (by omega), Int.emod_lt_of_pos _ (by omega)⟩) fun i ⟨i0, i1⟩ => ?_
    refine okb (ok_set i0 i1) fun m e => okv ?_
    rw [e]
    exact List.mem_of_getElem? (i := i.toNat) (List.getElem?_set_self (by omega))
  refine okb (P := fun r : List Int => (fault = 1 → r.length = n + 1) ∧ (fault = 2 → r.length + 1 = n) ∧ (fault = 3 → 8 + far ∈ r) ∧ (fault = 4 → r = sh) ∧ (fault = 0 → r = sh)) (okif (fun q => ?_) fun q => ?_) fun r3 ⟨c1, c2, c3, c4, c5⟩ => ?_
  · rw [decide_eq_true_eq] at q
    exact okmono (setat (8 + far) (b3 (by omega) (by omega))) fun r hr => ⟨fun z => by omega, fun z => by omega, fun _ => hr, fun z => by omega, fun z => by omega⟩
  · rw [decide_eq_false_iff_not] at q
    exact okv ⟨b1, b2, fun z => absurd z q, fun z => b3 (by omega) (by omega), fun z => b3 (by omega) (by omega)⟩
  refine okb (P := fun r : List Int => (fault = 1 → r.length = n + 1) ∧ (fault = 2 → r.length + 1 = n) ∧ (fault = 3 → 8 + far ∈ r) ∧ (fault = 4 → -1 - far ∈ r) ∧ (fault = 0 → r = sh)) (okif (fun q => ?_) fun q => ?_) fun r4 ⟨d1, d2, d3, d4, d5⟩ => okv ⟨d5, fun z => ?_⟩
  · rw [decide_eq_true_eq] at q
    have e1 := c4 q
    subst e1
    refine okb (P := fun i => 0 ≤ i ∧ i < (r3.length : Int)) (okb (gt _ (by omega) (by omega)) fun y _ => okmono (ok_mod (by omega)) fun z e => by
      rw [e]; exact ⟨Int.emod_nonneg _ (by omega), Int.emod_lt_of_pos _ (by omega)⟩) fun i ⟨i0, i1⟩ => ?_
    refine okb (ok_set i0 i1) fun m e => okv ⟨fun z => by omega, fun z => by omega, fun z => by omega, fun _ => ?_, fun z => by omega⟩
    rw [e]
    exact List.mem_of_getElem? (i := i.toNat) (List.getElem?_set_self (by omega))
  · rw [decide_eq_false_iff_not] at q
    exact okv ⟨c1, c2, c3, fun z => absurd z q, c5⟩
  · by_cases z1 : fault = 1
    · exact .inl (by have := d1 z1; omega)
    by_cases z2 : fault = 2
    · exact .inl (by have := d2 z2; omega)
    by_cases z3 : fault = 3
    · exact .inr ⟨_, d3 z3, .inr (by omega)⟩
    · exact .inr ⟨_, d4 (by omega), .inl (by omega)⟩
end
theorem law_math : ∀ ns : List Int, ns.length ≤ 63 → c_law (ns, ()) = .ok true := by
  intro script hl
  refine oke ?_
  show Okm (f_law script) _
  unfold f_law
  refine okb (numbers_ok hl (by omega) (by omega)) fun ns ⟨n1, n2⟩ => ?_
  have hns : ns.length = 63 := by rw [n1]; rfl
  have gt : ∀ i : Int, 0 ≤ i → i < 63 → Okm (getM ns i) (fun y => 0 ≤ y ∧ y < 1000000) := fun i h0 h1 => okmono (ok_get h0 (by omega)) fun y hy => n2 y (List.mem_of_getElem? hy)
  refine okb (P := fun f => 0 ≤ f ∧ f ≤ 6) (okb (P := fun y => y ≤ 6) (okb (P := fun y => 0 ≤ y ∧ y < 9) (okb (gt _ (by omega) (by omega)) fun y _ => okv ⟨Int.emod_nonneg _ (by decide), Int.emod_lt_of_pos _ (by decide)⟩) fun y hy => okv (by omega)) fun y hy => okv (by omega)) fun fault ⟨f0, f6⟩ => ?_
  refine okb (P := fun f => 0 ≤ f ∧ f ≤ 4) (okb (P := fun y => y ≤ 4) (okb (P := fun y => 0 ≤ y ∧ y < 6) (okb (gt _ (by omega) (by omega)) fun y _ => okv ⟨Int.emod_nonneg _ (by decide), Int.emod_lt_of_pos _ (by decide)⟩) fun y hy => okv (by omega)) fun y hy => okv (by omega)) fun other ⟨o0, o4⟩ => ?_
  refine okb (P := fun f => 1 ≤ f ∧ f ≤ 5) (okb (P := fun y => 0 ≤ y ∧ y < 5) (okb (gt _ (by omega) (by omega)) fun y _ => okv ⟨Int.emod_nonneg _ (by decide), Int.emod_lt_of_pos _ (by decide)⟩) fun y hy => okv (by omega)) fun high0 hh0 => ?_
  refine okb (P := fun f => 1 ≤ f ∧ f ≤ 5 ∧ (fault = 5 → 2 ≤ f)) (okif (fun q => ?_) fun q => ?_) fun high ⟨h1, h2, h3⟩ => ?_
  · refine okb (P := fun f => 1 ≤ f ∧ f ≤ 5 ∧ (fault = 5 → 2 ≤ f)) (okb (P := fun y => 0 ≤ y ∧ y < 4) (okb (gt _ (by omega) (by omega)) fun y _ => okv ⟨Int.emod_nonneg _ (by decide), Int.emod_lt_of_pos _ (by decide)⟩) fun y hy => okv ⟨by omega, by omega, fun _ => by omega⟩) fun f hf => okv hf
  · rw [decide_eq_false_iff_not] at q
    exact okv ⟨hh0.1, hh0.2, fun z => absurd z q⟩
  obtain ⟨h, rfl⟩ := Int.eq_ofNat_of_zero_le (a := high) (by omega)
  refine okb (P := fun rows => ∃ w, Cloth rows w h) ?_ fun given ⟨w, hc⟩ => ?_
  · refine okb (P := fun f => 1 ≤ f ∧ f ≤ 5) (okb (P := fun y => 0 ≤ y ∧ y < 5) (okb (gt _ (by omega) (by omega)) fun y _ => okv ⟨Int.emod_nonneg _ (by decide), Int.emod_lt_of_pos _ (by decide)⟩) fun y hy => okv (by omega)) fun wide hw => ?_
    refine okb (P := fun f => 1 ≤ f) (okb (P := fun y => 0 ≤ y ∧ y < 3) (okb (gt _ (by omega) (by omega)) fun y _ => okv ⟨Int.emod_nonneg _ (by decide), Int.emod_lt_of_pos _ (by decide)⟩) fun y hy => okv (by omega)) fun lay hlay => ?_
    exact okmono (cloth37 hns n2 (by omega) (by omega) (by omega) (by omega) hlay) fun rows hr => ⟨wide.toNat, by rwa [Int.toNat_natCast] at hr⟩
  rw [range_eq, M.bind_ok, show ((h : Int) - 0).toNat = h by omega]
  refine okb (ok_comp (fun (_ : Int) (x : Int) => 0 ≤ x ∧ x ≤ 7) (by rw [upFrom_len]; omega) fun j hj => ?_) fun sh ⟨sl, sb⟩ => ?_
  · rw [upFrom_mem] at hj
    refine okb (P := fun y => 0 ≤ y ∧ y ≤ 7) (okb (P := fun _ => True) (okb (gt _ (by omega) (by omega)) fun y _ => okv trivial) fun y _ => okv (by omega)) fun y hy => okv ⟨y, rfl, hy⟩
  rw [upFrom_len] at sl
  have h8 : ∀ x ∈ sh, 0 ≤ x ∧ x ≤ 7 := fun x hx => by
    obtain ⟨i, hi⟩ := List.mem_iff_getElem?.mp hx
    have hlt := (List.getElem?_eq_some_iff.mp hi).1
    exact sb i ((0 : Int) + i) x (by rw [upFrom_get, if_pos (by omega)]) hi
  refine okb (P := fun bad => (fault = 0 → bad = given) ∧ (0 < fault → ∀ w h, ¬ Cloth bad w h)) (okif (fun q => ?_) fun q => ?_) fun bad ⟨b1, b2⟩ => ?_
  · rw [decide_eq_true_eq] at q
    exact okb (spoilt_no hc hns (by omega) f6 (fun z => by have := h3 z; omega)) fun b hb => okv ⟨fun z => by omega, fun _ => hb⟩
  · rw [decide_eq_false_iff_not] at q
    exact okv ⟨fun _ => rfl, fun z => absurd z q⟩
  refine okb (spoilt_sh hns n2 sl (by omega) (by omega) o0 o4) fun odd ⟨d1, d2⟩ => ?_
  have tm : ∀ {α : Type} {m : M α} {P : α → Prop}, Okm m P → Okm m (fun _ => True) := fun hm => okmono hm fun _ _ => trivial
  have good : ∀ way, f_law_word way given sh = .ok (tx "told") := fun way => word_told (torn_any hc) (tm (seams_any hc h8 sl)) (tubes_any hc h8 sl) (sheets_any hc h8 sl) way
  refine okb ok_range fun xs e => ?_
  subst e
  refine okel (N := fun _ => True) (R := fun _ => False) (okmono (ok_forFR (fun _ _ => True) (fun _ => False) trivial fun i u hi _ => ?_) fun r hr => by cases r <;> exact hr) (fun u _ => okv rfl) fun r h => h.elim
  unfold f_law_l1
  rw [show (0 : Int) + (i : Int) = (i : Int) by omega]
  have key : ∀ due : Tx, f_law_word (i : Int) bad odd = .ok due → Okm (M.bind (M.bind (f_law_word (i : Int) bad odd) fun y => M.ok (!decide (y = due))) fun c163 => if c163 = true then M.ok (Fl.rt false) else M.bind (M.bind (f_law_word (i : Int) given sh) fun y => M.ok (!decide (y = (tx "told")))) fun c162 => if c162 = true then M.ok (Fl.rt false) else M.bind (M.bind (f_law_word (i : Int) bad odd) fun y => M.ok (!decide (y = due))) fun c161 => if c161 = true then M.ok (Fl.rt false) else M.ok (Fl.nx ())) (FlP (fun _ => True) fun _ => False) := fun due hd => by
    rw [hd, good]
    simp only [M.bind_ok]
    rw [if_neg (by simp), if_neg (by simp), if_neg (by simp)]
    exact okv trivial
  by_cases ff : 0 < fault
  · have hm := measured_ex (b2 ff)
    have e0 : f_taken_apart bad = .ex .noCloth := by unfold f_taken_apart; rw [hm]; rfl
    have e1 : f_seams_of bad odd = .ex .noCloth := by unfold f_seams_of; rw [hm]; rfl
    have e2 : f_tubes_of bad odd = .ex .noCloth := by unfold f_tubes_of; rw [e1]; rfl
    have e3 : f_sheets_of bad odd = .ex .noCloth := by unfold f_sheets_of; rw [e1]; rfl
    have hw := word_ex (i : Int) (fun _ => e0) e1 e2 e3 (.inl rfl)
    rw [if_pos rfl] at hw
    refine okb (P := fun _ => True) (okif (fun _ => okv trivial) fun _ => okv trivial) fun d0 _ => ?_
    rw [if_pos (by simp [ff])]
    show Okm (M.bind (M.ok (tx "NoCloth")) _) _
    rw [M.bind_ok]
    exact key _ hw
  · have eb := b1 (by omega)
    subst eb
    refine okb (P := fun d => d = if 0 < other ∧ 0 < i then tx "NoShuttle" else tx "told") (okif (fun q => okv ?_) fun q => okv ?_) fun due0 ed0 => ?_
    · simp only [Bool.and_eq_true, decide_eq_true_eq] at q
      rw [if_pos ⟨q.1, by omega⟩]
    · simp only [Bool.and_eq_false_iff, decide_eq_false_iff_not] at q
      rw [if_neg (by omega)]
    have fin : ∀ due : Tx, f_law_word (i : Int) bad odd = .ok due → Okm (M.bind (if decide ((0 : Int) < fault) = true then let due120 : Tx := (tx "NoCloth"); M.ok due120 else M.ok due) fun (s121 : Tx) => M.bind (M.bind (f_law_word (i : Int) bad odd) fun y => M.ok (!decide (y = s121))) fun c163 => if c163 = true then M.ok (Fl.rt false) else M.bind (M.bind (f_law_word (i : Int) bad sh) fun y => M.ok (!decide (y = (tx "told")))) fun c162 => if c162 = true then M.ok (Fl.rt false) else M.bind (M.bind (f_law_word (i : Int) bad odd) fun y => M.ok (!decide (y = s121))) fun c161 => if c161 = true then M.ok (Fl.rt false) else M.ok (Fl.nx ())) (FlP (fun _ => True) fun _ => False) := fun due hd => by
      rw [if_neg (by simp [ff]), M.bind_ok]
      exact key due hd
    by_cases fo : 0 < other
    · have hs := seen_bad (d2 fo)
      have e1 : f_seams_of bad odd = .ex .noShuttle := by
        unfold f_seams_of; rw [measured_ok hc, M.bind_ok]
        show M.bind (f_seen_shuttles odd (h : Int)) _ = _
        rw [hs]; rfl
      have e2 : f_tubes_of bad odd = .ex .noShuttle := by unfold f_tubes_of; rw [e1]; rfl
      have e3 : f_sheets_of bad odd = .ex .noShuttle := by unfold f_sheets_of; rw [e1]; rfl
      by_cases wi : 0 < i
      · have hw := word_ex (i : Int) (fun z => by omega) e1 e2 e3 (.inr rfl)
        rw [if_neg (by decide)] at hw
        rw [if_pos ⟨fo, wi⟩] at ed0
        subst ed0
        exact fin _ hw
      · have hi0 : i = 0 := by omega
        subst hi0
        have hw : f_law_word ((0 : Nat) : Int) bad odd = .ok (tx "told") := by
          obtain ⟨_, e0, _⟩ := torn_any hc
          unfold f_law_word
          rw [e0]
          simp only [M.bind_ok]
          rw [if_pos (by decide)]
          rfl
        rw [if_neg (by omega)] at ed0
        subst ed0
        exact fin _ hw
    · have ed := d1 (by omega)
      subst ed
      rw [if_neg (by omega)] at ed0
      subst ed0
      exact fin _ (good _)
/-! ### the head and the end -/
def dds : List He.DefD := ([⟨("_law_numbers", none), "_law_numbers", "_law_numbers", defArgs (topS 37), defBody (topS 37), defScope (topS 37), [], []⟩, ⟨("_law_cloth", none), "_law_cloth", "_law_cloth", defArgs (topS 38), defBody (topS 38), defScope (topS 38), [], []⟩, ⟨("_law_odd_sign", none), "_law_odd_sign", "_law_odd_sign", defArgs (topS 40), defBody (topS 40), defScope (topS 40), [], []⟩, ⟨("_law_spoilt_cloth", none), "_law_spoilt_cloth", "_law_spoilt_cloth", defArgs (topS 41), defBody (topS 41), defScope (topS 41), [], []⟩, ⟨("_law_spoilt_shuttles", none), "_law_spoilt_shuttles", "_law_spoilt_shuttles", defArgs (topS 42), defBody (topS 42), defScope (topS 42), [], []⟩, ⟨("measured", none), "measured", "measured", defArgs (topS 17), defBody (topS 17), defScope (topS 17), [], []⟩, ⟨("scores_of", none), "scores_of", "scores_of", defArgs (topS 19), defBody (topS 19), defScope (topS 19), [], []⟩, ⟨("by_count", none), "by_count", "by_count", defArgs (topS 21), defBody (topS 21), defScope (topS 21), [], []⟩, ⟨("running_sums", none), "running_sums", "running_sums", defArgs (topS 22), defBody (topS 22), defScope (topS 22), [], []⟩, ⟨("tops_of", none), "tops_of", "tops_of", defArgs (topS 23), defBody (topS 23), defScope (topS 23), [], []⟩, ⟨("layers_of", none), "layers_of", "layers_of", defArgs (topS 24), defBody (topS 24), defScope (topS 24), [], []⟩, ⟨("row_cut", none), "row_cut", "row_cut", defArgs (topS 33), defBody (topS 33), defScope (topS 33), [], []⟩, ⟨("cut_out", none), "cut_out", "cut_out", defArgs (topS 34), defBody (topS 34), defScope (topS 34), [], []⟩, ⟨("taken_apart", none), "taken_apart", "taken_apart", defArgs (topS 35), defBody (topS 35), defScope (topS 35), [], []⟩, ⟨("seen_shuttles", none), "seen_shuttles", "seen_shuttles", defArgs (topS 27), defBody (topS 27), defScope (topS 27), [], []⟩, ⟨("layer_numbers", none), "layer_numbers", "layer_numbers", defArgs (topS 25), defBody (topS 25), defScope (topS 25), [], []⟩, ⟨("turns_made", none), "turns_made", "turns_made", defArgs (topS 28), defBody (topS 28), defScope (topS 28), [], []⟩, ⟨("seams_of", none), "seams_of", "seams_of", defArgs (topS 29), defBody (topS 29), defScope (topS 29), [], []⟩, ⟨("tubes_of", none), "tubes_of", "tubes_of", defArgs (topS 30), defBody (topS 30), defScope (topS 30), [], []⟩, ⟨("sheets_of", none), "sheets_of", "sheets_of", defArgs (topS 31), defBody (topS 31), defScope (topS 31), [], []⟩, ⟨("_law_word", none), "_law_word", "_law_word", defArgs (topS 39), defBody (topS 39), defScope (topS 39), [], []⟩, ⟨("law", none), "law", "law", defArgs (topS 43), defBody (topS 43), defScope (topS 43), [], []⟩, ⟨("WeaveError", some "called"), "called", "WeaveError.called", defArgs s_clWeaveError, defBody s_clWeaveError, defScope s_clWeaveError, [], []⟩, ⟨("NoRow", some "called"), "called", "NoRow.called", defArgs s_clNoRow, defBody s_clNoRow, defScope s_clNoRow, [], []⟩, ⟨("TooLarge", some "called"), "called", "TooLarge.called", defArgs s_clTooLarge, defBody s_clTooLarge, defScope s_clTooLarge, [], []⟩, ⟨("NoCloth", some "called"), "called", "NoCloth.called", defArgs s_clNoCloth, defBody s_clNoCloth, defScope s_clNoCloth, [], []⟩, ⟨("NoDraft", some "called"), "called", "NoDraft.called", defArgs s_clNoDraft, defBody s_clNoDraft, defScope s_clNoDraft, [], []⟩, ⟨("NoStrand", some "called"), "called", "NoStrand.called", defArgs s_clNoStrand, defBody s_clNoStrand, defScope s_clNoStrand, [], []⟩, ⟨("NoDeed", some "called"), "called", "NoDeed.called", defArgs s_clNoDeed, defBody s_clNoDeed, defScope s_clNoDeed, [], []⟩, ⟨("NoLaying", some "called"), "called", "NoLaying.called", defArgs s_clNoLaying, defBody s_clNoLaying, defScope s_clNoLaying, [], []⟩] : List He.DefD) ++ ([⟨("NoShuttle", some "called"), "called", "NoShuttle.called", defArgs s_clNoShuttle, defBody s_clNoShuttle, defScope s_clNoShuttle, [], []⟩, ⟨("NoColour", some "called"), "called", "NoColour.called", defArgs s_clNoColour, defBody s_clNoColour, defScope s_clNoColour, [], []⟩, ⟨("NoBlock", some "called"), "called", "NoBlock.called", defArgs s_clNoBlock, defBody s_clNoBlock, defScope s_clNoBlock, [], []⟩, ⟨("NoPattern", some "called"), "called", "NoPattern.called", defArgs s_clNoPattern, defBody s_clNoPattern, defScope s_clNoPattern, [], []⟩, ⟨("Unknown", some "called"), "called", "Unknown.called", defArgs s_clUnknown, defBody s_clUnknown, defScope s_clUnknown, [], []⟩, ⟨("Twice", some "called"), "called", "Twice.called", defArgs s_clTwice, defBody s_clTwice, defScope s_clTwice, [], []⟩] : List He.DefD)
def fas : List He.Fa := ([.glo "_law_numbers", .glo "_law_cloth", .glo "_law_odd_sign", .glo "_law_spoilt_cloth", .glo "_law_spoilt_shuttles", .glo "measured", .glo "scores_of", .glo "by_count", .glo "running_sums", .glo "tops_of", .glo "layers_of", .glo "row_cut", .glo "cut_out", .glo "taken_apart", .glo "seen_shuttles", .glo "layer_numbers", .glo "turns_made", .glo "seams_of", .glo "tubes_of", .glo "sheets_of", .glo "_law_word", .glo "law", .free "ValueError", .free "enumerate", .free "int", .free "isinstance", .free "len", .free "list", .free "max", .free "min"] : List He.Fa) ++ ([.free "range", .free "sorted", .int "MOST_STRANDS" 40, .glo "NoBlock", .exc "NoBlock", .glo "NoCloth", .exc "NoCloth", .glo "NoColour", .exc "NoColour", .glo "NoDeed", .exc "NoDeed", .glo "NoDraft", .exc "NoDraft", .glo "NoLaying", .exc "NoLaying", .glo "NoPattern", .exc "NoPattern", .glo "NoRow", .exc "NoRow", .glo "NoShuttle", .exc "NoShuttle", .glo "NoStrand", .exc "NoStrand", .glo "TooLarge", .exc "TooLarge", .glo "Twice", .exc "Twice", .glo "Unknown", .exc "Unknown", .glo "WeaveError"] : List He.Fa) ++ ([.exc "WeaveError", .meth "WeaveError" "called", .meth "NoRow" "called", .meth "TooLarge" "called", .meth "NoCloth" "called", .meth "NoDraft" "called", .meth "NoStrand" "called", .meth "NoDeed" "called", .meth "NoLaying" "called", .meth "NoShuttle" "called", .meth "NoColour" "called", .meth "NoBlock" "called", .meth "NoPattern" "called", .meth "Unknown" "called", .meth "Twice" "called"] : List He.Fa)
def loose : List Str := (["WeaveError", "NoRow", "TooLarge", "NoCloth", "NoDraft", "NoStrand", "NoDeed", "NoLaying", "NoShuttle", "NoColour", "NoBlock", "NoPattern", "Unknown", "Twice", "MOST_STRANDS", "measured", "scores_of", "by_count", "running_sums", "tops_of", "layers_of", "layer_numbers", "seen_shuttles", "turns_made", "seams_of", "tubes_of", "sheets_of", "row_cut", "cut_out", "taken_apart"] : List Str) ++ (["_law_numbers", "_law_cloth", "_law_word", "_law_odd_sign", "_law_spoilt_cloth", "_law_spoilt_shuttles"] : List Str)
abbrev hdR : PySem.W.OpenRow := PySem.W.OpenLaw.row PySem.Challenge.rw_heddle_k37_no_shuttle
abbrev hk : PySem.W.Hook := He.hookX 6 fas dds [] [("by_count", none)] (knB kn_)
def ob (s : PySem.W.SharedT) : He.AlX := He.obsX 6 fas dds [] [("by_count", none)] (knB kn_) (HandSHeadRun.getT s)
theorem ob_eq (s : PySem.W.SharedT) : ob s = hk.obs s.abs := He.obsX_eq (HandSHeadRun.getT_eq s)
theorem run (w : World) : HandSHeadRun.RunEq hdR (PySem.W.view hdR.prog [43]) hk ob 9000 loose w := by intro os; kernel_rfl
theorem facts_of {K : PySem.W.Frag} {h : Heap} {mg : Str → Option Value} {P : Program} {w : World} {base : Heap} (X : K.In h) (G : h.Ns mainGlobals mg) (kx : knB kn_ K = true) (c : He.SaysD fas dds K) (TB : LamX.TabB base mg (He.cT K ("by_count", none)).1 (He.cT K ("by_count", none)).2) : Facts ⟨P, w, K, mg, base, fun c => He.ga K (ecName c), some (He.cT K ("by_count", none)).2⟩ where
  g_ValueError := He.free_ok X G (c.fact 22 (f := .free "ValueError") rfl)
  g_enumerate := He.free_ok X G (c.fact 23 (f := .free "enumerate") rfl)
  g_int := He.free_ok X G (c.fact 24 (f := .free "int") rfl)
  g_isinstance := He.free_ok X G (c.fact 25 (f := .free "isinstance") rfl)
  g_len := He.free_ok X G (c.fact 26 (f := .free "len") rfl)
  g_list := He.free_ok X G (c.fact 27 (f := .free "list") rfl)
  g_max := He.free_ok X G (c.fact 28 (f := .free "max") rfl)
  g_min := He.free_ok X G (c.fact 29 (f := .free "min") rfl)
  g_range := He.free_ok X G (c.fact 30 (f := .free "range") rfl)
  g_sorted := He.free_ok X G (c.fact 31 (f := .free "sorted") rfl)
  c_MOST_STRANDS := He.int_ok X G (c.fact 32 (f := .int "MOST_STRANDS" 40) rfl)
  x_NoBlock := exF X G rfl (c.fact 33 (f := .glo "NoBlock") rfl) (c.fact 34 (f := .exc "NoBlock") rfl)
  x_NoCloth := exF X G rfl (c.fact 35 (f := .glo "NoCloth") rfl) (c.fact 36 (f := .exc "NoCloth") rfl)
  x_NoColour := exF X G rfl (c.fact 37 (f := .glo "NoColour") rfl) (c.fact 38 (f := .exc "NoColour") rfl)
  x_NoDeed := exF X G rfl (c.fact 39 (f := .glo "NoDeed") rfl) (c.fact 40 (f := .exc "NoDeed") rfl)
  x_NoDraft := exF X G rfl (c.fact 41 (f := .glo "NoDraft") rfl) (c.fact 42 (f := .exc "NoDraft") rfl)
  x_NoLaying := exF X G rfl (c.fact 43 (f := .glo "NoLaying") rfl) (c.fact 44 (f := .exc "NoLaying") rfl)
  x_NoPattern := exF X G rfl (c.fact 45 (f := .glo "NoPattern") rfl) (c.fact 46 (f := .exc "NoPattern") rfl)
  x_NoRow := exF X G rfl (c.fact 47 (f := .glo "NoRow") rfl) (c.fact 48 (f := .exc "NoRow") rfl)
  x_NoShuttle := exF X G rfl (c.fact 49 (f := .glo "NoShuttle") rfl) (c.fact 50 (f := .exc "NoShuttle") rfl)
  x_NoStrand := exF X G rfl (c.fact 51 (f := .glo "NoStrand") rfl) (c.fact 52 (f := .exc "NoStrand") rfl)
  x_TooLarge := exF X G rfl (c.fact 53 (f := .glo "TooLarge") rfl) (c.fact 54 (f := .exc "TooLarge") rfl)
  x_Twice := exF X G rfl (c.fact 55 (f := .glo "Twice") rfl) (c.fact 56 (f := .exc "Twice") rfl)
  x_Unknown := exF X G rfl (c.fact 57 (f := .glo "Unknown") rfl) (c.fact 58 (f := .exc "Unknown") rfl)
  x_WeaveError := exF X G rfl (c.fact 59 (f := .glo "WeaveError") rfl) (c.fact 60 (f := .exc "WeaveError") rfl)
  kn := kn_ok kx
  cl_WeaveError := by
    obtain ⟨fd, F⟩ := c.def_ 22 (d := ⟨("WeaveError", some "called"), "called", "WeaveError.called", defArgs s_clWeaveError, defBody s_clWeaveError, defScope s_clWeaveError, [], []⟩) rfl
    exact cl_WeaveError F (He.meth_ok (c.fact 61 (f := .meth "WeaveError" "called") rfl))
  cl_NoRow := by
    obtain ⟨fd, F⟩ := c.def_ 23 (d := ⟨("NoRow", some "called"), "called", "NoRow.called", defArgs s_clNoRow, defBody s_clNoRow, defScope s_clNoRow, [], []⟩) rfl
    exact cl_NoRow F (He.meth_ok (c.fact 62 (f := .meth "NoRow" "called") rfl))
  cl_TooLarge := by
    obtain ⟨fd, F⟩ := c.def_ 24 (d := ⟨("TooLarge", some "called"), "called", "TooLarge.called", defArgs s_clTooLarge, defBody s_clTooLarge, defScope s_clTooLarge, [], []⟩) rfl
    exact cl_TooLarge F (He.meth_ok (c.fact 63 (f := .meth "TooLarge" "called") rfl))
  cl_NoCloth := by
    obtain ⟨fd, F⟩ := c.def_ 25 (d := ⟨("NoCloth", some "called"), "called", "NoCloth.called", defArgs s_clNoCloth, defBody s_clNoCloth, defScope s_clNoCloth, [], []⟩) rfl
    exact cl_NoCloth F (He.meth_ok (c.fact 64 (f := .meth "NoCloth" "called") rfl))
  cl_NoDraft := by
    obtain ⟨fd, F⟩ := c.def_ 26 (d := ⟨("NoDraft", some "called"), "called", "NoDraft.called", defArgs s_clNoDraft, defBody s_clNoDraft, defScope s_clNoDraft, [], []⟩) rfl
    exact cl_NoDraft F (He.meth_ok (c.fact 65 (f := .meth "NoDraft" "called") rfl))
  cl_NoStrand := by
    obtain ⟨fd, F⟩ := c.def_ 27 (d := ⟨("NoStrand", some "called"), "called", "NoStrand.called", defArgs s_clNoStrand, defBody s_clNoStrand, defScope s_clNoStrand, [], []⟩) rfl
    exact cl_NoStrand F (He.meth_ok (c.fact 66 (f := .meth "NoStrand" "called") rfl))
  cl_NoDeed := by
    obtain ⟨fd, F⟩ := c.def_ 28 (d := ⟨("NoDeed", some "called"), "called", "NoDeed.called", defArgs s_clNoDeed, defBody s_clNoDeed, defScope s_clNoDeed, [], []⟩) rfl
    exact cl_NoDeed F (He.meth_ok (c.fact 67 (f := .meth "NoDeed" "called") rfl))
  cl_NoLaying := by
    obtain ⟨fd, F⟩ := c.def_ 29 (d := ⟨("NoLaying", some "called"), "called", "NoLaying.called", defArgs s_clNoLaying, defBody s_clNoLaying, defScope s_clNoLaying, [], []⟩) rfl
    exact cl_NoLaying F (He.meth_ok (c.fact 68 (f := .meth "NoLaying" "called") rfl))
  cl_NoShuttle := by
    obtain ⟨fd, F⟩ := c.def_ 30 (d := ⟨("NoShuttle", some "called"), "called", "NoShuttle.called", defArgs s_clNoShuttle, defBody s_clNoShuttle, defScope s_clNoShuttle, [], []⟩) rfl
    exact cl_NoShuttle F (He.meth_ok (c.fact 69 (f := .meth "NoShuttle" "called") rfl))
  cl_NoColour := by
    obtain ⟨fd, F⟩ := c.def_ 31 (d := ⟨("NoColour", some "called"), "called", "NoColour.called", defArgs s_clNoColour, defBody s_clNoColour, defScope s_clNoColour, [], []⟩) rfl
    exact cl_NoColour F (He.meth_ok (c.fact 70 (f := .meth "NoColour" "called") rfl))
  cl_NoBlock := by
    obtain ⟨fd, F⟩ := c.def_ 32 (d := ⟨("NoBlock", some "called"), "called", "NoBlock.called", defArgs s_clNoBlock, defBody s_clNoBlock, defScope s_clNoBlock, [], []⟩) rfl
    exact cl_NoBlock F (He.meth_ok (c.fact 71 (f := .meth "NoBlock" "called") rfl))
  cl_NoPattern := by
    obtain ⟨fd, F⟩ := c.def_ 33 (d := ⟨("NoPattern", some "called"), "called", "NoPattern.called", defArgs s_clNoPattern, defBody s_clNoPattern, defScope s_clNoPattern, [], []⟩) rfl
    exact cl_NoPattern F (He.meth_ok (c.fact 72 (f := .meth "NoPattern" "called") rfl))
  cl_Unknown := by
    obtain ⟨fd, F⟩ := c.def_ 34 (d := ⟨("Unknown", some "called"), "called", "Unknown.called", defArgs s_clUnknown, defBody s_clUnknown, defScope s_clUnknown, [], []⟩) rfl
    exact cl_Unknown F (He.meth_ok (c.fact 73 (f := .meth "Unknown" "called") rfl))
  cl_Twice := by
    obtain ⟨fd, F⟩ := c.def_ 35 (d := ⟨("Twice", some "called"), "called", "Twice.called", defArgs s_clTwice, defBody s_clTwice, defScope s_clTwice, [], []⟩) rfl
    exact cl_Twice F (He.meth_ok (c.fact 74 (f := .meth "Twice" "called") rfl))
  d__law_numbers := by
    obtain ⟨fd, F⟩ := c.def_ 0 (d := ⟨("_law_numbers", none), "_law_numbers", "_law_numbers", defArgs (topS 37), defBody (topS 37), defScope (topS 37), [], []⟩) rfl
    exact ⟨_, fd, F, He.glo_ok X G (c.fact 0 (f := .glo "_law_numbers") rfl)⟩
  d__law_cloth := by
    obtain ⟨fd, F⟩ := c.def_ 1 (d := ⟨("_law_cloth", none), "_law_cloth", "_law_cloth", defArgs (topS 38), defBody (topS 38), defScope (topS 38), [], []⟩) rfl
    exact ⟨_, fd, F, He.glo_ok X G (c.fact 1 (f := .glo "_law_cloth") rfl)⟩
  d__law_odd_sign := by
    obtain ⟨fd, F⟩ := c.def_ 2 (d := ⟨("_law_odd_sign", none), "_law_odd_sign", "_law_odd_sign", defArgs (topS 40), defBody (topS 40), defScope (topS 40), [], []⟩) rfl
    exact ⟨_, fd, F, He.glo_ok X G (c.fact 2 (f := .glo "_law_odd_sign") rfl)⟩
  d__law_spoilt_cloth := by
    obtain ⟨fd, F⟩ := c.def_ 3 (d := ⟨("_law_spoilt_cloth", none), "_law_spoilt_cloth", "_law_spoilt_cloth", defArgs (topS 41), defBody (topS 41), defScope (topS 41), [], []⟩) rfl
    exact ⟨_, fd, F, He.glo_ok X G (c.fact 3 (f := .glo "_law_spoilt_cloth") rfl)⟩
  d__law_spoilt_shuttles := by
    obtain ⟨fd, F⟩ := c.def_ 4 (d := ⟨("_law_spoilt_shuttles", none), "_law_spoilt_shuttles", "_law_spoilt_shuttles", defArgs (topS 42), defBody (topS 42), defScope (topS 42), [], []⟩) rfl
    exact ⟨_, fd, F, He.glo_ok X G (c.fact 4 (f := .glo "_law_spoilt_shuttles") rfl)⟩
  d_measured := by
    obtain ⟨fd, F⟩ := c.def_ 5 (d := ⟨("measured", none), "measured", "measured", defArgs (topS 17), defBody (topS 17), defScope (topS 17), [], []⟩) rfl
    exact ⟨_, fd, F, He.glo_ok X G (c.fact 5 (f := .glo "measured") rfl)⟩
  d_scores_of := by
    obtain ⟨fd, F⟩ := c.def_ 6 (d := ⟨("scores_of", none), "scores_of", "scores_of", defArgs (topS 19), defBody (topS 19), defScope (topS 19), [], []⟩) rfl
    exact ⟨_, fd, F, He.glo_ok X G (c.fact 6 (f := .glo "scores_of") rfl)⟩
  d_by_count := by
    obtain ⟨fd, F⟩ := c.def_ 7 (d := ⟨("by_count", none), "by_count", "by_count", defArgs (topS 21), defBody (topS 21), defScope (topS 21), [], []⟩) rfl
    exact ⟨_, fd, F, He.glo_ok X G (c.fact 7 (f := .glo "by_count") rfl), _, _, code_of (q := ("by_count", none)) F, rfl, TB⟩
  d_running_sums := by
    obtain ⟨fd, F⟩ := c.def_ 8 (d := ⟨("running_sums", none), "running_sums", "running_sums", defArgs (topS 22), defBody (topS 22), defScope (topS 22), [], []⟩) rfl
    exact ⟨_, fd, F, He.glo_ok X G (c.fact 8 (f := .glo "running_sums") rfl)⟩
  d_tops_of := by
    obtain ⟨fd, F⟩ := c.def_ 9 (d := ⟨("tops_of", none), "tops_of", "tops_of", defArgs (topS 23), defBody (topS 23), defScope (topS 23), [], []⟩) rfl
    exact ⟨_, fd, F, He.glo_ok X G (c.fact 9 (f := .glo "tops_of") rfl)⟩
  d_layers_of := by
    obtain ⟨fd, F⟩ := c.def_ 10 (d := ⟨("layers_of", none), "layers_of", "layers_of", defArgs (topS 24), defBody (topS 24), defScope (topS 24), [], []⟩) rfl
    exact ⟨_, fd, F, He.glo_ok X G (c.fact 10 (f := .glo "layers_of") rfl)⟩
  d_row_cut := by
    obtain ⟨fd, F⟩ := c.def_ 11 (d := ⟨("row_cut", none), "row_cut", "row_cut", defArgs (topS 33), defBody (topS 33), defScope (topS 33), [], []⟩) rfl
    exact ⟨_, fd, F, He.glo_ok X G (c.fact 11 (f := .glo "row_cut") rfl)⟩
  d_cut_out := by
    obtain ⟨fd, F⟩ := c.def_ 12 (d := ⟨("cut_out", none), "cut_out", "cut_out", defArgs (topS 34), defBody (topS 34), defScope (topS 34), [], []⟩) rfl
    exact ⟨_, fd, F, He.glo_ok X G (c.fact 12 (f := .glo "cut_out") rfl)⟩
  d_taken_apart := by
    obtain ⟨fd, F⟩ := c.def_ 13 (d := ⟨("taken_apart", none), "taken_apart", "taken_apart", defArgs (topS 35), defBody (topS 35), defScope (topS 35), [], []⟩) rfl
    exact ⟨_, fd, F, He.glo_ok X G (c.fact 13 (f := .glo "taken_apart") rfl)⟩
  d_seen_shuttles := by
    obtain ⟨fd, F⟩ := c.def_ 14 (d := ⟨("seen_shuttles", none), "seen_shuttles", "seen_shuttles", defArgs (topS 27), defBody (topS 27), defScope (topS 27), [], []⟩) rfl
    exact ⟨_, fd, F, He.glo_ok X G (c.fact 14 (f := .glo "seen_shuttles") rfl)⟩
  d_layer_numbers := by
    obtain ⟨fd, F⟩ := c.def_ 15 (d := ⟨("layer_numbers", none), "layer_numbers", "layer_numbers", defArgs (topS 25), defBody (topS 25), defScope (topS 25), [], []⟩) rfl
    exact ⟨_, fd, F, He.glo_ok X G (c.fact 15 (f := .glo "layer_numbers") rfl)⟩
  d_turns_made := by
    obtain ⟨fd, F⟩ := c.def_ 16 (d := ⟨("turns_made", none), "turns_made", "turns_made", defArgs (topS 28), defBody (topS 28), defScope (topS 28), [], []⟩) rfl
    exact ⟨_, fd, F, He.glo_ok X G (c.fact 16 (f := .glo "turns_made") rfl)⟩
  d_seams_of := by
    obtain ⟨fd, F⟩ := c.def_ 17 (d := ⟨("seams_of", none), "seams_of", "seams_of", defArgs (topS 29), defBody (topS 29), defScope (topS 29), [], []⟩) rfl
    exact ⟨_, fd, F, He.glo_ok X G (c.fact 17 (f := .glo "seams_of") rfl)⟩
  d_tubes_of := by
    obtain ⟨fd, F⟩ := c.def_ 18 (d := ⟨("tubes_of", none), "tubes_of", "tubes_of", defArgs (topS 30), defBody (topS 30), defScope (topS 30), [], []⟩) rfl
    exact ⟨_, fd, F, He.glo_ok X G (c.fact 18 (f := .glo "tubes_of") rfl)⟩
  d_sheets_of := by
    obtain ⟨fd, F⟩ := c.def_ 19 (d := ⟨("sheets_of", none), "sheets_of", "sheets_of", defArgs (topS 31), defBody (topS 31), defScope (topS 31), [], []⟩) rfl
    exact ⟨_, fd, F, He.glo_ok X G (c.fact 19 (f := .glo "sheets_of") rfl)⟩
  d__law_word := by
    obtain ⟨fd, F⟩ := c.def_ 20 (d := ⟨("_law_word", none), "_law_word", "_law_word", defArgs (topS 39), defBody (topS 39), defScope (topS 39), [], []⟩) rfl
    exact ⟨_, fd, F, He.glo_ok X G (c.fact 20 (f := .glo "_law_word") rfl)⟩
  d_law := by
    obtain ⟨fd, F⟩ := c.def_ 21 (d := ⟨("law", none), "law", "law", defArgs (topS 43), defBody (topS 43), defScope (topS 43), [], []⟩) rfl
    exact ⟨_, fd, F, He.glo_ok X G (c.fact 21 (f := .glo "law") rfl)⟩
abbrev lawD : He.DefD := ⟨("law", none), "law", "law", defArgs (topS 43), defBody (topS 43), defScope (topS 43), [], []⟩
end Hd
open PySem PySem.W PySem.Calls PyProof.Rows
set_option maxHeartbeats 0
theorem PySem.Challenge.cw_heddle_k37_no_shuttle_holds : PySem.Challenge.rw_heddle_k37_no_shuttle.Holds := by
  w_on; o_law
  refine HandSHeadRun.head_any (r := OpenLaw.row PySem.Challenge.rw_heddle_k37_no_shuttle) (q := view (OpenLaw.row PySem.Challenge.rw_heddle_k37_no_shuttle).prog [43]) (H := Hd.hk) (ob := Hd.ob) (M := 9000) (loose := Hd.loose) (d := HandSHeadRun.topDef (OpenLaw.row PySem.Challenge.rw_heddle_k37_no_shuttle).prog 43) (kwd := []) Hd.ob_eq
    (by kernel_rfl) (fun s => by kernel_rfl) Hd.run (by kernel_rfl) (by kernel_rfl) (by kernel_rfl) (by rfl) (by first | assumption | decide +kernel) (by decide +kernel) ⟨rfl, rfl, rfl, rfl, rfl, by decide +kernel⟩ ?hw ?hc
  case hw => w_witness2
  case hc =>
    refine Hd.law_endT (l := PySem.Challenge.rw_heddle_k37_no_shuttle) (k := 9) (cl := Hd.c_law) rfl (by kernel_rfl) ⟨rfl, by decide, by decide⟩ ?F Hd.law_math
    intro w mg fa h Y G hmg0
    obtain ⟨K, KX, cX⟩ := Y
    have c := cX.t.d
    have kx : Hd.knB Hd.kn_ K = true := cX.more
    have hmg : mg ("law" : PySem.Str) = some (.ref fa) := by
      have e : (HandSHeadRun.topDef (OpenLaw.row PySem.Challenge.rw_heddle_k37_no_shuttle).prog 43).name = ("law" : PySem.Str) := by kernel_rfl
      rw [← e]
      exact hmg0
    obtain ⟨fd, hF⟩ := c.def_ 21 (d := Hd.lawD) rfl
    have hm := He.glo_ok KX G (c.fact 21 (f := .glo "law") rfl)
    have e := hm.symm.trans hmg
    cases e
    have mem : (("by_count", none) : He.Defn) ∈ ([("by_count", none)] : List He.Defn) := List.mem_singleton_self _
    exact ⟨K, fd, fun c => He.ga K (Hd.ecName c), (He.cT K ("by_count", none)).1, (He.cT K ("by_count", none)).2, KX, cX.empty _ mem, cX.out _ mem, PySem.W.codeHd_of_K KX (cX.hd _ mem), fun s v => Hd.L2_bindsA hF s v, fun base TB => Hd.fnok_law (Hd.facts_of KX G kx c TB) hF⟩
