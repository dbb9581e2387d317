import PyProof.Rows.All
import Wide.All
import OpenK.AllK
import Wide.FinOn
import HandS.Base
import HandS.Call
import HandS.List
import HandS.Comp
import HandS.Ends
import HandS.Dict
import HandS.Iter
import HandS.Text
import HandS.Words
import HandS.WordsList
import HandS.Exc
import HandS.TryOnly
import HandS.ExcOwn
import HandS.Defaults
import HandS.Lambda
import HandS.Flow
import HandS.RaiseOp
import HandS.TryElse
import HandS.Wide
import HandS.StrMore
import HandS.StrSplit
import HandS.WordsExc
import HandS.Strs
import HandS.IsInst
import HandS.SetFor
import KE.KStateDown
import HandS.Head0
import HandS.Head1
import HandS.Head2
import HandS.HeadEnd
import HandS.HeadHook1
import HandS.HeadHook2
import PyProof.Rows.RegReprOcc
import PyProof.StrOps2
import HandS.ExcIs
import HandS.TryMany
import KE.KExcMore
import HandS.Deep
import PyProof.Draws
import PyProof.EnumMake
import PyProof.LongRange
import KE.GoesZip
import KE.GoesMore
import HandS.RevTup
import HandS.Small
import HandS.Conv
import HandS.Rev
import KE.SortKeyHeap
import HandS.Nested
import HandS.Sort
import HandS.HeadWalk
import HandS.HeadHook4
import HandS.More
import HandS.WideBits
import PyProof.ListIndexNeg
import KE.DataCmp
import KE.SortData
import HandS.Codes
import PySem.Challenge.RW_heddle_k06_woven
set_option Elab.async false
set_option linter.all false
set_option maxRecDepth 100000
set_option maxHeartbeats 0
set_option exponentiation.threshold 20000
namespace Hd
open PySem PySem.Spec L2

/-- the classes of refusals -/
inductive Ec where
  | weave | noRow | tooLarge | noCloth | noDraft | noStrand | noDeed | noLaying | noShuttle | noColour | noBlock | noPattern | unknown | twice
  deriving DecidableEq, Repr

/-- what a piece of the program comes to: a value, a refusal, or nothing that is promised here -/
inductive M (α : Type) where
  | ok (a : α)
  | ex (c : Ec)
  | no
def M.bind {α β : Type} : M α → (α → M β) → M β
  | .ok a, f => f a
  | .ex c, _ => .ex c
  | .no, _ => .no
/-- where nothing can be let out -/
def M.nox {α : Type} : M α → M α
  | .ok a => .ok a
  | _ => .no
@[simp] theorem M.bind_ok {α β : Type} (a : α) (f : α → M β) : M.bind (.ok a) f = f a := rfl
@[simp] theorem M.bind_ex {α β : Type} (c : Ec) (f : α → M β) : M.bind (.ex c) f = .ex c := rfl
@[simp] theorem M.bind_no {α β : Type} (f : α → M β) : M.bind .no f = .no := rfl
@[simp] theorem M.nox_ok {α : Type} (a : α) : M.nox (.ok a) = .ok a := rfl

/-- all but the tables of code objects -/
def nt : HO → Bool
  | .tbl _ => false
  | _ => true
def cl (H : Hp) : Hp := fun a => match H a with
  | some (.tbl _) => none
  | x => x
theorem cl_of {H : Hp} {a : Addr} {o : HO} (h : H a = some o) (n : nt o = true := by rfl) : cl H a = some o := by
  unfold cl; rw [h]; cases o <;> first | rfl | cases n
theorem cl_raw {H : Hp} {a : Addr} {o : HO} (h : cl H a = some o) : H a = some o := by
  unfold cl at h; split at h <;> first | exact h | cases h
theorem cl_nt {H : Hp} {a : Addr} {o : HO} (h : cl H a = some o) : nt o = true := by
  unfold cl at h
  split at h
  · cases h
  · rename_i x hx
    cases o <;> first | rfl | exact absurd h (hx _)
theorem cl_none {H : Hp} {a : Addr} (h : H a = none) : cl H a = none := by unfold cl; rw [h]
theorem cl_upd_ne {H : Hp} {a q : Addr} {o : HO} (h : a ≠ q) : cl (upd H q o) a = cl H a := by unfold cl; rw [upd_ne h]
/-- the one lambda of the program: its name -/
def lamQ : Str := "by_count.<locals>.<lambda>"
/-- a later heap: tables may have grown -/
structure Same (H H' : Hp) : Prop where
  keep : ∀ a o, H a = some o → nt o = true → H' a = some o
  fr : ∀ a, H' a = none → H a = none
  tab : ∀ P, LamX.TabS H P lamQ → LamX.TabS H' P lamQ
theorem Same.of {H H' : Hp} (h : L2.Same H H') : Same H H' := ⟨fun a o e _ => h a o e, fun a e => h.free e, fun P t => t.ext h⟩
theorem Same.refl (H : Hp) : Same H H := .of (L2.Same.refl H)
theorem Same.trans {H H1 H2 : Hp} (a : Same H H1) (b : Same H1 H2) : Same H H2 := ⟨fun x o e n => b.keep x o (a.keep x o e n) n, fun x e => a.fr x (b.fr x e), fun P t => b.tab P (a.tab P t)⟩
theorem Same.free {H H' : Hp} (s : Same H H') {l : Addr} (h : H' l = none) : H l = none := s.fr l h
theorem Same.cl {H H' : Hp} (s : Same H H') : L2.Same (cl H) (cl H') := fun a o e => cl_of (s.keep a o (cl_raw e) (cl_nt e)) (cl_nt e)
/-- a thing of one's own is written -/
theorem Same.wr {H0 H : Hp} {q : Addr} {o u : HO} (s : Same H0 H) (n0 : H0 q = none) (hq : H q = some u) (hu : ∀ φ, u ≠ .ext φ) (hn : nt u = true) : Same H0 (upd H q o) := by
  refine ⟨fun a o' e n => ?_, fun a e => ?_, fun P t => ?_⟩
  · rw [upd_ne (ne_of_none e n0)]; exact s.keep a o' e n
  · by_cases z : a = q
    · rw [z, upd_same] at e; cases e
    · rw [upd_ne z] at e; exact s.fr a e
  · obtain ⟨ps, h1, h2, h3⟩ := s.tab P t
    have np : P ≠ q := fun z => by rw [z, hq] at h1; cases h1; cases hn
    refine ⟨ps, by rw [upd_ne np]; exact h1, h2, fun pos cv hc => ?_⟩
    obtain ⟨c, e1, e2⟩ := h3 pos cv hc
    have nc : c ≠ q := fun z => by rw [z, hq] at e2; exact hu _ (Option.some.inj e2)
    exact ⟨c, e1, by rw [upd_ne nc]; exact e2⟩
/-- what may be read -/
abbrev RdR := Addr → HO → Prop
/-- data of a kind, and how a value of the program stands for it -/
structure Ty (α : Type) where
  rep : α → V → RdR → Prop
  mono : ∀ {d v} {R R' : RdR}, rep d v R → (∀ a o, R a o → R' a o) → rep d v R'

inductive Reps {α : Type} (T : Ty α) (R : RdR) : List α → List V → Prop where
  | nil : Reps T R [] []
  | cons {d ds v vs} : T.rep d v R → Reps T R ds vs → Reps T R (d :: ds) (v :: vs)
section
variable {α : Type} {T : Ty α} {R R' : RdR} {ds es : List α} {vs ws : List V}
theorem Reps.mono (h : Reps T R ds vs) (s : ∀ a o, R a o → R' a o) : Reps T R' ds vs := by
  induction h with
  | nil => exact .nil
  | cons r _ ih => exact .cons (T.mono r s) ih
theorem Reps.length (h : Reps T R ds vs) : ds.length = vs.length := by
  induction h with
  | nil => rfl
  | cons _ _ ih => simp [ih]
theorem Reps.append (h : Reps T R ds vs) (k : Reps T R es ws) : Reps T R (ds ++ es) (vs ++ ws) := by
  induction h with
  | nil => exact k
  | cons r _ ih => exact .cons r ih
theorem Reps.get (h : Reps T R ds vs) : ∀ {i : Nat} {d : α}, ds[i]? = some d → ∃ v, vs[i]? = some v ∧ T.rep d v R := by
  induction h with
  | nil => intro i d e; simp at e
  | cons r _ ih =>
    intro i d e
    cases i with
    | zero => simp at e; subst e; exact ⟨_, rfl, r⟩
    | succ i => obtain ⟨v, e1, r1⟩ := ih (i := i) (d := d) (by simpa using e); exact ⟨v, by simpa using e1, r1⟩
theorem Reps.get' (h : Reps T R ds vs) : ∀ {i : Nat} {v : V}, vs[i]? = some v → ∃ d, ds[i]? = some d ∧ T.rep d v R := by
  induction h with
  | nil => intro i d e; simp at e
  | cons r _ ih =>
    intro i d e
    cases i with
    | zero => simp at e; subst e; exact ⟨_, rfl, r⟩
    | succ i => obtain ⟨v, e1, r1⟩ := ih (i := i) (v := d) (by simpa using e); exact ⟨v, by simpa using e1, r1⟩
theorem Reps.set {d : α} {v : V} (h : Reps T R ds vs) (r : T.rep d v R) : ∀ (i : Nat), Reps T R (ds.set i d) (vs.set i v) := by
  induction h with
  | nil => intro i; exact .nil
  | cons q t ih =>
    intro i
    cases i with
    | zero => exact .cons r t
    | succ i => exact .cons q (ih i)
theorem Reps.take (h : Reps T R ds vs) : ∀ n, Reps T R (ds.take n) (vs.take n) := by
  induction h with
  | nil => intro n; simp; exact .nil
  | cons r _ ih => intro n; cases n with
    | zero => exact .nil
    | succ n => exact .cons r (ih n)
theorem Reps.drop (h : Reps T R ds vs) : ∀ n, Reps T R (ds.drop n) (vs.drop n) := by
  induction h with
  | nil => intro n; simp; exact .nil
  | cons r t ih => intro n; cases n with
    | zero => exact .cons r t
    | succ n => exact ih n
theorem Reps.reverse (h : Reps T R ds vs) : Reps T R ds.reverse vs.reverse := by
  induction h with
  | nil => exact .nil
  | cons r _ ih => rw [List.reverse_cons, List.reverse_cons]; exact ih.append (.cons r .nil)
theorem Reps.dropLast (h : Reps T R ds vs) : Reps T R ds.dropLast vs.dropLast := by
  rw [List.dropLast_eq_take, List.dropLast_eq_take, h.length]; exact h.take _
end

/-! ### kinds of data -/
def tInt : Ty Int := ⟨fun n v _ => v = .int n, fun h _ => h⟩
def tBool : Ty Bool := ⟨fun b v _ => v = .bl b, fun h _ => h⟩
/-- a text, as its signs -/
abbrev Tx := List Nat
def toS (x : Tx) : Str := ⟨x.toArray⟩
/-- short enough, of signs -/
def OkTx (x : Tx) : Prop := x.length ≤ sizeLine ∧ ∀ c ∈ x, c < 0x110000
def tStr : Ty Tx := ⟨fun x v _ => v = .str (toS x) ∧ OkTx x, fun h _ => h⟩
def tNone : Ty Unit := ⟨fun _ v _ => v = .non, fun h _ => h⟩
def tOpt {α : Type} (T : Ty α) : Ty (Option α) := ⟨fun d v R => match d with | none => v = .non | some d => T.rep d v R ∧ v ≠ .non, fun {d v R R'} h s => by
  cases d with
  | none => exact h
  | some d => exact ⟨T.mono h.1 s, h.2⟩⟩
def tList {α : Type} (T : Ty α) : Ty (List α) := ⟨fun ds v R => ∃ a vs, v = .ref a ∧ R a (.lst vs) ∧ Reps T R ds vs, fun ⟨a, vs, e, r, h⟩ s => ⟨a, vs, e, s _ _ r, h.mono s⟩⟩
/-- a tuple of any length -/
def tTupL {α : Type} (T : Ty α) : Ty (List α) := ⟨fun ds v R => ∃ a vs, v = .ref a ∧ R a (.tup vs) ∧ Reps T R ds vs, fun ⟨a, vs, e, r, h⟩ s => ⟨a, vs, e, s _ _ r, h.mono s⟩⟩
/-- the written items of a list, an argument list, a tuple -/
structure Ar (δ : Type) where
  rep : δ → List V → RdR → Prop
  mono : ∀ {d vs} {R R' : RdR}, rep d vs R → (∀ a o, R a o → R' a o) → rep d vs R'
def aNil : Ar Unit := ⟨fun _ vs _ => vs = [], fun h _ => h⟩
def aCons {α β : Type} (T : Ty α) (A : Ar β) : Ar (α × β) := ⟨fun d vs R => ∃ v r, vs = v :: r ∧ T.rep d.1 v R ∧ A.rep d.2 r R, fun ⟨v, r, e, h1, h2⟩ s => ⟨v, r, e, T.mono h1 s, A.mono h2 s⟩⟩
/-- a tuple of written items -/
def tTup {δ : Type} (A : Ar δ) : Ty δ := ⟨fun d v R => ∃ a vs, v = .ref a ∧ R a (.tup vs) ∧ A.rep d vs R, fun ⟨a, vs, e, r, h⟩ s => ⟨a, vs, e, s _ _ r, A.mono h s⟩⟩
abbrev tPair {α β : Type} (S : Ty α) (T : Ty β) : Ty (α × β × Unit) := tTup (aCons S (aCons T aNil))
abbrev tTrip {α β γ : Type} (S : Ty α) (T : Ty β) (U : Ty γ) : Ty (α × β × γ × Unit) := tTup (aCons S (aCons T (aCons U aNil)))
/-- all items of one kind -/
def aAll {α : Type} (T : Ty α) : Ar (List α) := ⟨fun ds vs R => Reps T R ds vs, fun h s => h.mono s⟩

/-! ### what may be read where -/
/-- a tuple of the written part -/
def KObj (K : PySem.W.Frag) (a : Addr) : HO → Prop
  | .tup xs => ∃ (o : Obj) (its : Array Value) (n : Nat), K.lookup a = some o ∧ o.cls = .type "tuple" ∧ o.data = .seq its n ∧ its.size ≤ sizeLine ∧ Vals xs its.toList
  | _ => False
/-- a def's frame: the heap it began with; the callers' own things, which its arguments don't reach -/
structure Fm where
  K : PySem.W.Frag
  H0 : Hp
  z : Addr → Prop
/-- how new a thing is: sh: it may be shared; f0: made since the def began; fx: made since the expression began -/
inductive Md where | sh | f0 | fx
def RD (fm : Fm) (own : List Addr) (H : Hp) : RdR := fun a o => (Rd (cl H) a o ∧ a ∉ own ∧ ¬ fm.z a) ∨ KObj fm.K a o
/-- .. at H' behind an expression that began at H -/
def RX (fm : Fm) (own : List Addr) (H H' : Hp) : Md → RdR
  | .sh => RD fm own H'
  | .f0 => fun a o => cl H' a = some o ∧ a ∉ own ∧ ¬ fm.z a ∧ fm.H0 a = none
  | .fx => fun a o => cl H' a = some o ∧ a ∉ own ∧ ¬ fm.z a ∧ fm.H0 a = none ∧ H a = none
theorem Rd.clo {H : Hp} {a : Addr} {o : HO} (r : Rd H a o) (n : nt o = true := by rfl) : Rd (cl H) a o := r.imp (fun h => cl_of h n) fun ⟨f, h⟩ => ⟨f, cl_of h⟩
theorem Rd.raw {H : Hp} {a : Addr} {o : HO} (r : Rd (cl H) a o) : Rd H a o := r.imp cl_raw fun ⟨f, h⟩ => ⟨f, cl_raw h⟩
theorem Rd.same {H H' : Hp} {a : Addr} {o : HO} (s : Same H H') (r : Rd (cl H) a o) : Rd (cl H') a o := by
  rcases r with r | ⟨f, r⟩
  · exact .inl (s.cl _ _ r)
  · exact .inr ⟨f, s.cl _ _ r⟩
theorem Rd.some {H : Hp} {a : Addr} {o : HO} (r : Rd H a o) : H a ≠ none := by
  rcases r with r | ⟨f, r⟩ <;> rw [r] <;> exact fun e => by cases e
theorem RD.same {fm : Fm} {own : List Addr} {H H' : Hp} (s : Same H H') : ∀ a o, RD fm own H a o → RD fm own H' a o := fun _ _ r => r.imp (fun ⟨r, h⟩ => ⟨Rd.same s r, h⟩) id
theorem RX.same {fm : Fm} {own : List Addr} {H H1 H2 : Hp} {md : Md} (s : Same H1 H2) : ∀ a o, RX fm own H H1 md a o → RX fm own H H2 md a o := fun a o r => by
  cases md with
  | sh => exact RD.same s a o r
  | f0 => exact ⟨s.cl _ _ r.1, r.2⟩
  | fx => exact ⟨s.cl _ _ r.1, r.2⟩
/-- from a later beginning -/
theorem RX.later {fm : Fm} {own : List Addr} {H H1 H2 : Hp} {md : Md} (s : Same H H1) : ∀ a o, RX fm own H1 H2 md a o → RX fm own H H2 md a o := fun a o r => by
  cases md with
  | sh => exact r
  | f0 => exact r
  | fx => exact ⟨r.1, r.2.1, r.2.2.1, r.2.2.2.1, s.free r.2.2.2.2⟩
theorem RX.sh {fm : Fm} {own : List Addr} {H H' : Hp} {md : Md} : ∀ a o, RX fm own H H' md a o → RX fm own H H' .sh a o := fun a o r => by
  cases md with
  | sh => exact r
  | f0 => exact .inl ⟨.inl r.1, r.2.1, r.2.2.1⟩
  | fx => exact .inl ⟨.inl r.1, r.2.1, r.2.2.1⟩
theorem RX.f0 {fm : Fm} {own : List Addr} {H H' : Hp} : ∀ a o, RX fm own H H' .fx a o → RX fm own H H' .f0 a o := fun a o r => ⟨r.1, r.2.1, r.2.2.1, r.2.2.2.1⟩
theorem RX.fx {fm : Fm} {own : List Addr} {H H' : Hp} (md : Md) : ∀ a o, RX fm own H H' .fx a o → RX fm own H H' md a o := fun a o r => by
  cases md with
  | sh => exact RX.sh a o r
  | f0 => exact RX.f0 a o r
  | fx => exact r
/-- what can be read is there -/
theorem RX.list {fm : Fm} {own : List Addr} {H H' : Hp} {md : Md} {a : Addr} {vs : List V} (r : RX fm own H H' md a (.lst vs)) : SqL fm.K H' a vs := by
  rcases RX.sh a _ r with r | r
  · exact .inl (Rd.raw r.1)
  · exact r.elim
theorem RX.tup {fm : Fm} {own : List Addr} {H H' : Hp} {md : Md} {a : Addr} {vs : List V} (r : RX fm own H H' md a (.tup vs)) : SqT fm.K H' a vs := by
  rcases RX.sh a _ r with r | r
  · exact .inl (Rd.raw r.1)
  · exact .inr r

/-! ### slots -/
structure Slot where
  ok : Option V → Hp → (Bool → RdR) → List Addr → Prop
  st : ∀ {v H H' F} {R R' : Bool → RdR}, ok v H R F → (∀ b a o, R b a o → R' b a o) → (∀ p ∈ F, H' p = H p) → ok v H' R' F
  tb : ∀ {v H F} {R : Bool → RdR}, ok v H R F → ∀ p ∈ F, cl H p ≠ none
/-- nothing is known of it -/
def sAny : Slot := ⟨fun _ _ _ F => F = [], fun h _ _ => h, fun h p hp => by subst h; exact nomatch hp⟩
/-- a value (b: made since the def began) -/
def sV {α : Type} (b : Bool) (T : Ty α) (d : α) : Slot := ⟨fun v _ R F => F = [] ∧ ∃ x, v = some x ∧ T.rep d x (R b), fun ⟨e, x, h, r⟩ s _ => ⟨e, x, h, T.mono r (s b)⟩, fun ⟨e, _⟩ p hp => by subst e; exact nomatch hp⟩
/-- a list of one's own, which may be changed -/
def sOwn {α : Type} (b : Bool) (T : Ty α) (ds : List α) : Slot := ⟨fun v H R F => ∃ p xs, v = some (.ref p) ∧ F = [p] ∧ H p = some (.lst xs) ∧ Reps T (R b) ds xs,
  fun ⟨p, xs, e, f, h, r⟩ s k => ⟨p, xs, e, f, by rw [k p (by simp [f])]; exact h, r.mono (s b)⟩, fun ⟨p, xs, e, f, h, r⟩ q hq => by subst f; rw [List.mem_singleton.mp hq, cl_of h]; exact fun z => nomatch z⟩
inductive AllS (H : Hp) (R : Bool → RdR) : List Slot → L2.St → List (List Addr) → Prop where
  | nil : AllS H R [] [] []
  | cons {s L v σ F Fs} : s.ok v H R F → AllS H R L σ Fs → AllS H R (s :: L) (v :: σ) (F :: Fs)
def RB (fm : Fm) (own : List Addr) (H : Hp) (b : Bool) : RdR := RX fm own H H (if b then .f0 else .sh)
section
variable {H H' : Hp} {R R' : Bool → RdR} {L : List Slot} {σ : L2.St} {Fs : List (List Addr)}
theorem AllS.st (h : AllS H R L σ Fs) (s : ∀ b a o, R b a o → R' b a o) (k : ∀ p ∈ Fs.flatten, H' p = H p) : AllS H' R' L σ Fs := by
  induction h with
  | nil => exact .nil
  | @cons sl L v σ F Fs r t ih =>
    exact .cons (sl.st r s fun p hp => k p (by simp [hp])) (ih fun p hp => k p (by simp only [List.flatten_cons, List.mem_append]; exact .inr hp))
theorem AllS.tb (h : AllS H R L σ Fs) : ∀ p ∈ Fs.flatten, cl H p ≠ none := by
  induction h with
  | nil => intro p hp; simp at hp
  | @cons s L v σ F Fs r _ ih =>
    intro p hp
    rw [List.flatten_cons, List.mem_append] at hp
    exact hp.elim (s.tb r p) (ih p)
theorem AllS.len (h : AllS H R L σ Fs) : σ.length = L.length := by
  induction h with
  | nil => rfl
  | cons _ _ ih => simp [ih]
theorem AllS.get (h : AllS H R L σ Fs) : ∀ {i : Nat} {s : Slot}, L[i]? = some s → ∃ v F, σ[i]? = some v ∧ Fs[i]? = some F ∧ s.ok v H R F := by
  induction h with
  | nil => intro i s e; simp at e
  | cons r _ ih =>
    intro i s e
    cases i with
    | zero => simp at e; subst e; exact ⟨_, _, rfl, rfl, r⟩
    | succ i => obtain ⟨v, F, e1, e2, r1⟩ := ih (i := i) (s := s) (by simpa using e); exact ⟨v, F, by simpa using e1, by simpa using e2, r1⟩
theorem AllS.set (h : AllS H R L σ Fs) {s : Slot} {v : Option V} {F : List Addr} (r : s.ok v H R F) : ∀ (i : Nat), AllS H R (L.set i s) (σ.set i v) (Fs.set i F) := by
  induction h with
  | nil => intro i; exact .nil
  | cons q t ih =>
    intro i
    cases i with
    | zero => exact .cons r t
    | succ i => exact .cons q (ih i)
end

/-- where a def's body stands: its frame, its slots, what it owns, what is kept readable -/
structure At (fm : Fm) (kp : RdR) (L : List Slot) (σ : L2.St) (H : Hp) (own : List Addr) : Prop where
  same : Same fm.H0 H
  zin : ∀ a, fm.z a → H a ≠ none
  sl : ∃ Fs, AllS H (RB fm own H) L σ Fs ∧ own = Fs.flatten
  nd : own.Nodup
  new : ∀ p ∈ own, H p ≠ none ∧ fm.H0 p = none ∧ ¬ fm.z p
  kept : ∀ a o, kp a o → RD fm own H a o
theorem RB.same {fm : Fm} {own : List Addr} {H H' : Hp} (s : Same H H') : ∀ b a o, RB fm own H b a o → RB fm own H' b a o := fun b a o r => by
  unfold RB at r ⊢
  cases b <;> exact RX.same s a o r
section
variable {fm : Fm} {kp : RdR} {L : List Slot} {σ : L2.St} {H H' : Hp} {own : List Addr}
theorem At.ext (h : At fm kp L σ H own) (s : Same H H') : At fm kp L σ H' own := by
  obtain ⟨h1, h2, ⟨Fs, h3, e⟩, h4, h5, h6⟩ := h
  refine ⟨h1.trans s, fun a z n => h2 a z (s.free n), ⟨Fs, h3.st (RB.same s) fun p hp => ?_, e⟩, h4, fun p hp => ?_, fun a o k => RD.same s a o (h6 a o k)⟩
  · obtain ⟨q, _⟩ := h5 p (by rw [e]; exact hp)
    cases r : cl H p with
    | none => exact absurd r (h3.tb p hp)
    | some o => rw [cl_raw r]; exact s.keep _ _ (cl_raw r) (cl_nt r)
  · obtain ⟨q, q2⟩ := h5 p hp
    refine ⟨fun z => q (s.free z), q2⟩
end

/-! ### weakening -/
/-- some slots forgotten -/
inductive Wk : List Slot → List Slot → Prop where
  | n : Wk [] []
  | s {s L L'} : Wk L L' → Wk (s :: L) (s :: L')
  | a {s L L'} : Wk L L' → Wk (s :: L) (sAny :: L')
theorem Wk.refl : ∀ L, Wk L L
  | [] => .n
  | _ :: L => .s (Wk.refl L)
theorem Wk.anys : ∀ {L : List Slot} {n : Nat}, L.length = n → Wk L (List.replicate n sAny)
  | [], _, e => by subst e; exact .n
  | _ :: L, _, e => by subst e; exact Wk.a (Wk.anys (L := L) rfl)
theorem RX.own {fm : Fm} {own own' : List Addr} {H H' : Hp} {md : Md} (k : ∀ p ∈ own', p ∈ own) : ∀ a o, RX fm own H H' md a o → RX fm own' H H' md a o := fun a o r => by
  cases md with
  | sh => exact r.imp (fun ⟨h1, h2, h3⟩ => ⟨h1, fun q => h2 (k a q), h3⟩) id
  | f0 => exact ⟨r.1, fun q => r.2.1 (k a q), r.2.2⟩
  | fx => exact ⟨r.1, fun q => r.2.1 (k a q), r.2.2⟩
theorem RB.own {fm : Fm} {own own' : List Addr} {H : Hp} (k : ∀ p ∈ own', p ∈ own) : ∀ b a o, RB fm own H b a o → RB fm own' H b a o := fun _ a o r => RX.own k a o r
theorem wk_fs {H : Hp} {R : Bool → RdR} {L L' : List Slot} (w : Wk L L') : ∀ {σ : L2.St} {Fs : List (List Addr)}, AllS H R L σ Fs → ∃ Fs', AllS H R L' σ Fs' ∧ List.Sublist Fs'.flatten Fs.flatten := by
  induction w with
  | n => intro σ Fs h; exact ⟨Fs, h, List.Sublist.refl _⟩
  | s _ ih =>
    intro σ Fs h
    cases h with
    | @cons _ _ _ _ F _ r t =>
      obtain ⟨Fs', h', k⟩ := ih t
      exact ⟨F :: Fs', .cons r h', by simpa using List.Sublist.append (List.Sublist.refl F) k⟩
  | a _ ih =>
    intro σ Fs h
    cases h with
    | @cons _ _ _ _ F _ r t =>
      obtain ⟨Fs', h', k⟩ := ih t
      exact ⟨[] :: Fs', .cons rfl h', by simpa using List.Sublist.trans k (List.sublist_append_right F _)⟩
section
variable {fm : Fm} {kp kp' : RdR} {L L' : List Slot} {σ : L2.St} {H H' : Hp} {own : List Addr}
theorem At.weak (h : At fm kp L σ H own) (w : Wk L L') : ∃ own', At fm kp L' σ H own' ∧ ∀ p ∈ own', p ∈ own := by
  obtain ⟨h1, h2, ⟨Fs, h3, rfl⟩, h4, h5, h6⟩ := h
  obtain ⟨Fs', h7, k⟩ := wk_fs w h3
  have kk : ∀ p ∈ Fs'.flatten, p ∈ Fs.flatten := fun p hp => k.subset hp
  exact ⟨_, ⟨h1, h2, ⟨Fs', h7.st (RB.own kk) fun _ _ => rfl, rfl⟩, h4.sublist k, fun p hp => h5 p (kk p hp), fun a o q => RX.own (md := .sh) (H := H) kk a o (h6 a o q)⟩, kk⟩
theorem At.keep (h : At fm kp L σ H own) (k : ∀ a o, kp' a o → kp a o) : At fm kp' L σ H own := ⟨h.same, h.zin, h.sl, h.nd, h.new, fun a o q => h.kept a o (k a o q)⟩
/-- the slots' count -/
theorem At.len (h : At fm kp L σ H own) : σ.length = L.length := by
  obtain ⟨_, h3, _⟩ := h.sl
  exact h3.len
/-- a slot that owns nothing is set to a thing that owns nothing -/
theorem set_same_nil {Fs : List (List Addr)} : ∀ {i : Nat}, Fs[i]? = some [] → (Fs.set i []).flatten = Fs.flatten := by
  induction Fs with
  | nil => intro i _; rfl
  | cons F Fs ih =>
    intro i e
    cases i with
    | zero => simp at e; subst e; rfl
    | succ i => simp only [List.set_cons_succ, List.flatten_cons]; rw [ih (by simpa using e)]
theorem set_sub {Fs : List (List Addr)} : ∀ {i : Nat}, List.Sublist (Fs.set i []).flatten Fs.flatten := by
  induction Fs with
  | nil => intro i; exact List.Sublist.refl _
  | cons F Fs ih =>
    intro i
    cases i with
    | zero => simpa using List.sublist_append_right F _
    | succ i => simpa using List.Sublist.append (List.Sublist.refl F) (ih (i := i))
theorem At.setV {i : Nat} {b : Bool} {α : Type} {T : Ty α} {d : α} {v : V} (h : At fm kp L σ H own) (r : T.rep d v (RB fm own H b)) : ∃ own', At fm kp (L.set i (sV b T d)) (σ.set i (some v)) H own' := by
  obtain ⟨h1, h2, ⟨Fs, h3, rfl⟩, h4, h5, h6⟩ := h
  have kk : ∀ p ∈ (Fs.set i []).flatten, p ∈ Fs.flatten := fun p hp => (set_sub (i := i)).subset hp
  refine ⟨_, h1, h2, ⟨Fs.set i [], (h3.st (RB.own kk) fun _ _ => rfl).set (s := sV b T d) ⟨rfl, v, rfl, T.mono r (RB.own kk b)⟩ i, rfl⟩, h4.sublist set_sub, fun p hp => h5 p (kk p hp), fun a o q => RX.own (md := .sh) (H := H) kk a o (h6 a o q)⟩
end

/-! ### judgements -/
/-- what is wanted of a refusal -/
abbrev Wx := Ec → L2.St → Hp → Prop
structure G where
  X : Cx
  fm : Fm
  W : Wx
  LX : List Slot
/-- an expression that is worth m, told as T; md: how new it is -/
def tE (fm : Fm) (W : Wx) (L : List Slot) (md : Md) {α : Type} (T : Ty α) (m : M α) : TE := fun σ H Q => ∃ kp own, At fm kp L σ H own ∧
  match m with
  | .ok d => ∀ v H', Same H H' → T.rep d v (RX fm own H H' md) → Q v H'
  | .ex c => ∀ H', Same H H' → W c σ H'
  | .no => False
def tT (fm : Fm) (W : Wx) (L : List Slot) (m : M Bool) : TT := fun σ H Q => ∃ kp own, At fm kp L σ H own ∧
  match m with
  | .ok d => ∀ H', Same H H' → Q d H'
  | .ex c => ∀ H', Same H H' → W c σ H'
  | .no => False
def tA (fm : Fm) (W : Wx) (L : List Slot) (md : Md) {δ : Type} (A : Ar δ) (m : M δ) : TA := fun σ H Q => ∃ kp own, At fm kp L σ H own ∧
  match m with
  | .ok d => ∀ vs H', Same H H' → A.rep d vs (RX fm own H H' md) → Q vs H'
  | .ex c => ∀ H', Same H H' → W c σ H'
  | .no => False
/-- a list that the expression makes -/
def tL (fm : Fm) (W : Wx) (L : List Slot) (md : Md) {α : Type} (S : Ty α) (m : M (List α)) : TE := fun σ H Q => ∃ kp own, At fm kp L σ H own ∧
  match m with
  | .ok ds => ∀ p vs H', Same H H' → H p = none → H' p = some (.lst vs) → Reps S (RX fm (p :: own) H H' md) ds vs → Q (.ref p) H'
  | .ex c => ∀ H', Same H H' → W c σ H'
  | .no => False
def EvL (g : G) (L : List Slot) (e : Expr) (md : Md) {α : Type} (S : Ty α) (m : M (List α)) : Prop := PE g.X e (tL g.fm g.W L md S m)
def EvE (g : G) (L : List Slot) (e : Expr) (md : Md) {α : Type} (T : Ty α) (m : M α) : Prop := PE g.X e (tE g.fm g.W L md T m)
def EvT (g : G) (L : List Slot) (e : Expr) (m : M Bool) : Prop := PT g.X e (tT g.fm g.W L m)
def EvA (g : G) (L : List Slot) (es : List Expr) (md : Md) {δ : Type} (A : Ar δ) (m : M δ) : Prop := PA g.X es (tA g.fm g.W L md A m)

/-- how a block ends -/
inductive Out where
  | nx (L : List Slot)
  | ct (L : List Slot)
  | go (L : List Slot)
  | rt {ρ : Type} (md : Bool) (T : Ty ρ) (r : ρ)
  | rtL {ρ : Type} (md : Bool) (T : Ty ρ) (r : List ρ)
  /-- any other way of handing back -/
  | gen (f : Fm → VK → Prop)
  | bad
def Out.cut : Out → Out
  | .go L => .ct L
  | .nx _ => .bad
  | o => o
/-- .. of what is handed back; q: not by this one -/
def RT (fm : Fm) (H' : Hp) (b : Bool) (q : Option Addr := none) : RdR := RX fm q.toList H' H' (if b then .f0 else .sh)
def OutOk (fm : Fm) (kp : RdR) (E : Ends) : Out → Prop
  | .nx L => ∀ σ H own, At fm kp L σ H own → E.nx σ H
  | .ct L => ∀ σ H own, At fm kp L σ H own → E.ct σ H
  | .go L => ∀ σ H own, At fm kp L σ H own → E.nx σ H ∧ E.ct σ H
  | .rt md T r => ∀ v H', Same fm.H0 H' → T.rep r v (RT fm H' md) → E.rt v H'
  | .rtL md T r => ∀ p vs H', Same fm.H0 H' → ¬ fm.z p → fm.H0 p = none → H' p = some (.lst vs) → Reps T (RT fm H' md (some p)) r vs → E.rt (.ref p) H'
  | .gen f => f fm E.rt
  | .bad => False
def BOk (g : G) (kp : RdR) (E : Ends) {δ : Type} (D : δ → Out) : M δ → Prop
  | .ok d => OutOk g.fm kp E (D d)
  | .ex c => ∀ σ H own, At g.fm kp g.LX σ H own → g.W c σ H
  | .no => False
def tB (g : G) (L : List Slot) {δ : Type} (D : δ → Out) (m : M δ) : TS := fun E σ H => ∃ kp own, At g.fm kp L σ H own ∧ BOk g kp E D m
def EvB (g : G) (L : List Slot) (st : List Stmt) {δ : Type} (D : δ → Out) (m : M δ) : Prop := PSs g.X st (tB g L D m)

theorem PE.imp {X : Cx} {e : Expr} {t t' : TE} (h : PE X e t) (k : ∀ σ H Q, t' σ H Q → t σ H Q) : PE X e t' := ⟨fun pins s σ H Q I q => h.run pins s σ H Q I (k _ _ _ q)⟩
theorem PT.imp {X : Cx} {e : Expr} {t t' : TT} (h : PT X e t) (k : ∀ σ H Q, t' σ H Q → t σ H Q) : PT X e t' := ⟨fun pins s σ H Q I q => h.run pins s σ H Q I (k _ _ _ q)⟩
theorem PW.imp {X : Cx} {e : Expr} {t t' : TT} (h : PW X e t) (k : ∀ σ H Q, t' σ H Q → t σ H Q) : PW X e t' := ⟨fun wh pins s σ H Q I q => h.run wh pins s σ H Q I (k _ _ _ q)⟩
theorem PA.imp {X : Cx} {e : List Expr} {t t' : TA} (h : PA X e t) (k : ∀ σ H Q, t' σ H Q → t σ H Q) : PA X e t' := ⟨fun pos pins s σ H Q I q => h.run pos pins s σ H Q I (k _ _ _ q)⟩
theorem PSs.imp {X : Cx} {e : List Stmt} {t t' : TS} (h : PSs X e t) (k : ∀ E σ H, t' E σ H → t E σ H) : PSs X e t' := ⟨fun pins s σ H D I q => h.run pins s σ H D I (k _ _ _ q)⟩

section
variable {g : G} {L : List Slot} {e e' : Expr} {es : List Expr} {md : Md} {α β γ δ : Type} {S : Ty α} {T : Ty β} {U : Ty γ} {A : Ar δ}
/-- the end of an expression, as a wish about its worth -/
def FinE (fm : Fm) (W : Wx) (own : List Addr) (σ : L2.St) (H : Hp) (md : Md) (T : Ty β) (Q : VK) : M β → Prop
  | .ok d => ∀ v H', Same H H' → T.rep d v (RX fm own H H' md) → Q v H'
  | .ex c => ∀ H', Same H H' → W c σ H'
  | .no => False
def FinL (fm : Fm) (W : Wx) (own : List Addr) (σ : L2.St) (H : Hp) (md : Md) (T : Ty β) (Q : VK) : M (List β) → Prop
  | .ok ds => ∀ p vs H', Same H H' → H p = none → H' p = some (.lst vs) → Reps T (RX fm (p :: own) H H' md) ds vs → Q (.ref p) H'
  | .ex c => ∀ H', Same H H' → W c σ H'
  | .no => False
theorem tL_iff {fm : Fm} {W : Wx} {m : M (List β)} {σ : L2.St} {H : Hp} {Q : VK} : tL fm W L md T m σ H Q ↔ ∃ kp own, At fm kp L σ H own ∧ FinL fm W own σ H md T Q m := by
  cases m <;> exact Iff.rfl
def FinT (W : Wx) (σ : L2.St) (H : Hp) (Q : Bool → Hp → Prop) : M Bool → Prop
  | .ok d => ∀ H', Same H H' → Q d H'
  | .ex c => ∀ H', Same H H' → W c σ H'
  | .no => False
def FinA (fm : Fm) (W : Wx) (own : List Addr) (σ : L2.St) (H : Hp) (md : Md) (A : Ar δ) (Q : List V → Hp → Prop) : M δ → Prop
  | .ok d => ∀ vs H', Same H H' → A.rep d vs (RX fm own H H' md) → Q vs H'
  | .ex c => ∀ H', Same H H' → W c σ H'
  | .no => False
theorem tE_iff {fm : Fm} {W : Wx} {m : M β} {σ : L2.St} {H : Hp} {Q : VK} : tE fm W L md T m σ H Q ↔ ∃ kp own, At fm kp L σ H own ∧ FinE fm W own σ H md T Q m := by
  cases m <;> exact Iff.rfl
theorem tT_iff {fm : Fm} {W : Wx} {m : M Bool} {σ : L2.St} {H : Hp} {Q : Bool → Hp → Prop} : tT fm W L m σ H Q ↔ ∃ kp own, At fm kp L σ H own ∧ FinT W σ H Q m := by
  cases m <;> exact Iff.rfl
theorem tA_iff {fm : Fm} {W : Wx} {m : M δ} {σ : L2.St} {H : Hp} {Q : List V → Hp → Prop} : tA fm W L md A m σ H Q ↔ ∃ kp own, At fm kp L σ H own ∧ FinA fm W own σ H md A Q m := by
  cases m <;> exact Iff.rfl
/-- ends that let refusals pass -/
structure Fin (W : Wx) (σ : L2.St) (H0 : Hp) (F : M β → Prop) : Prop where
  ex : ∀ {c}, F (.ex c) → ∀ H', Same H0 H' → W c σ H'
  no : ¬ F .no
theorem finE {fm : Fm} {W : Wx} {own : List Addr} {σ : L2.St} {H : Hp} {Q : VK} : Fin W σ H (FinE fm W own σ H md T Q) := ⟨fun h => h, fun h => h⟩
theorem finL {fm : Fm} {W : Wx} {own : List Addr} {σ : L2.St} {H : Hp} {Q : VK} : Fin (β := List β) W σ H (FinL fm W own σ H md T Q) := ⟨fun h => h, fun h => h⟩
theorem finT {W : Wx} {σ : L2.St} {H : Hp} {Q : Bool → Hp → Prop} : Fin W σ H (FinT W σ H Q) := ⟨fun h => h, fun h => h⟩
theorem finA {fm : Fm} {W : Wx} {own : List Addr} {σ : L2.St} {H : Hp} {Q : List V → Hp → Prop} : Fin W σ H (FinA fm W own σ H md A Q) := ⟨fun h => h, fun h => h⟩
section
variable {fm : Fm} {W : Wx} {kp : RdR} {own : List Addr} {σ : L2.St} {H0 H : Hp} {F : M β → Prop}
/-- a sub-expression, then what follows -/
theorem sub {m : M α} {f : α → M β} {K : VK} (hF : Fin W σ H0 F) (s0 : Same H0 H) (at_ : At fm kp L σ H own) (q : F (m.bind f))
    (h : ∀ d v H1, Same H H1 → S.rep d v (RX fm own H0 H1 md) → At fm kp L σ H1 own → F (f d) → K v H1) : tE fm W L md S m σ H K := by
  refine tE_iff.mpr ⟨kp, own, at_, ?_⟩
  cases m with
  | ok d => exact fun v H1 s r => h d v H1 s (S.mono r (RX.later s0)) (at_.ext s) q
  | ex c => exact fun H' s => hF.ex q H' (s0.trans s)
  | no => exact hF.no q
theorem subT {m : M Bool} {f : Bool → M β} {K : Bool → Hp → Prop} (hF : Fin W σ H0 F) (s0 : Same H0 H) (at_ : At fm kp L σ H own) (q : F (m.bind f))
    (h : ∀ d H1, Same H H1 → At fm kp L σ H1 own → F (f d) → K d H1) : tT fm W L m σ H K := by
  refine tT_iff.mpr ⟨kp, own, at_, ?_⟩
  cases m with
  | ok d => exact fun H1 s => h d H1 s (at_.ext s) q
  | ex c => exact fun H' s => hF.ex q H' (s0.trans s)
  | no => exact hF.no q
theorem subA {m : M δ} {f : δ → M β} {K : List V → Hp → Prop} (hF : Fin W σ H0 F) (s0 : Same H0 H) (at_ : At fm kp L σ H own) (q : F (m.bind f))
    (h : ∀ d vs H1, Same H H1 → A.rep d vs (RX fm own H0 H1 md) → At fm kp L σ H1 own → F (f d) → K vs H1) : tA fm W L md A m σ H K := by
  refine tA_iff.mpr ⟨kp, own, at_, ?_⟩
  cases m with
  | ok d => exact fun vs H1 s r => h d vs H1 s (A.mono r (RX.later s0)) (at_.ext s) q
  | ex c => exact fun H' s => hF.ex q H' (s0.trans s)
  | no => exact hF.no q
end

/-! ### operators, by values -/
def Rdb (K : PySem.W.Frag) (R : RdR) (H : Hp) : Prop := ∀ a o, R a o → Rd H a o ∨ KObj K a o
/-- what an operation's answer may reach: its operands' things (unless fr), new things -/
def Nw (fr : Bool) (R : RdR) (H H' : Hp) : RdR := fun a o => (fr = false ∧ R a o) ∨ (cl H' a = some o ∧ H a = none)
def OpEnd (U : Ty γ) (fr : Bool) (R : RdR) (H : Hp) (Q : VK) : M γ → Prop
  | .ok u => ∀ v H', Same H H' → U.rep u v (Nw fr R H H') → Q v H'
  | _ => False
structure Op1 (K : PySem.W.Frag) (r : V → Hp → VK → Prop) (S : Ty α) (U : Ty γ) (f : α → M γ) (fr : Bool) : Prop where
  run : ∀ {d x R H Q}, Rdb K R H → S.rep d x R → OpEnd U fr R H Q (f d) → r x H Q
structure Op2 (K : PySem.W.Frag) (r : R2) (S : Ty α) (T : Ty β) (U : Ty γ) (f : α → β → M γ) (fr : Bool) : Prop where
  run : ∀ {d e x y R H Q}, Rdb K R H → S.rep d x R → T.rep e y R → OpEnd U fr R H Q (f d e) → r x y H Q
structure OpC (K : PySem.W.Frag) (r : List V → Hp → VK → Prop) (A : Ar δ) (U : Ty γ) (f : δ → M γ) (fr : Bool) : Prop where
  run : ∀ {d xs R H Q}, Rdb K R H → A.rep d xs R → OpEnd U fr R H Q (f d) → r xs H Q
structure OpM (K : PySem.W.Frag) (ty : String) (r : V → List V → Hp → VK → Prop) (S : Ty α) (A : Ar δ) (U : Ty γ) (f : α → δ → M γ) (fr : Bool) : Prop where
  ty : ∀ {d x R H}, Rdb K R H → S.rep d x R → tyV K ty x H
  run : ∀ {d e x xs R H Q}, Rdb K R H → S.rep d x R → A.rep e xs R → OpEnd U fr R H Q (f d e) → r x xs H Q
/-- how new an answer is -/
inductive MdOk : Bool → Md → Md → Prop where
  | same {fr md} : MdOk fr md md
  | fresh {md md'} : MdOk true md md'
theorem RX.rdb {fm : Fm} {own : List Addr} {H H' : Hp} : Rdb fm.K (RX fm own H H' md) H' := fun a o r => (RX.sh a o r).imp (fun h => Rd.raw h.1) id
theorem Nw.rx {fm : Fm} {kp : RdR} {own : List Addr} {σ : L2.St} {H H1 H2 : Hp} {fr : Bool} {md' : Md} (hm : MdOk fr md md') (s : Same H H1) (at_ : At fm kp L σ H1 own) (s2 : Same H1 H2) :
    ∀ a o, Nw fr (RX fm own H H1 md) H1 H2 a o → RX fm own H H2 md' a o := fun a o r => by
  rcases r with ⟨e, r⟩ | ⟨r, n⟩
  · cases hm with
    | same => exact RX.same s2 a o r
    | fresh => cases e
  · refine RX.fx md' a o ⟨r, fun hp => (at_.new a hp).1 n, fun hz => at_.zin a hz n, at_.same.free n, s.free n⟩
theorem FinE.fin {fm : Fm} {W : Wx} {kp : RdR} {own : List Addr} {σ : L2.St} {H H1 : Hp} {fr : Bool} {md' : Md} {Q : VK} {m : M γ} (hm : MdOk fr md md') (s : Same H H1) (at_ : At fm kp L σ H1 own) (hne : ∀ c, m ≠ .ex c)
    (q : FinE fm W own σ H md' U Q m) : OpEnd U fr (RX fm own H H1 md) H1 Q m := by
  cases m with
  | ok u => exact fun v H' s' r => q v H' (s.trans s') (U.mono r (Nw.rx hm s at_ s'))
  | ex c => exact hne c rfl
  | no => exact q
end
end Hd

namespace Hd
open PySem PySem.Spec L2

/-- the program's fixed things -/
structure Pr where
  P : Program
  w : World
  K : PySem.W.Frag
  mg : Str → Option Value
  base : Heap
  C : Ec → Addr
  /-- where the table of the lambda's code object stands -/
  T : Option Addr
def okName (x : Str) : Bool := !(x == ("__debug__" : Str)) && !(x == ("__classdict__" : Str)) && !(x == ("__name__" : Str))
def seenB (sc : Scope) (x : Str) : Bool := okName x && (match sc.names.lookup x with | some .local => true | some .cell => true | some .free => true | _ => false)
def locB (sc : Scope) (x : Str) : Bool := match sc.names.lookup x with | some .local => true | some .cell => true | _ => false
def glB (sc : Scope) (x : Str) : Bool := okName x && (match sc.names.lookup x with | some .globalImplicit => true | _ => false)
theorem okName_d {x : Str} (h : okName x = true) : (x == ("__debug__" : Str)) = false ∧ (x == ("__classdict__" : Str)) = false ∧ x ≠ "__name__" := by
  simp only [okName, Bool.and_eq_true, Bool.not_eq_true'] at h
  refine ⟨h.1.1, h.1.2, fun e => ?_⟩
  have := h.2
  rw [e, beq_self_eq_true] at this
  cases this
theorem seenB_v {sc : Scope} {x : Str} (h : seenB sc x = true) : okName x = true ∧ Vis sc x := by
  simp only [seenB, Bool.and_eq_true] at h
  refine ⟨h.1, ?_⟩
  have q := h.2
  unfold Vis
  split at q <;> first | exact .inl (by assumption) | exact .inr (.inl (by assumption)) | exact .inr (.inr (by assumption)) | cases q
theorem locB_v {sc : Scope} {x : Str} (h : locB sc x = true) : L2.Loc sc x := by
  unfold locB at h
  unfold L2.Loc
  split at h <;> first | exact .inl (by assumption) | exact .inr (by assumption) | cases h
theorem glB_v {sc : Scope} {x : Str} (h : glB sc x = true) : okName x = true ∧ sc.names.lookup x = some .globalImplicit := by
  simp only [glB, Bool.and_eq_true] at h
  refine ⟨h.1, ?_⟩
  have q := h.2
  split at q <;> first | assumption | cases q

/-- where an expression stands: N the slots, V the names seen, Gs the global names used, k the room -/
structure Ok (p : Pr) (sc : Scope) (NN VV GG : List Str) (k : Nat) (g : G) : Prop where
  prog : g.X.prog = p.P
  w : g.X.w = p.w
  K : g.X.K = p.K
  mg : g.X.mg = p.mg
  base : g.X.base = p.base
  N : g.X.N = NN
  fmK : g.fm.K = p.K
  tab : ∀ P, p.T = some P → LamX.TabS g.fm.H0 P lamQ
  room : Room k g.X.A
  nd : NN.Nodup
  vis : ∀ {j : Nat} {x : Str}, VV[j]? = some x → Vis g.X.env.scope x ∧ okName x = true
  gl : ∀ {j : Nat} {x : Str}, GG[j]? = some x → Gl g.X x ∧ okName x = true
  tk : Takes g.X (fun cls d σ H => ∃ c, cls = .ref (p.C c) ∧ d = none ∧ g.W c σ H)
  calm : g.X.calm = true
  blk : ∀ {scope : Scope} {own : List (Str × Nat)}, blkC NN sc scope own = true → BlkOk NN g.X.env.scope scope own

section
variable {p : Pr} {sc : Scope} {NN VV GG : List Str} {k : Nat} {g : G} {L : List Slot} {a b c e e' : Expr} {es : List Expr} {md md' : Md} {α β γ δ : Type} {S : Ty α} {T : Ty β} {U : Ty γ} {A : Ar δ} {pos : Pos}
theorem RB.rx {fm : Fm} {own : List Addr} {H H' : Hp} {b : Bool} : ∀ a o, RB fm own H' b a o → RX fm own H H' (if b then .f0 else .sh) a o := fun a o r => by cases b <;> exact r
/-- a name whose slot holds d -/
theorem ev_var (ok : Ok p sc NN VV GG k g) {i j : Nat} {x : Str} {b : Bool} {d : α} (hN : NN[i]? = some x) (hV : VV[j]? = some x) (hL : L[i]? = some (sV b S d)) : EvE g L (.Name x pos) (if b then .f0 else .sh) S (.ok d) := by
  obtain ⟨hv, ho⟩ := ok.vis hV
  obtain ⟨h1, h2, _⟩ := okName_d ho
  refine PE.imp (pe_var (i := i) (by rw [ok.N]; exact hN) hv h1 h2) fun σ H Q ⟨kp, own, at_, q⟩ => ?_
  obtain ⟨Fs, hs, _⟩ := at_.sl
  obtain ⟨v, F, e1, _, _, y, rfl, r⟩ := hs.get hL
  exact ⟨y, e1, q y H (Same.refl H) (S.mono r RB.rx)⟩
theorem ev_vsh (ok : Ok p sc NN VV GG k g) {i j : Nat} {x : Str} {b : Bool} {d : α} (hN : NN[i]? = some x) (hV : VV[j]? = some x) (hL : L[i]? = some (sV b S d)) : EvE g L (.Name x pos) .sh S (.ok d) := by
  refine PE.imp (ev_var ok hN hV hL) fun σ H Q ⟨kp, own, at_, q⟩ => ⟨kp, own, at_, fun v H' s r => q v H' s (S.mono r RX.sh)⟩
/-- a kind of data without a heap -/
def Flat (S : Ty α) : Prop := ∀ {d v R R'}, S.rep d v R → S.rep d v R'
theorem Reps.flat {R R' : RdR} {ds : List α} {vs : List V} (hf : Flat S) (r : Reps S R ds vs) : Reps S R' ds vs := by
  induction r with
  | nil => exact .nil
  | cons r _ ih => exact .cons (hf r) ih
theorem flInt : Flat tInt := fun h => h
theorem flBool : Flat tBool := fun h => h
theorem flStr : Flat tStr := fun h => h
theorem flNone : Flat tNone := fun h => h
theorem flOpt (h : Flat S) : Flat (tOpt S) := fun {d v R R'} r => by
  cases d with
  | none => exact r
  | some d => exact ⟨h r.1, r.2⟩
theorem ev_flat {m : M α} (hf : Flat S) (h : EvE g L e md S m) : EvE g L e md' S m :=
  PE.imp h fun σ H Q q => by
    obtain ⟨kp, own, at_, q⟩ := tE_iff.mp q
    refine tE_iff.mpr ⟨kp, own, at_, ?_⟩
    cases m with
    | ok d => exact fun v H' s r => q v H' s (hf r)
    | ex c => exact q
    | no => exact q
/-- newer is as good -/
theorem ev_fx {m : M α} (h : EvE g L e .fx S m) : EvE g L e md S m :=
  PE.imp h fun σ H Q q => by
    obtain ⟨kp, own, at_, q⟩ := tE_iff.mp q
    refine tE_iff.mpr ⟨kp, own, at_, ?_⟩
    cases m with
    | ok d => exact fun v H' s r => q v H' s (S.mono r (RX.fx md))
    | ex c => exact q
    | no => exact q
theorem ev_sh {m : M α} (h : EvE g L e md S m) : EvE g L e .sh S m :=
  PE.imp h fun σ H Q q => by
    obtain ⟨kp, own, at_, q⟩ := tE_iff.mp q
    refine tE_iff.mpr ⟨kp, own, at_, ?_⟩
    cases m with
    | ok d => exact fun v H' s r => q v H' s (S.mono r RX.sh)
    | ex c => exact q
    | no => exact q
/-- the kind told otherwise -/
theorem ev_as {m : M α} {d2 : α → β} (hr : ∀ d v R, S.rep d v R → T.rep (d2 d) v R) (h : EvE g L e md S m) : EvE g L e md T (m.bind fun d => .ok (d2 d)) :=
  PE.imp h fun σ H Q q => by
    obtain ⟨kp, own, at_, q⟩ := tE_iff.mp q
    refine tE_iff.mpr ⟨kp, own, at_, ?_⟩
    cases m with
    | ok d => exact fun v H' s r => q v H' s (hr _ _ _ r)
    | ex c => exact q
    | no => exact q
theorem ev_asP {d : α} {d2 : β} (hr : ∀ v R, S.rep d v R → T.rep d2 v R) (h : EvE g L e md S (.ok d)) : EvE g L e md T (.ok d2) :=
  PE.imp h fun σ H Q ⟨kp, own, at_, q⟩ => ⟨kp, own, at_, fun v H' s r => q v H' s (hr _ _ r)⟩
/-! constants -/
theorem ev_int {i : Int} {j} : EvE g L (.Constant (.int i) j pos) md tInt (.ok i) := PE.imp pe_int fun σ H Q ⟨kp, own, at_, q⟩ => q _ H (Same.refl H) rfl
theorem ev_bool {i : Bool} {j} : EvE g L (.Constant (.bool i) j pos) md tBool (.ok i) := PE.imp pe_bl fun σ H Q ⟨kp, own, at_, q⟩ => q _ H (Same.refl H) rfl
theorem ev_none {j} : EvE g L (.Constant .none j pos) md tNone (.ok ()) := PE.imp pe_non fun σ H Q ⟨kp, own, at_, q⟩ => q _ H (Same.refl H) rfl
theorem ev_optN {j} : EvE g L (.Constant .none j pos) md (tOpt S) (.ok none) := PE.imp pe_non fun σ H Q ⟨kp, own, at_, q⟩ => q _ H (Same.refl H) rfl
/-- a written text's signs -/
def tx (s : String) : Tx := (Str.ofString s).cps.toList
theorem toS_tx (s : String) : toS (tx s) = Str.ofString s := by
  show (⟨((Str.ofString s).cps.toList).toArray⟩ : Str) = Str.ofString s
  rw [Array.toArray_toList]
theorem toS_inj {x y : Tx} (h : toS x = toS y) : x = y := by
  have := congrArg (fun z : Str => z.cps.toList) h
  simpa [toS] using this
theorem toS_of (z : Str) : toS z.cps.toList = z := by
  show (⟨(z.cps.toList).toArray⟩ : Str) = z
  rw [Array.toArray_toList]
theorem toS_len (x : Tx) : (toS x).length = x.length := by
  show x.toArray.size = x.length
  simp
def okTxB (x : Tx) : Bool := decide (x.length ≤ 1000) && x.all fun c => decide (c < 0x110000)
theorem okTx_of {x : Tx} (h : okTxB x = true) : OkTx x := by
  simp only [okTxB, Bool.and_eq_true, decide_eq_true_eq, List.all_eq_true] at h
  exact ⟨Nat.le_trans h.1 (by decide), h.2⟩
theorem ev_str {s : String} {j} (hl : okTxB (tx s) = true) : EvE g L (.Constant (.str (Str.ofString s)) j pos) md tStr (.ok (tx s)) := PE.imp pe_str fun σ H Q ⟨kp, own, at_, q⟩ => q _ H (Same.refl H) ⟨by show _ = V.str _; rw [toS_tx], okTx_of hl⟩
/-- a constant of the module: an int or a text -/
theorem ev_glob (ok : Ok p sc NN VV GG k g) {j : Nat} {x : Str} {v : V} {u : Value} {d : α} (hG : GG[j]? = some x) (hm : p.mg x = some u) (r : RelV v u) (hr : ∀ R, S.rep d v R) : EvE g L (.Name x pos) md S (.ok d) := by
  obtain ⟨hg, ho⟩ := ok.gl hG
  exact PE.imp (pe_glob hg (by rw [ok.mg]; exact hm) r (okName_d ho).1) fun σ H Q ⟨kp, own, at_, q⟩ => q _ H (Same.refl H) (hr _)

/-! operators -/
/-- .. -/
theorem ev_op2 {op : Operator} {r : R2} {f : α → β → M γ} {fr : Bool} {m1 : M α} {m2 : M β} (ok : Ok p sc NN VV GG k g) (ho : ∀ {X : Cx}, OpR X (binaryOp op) r) (F : Op2 p.K r S T U f fr) (hne : ∀ d e c, f d e ≠ .ex c) (hm : MdOk fr md md')
    (ha : EvE g L a md S m1) (hb : EvE g L b md T m2) : EvE g L (.BinOp a op b pos) md' U (m1.bind fun d => m2.bind fun e => f d e) := by
  refine PE.imp (pe_op ho ha hb) fun σ H Q q => ?_
  obtain ⟨kp, own, at_, q⟩ := tE_iff.mp q
  refine sub finE (Same.refl H) at_ q fun d x H1 s1 r1 at1 q1 => sub finE s1 at1 q1 fun e y H2 s2 r2 at2 q2 => ?_
  rw [← ok.fmK] at F
  exact F.run (R := RX g.fm own H H2 md) RX.rdb (S.mono r1 (RX.same s2)) r2 (q2.fin hm (s1.trans s2) at2 (hne d e))

theorem ev_un {op : UnaryOp} {r : V → Hp → VK → Prop} {f : α → M γ} {fr : Bool} {m1 : M α} (ok : Ok p sc NN VV GG k g) (ho : ∀ {X : Cx}, UnR X (unaryOp op) r) (F : Op1 p.K r S U f fr) (hne : ∀ d c, f d ≠ .ex c) (hm : MdOk fr md md')
    (ha : EvE g L a md S m1) : EvE g L (.UnaryOp op a pos) md' U (m1.bind f) := by
  refine PE.imp (pe_un ho ha) fun σ H Q q => ?_
  obtain ⟨kp, own, at_, q⟩ := tE_iff.mp q
  refine sub finE (Same.refl H) at_ q fun d x H1 s1 r1 at1 q1 => ?_
  rw [← ok.fmK] at F
  exact F.run (R := RX g.fm own H H1 md) RX.rdb r1 (q1.fin hm s1 at1 (hne d))
/-- a comparison's value -/
theorem ev_cmp {op : CmpOp} {r : R2} {f : α → β → M γ} {fr : Bool} {m1 : M α} {m2 : M β} (ok : Ok p sc NN VV GG k g) (ho : OpR g.X (compareOp op) r) (F : Op2 p.K r S T U f fr) (hne : ∀ d e c, f d e ≠ .ex c) (hm : MdOk fr md md')
    (ha : EvE g L a md S m1) (hb : EvE g L b md T m2) (hk : behindInMarks op b = false := by first | exact nomark _ (by decide) (by decide) | rfl) : EvE g L (.Compare a [op] [b] pos) md' U (m1.bind fun d => m2.bind fun e => f d e) := by
  refine PE.imp (pe_cmpR ho ha hb hk) fun σ H Q q => ?_
  obtain ⟨kp, own, at_, q⟩ := tE_iff.mp q
  refine sub finE (Same.refl H) at_ q fun d x H1 s1 r1 at1 q1 => sub finE s1 at1 q1 fun e y H2 s2 r2 at2 q2 => ?_
  rw [← ok.fmK] at F
  exact F.run (R := RX g.fm own H H2 md) RX.rdb (S.mono r1 (RX.same s2)) r2 (q2.fin hm (s1.trans s2) at2 (hne d e))
/-- a comparison as a test -/
theorem evt_cmp {op : CmpOp} {r : R2} {f : α → β → M Bool} {fr : Bool} {m1 : M α} {m2 : M β} (ok : Ok p sc NN VV GG k g) (ho : OpR g.X (compareOp op) r) (F : Op2 p.K r S T tBool f fr) (hne : ∀ d e c, f d e ≠ .ex c)
    (ha : EvE g L a md S m1) (hb : EvE g L b md T m2) (hk : behindInMarks op b = false := by first | exact nomark _ (by decide) (by decide) | rfl) : EvT g L (.Compare a [op] [b] pos) (m1.bind fun d => m2.bind fun e => f d e) := by
  refine PT.imp (pt_cmpR ho ha hb hk) fun σ H Q q => ?_
  obtain ⟨kp, own, at_, q⟩ := tT_iff.mp q
  refine sub finT (Same.refl H) at_ q fun d x H1 s1 r1 at1 q1 => sub finT s1 at1 q1 fun e y H2 s2 r2 at2 q2 => ?_
  rw [← ok.fmK] at F
  refine F.run (R := RX g.fm own H H2 md) RX.rdb (S.mono r1 (RX.same s2)) r2 ?_
  cases hf : f d e with
  | ok c => rw [hf] at q2; exact fun v H' s r => ⟨c, r, q2 H' ((s1.trans s2).trans s)⟩
  | ex c => exact absurd hf (hne d e c)
  | no => rw [hf] at q2; exact q2
/-- a < b < c, as a test -/
theorem evt_chain {op op' : CmpOp} {r r' : R2} {f : α → β → Bool} {f' : β → γ → Bool} {d1 : α} {d2 : β} {d3 : γ} (ok : Ok p sc NN VV GG k g) (ho : OpR g.X (compareOp op) r) (ho' : OpR g.X (compareOp op') r')
    (F : Op2 p.K r S T tBool (fun x y => .ok (f x y)) false) (F' : Op2 p.K r' T U tBool (fun x y => .ok (f' x y)) false)
    (ha : EvE g L a md S (.ok d1)) (hb : EvE g L b md T (.ok d2)) (hc : EvE g L c md U (.ok d3)) (hm : lastMarks [op, op'] [b, c] = false := by with_unfolding_all rfl) : EvT g L (.Compare a [op, op'] [b, c] pos) (.ok (f d1 d2 && f' d2 d3)) := by
  refine PT.imp (pt_chain ho ho' ha hb hc hm) fun σ H Q ⟨kp, own, at_, q⟩ => ?_
  refine ⟨kp, own, at_, fun x H1 s1 r1 => ⟨kp, own, at_.ext s1, fun y H2 s2 r2 => ?_⟩⟩
  rw [← ok.fmK] at F F'
  have at2 := (at_.ext s1).ext s2
  have r2' : T.rep d2 y (RX g.fm own H H2 md) := T.mono r2 (RX.later s1)
  refine F.run (R := RX g.fm own H H2 md) RX.rdb (S.mono r1 (RX.same s2)) r2' fun v H3 s3 r3 => ⟨f d1 d2, r3, ?_⟩
  cases hf : f d1 d2 with
  | true =>
    refine ⟨kp, own, at2.ext s3, fun z H4 s4 r4 => F'.run (R := RX g.fm own H H4 md) RX.rdb (T.mono r2' (RX.same (s3.trans s4))) (U.mono r4 (RX.later ((s1.trans s2).trans s3))) fun v' H5 s5 r5 => ⟨f' d2 d3, r5, ?_⟩⟩
    rw [hf, Bool.true_and] at q
    exact q H5 ((((s1.trans s2).trans s3).trans s4).trans s5)
  | false =>
    rw [hf, Bool.false_and] at q
    exact ⟨false, rfl, q H3 ((s1.trans s2).trans s3)⟩
/-- an expression that is a bool, as a test -/
theorem evt_of {m : M Bool} (h : EvE g L e md tBool m) (he : ∀ whole, isTrue e g.X.env whole = (do let v ← whole; standAt e.pos; holding [v] (truthy v)) := by intro _; rfl) : EvT g L e m := by
  refine PT.imp (pt_val h he) fun σ H Q q => ?_
  obtain ⟨kp, own, at_, q⟩ := tT_iff.mp q
  refine tE_iff.mpr ⟨kp, own, at_, ?_⟩
  cases m with
  | ok d => exact fun v H' s r => ⟨d, r, q H' s⟩
  | ex c => exact q
  | no => exact q
theorem evt_not {m : M Bool} (h : EvT g L a m) : EvT g L (.UnaryOp .Not a pos) (m.bind fun c => .ok (!c)) := by
  refine PT.imp (pt_not h) fun σ H Q q => ?_
  obtain ⟨kp, own, at_, q⟩ := tT_iff.mp q
  exact subT finT (Same.refl H) at_ q fun d H1 s at1 q1 => q1 H1 s
theorem evt_notP {c : Bool} (h : EvT g L a (.ok c)) : EvT g L (.UnaryOp .Not a pos) (.ok (!c)) := evt_not h
/-- and, or: chains of tests -/
def EvW (g : G) (L : List Slot) (e : Expr) (m : M Bool) : Prop := PW g.X e (tT g.fm g.W L m)
theorem EvW.t {m : M Bool} (h : EvW g L e m) : EvT g L e m := PW.pt h
theorem evw_and1 {m : M Bool} (h : EvT g L a m) : EvW g L (.BoolOp .And [a] pos) m := pw_and1 h
theorem evw_or1 {m : M Bool} (h : EvT g L a m) : EvW g L (.BoolOp .Or [a] pos) m := pw_or1 h
theorem evw_and {m1 m2 : M Bool} (h : EvT g L a m1) (h2 : EvW g L (.BoolOp .And (b :: es) pos) m2) : EvW g L (.BoolOp .And (a :: b :: es) pos) (m1.bind fun c => if c = true then m2 else .ok false) := by
  refine PW.imp (pw_and h h2) fun σ H Q q => ?_
  obtain ⟨kp, own, at_, q⟩ := tT_iff.mp q
  refine subT finT (Same.refl H) at_ q fun d H1 s at1 q1 => ?_
  cases d with
  | true =>
    show tT g.fm g.W L m2 σ H1 Q
    refine tT_iff.mpr ⟨kp, own, at1, ?_⟩
    have q1 : FinT g.W σ H Q m2 := q1
    cases m2 with
    | ok d => exact fun H' s' => q1 H' (s.trans s')
    | ex c => exact fun H' s' => q1 H' (s.trans s')
    | no => exact q1
  | false => exact q1 H1 s
theorem evw_or {m1 m2 : M Bool} (h : EvT g L a m1) (h2 : EvW g L (.BoolOp .Or (b :: es) pos) m2) : EvW g L (.BoolOp .Or (a :: b :: es) pos) (m1.bind fun c => if c = true then .ok true else m2) := by
  refine PW.imp (pw_or h h2) fun σ H Q q => ?_
  obtain ⟨kp, own, at_, q⟩ := tT_iff.mp q
  refine subT finT (Same.refl H) at_ q fun d H1 s at1 q1 => ?_
  cases d with
  | false =>
    show tT g.fm g.W L m2 σ H1 Q
    refine tT_iff.mpr ⟨kp, own, at1, ?_⟩
    have q1 : FinT g.W σ H Q m2 := q1
    cases m2 with
    | ok d => exact fun H' s' => q1 H' (s.trans s')
    | ex c => exact fun H' s' => q1 H' (s.trans s')
    | no => exact q1
  | true => exact q1 H1 s
theorem if_tf {c d : Bool} : (if c = true then (.ok d : M Bool) else .ok false) = .ok (c && d) := by cases c <;> rfl
theorem if_ft {c d : Bool} : (if c = true then (.ok true : M Bool) else .ok d) = .ok (c || d) := by cases c <;> rfl
theorem evw_andP {c d : Bool} (h : EvT g L a (.ok c)) (h2 : EvW g L (.BoolOp .And (b :: es) pos) (.ok d)) : EvW g L (.BoolOp .And (a :: b :: es) pos) (.ok (c && d)) := by
  have q := evw_and h h2
  rwa [M.bind_ok, if_tf] at q
theorem evw_orP {c d : Bool} (h : EvT g L a (.ok c)) (h2 : EvW g L (.BoolOp .Or (b :: es) pos) (.ok d)) : EvW g L (.BoolOp .Or (a :: b :: es) pos) (.ok (c || d)) := by
  have q := evw_or h h2
  rwa [M.bind_ok, if_ft] at q
/-- .. as values -/
theorem ev_one {op} {m : M Bool} (h : EvE g L a md tBool m) : EvE g L (.BoolOp op [a] pos) md tBool m := pe_one h
theorem ev_and {m1 m2 : M Bool} (h : EvE g L a md tBool m1) (h2 : EvE g L (.BoolOp .And (b :: es) pos) md tBool m2) : EvE g L (.BoolOp .And (a :: b :: es) pos) md tBool (m1.bind fun c => if c = true then m2 else .ok false) := by
  refine PE.imp (pe_and h h2) fun σ H Q q => ?_
  obtain ⟨kp, own, at_, q⟩ := tE_iff.mp q
  refine sub finE (Same.refl H) at_ q fun d x H1 s r at1 q1 => ⟨d, r, ?_⟩
  cases d with
  | true =>
    refine tE_iff.mpr ⟨kp, own, at1, ?_⟩
    have q1 : FinE g.fm g.W own σ H md tBool Q m2 := q1
    cases m2 with
    | ok d => exact fun v H' s' r' => q1 v H' (s.trans s') r'
    | ex c => exact fun H' s' => q1 H' (s.trans s')
    | no => exact q1
  | false => exact q1 _ H1 s rfl
theorem ev_or {m1 m2 : M Bool} (h : EvE g L a md tBool m1) (h2 : EvE g L (.BoolOp .Or (b :: es) pos) md tBool m2) : EvE g L (.BoolOp .Or (a :: b :: es) pos) md tBool (m1.bind fun c => if c = true then .ok true else m2) := by
  refine PE.imp (pe_or h h2) fun σ H Q q => ?_
  obtain ⟨kp, own, at_, q⟩ := tE_iff.mp q
  refine sub finE (Same.refl H) at_ q fun d x H1 s r at1 q1 => ⟨d, r, ?_⟩
  cases d with
  | false =>
    refine tE_iff.mpr ⟨kp, own, at1, ?_⟩
    have q1 : FinE g.fm g.W own σ H md tBool Q m2 := q1
    cases m2 with
    | ok d => exact fun v H' s' r' => q1 v H' (s.trans s') r'
    | ex c => exact fun H' s' => q1 H' (s.trans s')
    | no => exact q1
  | true => exact q1 _ H1 s rfl
theorem ev_andP {c d : Bool} (h : EvE g L a md tBool (.ok c)) (h2 : EvE g L (.BoolOp .And (b :: es) pos) md tBool (.ok d)) : EvE g L (.BoolOp .And (a :: b :: es) pos) md tBool (.ok (c && d)) := by
  have q := ev_and h h2
  rwa [M.bind_ok, if_tf] at q
theorem ev_orP {c d : Bool} (h : EvE g L a md tBool (.ok c)) (h2 : EvE g L (.BoolOp .Or (b :: es) pos) md tBool (.ok d)) : EvE g L (.BoolOp .Or (a :: b :: es) pos) md tBool (.ok (c || d)) := by
  have q := ev_or h h2
  rwa [M.bind_ok, if_ft] at q
theorem ev_not {m : M Bool} (h : EvE g L a md tBool m) : EvE g L (.UnaryOp .Not a pos) md' tBool (m.bind fun c => .ok (!c)) := by
  refine PE.imp (pe_not h) fun σ H Q q => ?_
  obtain ⟨kp, own, at_, q⟩ := tE_iff.mp q
  exact sub finE (Same.refl H) at_ q fun d x H1 s r at1 q1 => ⟨d, r, q1 _ H1 s rfl⟩
theorem ev_notP {c : Bool} (h : EvE g L a md tBool (.ok c)) : EvE g L (.UnaryOp .Not a pos) md' tBool (.ok (!c)) := ev_not h
/-- x if c else y -/
theorem ev_ifx {m1 m2 : M α} {mc : M Bool} (hc : EvT g L c mc) (ha : EvE g L a md S m1) (hb : EvE g L b md S m2) : EvE g L (.IfExp c a b pos) md S (mc.bind fun c => if c = true then m1 else m2) := by
  refine PE.imp (pe_ifExp hc ha hb) fun σ H Q q => ?_
  obtain ⟨kp, own, at_, q⟩ := tE_iff.mp q
  refine subT finE (Same.refl H) at_ q fun d H1 s at1 q1 => ?_
  have key : ∀ {m : M α}, FinE g.fm g.W own σ H md S Q m → tE g.fm g.W L md S m σ H1 Q := fun {m} z => by
    refine tE_iff.mpr ⟨kp, own, at1, ?_⟩
    cases m with
    | ok d => exact fun v H' s' r' => z v H' (s.trans s') (S.mono r' (RX.later s))
    | ex c => exact fun H' s' => z H' (s.trans s')
    | no => exact z
  cases d with
  | true => exact key q1
  | false => exact key q1

/-! argument lists, displays -/
theorem eva_nil : EvA g L [] md aNil (.ok ()) := PA.imp pa_nil fun σ H Q ⟨kp, own, at_, q⟩ => q [] H (Same.refl H) rfl
theorem eva_cons {m1 : M α} {m2 : M δ} (ha : EvE g L a md S m1) (hb : EvA g L es md A m2) (hs : starEach (a :: es) g.X.env = (false, eval a g.X.env) :: starEach es g.X.env := by rfl) : EvA g L (a :: es) md (aCons S A) (m1.bind fun d => m2.bind fun e => .ok (d, e)) := by
  refine PA.imp (pa_cons ha hb hs) fun σ H Q q => ?_
  obtain ⟨kp, own, at_, q⟩ := tA_iff.mp q
  exact sub finA (Same.refl H) at_ q fun d x H1 s1 r1 at1 q1 => subA finA s1 at1 q1 fun e xs H2 s2 r2 at2 q2 => q2 _ H2 (s1.trans s2) ⟨x, xs, rfl, S.mono r1 (RX.same s2), r2⟩
theorem eva_consP {d : α} {e : δ} (ha : EvE g L a md S (.ok d)) (hb : EvA g L es md A (.ok e)) (hs : starEach (a :: es) g.X.env = (false, eval a g.X.env) :: starEach es g.X.env := by rfl) : EvA g L (a :: es) md (aCons S A) (.ok (d, e)) := eva_cons ha hb hs
/-- items of one kind -/
theorem evs_nil : EvA g L [] md (aAll S) (.ok []) := PA.imp pa_nil fun σ H Q ⟨kp, own, at_, q⟩ => q [] H (Same.refl H) .nil
theorem evs_cons {m1 : M α} {m2 : M (List α)} (ha : EvE g L a md S m1) (hb : EvA g L es md (aAll S) m2) (hs : starEach (a :: es) g.X.env = (false, eval a g.X.env) :: starEach es g.X.env := by rfl) : EvA g L (a :: es) md (aAll S) (m1.bind fun d => m2.bind fun e => .ok (d :: e)) := by
  refine PA.imp (pa_cons ha hb hs) fun σ H Q q => ?_
  obtain ⟨kp, own, at_, q⟩ := tA_iff.mp q
  exact sub finA (Same.refl H) at_ q fun d x H1 s1 r1 at1 q1 => subA finA s1 at1 q1 fun e xs H2 s2 r2 at2 q2 => q2 _ H2 (s1.trans s2) (.cons (S.mono r1 (RX.same s2)) r2)
theorem evs_consP {d : α} {e : List α} (ha : EvE g L a md S (.ok d)) (hb : EvA g L es md (aAll S) (.ok e)) (hs : starEach (a :: es) g.X.env = (false, eval a g.X.env) :: starEach es g.X.env := by rfl) : EvA g L (a :: es) md (aAll S) (.ok (d :: e)) := evs_cons ha hb hs
theorem newSame {H : Hp} {p : Addr} {o : HO} (h : H p = none) : Same H (upd H p o) := .of fun b u e => by rw [upd_ne (ne_of_none e h)]; exact e
theorem newRX {fm : Fm} {kp : RdR} {own : List Addr} {σ : L2.St} {H H1 : Hp} {p : Addr} {o : HO} (at_ : At fm kp L σ H1 own) (s : Same H H1) (h : H1 p = none) (n : nt o = true := by rfl) : RX fm own H (upd H1 p o) md p o :=
  RX.fx md _ _ ⟨cl_of upd_same n, fun hp => (at_.new p hp).1 h, fun hz => at_.zin p hz h, at_.same.free h, s.free h⟩
/-- a tuple of written items (few enough: by rfl) -/
theorem ev_tup {m : M δ} {x1} (hl : ∀ d vs R, A.rep d vs R → vs.length ≤ 1000) (ha : EvA g L es md A m) : EvE g L (.Tuple es x1 pos) md (tTup A) m := by
  refine PE.imp (pe_tup ha) fun σ H Q q => ?_
  obtain ⟨kp, own, at_, q⟩ := tE_iff.mp q
  refine tA_iff.mpr ⟨kp, own, at_, ?_⟩
  cases m with
  | ok d => exact fun vs H1 s1 r1 => ⟨Nat.le_trans (hl _ _ _ r1) (by decide), fun p hp => q _ _ (s1.trans (newSame hp)) ⟨p, vs, rfl, newRX (at_.ext s1) s1 hp, A.mono r1 (RX.same (newSame hp))⟩⟩
  | ex c => exact q
  | no => exact q
theorem tupL_le {ds : List α} {vs : List V} {R : RdR} (h : (aAll S).rep ds vs R) : ds.length = vs.length := Reps.length h
/-- a list of written items; whatever the items are, the list is new -/
theorem ev_lst {m : M (List α)} (hl : ∀ ds, m = .ok ds → ds.length ≤ 1000) (ha : EvA g L es md (aAll S) m) : EvE g L (.List es pos) md (tList S) m := by
  refine PE.imp (pe_lst ha) fun σ H Q q => ?_
  obtain ⟨kp, own, at_, q⟩ := tE_iff.mp q
  refine tA_iff.mpr ⟨kp, own, at_, ?_⟩
  cases m with
  | ok d => exact fun vs H1 s1 r1 => ⟨Nat.le_trans (by rw [← tupL_le r1]; exact hl _ rfl) (by decide), fun p hp => q _ _ (s1.trans (newSame hp)) ⟨p, vs, rfl, newRX (at_.ext s1) s1 hp, Reps.mono r1 (RX.same (newSame hp))⟩⟩
  | ex c => exact q
  | no => exact q

/-! subscripts, slices, calls of built-ins -/
theorem ev_ix {r : R2} {f : α → β → M γ} {fr : Bool} {m1 : M α} {m2 : M β} (ok : Ok p sc NN VV GG k g) (ho : IxR g.X r) (F : Op2 p.K r S T U f fr) (hne : ∀ d e c, f d e ≠ .ex c) (hm : MdOk fr md md')
    (ha : EvE g L a md S m1) (hb : EvE g L b md T m2) (hs : PlainIx b := by exact fun _ _ => rfl) : EvE g L (.Subscript a b pos) md' U (m1.bind fun d => m2.bind fun e => f d e) := by
  refine PE.imp (pe_ix ho ha hb hs) fun σ H Q q => ?_
  obtain ⟨kp, own, at_, q⟩ := tE_iff.mp q
  refine sub finE (Same.refl H) at_ q fun d x H1 s1 r1 at1 q1 => sub finE s1 at1 q1 fun e y H2 s2 r2 at2 q2 => ?_
  rw [← ok.fmK] at F
  exact F.run (R := RX g.fm own H H2 md) RX.rdb (S.mono r1 (RX.same s2)) r2 (q2.fin hm (s1.trans s2) at2 (hne d e))
theorem ev_callB {x : Str} {j : Nat} {id : String} {r : List V → Hp → VK → Prop} {f : δ → M γ} {fr : Bool} {m : M δ} {pp : Pos} (ok : Ok p sc NN VV GG k g) (hc : CallR g.X (.builtin id) r) (F : OpC p.K r A U f fr) (hne : ∀ d c, f d ≠ .ex c) (hm : MdOk fr md md')
    (hG : GG[j]? = some x) (hmg : p.mg x = none) (hv : bootBuiltins x = some (.builtin id)) (ha : EvA g L (e :: es) md A m)
    (he : starEach (e :: es) g.X.env = (false, eval e g.X.env) :: starEach es g.X.env := by rfl) (hpl : (backTo pos (starEach es g.X.env)).any (·.1) = false := by rfl) : EvE g L (.Call (.Name x pp) (e :: es) [] pos) md' U (m.bind f) := by
  obtain ⟨hg, ho⟩ := ok.gl hG
  obtain ⟨h1, _, h3⟩ := okName_d ho
  refine PE.imp (pe_callB hc hg (by rw [ok.mg]; exact hmg) hv ha h3 h1 he hpl) fun σ H Q q => ?_
  obtain ⟨kp, own, at_, q⟩ := tE_iff.mp q
  refine subA finE (Same.refl H) at_ q fun d xs H1 s1 r1 at1 q1 => ?_
  rw [← ok.fmK] at F
  exact F.run (R := RX g.fm own H H1 md) RX.rdb r1 (q1.fin hm s1 at1 (hne d))
theorem ev_callTy {x : Str} {j : Nat} {id : String} {r : List V → Hp → VK → Prop} {f : δ → M γ} {fr : Bool} {m : M δ} {pp : Pos} (ok : Ok p sc NN VV GG k g) (hc : CallR g.X (.type id) r) (F : OpC p.K r A U f fr) (hne : ∀ d c, f d ≠ .ex c) (hm : MdOk fr md md')
    (hG : GG[j]? = some x) (hmg : p.mg x = none) (hv : bootBuiltins x = some (.type id)) (ha : EvA g L (e :: es) md A m)
    (he : starEach (e :: es) g.X.env = (false, eval e g.X.env) :: starEach es g.X.env := by rfl) (hpl : (backTo pos (starEach es g.X.env)).any (·.1) = false := by rfl) : EvE g L (.Call (.Name x pp) (e :: es) [] pos) md' U (m.bind f) := by
  obtain ⟨hg, ho⟩ := ok.gl hG
  obtain ⟨h1, _, h3⟩ := okName_d ho
  refine PE.imp (pe_callTy hc hg (by rw [ok.mg]; exact hmg) hv ha h3 h1 he hpl) fun σ H Q q => ?_
  obtain ⟨kp, own, at_, q⟩ := tE_iff.mp q
  refine subA finE (Same.refl H) at_ q fun d xs H1 s1 r1 at1 q1 => ?_
  rw [← ok.fmK] at F
  exact F.run (R := RX g.fm own H H1 md) RX.rdb r1 (q1.fin hm s1 at1 (hne d))
/-- a built-in type's method -/
theorem ev_bm {ty id : String} {name : Str} {r : V → List V → Hp → VK → Prop} {f : α → δ → M γ} {fr : Bool} {m1 : M α} {m2 : M δ} {apos : Pos} (ok : Ok p sc NN VV GG k g) (pa : PlainAttrs ty) (slot : PySem.Slot ty name id) (hty : typeOf (.builtin id) = pure (.type "method_descriptor"))
    (hmt : MtR g.X id r) (F : OpM p.K ty r S A U f fr) (hne : ∀ d e c, f d e ≠ .ex c) (hm : MdOk fr md md') (ho : EvE g L a md S m1) (ha : EvA g L (e :: es) md A m2)
    (hbase : attributeBase a name g.X.env (eval a g.X.env) = eval a g.X.env := by rfl)
    (hfew : ((backTo pos (starEach (e :: es) g.X.env)).all (fun x => !x.1) && (backToKw pos (keywordEach [] g.X.env)).all (fun x => x.1.isSome)
      && decide ((e :: es).length + ([] : List Keyword).length + (if ([] : List Keyword).isEmpty then 0 else 1) < 30)) = true := by rfl)
    (hs : starEach (e :: es) g.X.env = (false, eval e g.X.env) :: starEach es g.X.env := by rfl) (hline : (apos.endLine == pos.line) = true := by rfl) (hplain : (backTo pos (starEach es g.X.env)).any (·.1) = false := by rfl) :
    EvE g L (.Call (.Attribute a name apos) (e :: es) [] pos) md' U (m1.bind fun d => m2.bind fun e => f d e) := by
  refine PE.imp (pe_bm pa slot hty hmt ho ha (hbase := hbase) (hfew := hfew) (hline := hline) (hs := hs) (hplain := hplain)) fun σ H Q q => ?_
  obtain ⟨kp, own, at_, q⟩ := tE_iff.mp q
  rw [← ok.fmK] at F
  refine sub finE (Same.refl H) at_ q fun d x H1 s1 r1 at1 q1 => ⟨(ok.fmK.trans ok.K.symm) ▸ F.ty (R := RX g.fm own H H1 md) RX.rdb r1, subA finE s1 at1 q1 fun e xs H2 s2 r2 at2 q2 => ?_⟩
  exact F.run (R := RX g.fm own H H2 md) RX.rdb (S.mono r1 (RX.same s2)) r2 (q2.fin hm (s1.trans s2) at2 (hne d e))
end
end Hd

namespace Hd
open PySem PySem.Spec L2
section
variable {p : Pr} {sc : Scope} {NN VV GG : List Str} {k : Nat} {g : G} {L L' : List Slot} {a b c e e' : Expr} {es : List Expr} {md md' : Md} {α β γ δ : Type} {S : Ty α} {T : Ty β} {U : Ty γ} {A : Ar δ} {pos : Pos}
/-! ### new lists -/
theorem RX.add {fm : Fm} {own : List Addr} {H H1 : Hp} {q : Addr} {o' : HO} (hn : H1 q = none) : ∀ a o, RX fm own H H1 md a o → RX fm (q :: own) H (upd H1 q o') md a o := fun a o r => by
  have ne : H1 a ≠ none → a ≠ q := fun h e => h (by rw [e]; exact hn)
  cases md with
  | sh =>
    rcases r with ⟨r, h1, h2⟩ | r
    · have n := ne (Rd.some (Rd.raw r))
      refine .inl ⟨?_, fun z => ?_, h2⟩
      · unfold Rd
        rw [cl_upd_ne n]
        exact r
      · rcases List.mem_cons.mp z with z | z
        · exact n z
        · exact h1 z
    · exact .inr r
  | f0 =>
    have n := ne (by rw [cl_raw r.1]; exact fun z => by cases z)
    exact ⟨by rw [cl_upd_ne n]; exact r.1, fun z => (List.mem_cons.mp z).elim n r.2.1, r.2.2⟩
  | fx =>
    have n := ne (by rw [cl_raw r.1]; exact fun z => by cases z)
    exact ⟨by rw [cl_upd_ne n]; exact r.1, fun z => (List.mem_cons.mp z).elim n r.2.1, r.2.2⟩
theorem RX.drop1 {fm : Fm} {own : List Addr} {H H1 : Hp} {q : Addr} : ∀ a o, RX fm (q :: own) H H1 md a o → RX fm own H H1 md a o := RX.own fun p hp => List.mem_cons_of_mem _ hp
theorem newRX' {fm : Fm} {kp : RdR} {own : List Addr} {σ : L2.St} {H H' : Hp} {q : Addr} {o : HO} (at_ : At fm kp L σ H own) (h : H q = none) (h' : H' q = some o) (n : nt o = true := by rfl) : RX fm own H H' md q o :=
  RX.fx md _ _ ⟨cl_of h' n, fun hp => (at_.new q hp).1 h, fun hz => at_.zin q hz h, at_.same.free h, h⟩
/-- as a value -/
theorem ev_ofL {m : M (List α)} (h : EvL g L e md S m) : EvE g L e md (tList S) m :=
  PE.imp h fun σ H Q q => by
    obtain ⟨kp, own, at_, q⟩ := tE_iff.mp q
    refine tL_iff.mpr ⟨kp, own, at_, ?_⟩
    cases m with
    | ok d => exact fun p vs H' s n h' r => q _ H' s ⟨p, vs, rfl, newRX' at_ n h', r.mono RX.drop1⟩
    | ex c => exact q
    | no => exact q
theorem evl_flat {m : M (List α)} (hf : Flat S) (h : EvL g L e md S m) : EvL g L e md' S m :=
  PE.imp h fun σ H Q q => by
    obtain ⟨kp, own, at_, q⟩ := tL_iff.mp q
    refine tL_iff.mpr ⟨kp, own, at_, ?_⟩
    cases m with
    | ok d => exact fun p vs H' s n h' r => q p vs H' s n h' (r.flat hf)
    | ex c => exact q
    | no => exact q
theorem evl_lst {m : M (List α)} (hl : ∀ ds, m = .ok ds → ds.length ≤ 1000) (ha : EvA g L es md (aAll S) m) : EvL g L (.List es pos) md S m := by
  refine PE.imp (pe_lst ha) fun σ H Q q => ?_
  obtain ⟨kp, own, at_, q⟩ := tL_iff.mp q
  refine tA_iff.mpr ⟨kp, own, at_, ?_⟩
  cases m with
  | ok d => exact fun vs H1 s1 r1 => ⟨Nat.le_trans (by rw [← tupL_le r1]; exact hl _ rfl) (by decide), fun p hp => q p vs _ (s1.trans (newSame hp)) (s1.free hp) upd_same (Reps.mono r1 (RX.add hp))⟩
  | ex c => exact q
  | no => exact q
theorem evl_nil : EvL g L (.List [] pos) md S (.ok []) := evl_lst (fun ds h => by cases h; exact Nat.zero_le _) evs_nil
/-- operators that make a list: by a rule over what is told -/
structure LOp2 (K : PySem.W.Frag) (r : R2) (S : Ty α) (T : Ty β) (U : Ty γ) (f : α → β → M (List γ)) : Prop where
  run : ∀ {d e x y R H Q}, Rdb K R H → S.rep d x R → T.rep e y R → (match f d e with
    | .ok u => ∀ q vs H', H q = none → H' = upd H q (.lst vs) → Reps U R u vs → Q (.ref q) H'
    | _ => False) → r x y H Q

/-! ### blocks -/
structure OkS (p : Pr) (sc : Scope) (NN VV GG : List Str) (k : Nat) (g : G) : Prop extends Ok p sc NN VV GG k g where
  loc : ∀ {i : Nat} {x : Str}, VV[i]? = some x → L2.Loc g.X.env.scope x
  fnT : ∀ x, g.X.fn x = true
  psO : PassesOwn (model g.X.prog g.X.w) g.X.A g.X.env g.X.xe
  scp : g.X.env.scope = sc
  stk : g.X.stack = g.X.env :: g.X.outer
  frm : g.X.env.frame = some g.X.env.locals
  exn : g.X.ex = []
theorem PSs.ex {X : Cx} {ι : Type} {st : List Stmt} {t : ι → TS} (h : ∀ d, PSs X st (t d)) : PSs X st (fun E σ H => ∃ d, t d E σ H) := ⟨fun pins s σ H D I ⟨d, q⟩ => (h d).run pins s σ H D I q⟩
variable {st : List Stmt} {s0 : Stmt} {D : δ → Out} {d : δ}
theorem evb_nx (h : D d = .nx L') (w : Wk L L') : EvB g L [] D (.ok d) := by
  refine PSs.imp pss_nil fun E σ H ⟨kp, own, at_, q⟩ => ?_
  have q : OutOk g.fm kp E (D d) := q
  rw [h] at q
  obtain ⟨own', a', _⟩ := at_.weak w
  exact q σ H own' a'
theorem evb_go (h : D d = .go L') (w : Wk L L') : EvB g L [] D (.ok d) := by
  refine PSs.imp pss_nil fun E σ H ⟨kp, own, at_, q⟩ => ?_
  have q : OutOk g.fm kp E (D d) := q
  rw [h] at q
  obtain ⟨own', a', _⟩ := at_.weak w
  exact (q σ H own' a').1
theorem PSs.head {X : Cx} {t : TS} (h : PS X s0 t) : PSs X (s0 :: st) (fun E σ H => t { E with nx := fun _ _ => False } σ H) := by
  refine PSs.imp (pss_cons h (pss_never (sts := st))) fun E σ H q => q
theorem evb_cont (h : D d = .go L' ∨ D d = .ct L') (w : Wk L L') : EvB g L (.Continue pos :: st) D (.ok d) := by
  refine PSs.imp (PSs.head ps_continue) fun E σ H ⟨kp, own, at_, q⟩ => ?_
  have q : OutOk g.fm kp E (D d) := q
  obtain ⟨own', a', _⟩ := at_.weak w
  rcases h with h | h <;> rw [h] at q
  · exact (q σ H own' a').2
  · exact q σ H own' a'
theorem BOk.exx {kp : RdR} {E : Ends} {c : Ec} {σ : L2.St} {H : Hp} {own : List Addr} (wk : Wk L g.LX) (at_ : At g.fm kp L σ H own) (q : BOk g kp E D (.ex c)) : ∀ H', Same H H' → g.W c σ H' := fun H' s => by
  obtain ⟨own', a', _⟩ := (at_.ext s).weak wk
  exact q σ H' own' a'
/-- return e -/
inductive RtMd : Md → Bool → Prop where
  | sh {x : Md} : RtMd x false
  | f0 : RtMd .f0 true
  | fx : RtMd .fx true
theorem RtMd.rt {fm : Fm} {own : List Addr} {H H' : Hp} {bm : Bool} (h : RtMd md bm) : ∀ a o, RX fm own H H' md a o → RT fm H' bm none a o := fun a o r => by
  have r' := RX.own (own' := []) (fun _ z => nomatch z) a o r
  cases h with
  | sh =>
    have q := RX.sh a o r'
    exact q
  | f0 => exact r'
  | fx => exact RX.f0 (H := H) a o r'
theorem evb_retF {bm : Bool} {m : M α} {mk : α → δ} (wk : Wk L g.LX) (hm : RtMd md bm) (hD : ∀ d, D (mk d) = .rt bm S d) (he : EvE g L e md S m) : EvB g L (.Return (some e) pos :: st) D (m.bind fun d => .ok (mk d)) := by
  refine PSs.imp (PSs.head (ps_ret he)) fun E σ H ⟨kp, own, at_, q⟩ => ?_
  refine tE_iff.mpr ⟨kp, own, at_, ?_⟩
  cases m with
  | ok d =>
    have q : OutOk g.fm kp E (D (mk d)) := q
    rw [hD] at q
    exact fun v H' s r => q v H' (at_.same.trans s) (S.mono r hm.rt)
  | ex c => exact BOk.exx wk at_ q
  | no => exact q
theorem M.bind_id {α : Type} (m : M α) : m.bind (fun d => .ok d) = m := by cases m <;> rfl
theorem evb_ret {bm : Bool} {m : M α} {D : α → Out} (wk : Wk L g.LX) (hm : RtMd md bm) (hD : ∀ d, D d = .rt bm S d) (he : EvE g L e md S m) : EvB g L (.Return (some e) pos :: st) D m := by
  have h := evb_retF (mk := id) (st := st) (pos := pos) wk hm hD he
  rwa [show (m.bind fun d => .ok (id d)) = m from M.bind_id m] at h
theorem evb_retP {bm : Bool} {d : α} {D : δ → Out} {d' : δ} (hm : RtMd md bm) (hD : D d' = .rt bm S d) (he : EvE g L e md S (.ok d)) : EvB g L (.Return (some e) pos :: st) D (.ok d') := by
  refine PSs.imp (PSs.head (ps_ret he)) fun E σ H ⟨kp, own, at_, q⟩ => ?_
  refine tE_iff.mpr ⟨kp, own, at_, ?_⟩
  have q : OutOk g.fm kp E (D d') := q
  rw [hD] at q
  exact fun v H' s r => q v H' (at_.same.trans s) (S.mono r hm.rt)
theorem evb_retN {bm : Bool} {D : δ → Out} {d' : δ} (hD : D d' = .rt bm tNone ()) : EvB g L (.Return none pos :: st) D (.ok d') := by
  refine PSs.imp (PSs.head ps_retN) fun E σ H ⟨kp, own, at_, q⟩ => ?_
  have q : OutOk g.fm kp E (D d') := q
  rw [hD] at q
  exact q _ H at_.same rfl
theorem RX.rtL {fm : Fm} {own : List Addr} {H H' : Hp} {bm : Bool} {p : Addr} (h : RtMd md bm) : ∀ a o, RX fm (p :: own) H H' md a o → RT fm H' bm (some p) a o := fun a o r => by
  have r' := RX.own (own' := [p]) (fun x z => by rw [List.mem_singleton.mp z]; exact List.mem_cons_self) a o r
  cases h with
  | sh =>
    have q := RX.sh a o r'
    exact q
  | f0 => exact r'
  | fx => exact RX.f0 (H := H) a o r'
/-- return of a list just made -/
theorem evb_retLF {bm : Bool} {m : M (List α)} {mk : List α → δ} (wk : Wk L g.LX) (hm : RtMd md bm) (hD : ∀ d, D (mk d) = .rtL bm S d) (he : EvL g L e md S m) : EvB g L (.Return (some e) pos :: st) D (m.bind fun d => .ok (mk d)) := by
  refine PSs.imp (PSs.head (ps_ret he)) fun E σ H ⟨kp, own, at_, q⟩ => ?_
  refine tL_iff.mpr ⟨kp, own, at_, ?_⟩
  cases m with
  | ok d =>
    have q : OutOk g.fm kp E (D (mk d)) := q
    rw [hD] at q
    exact fun p vs H' s n h' r => q p vs H' (at_.same.trans s) (fun hz => at_.zin p hz n) (at_.same.free n) h' (r.mono (RX.rtL hm))
  | ex c => exact BOk.exx wk at_ q
  | no => exact q
theorem evb_retL {bm : Bool} {m : M (List α)} {D : List α → Out} (wk : Wk L g.LX) (hm : RtMd md bm) (hD : ∀ d, D d = .rtL bm S d) (he : EvL g L e md S m) : EvB g L (.Return (some e) pos :: st) D m := by
  have h := evb_retLF (mk := id) (st := st) (pos := pos) wk hm hD he
  rwa [show (m.bind fun d => .ok (id d)) = m from M.bind_id m] at h
theorem evb_retLP {bm : Bool} {d : List α} {D : δ → Out} {d' : δ} (hm : RtMd md bm) (hD : D d' = .rtL bm S d) (he : EvL g L e md S (.ok d)) : EvB g L (.Return (some e) pos :: st) D (.ok d') := by
  refine PSs.imp (PSs.head (ps_ret he)) fun E σ H ⟨kp, own, at_, q⟩ => ?_
  refine tL_iff.mpr ⟨kp, own, at_, ?_⟩
  have q : OutOk g.fm kp E (D d') := q
  rw [hD] at q
  exact fun p vs H' s n h' r => q p vs H' (at_.same.trans s) (fun hz => at_.zin p hz n) (at_.same.free n) h' (r.mono (RX.rtL hm))
/-- return of a list that a slot owns -/
theorem evb_retOwn {bm b : Bool} {ds : List α} {i j : Nat} {x : Str} {D : δ → Out} {d' : δ} {npos : Pos} (ok : Ok p sc NN VV GG k g) (hN : NN[i]? = some x) (hV : VV[j]? = some x) (hL : L[i]? = some (sOwn b S ds)) (hb : b = bm ∨ Flat S ∨ bm = false) (hD : D d' = .rtL bm S ds) :
    EvB g L (.Return (some (.Name x npos)) pos :: st) D (.ok d') := by
  obtain ⟨hv, ho⟩ := ok.vis hV
  obtain ⟨h1, h2, _⟩ := okName_d ho
  refine PSs.imp (PSs.head (ps_ret (pe_var (i := i) (by rw [ok.N]; exact hN) hv h1 h2))) fun E σ H ⟨kp, own, at_, q⟩ => ?_
  obtain ⟨Fs, hs, rfl⟩ := at_.sl
  obtain ⟨v, F, e1, e2, p, vs, rfl, rfl, hp, r⟩ := hs.get hL
  have q : OutOk g.fm kp E (D d') := q
  rw [hD] at q
  have pin : p ∈ Fs.flatten := List.mem_flatten.mpr ⟨[p], List.mem_of_getElem? e2, by simp⟩
  obtain ⟨n1, n2, n3⟩ := at_.new p pin
  have rr : Reps S (RX g.fm [p] H H (if b then .f0 else .sh)) ds vs := r.mono (RX.own (own' := [p]) (fun x z => by rw [List.mem_singleton.mp z]; exact pin))
  refine ⟨_, e1, q p vs H at_.same n3 n2 hp ?_⟩
  unfold RT
  rcases hb with rfl | hf | rfl
  · exact rr
  · exact rr.flat hf
  · exact rr.mono RX.sh
/-! ### assignments -/
inductive SlB : Md → Bool → Prop where
  | sh {x : Md} : SlB x false
  | f0 : SlB .f0 true
  | fx : SlB .fx true
theorem SlB.rb {fm : Fm} {own : List Addr} {H H' : Hp} {b : Bool} (h : SlB md b) : ∀ a o, RX fm own H H' md a o → RB fm own H' b a o := fun a o r => by
  cases h with
  | sh =>
    have q := RX.sh a o r
    exact q
  | f0 => exact r
  | fx => exact RX.f0 (H := H) a o r
variable {i j : Nat} {x : Str} {pos' : Pos}
theorem okS_fn (ok : OkS p sc NN VV GG k g) : g.X.fn x = true ∨ g.X.env.scope.names.lookup x = some .local := .inl (ok.fnT x)
theorem evb_set {b : Bool} {m : M α} {f : α → M δ} (ok : OkS p sc NN VV GG k g) (hN : NN[i]? = some x) (hV : VV[j]? = some x) (wk : Wk L g.LX) (hb : SlB md b) (he : EvE g L e md S m) (hr : ∀ d, EvB g (L.set i (sV b S d)) st D (f d))
    (hs : swapsWith e (some (.Name x pos')) pos.line g.X.env = pure false := by rfl) : EvB g L (.Assign [.Name x pos'] e pos :: st) D (m.bind f) := by
  refine PSs.imp (pss_cons (ps_set (i := i) (by rw [ok.N]; exact ok.nd) (by rw [ok.N]; exact hN) (ok.loc hV) he hs (okS_fn ok)) (PSs.ex hr)) fun E σ H ⟨kp, own, at_, q⟩ => ?_
  refine tE_iff.mpr ⟨kp, own, at_, ?_⟩
  cases m with
  | ok d =>
    intro v H' s r
    obtain ⟨own', a'⟩ := (at_.ext s).setV (i := i) (b := b) (S.mono r hb.rb)
    exact ⟨d, kp, own', a', q⟩
  | ex c => exact BOk.exx wk at_ q
  | no => exact q
theorem evb_setP {b : Bool} {d : α} {m : M δ} (ok : OkS p sc NN VV GG k g) (hN : NN[i]? = some x) (hV : VV[j]? = some x) (hb : SlB md b) (he : EvE g L e md S (.ok d)) (hr : EvB g (L.set i (sV b S d)) st D m)
    (hs : swapsWith e (some (.Name x pos')) pos.line g.X.env = pure false := by rfl) : EvB g L (.Assign [.Name x pos'] e pos :: st) D m := by
  refine PSs.imp (pss_cons (ps_set (i := i) (by rw [ok.N]; exact ok.nd) (by rw [ok.N]; exact hN) (ok.loc hV) he hs (okS_fn ok)) hr) fun E σ H ⟨kp, own, at_, q⟩ => ?_
  refine ⟨kp, own, at_, fun v H' s r => ?_⟩
  obtain ⟨own', a'⟩ := (at_.ext s).setV (i := i) (b := b) (S.mono r hb.rb)
  exact ⟨kp, own', a', q⟩
theorem set_own {Fs : List (List Addr)} {q : Addr} : ∀ {i : Nat}, ∀ x ∈ (Fs.set i [q]).flatten, x = q ∨ x ∈ Fs.flatten := by
  induction Fs with
  | nil => intro i x h; exact .inr h
  | cons F Fs ih =>
    intro i x h
    cases i with
    | zero =>
      simp only [List.set_cons_zero, List.flatten_cons, List.mem_append, List.mem_singleton] at h
      rcases h with h | h
      · exact .inl h
      · exact .inr (by simp only [List.flatten_cons, List.mem_append]; exact .inr h)
    | succ i =>
      simp only [List.set_cons_succ, List.flatten_cons, List.mem_append] at h
      rcases h with h | h
      · exact .inr (by simp only [List.flatten_cons, List.mem_append]; exact .inl h)
      · rcases ih x h with h | h
        · exact .inl h
        · exact .inr (by simp only [List.flatten_cons, List.mem_append]; exact .inr h)
theorem set_own_nd {Fs : List (List Addr)} {q : Addr} (hq : q ∉ Fs.flatten) (hn : Fs.flatten.Nodup) : ∀ {i : Nat}, (Fs.set i [q]).flatten.Nodup := by
  induction Fs with
  | nil => intro i; exact hn
  | cons F Fs ih =>
    intro i
    simp only [List.flatten_cons, List.mem_append, not_or] at hq
    rw [List.flatten_cons, List.nodup_append] at hn
    cases i with
    | zero =>
      simp only [List.set_cons_zero, List.flatten_cons]
      rw [List.nodup_append]
      refine ⟨by simp, hn.2.1, fun a ha b hb => ?_⟩
      rw [List.mem_singleton.mp ha]
      rintro rfl
      exact hq.2 hb
    | succ i =>
      simp only [List.set_cons_succ, List.flatten_cons]
      rw [List.nodup_append]
      refine ⟨hn.1, ih hq.2 hn.2.1, fun a ha b hb => ?_⟩
      rcases set_own b hb with rfl | hb
      · rintro rfl; exact hq.1 ha
      · exact hn.2.2 a ha b hb
/-- a new list becomes a slot's own -/
theorem At.setOwn {fm : Fm} {kp : RdR} {σ : L2.St} {H H' : Hp} {own : List Addr} {b : Bool} {ds : List α} {vs : List V} {q : Addr} (h : At fm kp L σ H own) (s : Same H H') (hn : H q = none) (h' : H' q = some (.lst vs))
    (r : Reps S (RB fm (q :: own) H' b) ds vs) : ∃ own', At fm kp (L.set i (sOwn b S ds)) (σ.set i (some (.ref q))) H' own' := by
  obtain ⟨h1, h2, ⟨Fs, h3, rfl⟩, h4, h5, h6⟩ := h
  have hq : q ∉ Fs.flatten := fun z => (h5 q z).1 hn
  have sub : ∀ x ∈ (Fs.set i [q]).flatten, x ∈ q :: Fs.flatten := fun x hx => (set_own x hx).elim (fun e => by rw [e]; exact List.mem_cons_self) (List.mem_cons_of_mem _)
  have key : ∀ (md : Md) a o, RX fm Fs.flatten H H md a o → RX fm (Fs.set i [q]).flatten H H' md a o := fun md a o z => by
    refine RX.own sub a o ?_
    have z1 := RX.add (o' := .lst []) hn a o z
    have na : a ≠ q ∨ KObj fm.K a o := by
      rcases RX.sh a o z with z | z
      · exact .inl fun e => Rd.some z.1 (by rw [e]; exact cl_none hn)
      · exact .inr z
    cases md with
    | sh =>
      rcases z1 with z1 | z1
      · rcases z with z | z
        · exact .inl ⟨Rd.same s z.1, z1.2⟩
        · exact .inr z
      · exact .inr z1
    | f0 => exact ⟨s.cl _ _ z.1, z1.2⟩
    | fx => exact ⟨s.cl _ _ z.1, z1.2⟩
  have keyB : ∀ (b : Bool) a o, RB fm Fs.flatten H b a o → RB fm (Fs.set i [q]).flatten H' b a o := fun b a o z => by
    cases b with
    | false => exact key .sh a o z
    | true => exact key .f0 a o z
  refine ⟨_, h1.trans s, fun a z n => h2 a z (s.free n), ⟨Fs.set i [q], (h3.st (H' := H') keyB fun p hp => ?_).set (s := sOwn b S ds) ⟨q, vs, rfl, rfl, h', r.mono fun a o z => ?_⟩ i, rfl⟩, set_own_nd hq h4, fun p hp => ?_, fun a o z => key .sh a o (h6 a o z)⟩
  · cases e : cl H p with
    | none => exact absurd e (h3.tb p hp)
    | some u => rw [cl_raw e]; exact s.keep _ _ (cl_raw e) (cl_nt e)
  · cases b <;> exact RX.own sub a o z
  · rcases set_own p hp with rfl | hp
    · exact ⟨by rw [h']; exact (fun z => by cases z), h1.free hn, fun z => h2 _ z hn⟩
    · exact ⟨fun e => (h5 p hp).1 (s.free e), (h5 p hp).2⟩
theorem evb_own {b : Bool} {m : M (List α)} {f : List α → M δ} (ok : OkS p sc NN VV GG k g) (hN : NN[i]? = some x) (hV : VV[j]? = some x) (wk : Wk L g.LX) (hb : SlB md b) (he : EvL g L e md S m) (hr : ∀ d, EvB g (L.set i (sOwn b S d)) st D (f d))
    (hs : swapsWith e (some (.Name x pos')) pos.line g.X.env = pure false := by rfl) : EvB g L (.Assign [.Name x pos'] e pos :: st) D (m.bind f) := by
  refine PSs.imp (pss_cons (ps_set (i := i) (by rw [ok.N]; exact ok.nd) (by rw [ok.N]; exact hN) (ok.loc hV) he hs (okS_fn ok)) (PSs.ex hr)) fun E σ H ⟨kp, own, at_, q⟩ => ?_
  cases m with
  | ok d =>
    refine ⟨kp, own, at_, fun v vs H' s n h' r => ?_⟩
    obtain ⟨own', a'⟩ := at_.setOwn (i := i) (b := b) s n h' (r.mono hb.rb)
    exact ⟨d, kp, own', a', q⟩
  | ex c => exact ⟨kp, own, at_, BOk.exx wk at_ q⟩
  | no => exact q.elim
theorem evb_ownP {b : Bool} {d : List α} {m : M δ} (ok : OkS p sc NN VV GG k g) (hN : NN[i]? = some x) (hV : VV[j]? = some x) (hb : SlB md b) (he : EvL g L e md S (.ok d)) (hr : EvB g (L.set i (sOwn b S d)) st D m)
    (hs : swapsWith e (some (.Name x pos')) pos.line g.X.env = pure false := by rfl) : EvB g L (.Assign [.Name x pos'] e pos :: st) D m := by
  refine PSs.imp (pss_cons (ps_set (i := i) (by rw [ok.N]; exact ok.nd) (by rw [ok.N]; exact hN) (ok.loc hV) he hs (okS_fn ok)) hr) fun E σ H ⟨kp, own, at_, q⟩ => ?_
  refine ⟨kp, own, at_, fun v vs H' s n h' r => ?_⟩
  obtain ⟨own', a'⟩ := at_.setOwn (i := i) (b := b) s n h' (r.mono hb.rb)
  exact ⟨kp, own', a', q⟩

/-- an expression whose worth is dropped -/
theorem evb_expr {m : M α} {f : α → M δ} (wk : Wk L g.LX) (he : EvE g L e md S m) (hr : ∀ d, EvB g L st D (f d)) (hs : swapsWith e none pos.line g.X.env = pure false := by rfl) : EvB g L (.Expr e pos :: st) D (m.bind f) := by
  refine PSs.imp (pss_cons (ps_expr he hs) (PSs.ex hr)) fun E σ H ⟨kp, own, at_, q⟩ => ?_
  cases m with
  | ok d => exact ⟨kp, own, at_, fun v H' s r => ⟨d, kp, own, at_.ext s, q⟩⟩
  | ex c => exact ⟨kp, own, at_, BOk.exx wk at_ q⟩
  | no => exact q.elim
theorem evb_pass {m : M δ} (hr : EvB g L st D m) : EvB g L (.Pass pos :: st) D m := PSs.imp (pss_cons ps_pass hr) fun E σ H q => q
theorem evb_drop {m : M δ} (w : Wk L L') (hr : EvB g L' st D m) : EvB g L st D m := PSs.imp hr fun E σ H ⟨kp, own, at_, q⟩ => by
  obtain ⟨own', a', _⟩ := at_.weak w
  exact ⟨kp, own', a', q⟩
/-- a slot's own list may be shared from here on -/
theorem At.freeze {fm : Fm} {kp : RdR} {σ : L2.St} {H : Hp} {own : List Addr} {b : Bool} {ds : List α} (h : At fm kp L σ H own) (hL : L[i]? = some (sOwn b S ds)) : ∃ own', At fm kp (L.set i (sV false (tList S) ds)) σ H own' ∧ ∀ p ∈ own', p ∈ own := by
  obtain ⟨h1, h2, ⟨Fs, h3, rfl⟩, h4, h5, h6⟩ := h
  obtain ⟨v, F, e1, e2, q, vs, rfl, rfl, hp, r⟩ := h3.get hL
  have qin : q ∈ Fs.flatten := List.mem_flatten.mpr ⟨[q], List.mem_of_getElem? e2, by simp⟩
  have kk : ∀ p ∈ (Fs.set i []).flatten, p ∈ Fs.flatten := fun p hp => (set_sub (i := i)).subset hp
  have qn : q ∉ (Fs.set i []).flatten := by
    have nd := h4
    clear h3 h5 h6 qin kk r hp
    induction Fs generalizing i L σ with
    | nil => simp at e2
    | cons F Fs ih =>
      rw [List.flatten_cons, List.nodup_append] at nd
      cases i with
      | zero =>
        simp at e2
        subst e2
        simp only [List.set_cons_zero, List.flatten_cons, List.nil_append]
        exact fun z => nd.2.2 q (by simp) q z rfl
      | succ i =>
        simp only [List.set_cons_succ, List.flatten_cons, List.mem_append, not_or]
        have e2' : Fs[i]? = some [q] := by simpa using e2
        refine ⟨fun z => nd.2.2 q z q (List.mem_flatten.mpr ⟨[q], List.mem_of_getElem? e2', by simp⟩) rfl, ?_⟩
        cases σ with
        | nil => simp at e1
        | cons s σ =>
          cases L with
          | nil => simp at hL
          | cons l L => exact ih (i := i) (L := L) (σ := σ) (hL := by simpa using hL) (e1 := by simpa using e1) (e2 := e2') (h4 := nd.2.1) (nd := nd.2.1)
  have σe : σ.set i (some (V.ref q)) = σ := by
    apply List.ext_getElem?
    intro n
    by_cases hn : n = i
    · subst hn
      rw [e1]
      have := (List.getElem?_eq_some_iff.mp e1).1
      rw [List.getElem?_set_self this]
    · rw [List.getElem?_set_ne (Ne.symm hn)]
  refine ⟨_, ⟨h1, h2, ⟨Fs.set i [], ?_, rfl⟩, h4.sublist set_sub, fun p hp => h5 p (kk p hp), fun a o z => RX.own (md := .sh) (H := H) kk a o (h6 a o z)⟩, kk⟩
  rw [← σe]
  refine (h3.st (RB.own kk) fun _ _ => rfl).set (s := sV false (tList S) ds) ⟨rfl, .ref q, rfl, q, vs, rfl, ?_, ?_⟩ i
  · exact .inl ⟨.inl (cl_of hp), qn, (h5 q qin).2.2⟩
  · exact r.mono fun a o z => RX.sh (H := H) a o (RB.own kk b a o z)
theorem evb_freeze {b : Bool} {ds : List α} {m : M δ} (hL : L[i]? = some (sOwn b S ds)) (hr : EvB g (L.set i (sV false (tList S) ds)) st D m) : EvB g L st D m := PSs.imp hr fun E σ H ⟨kp, own, at_, q⟩ => by
  obtain ⟨own', a', _⟩ := at_.freeze hL
  exact ⟨kp, own', a', q⟩
/-- an expression may read a slot's own list -/
theorem ev_borrow {b : Bool} {ds : List α} {m : M β} (hf : Flat T ∨ md = .fx) (hL : L[i]? = some (sOwn b S ds)) (h : EvE g (L.set i (sV false (tList S) ds)) e md T m) : EvE g L e md T m := PE.imp h fun σ H Q q => by
  obtain ⟨kp, own, at_, q⟩ := tE_iff.mp q
  obtain ⟨own', a', sub⟩ := at_.freeze hL
  refine tE_iff.mpr ⟨kp, own', a', ?_⟩
  cases m with
  | ok d =>
    refine fun v H' s r => q v H' s ?_
    rcases hf with hf | rfl
    · exact hf r
    · exact T.mono r fun a o z => ⟨z.1, fun y => (at_.new a y).1 z.2.2.2.2, z.2.2⟩
  | ex c => exact q
  | no => exact q
theorem evt_borrow {b : Bool} {ds : List α} {m : M Bool} (hL : L[i]? = some (sOwn b S ds)) (h : EvT g (L.set i (sV false (tList S) ds)) e m) : EvT g L e m := PT.imp h fun σ H Q q => by
  obtain ⟨kp, own, at_, q⟩ := tT_iff.mp q
  obtain ⟨own', a', sub⟩ := at_.freeze hL
  refine tT_iff.mpr ⟨kp, own', a', ?_⟩
  cases m <;> exact q
theorem evl_borrow {b : Bool} {ds : List α} {m : M (List β)} (hf : Flat T ∨ md = .fx) (hL : L[i]? = some (sOwn b S ds)) (h : EvL g (L.set i (sV false (tList S) ds)) e md T m) : EvL g L e md T m := PE.imp h fun σ H Q q => by
  obtain ⟨kp, own, at_, q⟩ := tL_iff.mp q
  obtain ⟨own', a', sub⟩ := at_.freeze hL
  refine tL_iff.mpr ⟨kp, own', a', ?_⟩
  cases m with
  | ok d =>
    refine fun p v H' s n h' r => q p v H' s n h' ?_
    rcases hf with hf | rfl
    · exact r.flat hf
    · exact r.mono fun a o z => ⟨z.1, fun y => (List.mem_cons.mp y).elim (fun e => z.2.1 (by rw [e]; exact List.mem_cons_self)) fun y => (at_.new a y).1 z.2.2.2.2, z.2.2⟩
  | ex c => exact q
  | no => exact q

/-! ### if -/
theorem if_bind {c : Bool} {m1 m2 : M α} {f : α → M β} : (if c = true then m1 else m2).bind f = if c = true then m1.bind f else m2.bind f := by cases c <;> rfl
/-- both ways go on to one state -/
theorem evb_if {mc : M Bool} {m1 m2 : M β} {f : β → M δ} {LJ : β → List Slot} {sa sb : List Stmt} (wk : Wk L g.LX) (hc : EvT g L c mc) (ha : EvB g L sa (fun s => .nx (LJ s)) m1) (hb : EvB g L sb (fun s => .nx (LJ s)) m2) (hr : ∀ s, EvB g (LJ s) st D (f s)) :
    EvB g L (.If c sa sb pos :: st) D (mc.bind fun c => (if c = true then m1 else m2).bind f) := by
  refine PSs.imp (pss_cons (ps_if hc ha hb) (PSs.ex hr)) fun E σ H ⟨kp, own, at_, q⟩ => ?_
  have key : ∀ {m : M β} {H1 : Hp}, Same H H1 → BOk g kp E D (m.bind f) → tB g L (fun s => .nx (LJ s)) m { E with nx := fun σ H => ∃ d, tB g (LJ d) D (f d) E σ H } σ H1 := fun {m H1} s q => by
    cases m with
    | ok d => exact ⟨kp, own, at_.ext s, fun σ' H' own' a' => ⟨d, kp, own', a', q⟩⟩
    | ex c => exact ⟨kp, own, at_.ext s, q⟩
    | no => exact q.elim
  cases mc with
  | ok c =>
    refine ⟨kp, own, at_, fun H1 s => ?_⟩
    cases c with
    | true => exact key s q
    | false => exact key s q
  | ex c => exact ⟨kp, own, at_, BOk.exx wk at_ q⟩
  | no => exact q.elim
theorem evb_ifP {c' : Bool} {m1 m2 : M β} {f : β → M δ} {LJ : β → List Slot} {sa sb : List Stmt} (wk : Wk L g.LX) (hc : EvT g L c (.ok c')) (ha : EvB g L sa (fun s => .nx (LJ s)) m1) (hb : EvB g L sb (fun s => .nx (LJ s)) m2) (hr : ∀ s, EvB g (LJ s) st D (f s)) :
    EvB g L (.If c sa sb pos :: st) D ((if c' = true then m1 else m2).bind f) := evb_if wk hc ha hb hr
def Out.isNx : Out → Bool
  | .nx _ => true
  | _ => false
theorem OutOk.cut {fm : Fm} {kp : RdR} {E E' : Ends} (hc : E'.ct = E.ct) (hr : E'.rt = E.rt) : ∀ {o : Out}, o.isNx = false → OutOk fm kp E o → OutOk fm kp E' o.cut := fun {o} hn q => by
  cases o with
  | nx L => cases hn
  | ct L => exact fun σ H own a => by rw [hc]; exact q σ H own a
  | go L => exact fun σ H own a => by rw [hc]; exact (q σ H own a).2
  | rt b T r => exact fun v H' s r => by rw [hr]; exact q v H' s r
  | rtL b T r => exact fun p vs H' s n1 n2 h r => by rw [hr]; exact q p vs H' s n1 n2 h r
  | gen f => show f fm E'.rt; rw [hr]; exact q
  | bad => exact q
/-- one way leaves (return, raise, continue), the other goes on -/
theorem evb_ifx {mc : M Bool} {m1 m2 : M δ} {sa : List Stmt} (wk : Wk L g.LX) (hc : EvT g L c mc) (ha : EvB g L sa (fun d => (D d).cut) m1) (hr : EvB g L st D m2) (hn : ∀ d, (D d).isNx = false := by intro d; first | rfl | (cases d <;> first | rfl | (rename_i z; cases z <;> rfl))) :
    EvB g L (.If c sa [] pos :: st) D (mc.bind fun c => if c = true then m1 else m2) := by
  refine PSs.imp (pss_cons (ps_if hc ha pss_nil) hr) fun E σ H ⟨kp, own, at_, q⟩ => ?_
  cases mc with
  | ok c =>
    refine ⟨kp, own, at_, fun H1 s => ?_⟩
    cases c with
    | true =>
      have q : BOk g kp E D m1 := q
      refine ⟨kp, own, at_.ext s, ?_⟩
      cases m1 with
      | ok d => exact OutOk.cut (E := E) (E' := { E with nx := tB g L D m2 E }) rfl rfl (hn d) q
      | ex c => exact q
      | no => exact q
    | false => exact ⟨kp, own, at_.ext s, q⟩
  | ex c => exact ⟨kp, own, at_, BOk.exx wk at_ q⟩
  | no => exact q.elim
theorem evb_ifxP {c' : Bool} {m1 m2 : M δ} {sa : List Stmt} (hc : EvT g L c (.ok c')) (ha : EvB g L sa (fun d => (D d).cut) m1) (hr : EvB g L st D m2) (hn : ∀ d, (D d).isNx = false := by intro d; first | rfl | (cases d <;> first | rfl | (rename_i z; cases z <;> rfl))) :
    EvB g L (.If c sa [] pos :: st) D (if c' = true then m1 else m2) := by
  refine PSs.imp (pss_cons (ps_if hc ha pss_nil) hr) fun E σ H ⟨kp, own, at_, q⟩ => ?_
  refine ⟨kp, own, at_, fun H1 s => ?_⟩
  cases c' with
  | true =>
    have q : BOk g kp E D m1 := q
    refine ⟨kp, own, at_.ext s, ?_⟩
    cases m1 with
    | ok d => exact OutOk.cut (E := E) (E' := { E with nx := tB g L D m2 E }) rfl rfl (hn d) q
    | ex c => exact q
    | no => exact q
  | false => exact ⟨kp, own, at_.ext s, q⟩
/-- the last statement of a block: both ways end as the block does -/
theorem evb_ifl {mc : M Bool} {m1 m2 : M δ} {sa sb : List Stmt} (wk : Wk L g.LX) (hc : EvT g L c mc) (ha : EvB g L sa D m1) (hb : EvB g L sb D m2) : EvB g L [.If c sa sb pos] D (mc.bind fun c => if c = true then m1 else m2) := by
  refine PSs.imp (pss_one (ps_if hc ha hb)) fun E σ H ⟨kp, own, at_, q⟩ => ?_
  cases mc with
  | ok c =>
    refine ⟨kp, own, at_, fun H1 s => ?_⟩
    cases c with
    | true => exact ⟨kp, own, at_.ext s, q⟩
    | false => exact ⟨kp, own, at_.ext s, q⟩
  | ex c => exact ⟨kp, own, at_, BOk.exx wk at_ q⟩
  | no => exact q.elim
theorem evb_iflP {c' : Bool} {m1 m2 : M δ} {sa sb : List Stmt} (hc : EvT g L c (.ok c')) (ha : EvB g L sa D m1) (hb : EvB g L sb D m2) : EvB g L [.If c sa sb pos] D (if c' = true then m1 else m2) := by
  refine PSs.imp (pss_one (ps_if hc ha hb)) fun E σ H ⟨kp, own, at_, q⟩ => ?_
  refine ⟨kp, own, at_, fun H1 s => ?_⟩
  cases c' with
  | true => exact ⟨kp, own, at_.ext s, q⟩
  | false => exact ⟨kp, own, at_.ext s, q⟩

/-! ### loops -/
def forM {α β : Type} (f : β → α → M β) : β → List α → M β
  | s, [] => .ok s
  | s, x :: r => (f s x).bind fun s' => forM f s' r
/-- a turn's end: on, or out of the def -/
inductive Fl (β ρ : Type) where
  | nx (s : β)
  | rt (r : ρ)
universe u in
def Fl.el {β ρ : Type} {γ : Type u} (f : β → γ) (h : ρ → γ) : Fl β ρ → γ
  | .nx s => f s
  | .rt r => h r
def forF {α β ρ : Type} (f : β → α → M (Fl β ρ)) : β → List α → M (Fl β ρ)
  | s, [] => .ok (.nx s)
  | s, x :: r => (f s x).bind (Fl.el (fun s' => forF f s' r) fun r => .ok (.rt r))
def ItOk (K : PySem.W.Frag) (kp : RdR) (J : It) (T : Ty α) (xs : List α) : Prop :=
  ∀ H, Rdb K kp H → ∀ i, (∀ d, xs[i]? = some d → J.go i H ∧ ∀ x H', J.yld i H x H' → Same H H' ∧ T.rep d x (Nw false kp H H')) ∧ (xs[i]? = none → J.stop i H)
/-- what a for walks -/
def tI (fm : Fm) (W : Wx) (L : List Slot) (T : Ty α) (m : M (List α)) : TI := fun σ H R => ∃ kp own, At fm kp L σ H own ∧
  match m with
  | .ok xs => ∀ J H', Same H H' → ItOk fm.K (RD fm own H') J T xs → R J H'
  | .ex c => ∀ H', Same H H' → W c σ H'
  | .no => False
def EvI (g : G) (L : List Slot) (tg e : Expr) (T : Ty α) (m : M (List α)) : Prop := PI g.X tg e (tI g.fm g.W L T m)
theorem PI.imp {X : Cx} {tg e : Expr} {t t' : TI} (h : PI X tg e t) (k : ∀ σ H Q, t' σ H Q → t σ H Q) : PI X tg e t' := ⟨fun pins s σ H Q I q => h.run pins s σ H Q I (k _ _ _ q)⟩
/-- a target that is one name: its slot afterwards -/
def tG (fm : Fm) (T : Ty α) (L : List Slot) (Lt : α → List Slot) : TG := fun v σ H Q => ∃ kp own d, At fm kp L σ H own ∧ T.rep d v (RD fm own H) ∧ ∀ σ' own', At fm kp (Lt d) σ' H own' → (∀ p ∈ own', p ∈ own) → Q σ' H
def EvG (g : G) (tg : Expr) (T : Ty α) (L : List Slot) (Lt : α → List Slot) : Prop := PG g.X tg (tG g.fm T L Lt)
theorem PG.imp {X : Cx} {e : Expr} {t t' : TG} (h : PG X e t) (k : ∀ v σ H Q, t' v σ H Q → t v σ H Q) : PG X e t' := ⟨fun pins s σ H v u Q I r q => h.run pins s σ H v u Q I r (k _ _ _ _ q)⟩

theorem PG.ex {X : Cx} {ι : Type} {e : Expr} {t : ι → TG} (h : ∀ d, PG X e (t d)) : PG X e (fun v σ H Q => ∃ d, t d v σ H Q) := ⟨fun pins s σ H v u Q I r ⟨d, q⟩ => (h d).run pins s σ H v u Q I r q⟩
theorem evg_name (ok : OkS p sc NN VV GG k g) (hN : NN[i]? = some x) (hV : VV[j]? = some x) : EvG g (.Name x pos) T L (fun d => L.set i (sV false T d)) := by
  refine PG.imp (pg_name (i := i) (by rw [ok.N]; exact ok.nd) (by rw [ok.N]; exact hN) (ok.loc hV) (okS_fn ok)) fun v σ H Q ⟨kp, own, d, at_, r, q⟩ => ?_
  obtain ⟨h1, h2, ⟨Fs, h3, rfl⟩, h4, h5, h6⟩ := at_
  have kk : ∀ p ∈ (Fs.set i []).flatten, p ∈ Fs.flatten := fun p hp => (set_sub (i := i)).subset hp
  exact q _ _ ⟨h1, h2, ⟨Fs.set i [], (h3.st (RB.own kk) fun _ _ => rfl).set (s := sV false T d) ⟨rfl, v, rfl, T.mono r (RX.own (md := .sh) (H := H) kk)⟩ i, rfl⟩, h4.sublist set_sub, fun p hp => h5 p (kk p hp), fun a o q => RX.own (md := .sh) (H := H) kk a o (h6 a o q)⟩ kk
theorem Nw.rd {fm : Fm} {kp kp' : RdR} {own : List Addr} {σ : L2.St} {H H' : Hp} (at_ : At fm kp L σ H own) (k : ∀ a o, kp' a o → RD fm own H a o) (s : Same H H') : ∀ a o, Nw false kp' H H' a o → RD fm own H' a o := fun a o r => by
  rcases r with ⟨_, r⟩ | ⟨r, n⟩
  · exact RD.same s a o (k a o r)
  · exact .inl ⟨.inl r, fun hp => (at_.new a hp).1 n, fun hz => at_.zin a hz n⟩
theorem RD.rdb {fm : Fm} {own : List Addr} {H : Hp} : Rdb fm.K (RD fm own H) H := fun a o r => r.imp (fun h => Rd.raw h.1) id
theorem evb_for {m : M (List α)} {f : β → α → M β} {h : β → M δ} {LF : β → List Slot} {Lt : β → α → List Slot} {s0 : β} {tg it : Expr} {body : List Stmt} (ok : OkS p sc NN VV GG k g) (wk : Wk L g.LX) (hI : EvI g L tg it S m) (w0 : Wk L (LF s0))
    (hG : ∀ s, EvG g tg S (LF s) (Lt s)) (hb : ∀ s d, EvB g (Lt s d) body (fun s' => .go (LF s')) (f s d)) (hr : ∀ s, EvB g (LF s) st D (h s)) (hs : ∀ x, foldedSetIterable it g.X.env x = pure x := by intro _; rfl) :
    EvB g L (.For tg it body [] pos :: st) D (m.bind fun xs => (forM f s0 xs).bind h) := by
  refine PSs.imp (pss_cons (ps_for ok.psO ok.calm hI (PG.ex hG) (PSs.ex fun s => PSs.ex (hb s)) hs) (PSs.ex hr)) fun E σ H ⟨kp, own, at_, q⟩ => ?_
  cases m with
  | ex c => exact ⟨kp, own, at_, BOk.exx wk at_ q⟩
  | no => exact q.elim
  | ok xs =>
  refine ⟨kp, own, at_, fun J H1 s1 hJ => ?_⟩
  have at1 := at_.ext s1
  obtain ⟨own0, a0, sub0⟩ := at1.weak w0
  have q : BOk g kp E D ((forM f s0 xs).bind h) := q
  have kk : ∀ a o, kp a o → RD g.fm own H1 a o := at1.kept
  have a0' : At g.fm (RD g.fm own H1) (LF s0) σ H1 own0 := ⟨a0.same, a0.zin, a0.sl, a0.nd, a0.new, fun a o z => RX.own (md := .sh) (H := H1) sub0 a o z⟩
  refine ⟨fun i m σ H => m = xs.length - i ∧ i ≤ xs.length ∧ ∃ s own', At g.fm (RD g.fm own H1) (LF s) σ H own' ∧ BOk g kp E D ((forM f s (xs.drop i)).bind h), ⟨_, rfl, Nat.zero_le _, s0, own0, a0', q⟩, ?_⟩
  rintro i m σ H ⟨rfl, hi, s, own', a', q'⟩
  have rb : Rdb g.fm.K (RD g.fm own H1) H := fun a o z => (a'.kept a o z).imp (fun h => Rd.raw h.1) id
  obtain ⟨hgo, hst⟩ := hJ H rb i
  by_cases hlt : i < xs.length
  · have he : xs[i]? = some xs[i] := by simp [hlt]
    obtain ⟨go, yl⟩ := hgo _ he
    rw [List.drop_eq_getElem_cons hlt] at q'
    refine .inr ⟨go, fun σ' H' => ∃ s own', At g.fm (RD g.fm own H1) (LF s) σ' H' own' ∧ BOk g kp E D ((forM f s (xs.drop (i + 1))).bind h), fun σ' H' ⟨s', own'', a'', q''⟩ => ⟨xs.length - (i + 1), by omega, rfl, hlt, s', own'', a'', q''⟩, fun x H' y => ?_⟩
    obtain ⟨s2, r2⟩ := yl x H' y
    refine ⟨s, _, own', xs[i], a'.ext s2, S.mono r2 (Nw.rd a' a'.kept s2), fun σ' own'' a'' _ => ⟨s, xs[i], _, own'', a'', ?_⟩⟩
    have q2 : BOk g kp E D (((f s xs[i]).bind fun s' => forM f s' (xs.drop (i + 1))).bind h) := q'
    cases hf : f s xs[i] with
    | ok s' =>
      rw [hf] at q2
      exact fun σ3 H3 own3 a3 => ⟨⟨s', own3, a3, q2⟩, ⟨s', own3, a3, q2⟩⟩
    | ex c =>
      rw [hf] at q2
      exact fun σ3 H3 own3 a3 => q2 σ3 H3 own3 (a3.keep kk)
    | no => rw [hf] at q2; exact q2
  · have e : i = xs.length := by omega
    subst e
    rw [List.drop_length] at q'
    exact .inl ⟨hst (by simp), s, kp, own', a'.keep kk, q'⟩
def Out.isRt : Out → Bool
  | .rt _ _ _ => true
  | .rtL _ _ _ => true
  | .gen _ => true
  | _ => false
theorem OutOk.rt {fm : Fm} {kp kp' : RdR} {E E' : Ends} (hr : E'.rt = E.rt) : ∀ {o : Out}, o.isRt = true → OutOk fm kp E o → OutOk fm kp' E' o := fun {o} hn q => by
  cases o with
  | nx L => cases hn
  | ct L => cases hn
  | go L => cases hn
  | rt b T r => exact fun v H' s r => by rw [hr]; exact q v H' s r
  | rtL b T r => exact fun p vs H' s n1 n2 h r => by rw [hr]; exact q p vs H' s n1 n2 h r
  | gen f => show f fm E'.rt; rw [hr]; exact q
  | bad => cases hn
/-- .. that may leave the def -/
theorem evb_forF {ρ : Type} {m : M (List α)} {f : β → α → M (Fl β ρ)} {h : β → M δ} {dr : ρ → δ} {LF : β → List Slot} {Lt : β → α → List Slot} {s0 : β} {tg it : Expr} {body : List Stmt} (ok : OkS p sc NN VV GG k g) (wk : Wk L g.LX) (hI : EvI g L tg it S m) (w0 : Wk L (LF s0))
    (hG : ∀ s, EvG g tg S (LF s) (Lt s)) (hb : ∀ s d, EvB g (Lt s d) body (Fl.el (fun s' => Out.go (LF s')) fun r => D (dr r)) (f s d)) (hr : ∀ s, EvB g (LF s) st D (h s)) (hD : ∀ r, (D (dr r)).isRt = true := by intro d; first | rfl | (cases d <;> rfl)) (hs : ∀ x, foldedSetIterable it g.X.env x = pure x := by intro _; rfl) :
    EvB g L (.For tg it body [] pos :: st) D (m.bind fun xs => (forF f s0 xs).bind (Fl.el h fun r => .ok (dr r))) := by
  refine PSs.imp (pss_cons (ps_for ok.psO ok.calm hI (PG.ex hG) (PSs.ex fun s => PSs.ex (hb s)) hs) (PSs.ex hr)) fun E σ H ⟨kp, own, at_, q⟩ => ?_
  cases m with
  | ex c => exact ⟨kp, own, at_, BOk.exx wk at_ q⟩
  | no => exact q.elim
  | ok xs =>
  refine ⟨kp, own, at_, fun J H1 s1 hJ => ?_⟩
  have at1 := at_.ext s1
  obtain ⟨own0, a0, sub0⟩ := at1.weak w0
  have q : BOk g kp E D ((forF f s0 xs).bind (Fl.el h fun r => .ok (dr r))) := q
  have kk : ∀ a o, kp a o → RD g.fm own H1 a o := at1.kept
  have a0' : At g.fm (RD g.fm own H1) (LF s0) σ H1 own0 := ⟨a0.same, a0.zin, a0.sl, a0.nd, a0.new, fun a o z => RX.own (md := .sh) (H := H1) sub0 a o z⟩
  refine ⟨fun i m σ H => m = xs.length - i ∧ i ≤ xs.length ∧ ∃ s own', At g.fm (RD g.fm own H1) (LF s) σ H own' ∧ BOk g kp E D ((forF f s (xs.drop i)).bind (Fl.el h fun r => .ok (dr r))), ⟨_, rfl, Nat.zero_le _, s0, own0, a0', q⟩, ?_⟩
  rintro i m σ H ⟨rfl, hi, s, own', a', q'⟩
  have rb : Rdb g.fm.K (RD g.fm own H1) H := fun a o z => (a'.kept a o z).imp (fun h => Rd.raw h.1) id
  obtain ⟨hgo, hst⟩ := hJ H rb i
  by_cases hlt : i < xs.length
  · have he : xs[i]? = some xs[i] := by simp [hlt]
    obtain ⟨go, yl⟩ := hgo _ he
    rw [List.drop_eq_getElem_cons hlt] at q'
    refine .inr ⟨go, fun σ' H' => ∃ s own', At g.fm (RD g.fm own H1) (LF s) σ' H' own' ∧ BOk g kp E D ((forF f s (xs.drop (i + 1))).bind (Fl.el h fun r => .ok (dr r))), fun σ' H' ⟨s', own'', a'', q''⟩ => ⟨xs.length - (i + 1), by omega, rfl, hlt, s', own'', a'', q''⟩, fun x H' y => ?_⟩
    obtain ⟨s2, r2⟩ := yl x H' y
    refine ⟨s, _, own', xs[i], a'.ext s2, S.mono r2 (Nw.rd a' a'.kept s2), fun σ' own'' a'' _ => ⟨s, xs[i], _, own'', a'', ?_⟩⟩
    have q2 : BOk g kp E D (((f s xs[i]).bind (Fl.el (fun s' => forF f s' (xs.drop (i + 1))) fun r => .ok (.rt r))).bind (Fl.el h fun r => .ok (dr r))) := q'
    cases hf : f s xs[i] with
    | ok s' =>
      rw [hf] at q2
      cases s' with
      | nx s' => exact fun σ3 H3 own3 a3 => ⟨⟨s', own3, a3, q2⟩, ⟨s', own3, a3, q2⟩⟩
      | rt r =>
        have q2 : OutOk g.fm kp E (D (dr r)) := q2
        show OutOk g.fm _ _ (D (dr r))
        refine OutOk.rt (E := E) ?_ (hD r) q2
        rfl
    | ex c =>
      rw [hf] at q2
      exact fun σ3 H3 own3 a3 => q2 σ3 H3 own3 (a3.keep kk)
    | no => rw [hf] at q2; exact q2
  · have e : i = xs.length := by omega
    subst e
    rw [List.drop_length] at q'
    exact .inl ⟨hst (by simp), s, kp, own', a'.keep kk, q'⟩
/-- while: fuel says how many turns at most -/
def whileM {β : Type} (t : β → M Bool) (f : β → M β) : Nat → β → M β
  | 0, _ => .no
  | n + 1, s => (t s).bind fun c => if c = true then (f s).bind (whileM t f n) else .ok s
def whileF {β ρ : Type} (t : β → M Bool) (f : β → M (Fl β ρ)) : Nat → β → M (Fl β ρ)
  | 0, _ => .no
  | n + 1, s => (t s).bind fun c => if c = true then (f s).bind (Fl.el (whileF t f n) fun r => .ok (.rt r)) else .ok (.nx s)
theorem PT.ex {X : Cx} {ι : Type} {e : Expr} {t : ι → TT} (h : ∀ d, PT X e (t d)) : PT X e (fun σ H Q => ∃ d, t d σ H Q) := ⟨fun pins s σ H Q I ⟨d, q⟩ => (h d).run pins s σ H Q I q⟩
theorem evb_while {n : Nat} {t : β → M Bool} {f : β → M β} {h : β → M δ} {LF : β → List Slot} {s0 : β} {body : List Stmt} (ok : OkS p sc NN VV GG k g) (wk : ∀ s, Wk (LF s) g.LX) (w0 : Wk L (LF s0))
    (hc : ∀ s, EvT g (LF s) c (t s)) (hb : ∀ s, EvB g (LF s) body (fun s' => .go (LF s')) (f s)) (hr : ∀ s, EvB g (LF s) st D (h s)) :
    EvB g L (.While c body [] pos :: st) D ((whileM t f n s0).bind h) := by
  refine PSs.imp (pss_cons (ps_while ok.psO (PT.ex hc) (PSs.ex hb)) (PSs.ex hr)) fun E σ H ⟨kp, own, at_, q⟩ => ?_
  obtain ⟨own0, a0, _⟩ := at_.weak w0
  refine ⟨fun m σ H => ∃ s own', At g.fm kp (LF s) σ H own' ∧ BOk g kp E D ((whileM t f m s).bind h), ⟨n, s0, own0, a0, q⟩, ?_⟩
  rintro m σ H ⟨s, own', a', q'⟩
  cases m with
  | zero => exact q'.elim
  | succ m =>
  refine ⟨s, tT_iff.mpr ⟨kp, own', a', ?_⟩⟩
  have q2 : BOk g kp E D (((t s).bind fun c => if c = true then (f s).bind (whileM t f m) else .ok s).bind h) := q'
  cases ht : t s with
  | ok c =>
    rw [ht] at q2
    intro H1 s1
    cases c with
    | true =>
      rw [if_pos rfl]
      refine ⟨fun σ' H' => ∃ s own', At g.fm kp (LF s) σ' H' own' ∧ BOk g kp E D ((whileM t f m s).bind h), fun σ' H' z => ⟨m, Nat.lt_succ_self m, z⟩, s, kp, own', a'.ext s1, ?_⟩
      have q3 : BOk g kp E D (((f s).bind (whileM t f m)).bind h) := q2
      cases hf : f s with
      | ok s' => rw [hf] at q3; exact fun σ3 H3 own3 a3 => ⟨⟨s', own3, a3, q3⟩, ⟨s', own3, a3, q3⟩⟩
      | ex c => rw [hf] at q3; exact q3
      | no => rw [hf] at q3; exact q3
    | false => exact ⟨s, kp, own', a'.ext s1, q2⟩
  | ex c => rw [ht] at q2; exact BOk.exx (wk s) a' q2
  | no => rw [ht] at q2; exact q2
theorem evb_whileF {ρ : Type} {n : Nat} {t : β → M Bool} {f : β → M (Fl β ρ)} {h : β → M δ} {dr : ρ → δ} {LF : β → List Slot} {s0 : β} {body : List Stmt} (ok : OkS p sc NN VV GG k g) (wk : ∀ s, Wk (LF s) g.LX) (w0 : Wk L (LF s0))
    (hc : ∀ s, EvT g (LF s) c (t s)) (hb : ∀ s, EvB g (LF s) body (Fl.el (fun s' => Out.go (LF s')) fun r => D (dr r)) (f s)) (hr : ∀ s, EvB g (LF s) st D (h s)) (hD : ∀ r, (D (dr r)).isRt = true := by intro d; first | rfl | (cases d <;> rfl)) :
    EvB g L (.While c body [] pos :: st) D ((whileF t f n s0).bind (Fl.el h fun r => .ok (dr r))) := by
  refine PSs.imp (pss_cons (ps_while ok.psO (PT.ex hc) (PSs.ex hb)) (PSs.ex hr)) fun E σ H ⟨kp, own, at_, q⟩ => ?_
  obtain ⟨own0, a0, _⟩ := at_.weak w0
  refine ⟨fun m σ H => ∃ s own', At g.fm kp (LF s) σ H own' ∧ BOk g kp E D ((whileF t f m s).bind (Fl.el h fun r => .ok (dr r))), ⟨n, s0, own0, a0, q⟩, ?_⟩
  rintro m σ H ⟨s, own', a', q'⟩
  cases m with
  | zero => exact q'.elim
  | succ m =>
  refine ⟨s, tT_iff.mpr ⟨kp, own', a', ?_⟩⟩
  have q2 : BOk g kp E D (((t s).bind fun c => if c = true then (f s).bind (Fl.el (whileF t f m) fun r => .ok (.rt r)) else .ok (.nx s)).bind (Fl.el h fun r => .ok (dr r))) := q'
  cases ht : t s with
  | ok c =>
    rw [ht] at q2
    intro H1 s1
    cases c with
    | true =>
      rw [if_pos rfl]
      refine ⟨fun σ' H' => ∃ s own', At g.fm kp (LF s) σ' H' own' ∧ BOk g kp E D ((whileF t f m s).bind (Fl.el h fun r => .ok (dr r))), fun σ' H' z => ⟨m, Nat.lt_succ_self m, z⟩, s, kp, own', a'.ext s1, ?_⟩
      have q3 : BOk g kp E D (((f s).bind (Fl.el (whileF t f m) fun r => .ok (.rt r))).bind (Fl.el h fun r => .ok (dr r))) := q2
      cases hf : f s with
      | ok s' =>
        rw [hf] at q3
        cases s' with
        | nx s' => exact fun σ3 H3 own3 a3 => ⟨⟨s', own3, a3, q3⟩, ⟨s', own3, a3, q3⟩⟩
        | rt r =>
          have q3 : OutOk g.fm kp E (D (dr r)) := q3
          show OutOk g.fm _ _ (D (dr r))
          refine OutOk.rt (E := E) ?_ (hD r) q3
          rfl
      | ex c => rw [hf] at q3; exact q3
      | no => rw [hf] at q3; exact q3
    | false => exact ⟨s, kp, own', a'.ext s1, q2⟩
  | ex c => rw [ht] at q2; exact BOk.exx (wk s) a' q2
  | no => rw [ht] at q2; exact q2
end
end Hd

namespace Hd
open PySem PySem.Spec L2
/-! ### a def and its calls -/
def RetOk (fm : Fm) (Q : VK) : Out → Prop
  | .rt md T r => ∀ v H', Same fm.H0 H' → T.rep r v (RT fm H' md) → Q v H'
  | .rtL md T r => ∀ p vs H', Same fm.H0 H' → ¬ fm.z p → fm.H0 p = none → H' p = some (.lst vs) → Reps T (RT fm H' md (some p)) r vs → Q (.ref p) H'
  | .gen f => f fm Q
  | _ => False
/-- what a def promises: it comes to F -/
def spM (p : Pr) {δ ρ : Type} (A : Ar δ) (D : ρ → Out) (F : δ → M ρ) : Sp := fun vs H Q E => ∃ d z, ((∀ a, z a → H a ≠ none) ∧ ∀ P, p.T = some P → LamX.TabS H P lamQ) ∧ A.rep d vs (RD ⟨p.K, H, z⟩ [] H) ∧
  match F d with
  | .ok r => RetOk ⟨p.K, H, z⟩ Q (D r)
  | .ex c => ∀ H', Same H H' → E (.ref (p.C c)) none H'
  | .no => False
/-- the slots of the arguments -/
inductive ArS : {δ : Type} → Ar δ → Nat → (δ → List Slot) → Prop where
  | nil : ArS aNil 0 (fun _ => [])
  | cons {α δ : Type} {T : Ty α} {A : Ar δ} {n : Nat} {f : δ → List Slot} : ArS A n f → ArS (aCons T A) (n + 1) (fun d => sV false T d.1 :: f d.2)
theorem ArS.all {H : Hp} {R : Bool → RdR} {δ : Type} {A : Ar δ} {n : Nat} {f : δ → List Slot} (s : ArS A n f) : ∀ {d : δ} {vs : List V}, A.rep d vs (R false) → vs.length = n ∧ AllS H R (f d) (vs.map some) (List.replicate n []) := by
  induction s with
  | nil => intro d vs h; cases (show vs = [] from h); exact ⟨rfl, .nil⟩
  | cons _ ih =>
    intro d vs h
    obtain ⟨v, r, rfl, h1, h2⟩ := h
    obtain ⟨e, h3⟩ := ih h2
    exact ⟨by simp [e], .cons ⟨rfl, v, rfl, h1⟩ h3⟩
theorem AllS.append {H : Hp} {R : Bool → RdR} {L L' : List Slot} {σ σ' : L2.St} {Fs Fs' : List (List Addr)} (h : AllS H R L σ Fs) (h' : AllS H R L' σ' Fs') : AllS H R (L ++ L') (σ ++ σ') (Fs ++ Fs') := by
  induction h with
  | nil => exact h'
  | cons r _ ih => exact .cons r ih
theorem AllS.anys {H : Hp} {R : Bool → RdR} : ∀ n, AllS H R (List.replicate n sAny) (List.replicate n none) (List.replicate n [])
  | 0 => .nil
  | n + 1 => .cons rfl (AllS.anys n)
theorem flat_rep (n : Nat) : (List.replicate n ([] : List Addr)).flatten = [] := by induction n with
  | zero => rfl
  | succ n ih => simp
structure Sc (st : Stmt) (NN VV ps GG : List Str) : Prop where
  S : FnScope NN ps (defScope st)
  vis : VV.all (seenB (defScope st)) = true
  loc : VV.all (locB (defScope st)) = true
  gl : GG.all (glB (defScope st)) = true
section
variable {p : Pr} {sc : Scope} {NN VV GG : List Str} {k : Nat} {g : G} {L L' : List Slot} {a b c e e' : Expr} {es : List Expr} {md md' : Md} {α β γ δ ρ : Type} {S : Ty α} {T : Ty β} {U : Ty γ} {A : Ar δ} {pos : Pos}
/-- a def's body, as a judgement for all its arguments -/
def Body (p : Pr) (st : Stmt) (NN VV GG : List Str) (k : Nat) (L0 : δ → List Slot) (D : ρ → Out) (F : δ → M ρ) : Prop :=
  ∀ g, OkS p (defScope st) NN VV GG k g → g.LX = List.replicate NN.length sAny → ∀ d, EvB g (L0 d) (defBody st) D (F d)
/-- how Ends take a block's end that the promise tells as D -/
theorem fn_gen {x qual : Str} {st : Stmt} {f : Addr} {fd : FuncData} {ps : List Str} {L0 : δ → List Slot} {n m : Nat} {D D' : ρ → Out} {F : δ → M ρ} (hF : FunD p.K x qual (defArgs st) (defBody st) (defScope st) [] [] f fd) (hS : Sc st NN VV ps GG) (ha : ArS A n L0) (hn : ps.length = n) (hm : n + m = NN.length)
    (hD : ∀ (r : ρ) (fm : Fm) (Q : VK), RetOk fm Q (D r) → OutOk fm (fun _ _ => False) { nx := fun _ H' => Q .non H', rt := Q } (D' r))
    (hb : Body p st NN VV GG k (fun d => L0 d ++ List.replicate m sAny) D' F) :
    FnOk p.P p.w p.K p.mg p.base (L2.CX p.P p.w) (k + 1) f fd ps (spM p A D F) := by
  refine hF.ok hS.S (fun vs H Q E h => ?_) (fun cdv A' outer s H vs Q E hr h => ?_)
  · obtain ⟨d, z, hz, hrep, _⟩ := h
    exact (ha.all (H := H) (R := fun _ => RD ⟨p.K, H, z⟩ [] H) hrep).1.trans hn.symm
  · obtain ⟨d, z, ⟨hz, htab⟩, hrep, q⟩ := h
    have hlen : vs.length = n := (ha.all (H := H) (R := fun _ => RD ⟨p.K, H, z⟩ [] H) hrep).1
    let X : Cx := cxOf (L2.CX p.P p.w) p.P p.w p.K p.mg p.base NN qual (defScope st) f cdv A' outer s H E
    let g : G := ⟨X, ⟨p.K, H, z⟩, fun c _ H' => E (.ref (p.C c)) none H', List.replicate NN.length sAny⟩
    have hN : ∀ {j : Nat} {y : Str}, VV[j]? = some y → y ∈ VV := fun e => List.mem_of_getElem? e
    have ok : OkS p (defScope st) NN VV GG k g :=
      { prog := rfl, w := rfl, K := rfl, mg := rfl, base := rfl, N := rfl, fmK := rfl, tab := htab, room := hr, nd := hS.S.nd
        vis := fun e => let h := seenB_v (List.all_eq_true.mp hS.vis _ (hN e)); ⟨h.2, h.1⟩
        gl := fun e => let h := glB_v (List.all_eq_true.mp hS.gl _ (List.mem_of_getElem? e)); ⟨h.2, h.1⟩
        tk := Takes.imp (takes_of (X := X) rfl rfl rfl (E := E) rfl) (fun cls d σ H ⟨c, e1, e2, h⟩ => by subst e1; subst e2; exact h)
        calm := rfl
        blk := fun h => blkOk_by h
        loc := fun e => locB_v (List.all_eq_true.mp hS.loc _ (hN e))
        fnT := fun _ => rfl
        psO := passes_of (X := X) rfl
        scp := rfl
        stk := rfl
        frm := rfl
        exn := rfl }
    refine ⟨_, hb g ok rfl d, (fun _ _ => False), [], ?_, ?_⟩
    · refine ⟨Same.refl H, hz, ⟨List.replicate n [] ++ List.replicate m [], ?_, by simp [flat_rep]⟩, List.nodup_nil, (fun _ h => nomatch h), fun _ _ h => h.elim⟩
      have h1 := (ha.all (H := H) (R := RB ⟨p.K, H, z⟩ [] H) hrep).2
      have e : L2.start NN vs = vs.map some ++ List.replicate m none := by
        unfold L2.start
        rw [show NN.length - vs.length = m by omega]
      rw [e]
      exact h1.append (AllS.anys m)
    · cases hF' : F d with
      | ok r =>
        rw [hF'] at q
        exact hD r _ _ q
      | ex c =>
        rw [hF'] at q
        exact fun σ' H' own a' => q H' a'.same
      | no => rw [hF'] at q; exact q
theorem fn_rt {x qual : Str} {st : Stmt} {f : Addr} {fd : FuncData} {ps : List Str} {L0 : δ → List Slot} {n m : Nat} {bm : Bool} {T : Ty ρ} {F : δ → M ρ} (hF : FunD p.K x qual (defArgs st) (defBody st) (defScope st) [] [] f fd) (hS : Sc st NN VV ps GG) (ha : ArS A n L0) (hn : ps.length = n) (hm : n + m = NN.length)
    (hb : Body p st NN VV GG k (fun d => L0 d ++ List.replicate m sAny) (fun r => .rt bm T r) F) : FnOk p.P p.w p.K p.mg p.base (L2.CX p.P p.w) (k + 1) f fd ps (spM p A (fun r => .rt bm T r) F) :=
  fn_gen (D' := fun r => .rt bm T r) hF hS ha hn hm (fun r fm Q h => h) hb
theorem fn_rtL {x qual : Str} {st : Stmt} {f : Addr} {fd : FuncData} {ps : List Str} {L0 : δ → List Slot} {n m : Nat} {bm : Bool} {F : δ → M (List α)} (hF : FunD p.K x qual (defArgs st) (defBody st) (defScope st) [] [] f fd) (hS : Sc st NN VV ps GG) (ha : ArS A n L0) (hn : ps.length = n) (hm : n + m = NN.length)
    (hb : Body p st NN VV GG k (fun d => L0 d ++ List.replicate m sAny) (fun r => .rtL bm S r) F) : FnOk p.P p.w p.K p.mg p.base (L2.CX p.P p.w) (k + 1) f fd ps (spM p A (fun r => .rtL bm S r) F) :=
  fn_gen (D' := fun r => .rtL bm S r) hF hS ha hn hm (fun r fm Q h => h) hb
/-- a def that hands back None by coming to its end -/
theorem fn_nx {x qual : Str} {st : Stmt} {f : Addr} {fd : FuncData} {ps : List Str} {L0 : δ → List Slot} {n m : Nat} {LE : List Slot} {F : δ → M Unit} (hF : FunD p.K x qual (defArgs st) (defBody st) (defScope st) [] [] f fd) (hS : Sc st NN VV ps GG) (ha : ArS A n L0) (hn : ps.length = n) (hm : n + m = NN.length)
    (hb : Body p st NN VV GG k (fun d => L0 d ++ List.replicate m sAny) (fun _ => .nx LE) F) : FnOk p.P p.w p.K p.mg p.base (L2.CX p.P p.w) (k + 1) f fd ps (spM p A (fun r => .rt false tNone r) F) :=
  fn_gen (D' := fun _ => .nx LE) hF hS ha hn hm (fun r fm Q h => fun σ H' own at_ => h .non H' at_.same rfl) hb

/-- a def, as its callers know it -/
structure Fn (p : Pr) (k : Nat) (x : Str) (ps : List Str) (sp : Sp) : Prop where
  ex : ∃ (f : Addr) (fd : FuncData), FnOk p.P p.w p.K p.mg p.base (L2.CX p.P p.w) k f fd ps sp ∧ p.mg x = some (.ref f) ∧ PySem.W.keepIn p.K (.ref f) = true ∧ Binds p.K fd ps []
theorem tk_at (ok : Ok p sc NN VV GG k g) (σ : L2.St) : PassesAt (L2.CX g.X.prog g.X.w) g.X σ (fun cls d H => ∃ c, cls = .ref (p.C c) ∧ d = none ∧ g.W c σ H) := passAt ok.tk σ
theorem args_in {own : List Addr} {H H1 : Hp} {d : δ} {vs : List V} {fm : Fm} (r : A.rep d vs (RX fm own H H1 md)) : A.rep d vs (RD ⟨fm.K, H1, fun a => a ∈ own ∨ fm.z a⟩ [] H1) :=
  A.mono r fun a o z => by
    rcases RX.sh a o z with z | z
    · exact .inl ⟨z.1, (fun y => nomatch y), fun y => y.elim z.2.1 z.2.2⟩
    · exact .inr z
/-- how new a call's answer is -/
inductive CaMd : Bool → Md → Prop where
  | sh : CaMd false .sh
  | fx {x : Md} : CaMd true x
theorem CaMd.rx {fm : Fm} {own : List Addr} {H H1 H' : Hp} {bm : Bool} {q : Option Addr} (h : CaMd bm md) (s : Same H H1) (s0 : Same fm.H0 H) : ∀ a o, RT ⟨fm.K, H1, fun a => a ∈ own ∨ fm.z a⟩ H' bm q a o → RX fm (q.toList ++ own) H H' md a o := fun a o r => by
  cases h with
  | sh =>
    have r : RX ⟨fm.K, H1, fun a => a ∈ own ∨ fm.z a⟩ q.toList H' H' .sh a o := r
    rcases r with ⟨r1, r2, r3⟩ | r
    · exact .inl ⟨r1, fun y => (List.mem_append.mp y).elim r2 fun y => r3 (.inl y), fun y => r3 (.inr y)⟩
    · exact .inr r
  | fx =>
    have r : RX ⟨fm.K, H1, fun a => a ∈ own ∨ fm.z a⟩ q.toList H' H' .f0 a o := r
    obtain ⟨r1, r2, r3, r4⟩ := r
    exact RX.fx md a o ⟨r1, fun y => (List.mem_append.mp y).elim r2 fun y => r3 (.inl y), fun y => r3 (.inr y), s0.free (s.free r4), s.free r4⟩
theorem ev_call {x : Str} {j kf : Nat} {ps : List Str} {bm : Bool} {T : Ty ρ} {F : δ → M ρ} {m : M δ} {pp : Pos} (ok : Ok p sc NN VV GG k g) (hf : Fn p kf x ps (spM p A (fun r => .rt bm T r) F)) (hk : kf ≤ k) (hG : GG[j]? = some x) (hc : CaMd bm md')
    (ha : EvA g L (e :: es) md A m) (he : starEach (e :: es) g.X.env = (false, eval e g.X.env) :: starEach es g.X.env := by rfl) (hpl : (backTo pos (starEach es g.X.env)).any (·.1) = false := by rfl) :
    EvE g L (.Call (.Name x pp) (e :: es) [] pos) md' T (m.bind F) := by
  obtain ⟨f, fd, hF, hm, hkp, hbd⟩ := hf.ex
  obtain ⟨hg, ho⟩ := ok.gl hG
  rw [← ok.prog, ← ok.w, ← ok.base] at hF
  have hF' : FnOk g.X.prog g.X.w g.X.K g.X.mg g.X.base (L2.CX g.X.prog g.X.w) kf f fd ps (spM p A (fun r => .rt bm T r) F) := by rw [ok.K, ok.mg]; exact hF
  refine PE.imp (pe_callS hF' (ok.room.mono hk) hg (by rw [ok.mg]; exact hm) (by rw [ok.K]; exact hkp) (by rw [ok.K]; exact hbd) (tk_at ok) ha (okName_d ho).1 he hpl) fun σ H Q q => ?_
  obtain ⟨kp, own, at_, q⟩ := tE_iff.mp q
  refine subA finE (Same.refl H) at_ q fun d vs H1 s1 r1 at1 q1 => ⟨d, fun a => a ∈ own ∨ g.fm.z a, ⟨fun a z => ?_, fun P e => at1.same.tab P (ok.tab P e)⟩, ?_, ?_⟩
  · rcases z with z | z
    · exact (at1.new a z).1
    · exact at1.zin a z
  · rw [← ok.fmK]; exact args_in r1
  · rw [← ok.fmK]
    cases hd : F d with
    | ok r =>
      rw [hd] at q1
      exact fun v H' s r => q1 v H' (s1.trans s) (T.mono r (hc.rx s1 at_.same))
    | ex c =>
      rw [hd] at q1
      exact fun H' s => ⟨c, rfl, rfl, q1 H' (s1.trans s)⟩
    | no => rw [hd] at q1; exact q1
theorem evl_call {x : Str} {j kf : Nat} {ps : List Str} {bm : Bool} {F : δ → M (List α)} {m : M δ} {pp : Pos} (ok : Ok p sc NN VV GG k g) (hf : Fn p kf x ps (spM p A (fun r => .rtL bm S r) F)) (hk : kf ≤ k) (hG : GG[j]? = some x) (hc : CaMd bm md')
    (ha : EvA g L (e :: es) md A m) (he : starEach (e :: es) g.X.env = (false, eval e g.X.env) :: starEach es g.X.env := by rfl) (hpl : (backTo pos (starEach es g.X.env)).any (·.1) = false := by rfl) :
    EvL g L (.Call (.Name x pp) (e :: es) [] pos) md' S (m.bind F) := by
  obtain ⟨f, fd, hF, hm, hkp, hbd⟩ := hf.ex
  obtain ⟨hg, ho⟩ := ok.gl hG
  rw [← ok.prog, ← ok.w, ← ok.base] at hF
  have hF' : FnOk g.X.prog g.X.w g.X.K g.X.mg g.X.base (L2.CX g.X.prog g.X.w) kf f fd ps (spM p A (fun r => .rtL bm S r) F) := by rw [ok.K, ok.mg]; exact hF
  refine PE.imp (pe_callS hF' (ok.room.mono hk) hg (by rw [ok.mg]; exact hm) (by rw [ok.K]; exact hkp) (by rw [ok.K]; exact hbd) (tk_at ok) ha (okName_d ho).1 he hpl) fun σ H Q q => ?_
  obtain ⟨kp, own, at_, q⟩ := tL_iff.mp q
  refine subA finL (Same.refl H) at_ q fun d vs H1 s1 r1 at1 q1 => ⟨d, fun a => a ∈ own ∨ g.fm.z a, ⟨fun a z => ?_, fun P e => at1.same.tab P (ok.tab P e)⟩, ?_, ?_⟩
  · rcases z with z | z
    · exact (at1.new a z).1
    · exact at1.zin a z
  · rw [← ok.fmK]; exact args_in r1
  · rw [← ok.fmK]
    cases hd : F d with
    | ok r =>
      rw [hd] at q1
      exact fun p' vs' H' s n1 n2 h' r => q1 p' vs' H' (s1.trans s) (s1.free n2) h' (r.mono (hc.rx (q := some p') s1 at_.same))
    | ex c =>
      rw [hd] at q1
      exact fun H' s => ⟨c, rfl, rfl, q1 H' (s1.trans s)⟩
    | no => rw [hd] at q1; exact q1
/-! ### raise -/
/-- an own class of refusals -/
structure ExF (p : Pr) (x : Str) (c : Ec) : Prop where
  xP : PySem.W.excIn p.K (p.C c) [.type "ValueError", .type "Exception", .type "BaseException", .type "object"] "ValueError.__new__" = true
  gP : p.mg x = some (.ref (p.C c))
  kP : PySem.W.keepIn p.K (.ref (p.C c)) = true
  bP : PySem.W.subIn p.K (.ref (p.C c)) (.type "BaseException") = some true
  tP : PySem.W.typeIn p.K (.ref (p.C c)) = some (.type "type")
variable {st : List Stmt} {D : δ → Out} {d : δ}
theorem evb_raise {x : Str} {c : Ec} {j jj : Nat} {msg : Str} {pp p2 p3 : Pos} (ok : OkS p sc NN VV GG k g) (wk : Wk L g.LX) (X : ExF p x c) (hG : GG[j]? = some x) :
    EvB g L (.Raise (some (.Call (.Name x pp) [.Constant (.str msg) jj p2] [] p3)) none pos :: st) D (.ex c) := by
  obtain ⟨hg, ho⟩ := ok.gl hG
  refine PSs.imp (PSs.head (ps_raise ok.calm ok.tk (pmk_own PySem.F.excBase_ValueError (by rw [ok.K]; exact X.xP) (by rw [ok.mg]; exact X.gP) (by rw [ok.K]; exact X.kP) (raises_own (by rw [ok.K]; exact X.bP) (by rw [ok.K]; exact X.tP)) hg (okName_d ho).1))) fun E σ H ⟨kp, own, at_, q⟩ => ?_
  exact ⟨c, rfl, rfl, BOk.exx wk at_ q H (Same.refl H)⟩
end
end Hd

namespace Hd
open PySem PySem.Spec L2
section
variable {p : Pr} {sc : Scope} {NN VV GG : List Str} {k : Nat} {g : G} {L L' : List Slot} {a b c e e' : Expr} {es : List Expr} {md md' : Md} {α β γ δ ρ : Type} {S : Ty α} {T : Ty β} {U : Ty γ} {A : Ar δ} {pos : Pos} {K : PySem.W.Frag}
/-! ### whole numbers -/
def mulM (x y : Int) : M Int := if x.natAbs < 2 ^ 10000 ∧ y.natAbs < 2 ^ 10000 then .ok (x * y) else .no
def modM (x y : Int) : M Int := if 0 < y then .ok (x % y) else .no
def divM (x y : Int) : M Int := if 0 < y ∧ y.natAbs < 2 ^ 1000 then .ok (x / y) else .no
theorem o_add : Op2 K (rI0 fun i j => .int (i + j)) tInt tInt tInt (fun x y => .ok (x + y)) true := ⟨fun rb rx ry q => ⟨_, _, rx, ry, q _ _ (Same.refl _) rfl⟩⟩
theorem o_sub : Op2 K (rI0 fun i j => .int (i - j)) tInt tInt tInt (fun x y => .ok (x - y)) true := ⟨fun rb rx ry q => ⟨_, _, rx, ry, q _ _ (Same.refl _) rfl⟩⟩
theorem o_mul : Op2 K (rI CMulW fun i j => .int (i * j)) tInt tInt tInt mulM true := ⟨fun {d e x y R H Q} rb rx ry q => by
  unfold mulM at q
  split at q
  · rename_i h
    exact ⟨_, _, rx, ry, wide_mul h.1 h.2 (by decide) (by decide) (by decide), q _ _ (Same.refl _) rfl⟩
  · exact q.elim⟩
theorem o_mod : Op2 K (rI (fun _ j => 0 < j) fun i j => .int (i % j)) tInt tInt tInt modM true := ⟨fun {d e x y R H Q} rb rx ry q => by
  unfold modM at q
  split at q
  · rename_i h
    exact ⟨_, _, rx, ry, h, q _ _ (Same.refl _) rfl⟩
  · exact q.elim⟩
theorem o_div : Op2 K (rI CDivW fun i j => .int (i / j)) tInt tInt tInt divM true := ⟨fun {d e x y R H Q} rb rx ry q => by
  unfold divM at q
  split at q
  · rename_i h
    exact ⟨_, _, rx, ry, wide_div h.1 h.2 (by decide) (by decide), q _ _ (Same.refl _) rfl⟩
  · exact q.elim⟩
theorem mulM_ne {x y : Int} {c : Ec} : mulM x y ≠ .ex c := by unfold mulM; split <;> exact fun h => nomatch h
theorem modM_ne {x y : Int} {c : Ec} : modM x y ≠ .ex c := by unfold modM; split <;> exact fun h => nomatch h
theorem divM_ne {x y : Int} {c : Ec} : divM x y ≠ .ex c := by unfold divM; split <;> exact fun h => nomatch h
variable {m1 m2 : M Int} {x y : Int}
theorem ev_add (ok : Ok p sc NN VV GG k g) (ha : EvE g L a md tInt m1) (hb : EvE g L b md tInt m2) : EvE g L (.BinOp a .Add b pos) md' tInt (m1.bind fun x => m2.bind fun y => .ok (x + y)) := ev_op2 ok op_add o_add (fun _ _ _ h => nomatch h) .fresh ha hb
theorem ev_addP (ok : Ok p sc NN VV GG k g) (ha : EvE g L a md tInt (.ok x)) (hb : EvE g L b md tInt (.ok y)) : EvE g L (.BinOp a .Add b pos) md' tInt (.ok (x + y)) := ev_add ok ha hb
theorem ev_subt (ok : Ok p sc NN VV GG k g) (ha : EvE g L a md tInt m1) (hb : EvE g L b md tInt m2) : EvE g L (.BinOp a .Sub b pos) md' tInt (m1.bind fun x => m2.bind fun y => .ok (x - y)) := ev_op2 ok op_sub o_sub (fun _ _ _ h => nomatch h) .fresh ha hb
theorem ev_subtP (ok : Ok p sc NN VV GG k g) (ha : EvE g L a md tInt (.ok x)) (hb : EvE g L b md tInt (.ok y)) : EvE g L (.BinOp a .Sub b pos) md' tInt (.ok (x - y)) := ev_subt ok ha hb
theorem ev_mul (ok : Ok p sc NN VV GG k g) (ha : EvE g L a md tInt m1) (hb : EvE g L b md tInt m2) : EvE g L (.BinOp a .Mult b pos) md' tInt (m1.bind fun x => m2.bind fun y => mulM x y) := ev_op2 ok op_mulW o_mul (fun _ _ _ => mulM_ne) .fresh ha hb
theorem ev_mulP (ok : Ok p sc NN VV GG k g) (ha : EvE g L a md tInt (.ok x)) (hb : EvE g L b md tInt (.ok y)) : EvE g L (.BinOp a .Mult b pos) md' tInt (mulM x y) := ev_mul ok ha hb
theorem ev_mod (ok : Ok p sc NN VV GG k g) (ha : EvE g L a md tInt m1) (hb : EvE g L b md tInt m2) : EvE g L (.BinOp a .Mod b pos) md' tInt (m1.bind fun x => m2.bind fun y => modM x y) := ev_op2 ok op_mod o_mod (fun _ _ _ => modM_ne) .fresh ha hb
theorem ev_modP (ok : Ok p sc NN VV GG k g) (ha : EvE g L a md tInt (.ok x)) (hb : EvE g L b md tInt (.ok y)) : EvE g L (.BinOp a .Mod b pos) md' tInt (modM x y) := ev_mod ok ha hb
theorem ev_div (ok : Ok p sc NN VV GG k g) (ha : EvE g L a md tInt m1) (hb : EvE g L b md tInt m2) : EvE g L (.BinOp a .FloorDiv b pos) md' tInt (m1.bind fun x => m2.bind fun y => divM x y) := ev_op2 ok op_fdivW o_div (fun _ _ _ => divM_ne) .fresh ha hb
theorem ev_divP (ok : Ok p sc NN VV GG k g) (ha : EvE g L a md tInt (.ok x)) (hb : EvE g L b md tInt (.ok y)) : EvE g L (.BinOp a .FloorDiv b pos) md' tInt (divM x y) := ev_div ok ha hb
/-- the one number c -/
def tLit (c : Int) : Ty Unit := ⟨fun _ v _ => v = .int c, fun h _ => h⟩
theorem ev_lit (h : EvE g L e md tInt (.ok x)) : EvE g L e md (tLit x) (.ok ()) := ev_asP (fun v R r => r) h
theorem ev_mulC (ok : Ok p sc NN VV GG k g) (hc : y.natAbs < 2 ^ 64) (ha : EvE g L a md tInt m1) (hb : EvE g L b md tInt (.ok y)) : EvE g L (.BinOp a .Mult b pos) md' tInt (m1.bind fun x => .ok (x * y)) :=
  ev_op2 (f := fun x _ => .ok (x * y)) ok op_mul ⟨fun rb rx ry q => ⟨_, _, rx, ry, .inr ⟨by omega, by omega⟩, q _ _ (Same.refl _) rfl⟩⟩ (fun _ _ _ h => nomatch h) (.fresh : MdOk true md md') ha (ev_lit hb)
theorem ev_mulCP (ok : Ok p sc NN VV GG k g) (hc : y.natAbs < 2 ^ 64) (ha : EvE g L a md tInt (.ok x)) (hb : EvE g L b md tInt (.ok y)) : EvE g L (.BinOp a .Mult b pos) md' tInt (.ok (x * y)) := ev_mulC ok hc ha hb
theorem ev_mulL (ok : Ok p sc NN VV GG k g) (hc : x.natAbs < 2 ^ 64) (ha : EvE g L a md tInt (.ok x)) (hb : EvE g L b md tInt m2) : EvE g L (.BinOp a .Mult b pos) md' tInt (m2.bind fun y => .ok (x * y)) :=
  ev_op2 (f := fun _ y => .ok (x * y)) (m1 := .ok ()) ok op_mul ⟨fun rb rx ry q => ⟨_, _, rx, ry, .inl ⟨by omega, by omega⟩, q _ _ (Same.refl _) rfl⟩⟩ (fun _ _ _ h => nomatch h) (.fresh : MdOk true md md') (ev_lit ha) hb
theorem ev_mulLP (ok : Ok p sc NN VV GG k g) (hc : x.natAbs < 2 ^ 64) (ha : EvE g L a md tInt (.ok x)) (hb : EvE g L b md tInt (.ok y)) : EvE g L (.BinOp a .Mult b pos) md' tInt (.ok (x * y)) := ev_mulL ok hc ha hb
theorem ev_modC (ok : Ok p sc NN VV GG k g) (hc : 0 < y) (ha : EvE g L a md tInt m1) (hb : EvE g L b md tInt (.ok y)) : EvE g L (.BinOp a .Mod b pos) md' tInt (m1.bind fun x => .ok (x % y)) :=
  ev_op2 (f := fun x _ => .ok (x % y)) ok op_mod ⟨fun rb rx ry q => ⟨_, _, rx, ry, hc, q _ _ (Same.refl _) rfl⟩⟩ (fun _ _ _ h => nomatch h) (.fresh : MdOk true md md') ha (ev_lit hb)
theorem ev_modCP (ok : Ok p sc NN VV GG k g) (hc : 0 < y) (ha : EvE g L a md tInt (.ok x)) (hb : EvE g L b md tInt (.ok y)) : EvE g L (.BinOp a .Mod b pos) md' tInt (.ok (x % y)) := ev_modC ok hc ha hb
theorem ev_divC (ok : Ok p sc NN VV GG k g) (hc : 0 < y) (hb' : y.natAbs < 2 ^ 1000) (ha : EvE g L a md tInt m1) (hb : EvE g L b md tInt (.ok y)) : EvE g L (.BinOp a .FloorDiv b pos) md' tInt (m1.bind fun x => .ok (x / y)) :=
  ev_op2 (f := fun x _ => .ok (x / y)) ok op_fdivW ⟨fun rb rx ry q => ⟨_, _, rx, ry, wide_div hc hb' (by decide) (by decide), q _ _ (Same.refl _) rfl⟩⟩ (fun _ _ _ h => nomatch h) (.fresh : MdOk true md md') ha (ev_lit hb)
theorem ev_divCP (ok : Ok p sc NN VV GG k g) (hc : 0 < y) (hb' : y.natAbs < 2 ^ 1000) (ha : EvE g L a md tInt (.ok x)) (hb : EvE g L b md tInt (.ok y)) : EvE g L (.BinOp a .FloorDiv b pos) md' tInt (.ok (x / y)) := ev_divC ok hc hb' ha hb
/-- a written power -/
theorem ev_powC {n : Nat} (ok : Ok p sc NN VV GG k g) (hx : x.natAbs < 2 ^ 64) (hy : n ≤ 1000000) (ha : EvE g L a md tInt (.ok x)) (hb : EvE g L b md tInt (.ok (n : Int))) : EvE g L (.BinOp a .Pow b pos) md' tInt (.ok (x ^ n)) :=
  ev_op2 (f := fun _ _ => .ok (x ^ n)) (m1 := .ok ()) (m2 := .ok ()) ok op_pow ⟨fun rb rx ry q => ⟨_, _, rx, ry, ⟨by omega, by omega, hx⟩, q _ _ (Same.refl _) (by show V.int (x ^ ((n : Int)).toNat) = V.int (x ^ n); rw [Int.toNat_natCast])⟩⟩ (fun _ _ _ h => nomatch h) (.fresh : MdOk true md md') (ev_lit ha) (ev_lit hb)
theorem ev_neg (ok : Ok p sc NN VV GG k g) (ha : EvE g L a md tInt m1) : EvE g L (.UnaryOp .USub a pos) md' tInt (m1.bind fun x => .ok (-x)) :=
  ev_un ok un_neg (f := fun x => .ok (-x)) (fr := true) ⟨fun rb rx q => ⟨_, rx, q _ _ (Same.refl _) rfl⟩⟩ (fun _ _ h => nomatch h) .fresh ha
theorem ev_negP (ok : Ok p sc NN VV GG k g) (ha : EvE g L a md tInt (.ok x)) : EvE g L (.UnaryOp .USub a pos) md' tInt (.ok (-x)) := ev_neg ok ha
/-! ### comparisons -/
/-- a comparison that always tells -/
structure CmpOk (p : Pr) (X : Cx) (op : CmpOp) (S : Ty α) (T : Ty β) (f : α → β → Bool) : Prop where
  ex : ∃ r, OpR X (compareOp op) r ∧ Op2 p.K r S T tBool (fun x y => .ok (f x y)) true
section
variable {op : CmpOp} {f : α → β → Bool} {ma : M α} {mb : M β} {da : α} {db : β}
theorem ev_c (ok : Ok p sc NN VV GG k g) (F : CmpOk p g.X op S T f) (ha : EvE g L a md S ma) (hb : EvE g L b md T mb) (hk : behindInMarks op b = false := by first | exact nomark _ (by decide) (by decide) | rfl) : EvE g L (.Compare a [op] [b] pos) md' tBool (ma.bind fun x => mb.bind fun y => .ok (f x y)) := by
  obtain ⟨r, h1, h2⟩ := F.ex
  exact ev_cmp ok h1 h2 (fun _ _ _ h => nomatch h) .fresh ha hb hk
theorem ev_cP (ok : Ok p sc NN VV GG k g) (F : CmpOk p g.X op S T f) (ha : EvE g L a md S (.ok da)) (hb : EvE g L b md T (.ok db)) (hk : behindInMarks op b = false := by first | exact nomark _ (by decide) (by decide) | rfl) : EvE g L (.Compare a [op] [b] pos) md' tBool (.ok (f da db)) := ev_c ok F ha hb hk
theorem evt_c (ok : Ok p sc NN VV GG k g) (F : CmpOk p g.X op S T f) (ha : EvE g L a md S ma) (hb : EvE g L b md T mb) (hk : behindInMarks op b = false := by first | exact nomark _ (by decide) (by decide) | rfl) : EvT g L (.Compare a [op] [b] pos) (ma.bind fun x => mb.bind fun y => .ok (f x y)) := by
  obtain ⟨r, h1, h2⟩ := F.ex
  exact evt_cmp ok h1 h2 (fun _ _ _ h => nomatch h) ha hb hk
theorem evt_cP (ok : Ok p sc NN VV GG k g) (F : CmpOk p g.X op S T f) (ha : EvE g L a md S (.ok da)) (hb : EvE g L b md T (.ok db)) (hk : behindInMarks op b = false := by first | exact nomark _ (by decide) (by decide) | rfl) : EvT g L (.Compare a [op] [b] pos) (.ok (f da db)) := evt_c ok F ha hb hk
end
variable {X : Cx}
theorem c_lt : CmpOk p X .Lt tInt tInt (fun x y => decide (x < y)) := ⟨_, op_lt, ⟨fun rb rx ry q => ⟨_, _, rx, ry, q _ _ (Same.refl _) rfl⟩⟩⟩
theorem c_le : CmpOk p X .LtE tInt tInt (fun x y => decide (x ≤ y)) := ⟨_, op_le, ⟨fun rb rx ry q => ⟨_, _, rx, ry, q _ _ (Same.refl _) rfl⟩⟩⟩
theorem c_gt : CmpOk p X .Gt tInt tInt (fun x y => decide (y < x)) := ⟨_, op_gt, ⟨fun rb rx ry q => ⟨_, _, rx, ry, q _ _ (Same.refl _) rfl⟩⟩⟩
theorem c_ge : CmpOk p X .GtE tInt tInt (fun x y => decide (y ≤ x)) := ⟨_, op_ge, ⟨fun rb rx ry q => ⟨_, _, rx, ry, q _ _ (Same.refl _) rfl⟩⟩⟩
/-- kinds that are told apart by value -/
structure Scal (S : Ty α) : Prop where
  sc : ∀ {d e v w R}, S.rep d v R → S.rep e w R → scal v w = true ∧ (v = w ↔ d = e)
theorem s_int : Scal tInt := ⟨fun {d e v w R} h1 h2 => by cases h1; cases h2; exact ⟨rfl, fun h => by injection h, fun h => by rw [h]⟩⟩
theorem s_bool : Scal tBool := ⟨fun {d e v w R} h1 h2 => by cases h1; cases h2; exact ⟨rfl, fun h => by injection h, fun h => by rw [h]⟩⟩
theorem s_str : Scal tStr := ⟨fun {d e v w R} h1 h2 => by cases h1.1; cases h2.1; exact ⟨rfl, fun h => toS_inj (by injection h), fun h => by rw [h]⟩⟩
theorem c_eq [DecidableEq α] (h : Scal S) : CmpOk p X .Eq S S (fun x y => decide (x = y)) := ⟨_, op_eq, ⟨fun {d e x y R H Q} rb rx ry q => by
  obtain ⟨h1, h2⟩ := h.sc rx ry
  refine ⟨h1, q _ _ (Same.refl _) ?_⟩
  show _ = V.bl _
  congr 1
  exact decide_eq_decide.mpr h2⟩⟩
theorem c_ne [DecidableEq α] (h : Scal S) : CmpOk p X .NotEq S S (fun x y => !decide (x = y)) := ⟨_, op_ne, ⟨fun {d e x y R H Q} rb rx ry q => by
  obtain ⟨h1, h2⟩ := h.sc rx ry
  refine ⟨h1, q _ _ (Same.refl _) ?_⟩
  show _ = V.bl _
  congr 2
  exact decide_eq_decide.mpr h2⟩⟩
/-- .. with a heap: lists, tuples -/
structure Deep (S : Ty α) where
  pd : α → PyData
  dp : Nat
  rep : ∀ {K d v R H}, Rdb K R H → S.rep d v R → Dp K H v (pd d) ∧ (pd d).canLay0 = true
  dep : ∀ d, (pd d).depth ≤ dp
  eqv : ∀ d e, PyData.eqv (pd d) (pd e) = true ↔ d = e
theorem Deep.sh {D : Deep S} (h : D.dp ≤ 64) {d : α} (hl : (D.pd d).canLay0 = true) : SeqAt.shaped (D.pd d) = true := by
  unfold SeqAt.shaped
  rw [hl, Bool.true_and]
  exact decide_eq_true (Nat.le_trans (D.dep d) h)
theorem Deep.bq [DecidableEq α] (D : Deep S) (d e : α) : PyData.eqv (D.pd d) (D.pd e) = decide (d = e) := by
  cases hh : PyData.eqv (D.pd d) (D.pd e) with
  | true => exact (decide_eq_true ((D.eqv d e).mp hh)).symm
  | false => exact (decide_eq_false fun z => by rw [(D.eqv d e).mpr z] at hh; cases hh).symm
theorem c_eqD [DecidableEq α] (ok : Ok p sc NN VV GG k g) (D : Deep S) (hd : D.dp ≤ 64) : CmpOk p g.X .Eq S S (fun x y => decide (x = y)) := ⟨rEqD p.K, by rw [← ok.K]; exact op_eqD ok.room.units, ⟨fun {d e x y R H Q} rb rx ry q => by
  obtain ⟨a1, a2⟩ := D.rep rb rx
  obtain ⟨b1, b2⟩ := D.rep rb ry
  exact ⟨_, _, a1, b1, D.sh hd a2, D.sh hd b2, q _ _ (Same.refl _) (by show _ = V.bl _; rw [D.bq])⟩⟩⟩
theorem c_neD [DecidableEq α] (ok : Ok p sc NN VV GG k g) (D : Deep S) (hd : D.dp ≤ 64) : CmpOk p g.X .NotEq S S (fun x y => !decide (x = y)) := ⟨rNeD p.K, by rw [← ok.K]; exact op_neD ok.room.units, ⟨fun {d e x y R H Q} rb rx ry q => by
  obtain ⟨a1, a2⟩ := D.rep rb rx
  obtain ⟨b1, b2⟩ := D.rep rb ry
  exact ⟨_, _, a1, b1, D.sh hd a2, D.sh hd b2, q _ _ (Same.refl _) (by show _ = V.bl _; rw [D.bq])⟩⟩⟩
def dInt : Deep tInt := ⟨.int, 0, fun rb h => by cases h; exact ⟨.int _, rfl⟩, fun _ => by simp [PyData.depth], fun d e => by simp [PyData.eqv]⟩
def dBool : Deep tBool := ⟨.bool, 0, fun rb h => by cases h; exact ⟨.bl _, rfl⟩, fun _ => by simp [PyData.depth], fun d e => by simp [PyData.eqv]⟩
def dStr : Deep tStr := ⟨fun x => .str (toS x), 0, fun {K d v R H} rb h => by
    obtain ⟨rfl, h⟩ := h
    refine ⟨.str _, ?_⟩
    show PyData.strOk (toS d) = true
    simp only [PyData.strOk, toS, List.all_toArray, List.all_eq_true, decide_eq_true_eq]
    exact h.2, fun _ => by simp [PyData.depth], fun d e => by
    simp only [PyData.eqv, beq_iff_eq]
    exact ⟨toS_inj, fun h => by rw [h]⟩⟩
theorem eqvAll_map {pd : α → PyData} (h : ∀ d e, PyData.eqv (pd d) (pd e) = true ↔ d = e) : ∀ ds es : List α, PyData.eqvAll (ds.map pd) (es.map pd) = true ↔ ds = es
  | [], [] => by simp [PyData.eqvAll]
  | [], _ :: _ => by simp [PyData.eqvAll]
  | _ :: _, [] => by simp [PyData.eqvAll]
  | d :: ds, e :: es => by simp [PyData.eqvAll, h d e, eqvAll_map h ds es]
theorem depthAll_map {pd : α → PyData} {n : Nat} (h : ∀ d, (pd d).depth ≤ n) : ∀ ds : List α, PyData.depthAll (ds.map pd) ≤ n
  | [] => by simp [PyData.depthAll]
  | d :: ds => by simp only [List.map_cons, PyData.depthAll]; have := h d; have := depthAll_map h ds; omega
theorem Deep.all (D : Deep S) {R : RdR} {H : Hp} (rb : Rdb K R H) {ds : List α} {vs : List V} (r : Reps S R ds vs) : DpAll K H vs (ds.map D.pd) ∧ PyData.canLayAll0 (ds.map D.pd) = true := by
  induction r with
  | nil => exact ⟨.nil, rfl⟩
  | cons r _ ih =>
    obtain ⟨h1, h2⟩ := D.rep rb r
    exact ⟨.cons h1 ih.1, by simp only [List.map_cons, PyData.canLayAll0, h2, ih.2, Bool.and_self]⟩
def dList (D : Deep S) : Deep (tList S) := ⟨fun ds => .list (ds.map D.pd), D.dp + 1, fun {K ds v R H} rb ⟨a, vs, e, h, r⟩ => by
    subst e
    obtain ⟨h1, h2⟩ := D.all rb r
    exact ⟨.lst (.inl ((rb _ _ h).resolve_right fun z => z)) h1, h2⟩, fun ds => by simp only [PyData.depth]; have := depthAll_map D.dep ds; omega, fun d e => by
    simp only [PyData.eqv]
    exact eqvAll_map D.eqv d e⟩
def dTupL (D : Deep S) : Deep (tTupL S) := ⟨fun ds => .tuple (ds.map D.pd), D.dp + 1, fun {K ds v R H} rb ⟨a, vs, e, h, r⟩ => by
    subst e
    obtain ⟨h1, h2⟩ := D.all rb r
    exact ⟨.tup ((rb _ _ h).imp id id) h1, h2⟩, fun ds => by simp only [PyData.depth]; have := depthAll_map D.dep ds; omega, fun d e => by
    simp only [PyData.eqv]
    exact eqvAll_map D.eqv d e⟩
/-! ### subscripts -/
def getM {α : Type} (xs : List α) (i : Int) : M α := match L2.atI xs i with | some d => .ok d | none => .no
def getS (x : Tx) (i : Int) : M Tx := match L2.atI x i with | some c => .ok [c] | none => .no
theorem getM_ne {xs : List α} {i : Int} {c : Ec} : getM xs i ≠ .ex c := by unfold getM; split <;> exact fun h => nomatch h
theorem getS_ne {x : Tx} {i : Int} {c : Ec} : getS x i ≠ .ex c := by unfold getS; split <;> exact fun h => nomatch h
theorem Reps.at {R : RdR} {ds : List α} {vs : List V} (r : Reps S R ds vs) {i : Int} {d : α} (h : L2.atI ds i = some d) : ∃ v, L2.atI vs i = some v ∧ S.rep d v R := by
  unfold L2.atI at h ⊢
  rw [r.length] at h
  cases hj : L2.ixN vs.length i with
  | none => rw [hj] at h; cases h
  | some j => rw [hj] at h; exact r.get h
theorem sq_of {R : RdR} {H : Hp} {a : Addr} {vs : List V} (rb : Rdb K R H) (h : R a (.lst vs)) : SqL K H a vs := .inl ((rb _ _ h).resolve_right fun z => z)
theorem rd_of {R : RdR} {H : Hp} {a : Addr} {vs : List V} (rb : Rdb K R H) (h : R a (.lst vs)) : Rd H a (.lst vs) := (rb _ _ h).resolve_right fun z => z
theorem st_of {R : RdR} {H : Hp} {a : Addr} {vs : List V} (rb : Rdb K R H) (h : R a (.tup vs)) : SqT K H a vs := (rb _ _ h).imp id id
theorem Nw.old {fr : Bool} {R : RdR} {H : Hp} (h : fr = false) : ∀ a o, R a o → Nw fr R H H a o := fun _ _ r => .inl ⟨h, r⟩
theorem o_ixL : Op2 K (rIxL K) (tList S) tInt S getM false := ⟨fun {d e x y R H Q} rb ⟨a, vs, ex, h, r⟩ ry q => by
  unfold getM at q
  cases hj : L2.atI d e with
  | none => rw [hj] at q; exact q.elim
  | some u =>
    rw [hj] at q
    obtain ⟨v, h1, h2⟩ := r.at hj
    exact ⟨a, vs, e, v, ex, ry, sq_of rb h, h1, q _ _ (Same.refl _) (S.mono h2 (Nw.old rfl))⟩⟩
theorem o_ixT : Op2 K (rIxT K) (tTupL S) tInt S getM false := ⟨fun {d e x y R H Q} rb ⟨a, vs, ex, h, r⟩ ry q => by
  unfold getM at q
  cases hj : L2.atI d e with
  | none => rw [hj] at q; exact q.elim
  | some u =>
    rw [hj] at q
    obtain ⟨v, h1, h2⟩ := r.at hj
    exact ⟨a, vs, e, v, ex, ry, st_of rb h, h1, q _ _ (Same.refl _) (S.mono h2 (Nw.old rfl))⟩⟩
theorem atI_mem {xs : List α} {i : Int} {d : α} (h : L2.atI xs i = some d) : d ∈ xs := by
  unfold L2.atI at h
  cases hj : L2.ixN xs.length i with
  | none => rw [hj] at h; cases h
  | some j => rw [hj] at h; exact List.mem_of_getElem? h
theorem o_ixS : Op2 K rIxS tStr tInt tStr getS true := ⟨fun {d e x y R H Q} rb rx ry q => by
  unfold getS at q
  cases hj : L2.atI d e with
  | none => rw [hj] at q; exact q.elim
  | some u =>
    rw [hj] at q
    refine ⟨toS d, e, u, rx.1, ry, by rw [toS_len]; exact rx.2.1, by rw [show (toS d).cps.toList = d from by simp [toS]]; exact hj, q _ _ (Same.refl _) ⟨rfl, (by show 1 ≤ sizeLine; decide), fun c hc => by rw [List.mem_singleton.mp hc]; exact rx.2.2 _ (atI_mem hj)⟩⟩⟩
section
variable {mx : M (List α)} {mi : M Int} {xs : List α} {i : Int} {mt : M Tx} {t : Tx}
theorem ev_ixL (ok : Ok p sc NN VV GG k g) (ha : EvE g L a md (tList S) mx) (hb : EvE g L b md tInt mi) (hs : PlainIx b := by exact fun _ _ => rfl) : EvE g L (.Subscript a b pos) md S (mx.bind fun xs => mi.bind fun i => getM xs i) := ev_ix (r := rIxL p.K) ok (by rw [← ok.K]; exact ix_list) o_ixL (fun _ _ _ => getM_ne) .same ha hb hs
theorem ev_ixLP (ok : Ok p sc NN VV GG k g) (ha : EvE g L a md (tList S) (.ok xs)) (hb : EvE g L b md tInt (.ok i)) (hs : PlainIx b := by exact fun _ _ => rfl) : EvE g L (.Subscript a b pos) md S (getM xs i) := ev_ixL ok ha hb hs
theorem ev_ixS (ok : Ok p sc NN VV GG k g) (ha : EvE g L a md tStr mt) (hb : EvE g L b md tInt mi) (hs : PlainIx b := by exact fun _ _ => rfl) : EvE g L (.Subscript a b pos) md' tStr (mt.bind fun xs => mi.bind fun i => getS xs i) := ev_ix (r := rIxS) ok ix_str o_ixS (fun _ _ _ => getS_ne) .fresh ha hb hs
theorem ev_ixSP (ok : Ok p sc NN VV GG k g) (ha : EvE g L a md tStr (.ok t)) (hb : EvE g L b md tInt (.ok i)) (hs : PlainIx b := by exact fun _ _ => rfl) : EvE g L (.Subscript a b pos) md' tStr (getS t i) := ev_ixS ok ha hb hs
end
/-! ### len -/
theorem ev_lenL {j : Nat} {mx : M (List α)} {pp : Pos} (ok : Ok p sc NN VV GG k g) (hG : GG[j]? = some "len") (hmg : p.mg "len" = none) (ha : EvE g L e md (tList S) mx) (hs : starEach [e] g.X.env = (false, eval e g.X.env) :: starEach [] g.X.env := by rfl) : EvE g L (.Call (.Name "len" pp) [e] [] pos) md' tInt (mx.bind fun xs => .ok (xs.length : Int)) := by
  have h := ev_callB (md' := md') (U := tInt) (A := aCons (tList S) aNil) (f := fun d => .ok (d.1.length : Int)) (fr := true) (pos := pos) (pp := pp) ok call_len_seq ⟨fun {d xs R H Q} rb ⟨v, r, e1, ⟨a, vs, e2, h, rr⟩, e3⟩ q => by
    subst e1; cases (show r = [] from e3)
    exact ⟨a, vs, by rw [e2], .inl (by rw [ok.K]; exact sq_of rb h), q _ _ (Same.refl _) (by show _ = V.int _; rw [rr.length])⟩⟩ (fun _ _ h => nomatch h) .fresh hG hmg PySem.boot_len (eva_cons ha eva_nil hs) hs rfl
  have e : (mx.bind fun d => (M.ok ()).bind fun e => M.ok (d, e)).bind (fun d => M.ok (d.1.length : Int)) = mx.bind fun xs => .ok (xs.length : Int) := by cases mx <;> rfl
  rwa [e] at h
theorem ev_lenLP {j : Nat} {xs : List α} {pp : Pos} (ok : Ok p sc NN VV GG k g) (hG : GG[j]? = some "len") (hmg : p.mg "len" = none) (ha : EvE g L e md (tList S) (.ok xs)) (hs : starEach [e] g.X.env = (false, eval e g.X.env) :: starEach [] g.X.env := by rfl) : EvE g L (.Call (.Name "len" pp) [e] [] pos) md' tInt (.ok (xs.length : Int)) := ev_lenL ok hG hmg ha hs
theorem ev_lenS {j : Nat} {mx : M Tx} {pp : Pos} (ok : Ok p sc NN VV GG k g) (hG : GG[j]? = some "len") (hmg : p.mg "len" = none) (ha : EvE g L e md tStr mx) (hs : starEach [e] g.X.env = (false, eval e g.X.env) :: starEach [] g.X.env := by rfl) : EvE g L (.Call (.Name "len" pp) [e] [] pos) md' tInt (mx.bind fun xs => .ok (xs.length : Int)) := by
  have h := ev_callB (md' := md') (U := tInt) (A := aCons tStr aNil) (f := fun d => .ok (d.1.length : Int)) (fr := true) (pos := pos) (pp := pp) ok call_len_str ⟨fun {d xs R H Q} rb ⟨v, r, e1, e2, e3⟩ q => by
    subst e1; cases (show r = [] from e3)
    exact ⟨toS d.1, by rw [e2.1], by rw [toS_len]; exact e2.2.1, q _ _ (Same.refl _) (by show _ = V.int _; rw [toS_len])⟩⟩ (fun _ _ h => nomatch h) .fresh hG hmg PySem.boot_len (eva_cons ha eva_nil hs) hs rfl
  have e : (mx.bind fun d => (M.ok ()).bind fun e => M.ok (d, e)).bind (fun d => M.ok (d.1.length : Int)) = mx.bind fun xs => .ok (xs.length : Int) := by cases mx <;> rfl
  rwa [e] at h
theorem ev_lenSP {j : Nat} {xs : Tx} {pp : Pos} (ok : Ok p sc NN VV GG k g) (hG : GG[j]? = some "len") (hmg : p.mg "len" = none) (ha : EvE g L e md tStr (.ok xs)) (hs : starEach [e] g.X.env = (false, eval e g.X.env) :: starEach [] g.X.env := by rfl) : EvE g L (.Call (.Name "len" pp) [e] [] pos) md' tInt (.ok (xs.length : Int)) := ev_lenS ok hG hmg ha hs
/-! ### texts -/
def catS (x y : Tx) : M Tx := if x.length + y.length ≤ sizeLine then .ok (x ++ y) else .no
theorem catS_ne {x y : Tx} {c : Ec} : catS x y ≠ .ex c := by unfold catS; split <;> exact fun h => nomatch h
theorem toS_app (x y : Tx) : toS (x ++ y) = toS x ++ toS y := by
  show (⟨(x ++ y).toArray⟩ : Str) = _
  rw [← List.append_toArray]
  rfl
theorem ev_catS {ma mb : M Tx} (ok : Ok p sc NN VV GG k g) (ha : EvE g L a md tStr ma) (hb : EvE g L b md tStr mb) : EvE g L (.BinOp a .Add b pos) md' tStr (ma.bind fun x => mb.bind fun y => catS x y) :=
  ev_op2 (fr := true) ok op_add_str ⟨fun {d e x y R H Q} rb rx ry q => by
    unfold catS at q
    split at q
    · rename_i h
      exact ⟨_, _, rx.1, ry.1, by rw [toS_len, toS_len]; exact h, q _ _ (Same.refl _) ⟨by rw [toS_app], by rw [List.length_append]; exact h, fun c hc => (List.mem_append.mp hc).elim (rx.2.2 c) (ry.2.2 c)⟩⟩
    · exact q.elim⟩ (fun _ _ _ => catS_ne) .fresh ha hb
theorem ev_catSP {x y : Tx} (ok : Ok p sc NN VV GG k g) (ha : EvE g L a md tStr (.ok x)) (hb : EvE g L b md tStr (.ok y)) : EvE g L (.BinOp a .Add b pos) md' tStr (catS x y) := ev_catS ok ha hb
/-! ### isinstance: known kinds -/
structure IsT (S : Ty α) (ty : String) : Prop where
  t : ∀ {K d v R H}, Rdb K R H → S.rep d v R → TyX K H v (.type ty)
/-! ### list(..) -/
theorem evl_copy {j : Nat} {mx : M (List α)} {pp : Pos} (ok : Ok p sc NN VV GG k g) (hG : GG[j]? = some "list") (hmg : p.mg "list" = none) (ha : EvE g L e md (tList S) mx) (hs : starEach [e] g.X.env = (false, eval e g.X.env) :: starEach [] g.X.env := by rfl) : EvL g L (.Call (.Name "list" pp) [e] [] pos) md S mx := by
  obtain ⟨hg, ho⟩ := ok.gl hG
  obtain ⟨h1, _, h3⟩ := okName_d ho
  refine PE.imp (pe_callTy call_list_of hg (by rw [ok.mg]; exact hmg) (by decide +kernel) (eva_cons ha eva_nil hs) h3 h1 hs rfl) fun σ H Q q => ?_
  obtain ⟨kp, own, at_, q⟩ := tL_iff.mp q
  refine tA_iff.mpr ⟨kp, own, at_, ?_⟩
  cases mx with
  | ok d =>
    rintro vs H1 s1 ⟨v, r, rfl, ⟨a, ws, rfl, h, rr⟩, e3⟩
    cases (show r = [] from e3)
    exact ⟨a, ws, rfl, .inl ((ok.fmK.trans ok.K.symm) ▸ RX.list h), fun l hl => q l ws _ (s1.trans (newSame hl)) (s1.free hl) upd_same (rr.mono (RX.add hl))⟩
  | ex c => exact q
  | no => exact q
end
end Hd

namespace Hd
open PySem PySem.Spec L2
section
variable {p : Pr} {sc : Scope} {NN VV GG : List Str} {k : Nat} {g : G} {L L' : List Slot} {a b c e e' : Expr} {es : List Expr} {md md' : Md} {α β γ δ ρ : Type} {S : Ty α} {T : Ty β} {U : Ty γ} {A : Ar δ} {pos : Pos} {K : PySem.W.Frag} {tg : Expr}
/-! ### isinstance of known kinds -/
theorem RX.tyx {R : RdR} {H : Hp} {a : Addr} {vs : List V} (rb : Rdb K R H) (h : R a (.lst vs)) : TyX K H (.ref a) (.type "list") := by
  rcases rb _ _ h with (h | ⟨o, h⟩) | h
  · exact .base (.lst h)
  · exact .base (.frz h)
  · exact h.elim
theorem RX.tyt {R : RdR} {H : Hp} {a : Addr} {vs : List V} (rb : Rdb K R H) (h : R a (.tup vs)) : TyX K H (.ref a) (.type "tuple") := by
  rcases rb _ _ h with (h | ⟨o, h⟩) | h
  · exact .base (.tup h)
  · exact .fTuple h
  · obtain ⟨o, its, n, h1, h2, _⟩ := (show ∃ (o : Obj) (its : Array Value) (n : Nat), K.lookup a = some o ∧ o.cls = .type "tuple" ∧ o.data = .seq its n ∧ its.size ≤ sizeLine ∧ Vals vs its.toList from h)
    exact .kTuple h1 h2
theorem i_int : IsT tInt "int" := ⟨fun rb h => by cases h; exact .base (.int _)⟩
theorem i_bool : IsT tBool "bool" := ⟨fun rb h => by cases h; exact .base (.bl _)⟩
theorem i_str : IsT tStr "str" := ⟨fun rb h => by cases h.1; exact .base (.str _)⟩
theorem i_none : IsT tNone "NoneType" := ⟨fun rb h => by cases h; exact .base .non⟩
theorem i_list : IsT (tList S) "list" := ⟨fun rb ⟨a, vs, e, h, _⟩ => by subst e; exact RX.tyx rb h⟩
theorem i_tupL : IsT (tTupL S) "tuple" := ⟨fun rb ⟨a, vs, e, h, _⟩ => by subst e; exact RX.tyt rb h⟩
theorem i_tup : IsT (tTup A) "tuple" := ⟨fun rb ⟨a, vs, e, h, _⟩ => by subst e; exact RX.tyt rb h⟩
/-- a built-in class by its name -/
def tTy (n : String) : Ty Unit := ⟨fun _ v _ => v = .ty n, fun h _ => h⟩
theorem ev_ty {j : Nat} {x : Str} {n : String} (ok : Ok p sc NN VV GG k g) (hG : GG[j]? = some x) (hmg : p.mg x = none) (hv : bootBuiltins x = some (.type n)) : EvE g L (.Name x pos) md (tTy n) (.ok ()) := by
  obtain ⟨hg, ho⟩ := ok.gl hG
  obtain ⟨h1, _, h3⟩ := okName_d ho
  exact PE.imp (pe_bltn (v := .ty n) hg (by rw [ok.mg]; exact hmg) hv rfl h3 h1) fun σ H Q ⟨kp, own, at_, q⟩ => q _ H (Same.refl H) rfl
theorem ev_isi {j : Nat} {ty n : String} {r : Bool} {m : M α} {pp : Pos} (ok : Ok p sc NN VV GG k g) (hG : GG[j]? = some "isinstance") (hmg : p.mg "isinstance" = none) (hT : IsT S ty) (hr : kitB ty n = some r) (ha : EvE g L a md S m) (hb : EvE g L b md (tTy n) (.ok ()))
    (hs1 : starEach (a :: [b]) g.X.env = (false, eval a g.X.env) :: starEach [b] g.X.env := by rfl) (hs2 : starEach [b] g.X.env = (false, eval b g.X.env) :: starEach [] g.X.env := by rfl) (hpl : (backTo pos (starEach [b] g.X.env)).any (·.1) = false := by rfl) :
    EvE g L (.Call (.Name "isinstance" pp) [a, b] [] pos) md' tBool (m.bind fun _ => .ok r) := by
  have h := ev_callB (md' := md') (U := tBool) (A := aCons S (aCons (tTy n) aNil)) (f := fun _ => .ok r) (fr := true) (pos := pos) (pp := pp) ok (id := "isinstance") call_isi ⟨fun {d xs R H Q} rb ⟨v, w, e1, h1, v2, w2, e2, h2, e3⟩ q => by
    subst e1; subst e2; cases (show w2 = [] from e3); cases h2
    exact ⟨v, .ty n, .type ty, .type n, r, rfl, .ty n, hT.t (by rw [ok.K]; exact rb) h1, kit_ty hr, q _ _ (Same.refl _) rfl⟩⟩ (fun _ _ h => nomatch h) .fresh hG hmg (by decide +kernel) (eva_cons ha (eva_cons hb eva_nil hs2) hs1) hs1 hpl
  have e : (m.bind fun d => ((M.ok ()).bind fun d => (M.ok ()).bind fun e => M.ok (d, e)).bind fun e => M.ok (d, e)).bind (fun d => M.ok r) = m.bind fun _ => .ok r := by cases m <;> rfl
  rwa [e] at h
theorem ev_isiP {j : Nat} {ty n : String} {r : Bool} {d : α} {pp : Pos} (ok : Ok p sc NN VV GG k g) (hG : GG[j]? = some "isinstance") (hmg : p.mg "isinstance" = none) (hT : IsT S ty) (hr : kitB ty n = some r) (ha : EvE g L a md S (.ok d)) (hb : EvE g L b md (tTy n) (.ok ()))
    (hs1 : starEach (a :: [b]) g.X.env = (false, eval a g.X.env) :: starEach [b] g.X.env := by rfl) (hs2 : starEach [b] g.X.env = (false, eval b g.X.env) :: starEach [] g.X.env := by rfl) (hpl : (backTo pos (starEach [b] g.X.env)).any (·.1) = false := by rfl) :
    EvE g L (.Call (.Name "isinstance" pp) [a, b] [] pos) md' tBool (.ok r) := ev_isi ok hG hmg hT hr ha hb hs1 hs2 hpl
/-! ### what a for walks -/
theorem evi_list {m : M (List α)} (ok : Ok p sc NN VV GG k g) (he : EvE g L e md (tList S) m) : EvI g L tg e S m := by
  refine PI.imp (pi_list he) fun σ H R ⟨kp, own, at_, q⟩ => ?_
  refine tE_iff.mpr ⟨kp, own, at_, ?_⟩
  cases m with
  | ok xs =>
    rintro v H' s ⟨a, vs, rfl, h, r⟩
    have hk : RD g.fm own H' a (.lst vs) := RX.sh a _ h
    refine ⟨a, rfl, ⟨vs, (ok.fmK.trans ok.K.symm) ▸ RX.list h⟩, ?_⟩
    rw [show Itl g.X.K a = Itl g.fm.K a from by rw [ok.K, ok.fmK]]
    refine q (Itl g.fm.K a) H' s fun H2 rb i => ?_
    have hs : SqL g.fm.K H2 a vs := sq_of rb hk
    refine ⟨fun d hd => ?_, fun hn => ⟨vs, hs, ?_⟩⟩
    · obtain ⟨v, h1, h2⟩ := r.get hd
      refine ⟨⟨vs, v, hs, h1⟩, fun x H3 ⟨e, hx⟩ => ?_⟩
      subst e
      have := hx vs hs
      rw [h1] at this
      cases this
      exact ⟨Same.refl _, S.mono h2 fun a o z => .inl ⟨rfl, RX.sh a o z⟩⟩
    · rw [List.getElem?_eq_none_iff, r.length] at hn
      exact hn
  | ex c => exact q
  | no => exact q
theorem evi_str {m : M Tx} (he : EvE g L e md tStr m) : EvI g L tg e tStr (m.bind fun x => .ok (x.map fun c => [c])) := by
  refine PI.imp (pi_str he) fun σ H R ⟨kp, own, at_, q⟩ => ?_
  refine tE_iff.mpr ⟨kp, own, at_, ?_⟩
  cases m with
  | ok xs =>
    rintro v H' s ⟨rfl, hok⟩
    refine ⟨toS xs, rfl, q (Its (toS xs)) H' s fun H2 rb i => ?_⟩
    refine ⟨fun d hd => ?_, fun hn => ?_⟩
    · rw [List.getElem?_map] at hd
      cases hi : xs[i]? with
      | none => rw [hi] at hd; cases hd
      | some c =>
        rw [hi] at hd
        cases hd
        have hlt := (List.getElem?_eq_some_iff.mp hi).1
        refine ⟨by show i < xs.toArray.size; simpa using hlt, fun x H3 ⟨e, c', h1, h2⟩ => ?_⟩
        subst e
        have : c' = c := by
          have h1' : xs.toArray[i]? = some c' := h1
          rw [List.getElem?_toArray, hi] at h1'
          exact (Option.some.inj h1').symm
        subst this
        exact ⟨Same.refl _, h2, by show 1 ≤ sizeLine; decide, fun c2 hc2 => by rw [List.mem_singleton.mp hc2]; exact hok.2 _ (List.mem_of_getElem? hi)⟩
    · rw [List.getElem?_eq_none_iff, List.length_map] at hn
      show xs.toArray.size ≤ i
      simpa using hn
  | ex c => exact q
  | no => exact q
/-- the whole numbers from lo on, n many -/
def upFrom (lo : Int) : Nat → List Int
  | 0 => []
  | n + 1 => lo :: upFrom (lo + 1) n
theorem upFrom_get (n : Nat) : ∀ (lo : Int) (i : Nat), (upFrom lo n)[i]? = if i < n then some (lo + i) else none := by
  induction n with
  | zero => intro lo i; simp [upFrom]
  | succ n ih =>
    intro lo i
    cases i with
    | zero => simp [upFrom]
    | succ i =>
      rw [upFrom, List.getElem?_cons_succ, ih]
      by_cases h : i < n
      · rw [if_pos h, if_pos (by omega)]
        congr 1
        push_cast
        omega
      · rw [if_neg h, if_neg (by omega)]
theorem upFrom_len (n : Nat) : ∀ lo : Int, (upFrom lo n).length = n := by
  induction n with
  | zero => intro lo; rfl
  | succ n ih => intro lo; simp [upFrom, ih]
/-- range(lo, hi) -/
def rangeM (lo hi : Int) : M (List Int) := if -(2 ^ 62) ≤ lo ∧ lo < 2 ^ 62 ∧ -(2 ^ 62) ≤ hi ∧ hi < 2 ^ 62 then .ok (upFrom lo (hi - lo).toNat) else .no
theorem itr_ok {kp : RdR} {lo : Int} {n : Nat} : ItOk K kp (Itr lo n) tInt (upFrom lo n) := fun H rb i => by
  rw [upFrom_get]
  refine ⟨fun d hd => ?_, fun hn => ?_⟩
  · by_cases h : i < n
    · rw [if_pos h] at hd
      cases hd
      exact ⟨h, fun x H' ⟨e, hx⟩ => by subst e; exact ⟨Same.refl _, hx⟩⟩
    · rw [if_neg h] at hd; cases hd
  · by_cases h : i < n
    · rw [if_pos h] at hn; cases hn
    · exact Nat.le_of_not_lt h
theorem evi_range1 {j : Nat} {m : M Int} {pp : Pos} (ok : Ok p sc NN VV GG k g) (hG : GG[j]? = some "range") (hmg : p.mg "range" = none) (ha : EvE g L a md tInt m) (hs : starEach [a] g.X.env = (false, eval a g.X.env) :: starEach [] g.X.env := by rfl) :
    EvI g L tg (.Call (.Name "range" pp) [a] [] pos) tInt (m.bind fun n => rangeM 0 n) := by
  obtain ⟨hg, ho⟩ := ok.gl hG
  refine PI.imp (pi_range1 hg (by rw [ok.mg]; exact hmg) (eva_cons ha eva_nil hs) hs) fun σ H R ⟨kp, own, at_, q⟩ => ?_
  refine tA_iff.mpr ⟨kp, own, at_, ?_⟩
  cases m with
  | ok n =>
    rintro vs H' s ⟨v, r, rfl, rfl, e3⟩
    cases (show r = [] from e3)
    simp only [M.bind_ok] at q
    unfold rangeM at q
    split at q
    · rename_i xs h1
      split at h1
      · rename_i h
        cases h1
        refine ⟨n, rfl, h.2.2.1, h.2.2.2, q _ H' s ?_⟩
        rw [Int.sub_zero]
        exact itr_ok
      · cases h1
    · rename_i h1; split at h1 <;> cases h1
    · exact q.elim
  | ex c => exact q
  | no => exact q
theorem evi_range2 {j : Nat} {m1 m2 : M Int} {pp : Pos} (ok : Ok p sc NN VV GG k g) (hG : GG[j]? = some "range") (hmg : p.mg "range" = none) (ha : EvE g L a md tInt m1) (hb : EvE g L b md tInt m2)
    (hs1 : starEach [a, b] g.X.env = (false, eval a g.X.env) :: starEach [b] g.X.env := by rfl) (hs2 : starEach [b] g.X.env = (false, eval b g.X.env) :: starEach [] g.X.env := by rfl) :
    EvI g L tg (.Call (.Name "range" pp) [a, b] [] pos) tInt (m1.bind fun lo => m2.bind fun hi => rangeM lo hi) := by
  obtain ⟨hg, ho⟩ := ok.gl hG
  refine PI.imp (pi_range2 hg (by rw [ok.mg]; exact hmg) (eva_cons ha (eva_cons hb eva_nil hs2) hs1) (by rw [hs1, hs2]; rfl) (by rw [hs2]; rfl)) fun σ H R ⟨kp, own, at_, q⟩ => ?_
  refine tA_iff.mpr ⟨kp, own, at_, ?_⟩
  cases m1 with
  | ok lo =>
    cases m2 with
    | ok hi =>
      rintro vs H' s ⟨v, r, rfl, rfl, v2, r2, rfl, rfl, e3⟩
      cases (show r2 = [] from e3)
      simp only [M.bind_ok] at q
      unfold rangeM at q
      split at q
      · rename_i xs h1
        split at h1
        · rename_i h
          cases h1
          exact ⟨lo, hi, rfl, h, q _ H' s itr_ok⟩
        · cases h1
      · rename_i h1; split at h1 <;> cases h1
      · exact q.elim
    | ex c => exact q
    | no => exact q
  | ex c => exact q
  | no => exact q
/-! ### changing a list of one's own -/
theorem At.mut {fm : Fm} {kp : RdR} {σ : L2.St} {H : Hp} {own : List Addr} {b : Bool} {ds : List α} {i : Nat} (h : At fm kp L σ H own) (hL : L[i]? = some (sOwn b S ds)) :
    ∃ p vs, σ[i]? = some (some (.ref p)) ∧ H p = some (.lst vs) ∧ Reps S (RB fm own H b) ds vs ∧ ∀ ds' vs', Reps S (RB fm own H b) ds' vs' → At fm kp (L.set i (sOwn b S ds')) σ (upd H p (.lst vs')) own := by
  obtain ⟨h1, h2, ⟨Fs, h3, rfl⟩, h4, h5, h6⟩ := h
  obtain ⟨v, F, e1, e2, q, vs, rfl, rfl, hp, r⟩ := h3.get hL
  have qin : q ∈ Fs.flatten := List.mem_flatten.mpr ⟨[q], List.mem_of_getElem? e2, by simp⟩
  refine ⟨q, vs, e1, hp, r, fun ds' vs' r' => ?_⟩
  have key : ∀ (md : Md) a o, RX fm Fs.flatten H H md a o → RX fm Fs.flatten (upd H q (.lst vs')) (upd H q (.lst vs')) md a o ∨ md = .fx := fun md a o z => by
    cases md with
    | sh =>
      rcases z with z | z
      · have n : a ≠ q := fun e => z.2.1 (by rw [e]; exact qin)
        refine .inl (.inl ⟨?_, z.2⟩)
        unfold Rd
        rw [cl_upd_ne n]
        exact z.1
      · exact .inl (.inr z)
    | f0 =>
      have n : a ≠ q := fun e => z.2.1 (by rw [e]; exact qin)
      exact .inl ⟨by rw [cl_upd_ne n]; exact z.1, z.2⟩
    | fx => exact .inr rfl
  have keyB : ∀ (b : Bool) a o, RB fm Fs.flatten H b a o → RB fm Fs.flatten (upd H q (.lst vs')) b a o := fun b a o z => by
    cases b with
    | false => exact (key .sh a o z).resolve_right (fun e => nomatch e)
    | true => exact (key .f0 a o z).resolve_right (fun e => nomatch e)
  have up : ∀ a, H a ≠ none → upd H q (.lst vs') a ≠ none := fun a n => by
    by_cases e : a = q
    · rw [e, upd_same]; exact fun z => by cases z
    · rw [upd_ne e]; exact n
  refine ⟨h1.wr (h5 q qin).2.1 hp (fun _ z => nomatch z) rfl, fun a z => up a (h2 a z), ⟨Fs, ?_, rfl⟩, h4, fun x hx => ⟨up x (h5 x hx).1, (h5 x hx).2⟩, fun a o z => (key .sh a o (h6 a o z)).resolve_right (fun e => nomatch e)⟩
  · -- the slots
    have gen : ∀ {L : List Slot} {σ : L2.St} {Fs' : List (List Addr)}, AllS H (RB fm Fs.flatten H) L σ Fs' → Fs'.flatten.Nodup → ∀ {i : Nat}, Fs'[i]? = some [q] → L[i]? = some (sOwn b S ds) → σ[i]? = some (some (V.ref q)) →
        AllS (upd H q (.lst vs')) (RB fm Fs.flatten (upd H q (.lst vs'))) (L.set i (sOwn b S ds')) σ Fs' := by
      intro L σ Fs' hA
      induction hA with
      | nil => intro _ i e _ _; simp at e
      | @cons sl L v σ F Fs' r t ih =>
        intro nd i e eL eσ
        rw [List.flatten_cons, List.nodup_append] at nd
        cases i with
        | zero =>
          simp at e eL eσ
          subst e; subst eL; subst eσ
          refine .cons ⟨q, vs', rfl, rfl, upd_same, r'.mono (keyB b)⟩ (t.st keyB fun x hx => ?_)
          exact upd_ne fun z => nd.2.2 q (by simp) x hx z.symm
        | succ i =>
          have e' : Fs'[i]? = some [q] := by simpa using e
          refine .cons (sl.st r keyB fun x hx => upd_ne fun z => nd.2.2 x hx q (List.mem_flatten.mpr ⟨[q], List.mem_of_getElem? e', by simp⟩) z) (ih nd.2.1 e' (by simpa using eL) (by simpa using eσ))
    exact gen h3 h4 e2 hL e1
def lim : Nat := sizeLine
def pushM {α : Type} (xs : List α) (d : α) : M (List α) := if xs.length < sizeLine then .ok (xs ++ [d]) else .no
def setM {α : Type} (xs : List α) (i : Int) (d : α) : M (List α) := match L2.ixN xs.length i with | some j => .ok (xs.set j d) | none => .no
variable {st : List Stmt} {D : δ → Out} {i j : Nat} {x : Str}
theorem evb_append {bb : Bool} {ds : List α} {m : M α} {f : List α → M δ} {p1 ap cp : Pos} (ok : OkS p sc NN VV GG k g) (wk : Wk L g.LX) (hN : NN[i]? = some x) (hV : VV[j]? = some x) (hL : L[i]? = some (sOwn bb S ds)) (hb : SlB md bb)
    (he : EvE g L e md S m) (hr : ∀ ds', EvB g (L.set i (sOwn bb S ds')) st D (f ds'))
    (hs : swapsWith (.Call (.Attribute (.Name x p1) "append" ap) [e] [] cp) none pos.line g.X.env = pure false := by rfl)
    (hbase : attributeBase (.Name x p1) "append" g.X.env (eval (.Name x p1) g.X.env) = eval (.Name x p1) g.X.env := by rfl)
    (hfew : ((backTo cp (starEach [e] g.X.env)).all (fun x => !x.1) && (backToKw cp (keywordEach [] g.X.env)).all (fun x => x.1.isSome)
      && decide (([e] : List Expr).length + ([] : List Keyword).length + (if ([] : List Keyword).isEmpty then 0 else 1) < 30)) = true := by rfl)
    (hline : (ap.endLine == cp.line) = true := by rfl) (hst : starEach [e] g.X.env = (false, eval e g.X.env) :: starEach [] g.X.env := by rfl) (hpl : (backTo cp (starEach [] g.X.env)).any (·.1) = false := by rfl) :
    EvB g L (.Expr (.Call (.Attribute (.Name x p1) "append" ap) [e] [] cp) pos :: st) D (m.bind fun d => (pushM ds d).bind f) := by
  obtain ⟨hv, ho⟩ := ok.vis hV
  obtain ⟨h1, h2, _⟩ := okName_d ho
  refine PSs.imp (pss_cons (ps_expr (pe_bm PySem.F.plainAttrs_list PySem.F.slot_list_append PySem.F.type_list_append mt_append (pe_var (i := i) (by rw [ok.N]; exact hN) hv h1 h2) (pa_cons he pa_nil hst) (hbase := hbase) (hfew := hfew) (hline := hline) (hs := hst) (hplain := hpl)) hs) (PSs.ex hr)) fun E σ H ⟨kp, own, at_, q⟩ => ?_
  obtain ⟨p', vs, e1, hp, r, mu⟩ := at_.mut hL
  refine ⟨_, e1, Or.inl ⟨rfl, _, SqL.of hp⟩, tE_iff.mpr ⟨kp, own, at_, ?_⟩⟩
  cases m with
  | ok d =>
    intro v H1 s1 r1
    have a1 := at_.ext s1
    obtain ⟨p2, vs2, e12, hp2, rr2, mu2⟩ := a1.mut hL
    rw [e1] at e12
    cases e12
    have q : BOk g kp E D ((pushM ds d).bind f) := q
    unfold pushM at q
    split at q
    · rename_i hlt
      refine ⟨_, vs2, v, rfl, rfl, hp2, by rw [← rr2.length]; exact hlt, ds ++ [d], kp, own, mu2 _ _ (rr2.append (.cons (S.mono r1 hb.rb) .nil)), q⟩
    · exact q.elim
  | ex c => exact BOk.exx wk at_ q
  | no => exact q
theorem evb_setitem {bb : Bool} {ds : List α} {m : M α} {mi : M Int} {f : List α → M δ} {ix : Expr} {p1 p2 : Pos} (ok : OkS p sc NN VV GG k g) (wk : Wk L g.LX) (hN : NN[i]? = some x) (hV : VV[j]? = some x) (hL : L[i]? = some (sOwn bb S ds)) (hb : SlB md bb)
    (he : EvE g L e md S m) (hi : EvE g L ix md' tInt mi) (hr : ∀ ds', EvB g (L.set i (sOwn bb S ds')) st D (f ds'))
    (hs : swapsWith e (some (.Subscript (.Name x p1) ix p2)) pos.line g.X.env = pure false := by rfl)
    (hsub : ∀ v, assign (.Subscript (.Name x p1) ix p2) g.X.env v = (do
      let ov ← holding [v] (eval (.Name x p1) g.X.env)
      let iv ← holding [v, ov] (eval ix g.X.env)
      standAt p2
      holding [v, ov, iv] (setItem ov iv v)
      release [v, ov, iv] []) := by intro _; rfl)
    (hs' : swapsWithSole [.Subscript (.Name x p1) ix p2] e pos.line g.X.env = pure false := by rfl) (hw : swappedStores [.Subscript (.Name x p1) ix p2] e g.X.env = pure none := by rfl) (ha1 : (assignEach [.Subscript (.Name x p1) ix p2] g.X.env).map (·.2) = [assign (.Subscript (.Name x p1) ix p2) g.X.env] := by rfl) :
    EvB g L (.Assign [.Subscript (.Name x p1) ix p2] e pos :: st) D (m.bind fun d => mi.bind fun i => (setM ds i d).bind f) := by
  obtain ⟨hv, ho⟩ := ok.vis hV
  obtain ⟨h1, h2, _⟩ := okName_d ho
  refine PSs.imp (pss_cons (ps_asg he (pg_sub (pe_var (i := i) (by rw [ok.N]; exact hN) hv h1 h2) hi set_list hsub) hs' hw ha1) (PSs.ex hr)) fun E σ H ⟨kp, own, at_, q⟩ => ?_
  refine tE_iff.mpr ⟨kp, own, at_, ?_⟩
  cases m with
  | ok d =>
    intro v H1 s1 r1
    have a1 := at_.ext s1
    obtain ⟨p', vs, e1, hp, r, mu⟩ := a1.mut hL
    refine ⟨_, e1, tE_iff.mpr ⟨kp, own, a1, ?_⟩⟩
    cases mi with
    | ok n =>
      intro v2 H2 s2 r2
      have a2 := a1.ext s2
      obtain ⟨p2, vs2, e12, hp2, rr2, mu2⟩ := a2.mut hL
      rw [e1] at e12
      cases e12
      have q : BOk g kp E D ((setM ds n d).bind f) := q
      unfold setM at q
      split at q
      · rename_i jj hj
        refine ⟨_, vs2, n, jj, rfl, r2, hp2, by rw [← rr2.length]; exact hj, ds.set jj d, kp, own, mu2 _ _ (rr2.set (S.mono r1 fun a o z => RB.same s2 bb a o (hb.rb a o z)) jj), q⟩
      · exact q.elim
    | ex c => exact BOk.exx wk a1 q
    | no => exact q
  | ex c => exact BOk.exx wk at_ q
  | no => exact q
end
end Hd

namespace Hd
open PySem PySem.Spec L2
section
variable {p : Pr} {sc : Scope} {NN VV GG VV' GG' : List Str} {k : Nat} {g : G} {L L' : List Slot} {a b c e e' : Expr} {es : List Expr} {md md' : Md} {α β γ δ ρ : Type} {S : Ty α} {T : Ty β} {U : Ty γ} {A : Ar δ} {pos : Pos} {K : PySem.W.Frag} {tg : Expr}
/-! ### several targets -/
def tGs (fm : Fm) (A : Ar δ) (L : List Slot) (Lt : δ → List Slot) : TGs := fun vs σ H Q => ∃ kp own d, At fm kp L σ H own ∧ A.rep d vs (RD fm own H) ∧ ∀ σ' own', At fm kp (Lt d) σ' H own' → (∀ p ∈ own', p ∈ own) → Q σ' H
def EvGs (g : G) (es : List Expr) (A : Ar δ) (L : List Slot) (Lt : δ → List Slot) : Prop := PGs g.X es (tGs g.fm A L Lt)
theorem PGs.imp {X : Cx} {es : List Expr} {t t' : TGs} (h : PGs X es t) (k : ∀ v σ H Q, t' v σ H Q → t v σ H Q) : PGs X es t' := ⟨fun pins s σ H v u Q I r q => h.run pins s σ H v u Q I r (k _ _ _ _ q)⟩
theorem PGs.ex {X : Cx} {ι : Type} {es : List Expr} {t : ι → TGs} (h : ∀ d, PGs X es (t d)) : PGs X es (fun v σ H Q => ∃ d, t d v σ H Q) := ⟨fun pins s σ H v u Q I r ⟨d, q⟩ => (h d).run pins s σ H v u Q I r q⟩
theorem evgs_nil : EvGs g [] aNil L (fun _ => L) := by
  refine PGs.imp pgs_nil fun v σ H Q ⟨kp, own, d, at_, r, q⟩ => ⟨r, q σ own at_ fun _ h => h⟩
theorem evgs_cons {Lt1 : α → List Slot} {Lt2 : α → δ → List Slot} (h1 : EvG g e S L Lt1) (h2 : ∀ d, EvGs g es A (Lt1 d) (Lt2 d)) (hs : (assignEach (e :: es) g.X.env).map (·.2) = assign e g.X.env :: (assignEach es g.X.env).map (·.2) := by rfl) :
    EvGs g (e :: es) (aCons S A) L (fun d => Lt2 d.1 d.2) := by
  refine PGs.imp (pgs_cons h1 (PGs.ex h2) hs) fun vs σ H Q ⟨kp, own, d, at_, ⟨v, r, e1, r1, r2⟩, q⟩ => ?_
  refine ⟨v, r, e1, kp, own, d.1, at_, r1, fun σ' own' a' sub => ⟨d.1, kp, own', d.2, a', A.mono r2 (RX.own (md := .sh) (H := H) sub), fun σ2 own2 a2 sub2 => q σ2 own2 a2 fun p hp => sub p (sub2 p hp)⟩⟩
theorem evg_tup {Lt : δ → List Slot} {n k' : Nat} (ok : Ok p sc NN VV GG k g) (hl : ∀ {d vs R}, A.rep d vs R → vs.length = n) (h : EvGs g es A L Lt)
    (hn : (assignEach es g.X.env).length = n := by rfl) (hst : (assignEach es g.X.env).findIdx? (·.1) = none := by rfl) : EvG g (.Tuple es k' pos) (tTup A) L Lt := by
  refine PG.imp (pg_tup ok.calm h hn hst) fun v σ H Q ⟨kp, own, d, at_, ⟨a, vs, e, hr, rr⟩, q⟩ => ?_
  subst e
  exact ⟨a, vs, rfl, (ok.fmK.trans ok.K.symm) ▸ RX.tup (md := .sh) (H := H) hr, hl rr, kp, own, d, at_, rr, q⟩
theorem len0 {d : Unit} {vs : List V} {R : RdR} (h : aNil.rep d vs R) : vs.length = 0 := by cases (show vs = [] from h); rfl
theorem lenS {n : Nat} (h : ∀ {d vs R}, A.rep d vs R → vs.length = n) {d : α × δ} {vs : List V} {R : RdR} (q : (aCons S A).rep d vs R) : vs.length = n + 1 := by
  obtain ⟨v, r, e, _, h2⟩ := q
  rw [e, List.length_cons, h h2]
variable {st : List Stmt} {D : δ → Out} {i j : Nat} {x : Str}
/-- a, b = e -/
theorem evb_asg {m : M α} {Lt : α → List Slot} {f : α → M δ} (ok : OkS p sc NN VV GG k g) (wk : Wk L g.LX) (he : EvE g L e md S m) (hG : EvG g tg S L Lt) (hr : ∀ d, EvB g (Lt d) st D (f d))
    (hs : swapsWithSole [tg] e pos.line g.X.env = pure false := by rfl) (hw : swappedStores [tg] e g.X.env = pure none := by rfl) (h1 : (assignEach [tg] g.X.env).map (·.2) = [assign tg g.X.env] := by rfl) :
    EvB g L (.Assign [tg] e pos :: st) D (m.bind f) := by
  refine PSs.imp (pss_cons (ps_asg he hG hs hw h1) (PSs.ex hr)) fun E σ H ⟨kp, own, at_, q⟩ => ?_
  refine tE_iff.mpr ⟨kp, own, at_, ?_⟩
  cases m with
  | ok d => exact fun v H' s r => ⟨kp, own, d, at_.ext s, S.mono r RX.sh, fun σ' own' a' _ => ⟨d, kp, own', a', q⟩⟩
  | ex c => exact BOk.exx wk at_ q
  | no => exact q
/-! ### comprehensions -/
def compG {α β : Type} (h : α → M (Option β)) : List α → M (List β)
  | [] => .ok []
  | x :: r => (h x).nox.bind fun o => (compG h r).bind fun l => .ok (o.toList ++ l)
def compM {α β : Type} (h : α → M (Option β)) (xs : List α) : M (List β) := if xs.length ≤ sizeLine then compG h xs else .no
theorem At.setAny {fm : Fm} {kp : RdR} {σ : L2.St} {H : Hp} {own : List Addr} (h : At fm kp L σ H own) : ∃ own', At fm kp (L.set i sAny) (σ.set i none) H own' ∧ ∀ p ∈ own', p ∈ own := by
  obtain ⟨h1, h2, ⟨Fs, h3, rfl⟩, h4, h5, h6⟩ := h
  have kk : ∀ p ∈ (Fs.set i []).flatten, p ∈ Fs.flatten := fun p hp => (set_sub (i := i)).subset hp
  exact ⟨_, ⟨h1, h2, ⟨Fs.set i [], (h3.st (RB.own kk) fun _ _ => rfl).set (s := sAny) rfl i, rfl⟩, h4.sublist set_sub, fun p hp => h5 p (kk p hp), fun a o q => RX.own (md := .sh) (H := H) kk a o (h6 a o q)⟩, kk⟩
theorem At.setSh {fm : Fm} {kp : RdR} {σ : L2.St} {H : Hp} {own : List Addr} {d : α} {v : V} (h : At fm kp L σ H own) (r : S.rep d v (RD fm own H)) : ∃ own', At fm kp (L.set i (sV false S d)) (σ.set i (some v)) H own' ∧ ∀ p ∈ own', p ∈ own := by
  obtain ⟨h1, h2, ⟨Fs, h3, rfl⟩, h4, h5, h6⟩ := h
  have kk : ∀ p ∈ (Fs.set i []).flatten, p ∈ Fs.flatten := fun p hp => (set_sub (i := i)).subset hp
  exact ⟨_, ⟨h1, h2, ⟨Fs.set i [], (h3.st (RB.own kk) fun _ _ => rfl).set (s := sV false S d) ⟨rfl, v, rfl, S.mono r (RX.own (md := .sh) (H := H) kk)⟩ i, rfl⟩, h4.sublist set_sub, fun p hp => h5 p (kk p hp), fun a o q => RX.own (md := .sh) (H := H) kk a o (h6 a o q)⟩, kk⟩
theorem lookup_rl {env : Env} {x : Str} : ∀ {names : List (Str × NameKind)} {kd : NameKind}, names.lookup x = some kd →
    (names.map fun (n, k) => if (k == NameKind.free && env.scope.kind == .function && env.kindOf n == some .cell) then (n, NameKind.cell) else (n, k)).lookup x = some kd ∨
      (kd = .free ∧ (names.map fun (n, k) => if (k == NameKind.free && env.scope.kind == .function && env.kindOf n == some .cell) then (n, NameKind.cell) else (n, k)).lookup x = some .cell)
  | [], _, h => by simp at h
  | (n, k') :: r, kd, h => by
    rw [List.lookup_cons] at h
    rw [List.map_cons]
    by_cases e : x == n
    · rw [e] at h
      cases h
      dsimp only
      split
      · rename_i hh
        refine .inr ⟨?_, by rw [List.lookup_cons, e]⟩
        simp only [Bool.and_eq_true, beq_iff_eq] at hh
        exact hh.1.1
      · exact .inl (by rw [List.lookup_cons, e])
    · have e : (x == n) = false := by simpa using e
      rw [e] at h
      dsimp only
      have ih := lookup_rl (env := env) (x := x) (names := r) h
      split <;> (rw [List.lookup_cons, e]; exact ih)
theorem vis_rl {scope : Scope} {env : Env} {x : Str} (h : Vis scope x) : Vis (relabel scope env) x := by
  rcases h with h | h | h <;> rcases lookup_rl (env := env) h with q | ⟨q, q2⟩
  · exact .inl q
  · cases q
  · exact .inr (.inl q)
  · cases q
  · exact .inr (.inr q)
  · exact .inr (.inl q2)
theorem gl_rl {scope : Scope} {env : Env} {x : Str} (h : scope.names.lookup x = some .globalImplicit) : (relabel scope env).names.lookup x = some .globalImplicit := by
  rcases lookup_rl (env := env) h with q | ⟨q, q2⟩
  · exact q
  · cases q
theorem _root_.L2.BlkOk.relab {N : List Str} {sc scope : Scope} {env : Env} {own : List (Str × Nat)} (h : BlkOk N sc scope own) : BlkOk N (relabel sc env) scope own :=
  ⟨h.kind, h.uniq, h.ix, fun y hy e => by
    rcases h.free y hy e with q | q <;> rcases lookup_rl (env := env) q with z | ⟨z, z2⟩
    · exact .inl z
    · cases z
    · exact .inr z
    · exact .inl z2, h.own⟩
/-- where the inner part of a comprehension stands -/
theorem blk_ok (ok : Ok p sc NN VV GG k g) {scope : Scope} {s : Shared} {H : Hp} {C : Addr} {cl : List (Str × Addr)} {fp : List Addr} {fm : Fm} (hK : fm.K = p.K ∧ ∀ P, p.T = some P → LamX.TabS fm.H0 P lamQ) (hv : VV'.all (seenB scope) = true) (hg : GG'.all (glB scope) = true) :
    Ok p scope NN VV' GG' k ⟨g.X.blk s H scope (compEnvC scope cl C g.X.env) fp, fm, fun _ _ _ => False, []⟩ :=
  { prog := ok.prog, w := ok.w, K := ok.K, mg := ok.mg, base := ok.base, N := ok.N, fmK := hK.1, tab := hK.2, room := ok.room, nd := ok.nd
    vis := fun e => let h := seenB_v (List.all_eq_true.mp hv _ (List.mem_of_getElem? e)); ⟨vis_rl h.2, h.1⟩
    gl := fun e => let h := glB_v (List.all_eq_true.mp hg _ (List.mem_of_getElem? e)); ⟨gl_rl h.2, h.1⟩
    tk := Takes.imp takes0 (fun cls d σ H ⟨c, e1, e2, h⟩ => h)
    calm := ok.calm
    blk := fun h => (blkOk_by h).relab }
theorem wipe1 {σ : L2.St} {v : V} : wipe ((wipe σ [i]).set i (some v)) [i] = wipe σ [i] := by
  show ((σ.set i none).set i (some v)).set i none = σ.set i none
  rw [List.set_set, List.set_set]
def NoOwn (s : Slot) : Prop := ∀ {v H R F}, s.ok v H R F → F = []
theorem no_any : NoOwn sAny := fun h => h
theorem no_v {b : Bool} {d : α} : NoOwn (sV b S d) := fun h => h.1
theorem At.setN {fm : Fm} {kp : RdR} {σ : L2.St} {H : Hp} {own : List Addr} {s s' : Slot} {v : Option V} (h : At fm kp L σ H own) (hL : L[i]? = some s) (hs : NoOwn s) (r : s'.ok v H (RB fm own H) []) : At fm kp (L.set i s') (σ.set i v) H own := by
  obtain ⟨h1, h2, ⟨Fs, h3, rfl⟩, h4, h5, h6⟩ := h
  obtain ⟨v0, F, e1, e2, r0⟩ := h3.get hL
  have e : (Fs.set i []).flatten = Fs.flatten := set_same_nil (by rw [e2, hs r0])
  exact ⟨h1, h2, ⟨Fs.set i [], h3.set r i, e.symm⟩, h4, h5, h6⟩
theorem PTs.ex {X : Cx} {ι : Type} {ifs : List Expr} {t : ι → TT} (h : ∀ d, PTs X ifs (t d)) : PTs X ifs (fun σ H Q => ∃ d, t d σ H Q) := ⟨fun pins s σ H Q I ⟨d, q⟩ => (h d).run pins s σ H Q I q⟩
theorem PE.ex {X : Cx} {ι : Type} {e : Expr} {t : ι → TE} (h : ∀ d, PE X e (t d)) : PE X e (fun σ H Q => ∃ d, t d σ H Q) := ⟨fun pins s σ H Q I ⟨d, q⟩ => (h d).run pins s σ H Q I q⟩
theorem M.bind_assoc {α β γ : Type} (m : M α) (f : α → M β) (h : β → M γ) : (m.bind f).bind h = m.bind fun x => (f x).bind h := by cases m <;> rfl
theorem PS.imp {X : Cx} {e : Stmt} {t t' : TS} (h : PS X e t) (k : ∀ E σ H, t' E σ H → t E σ H) : PS X e t' := ⟨fun pins s σ H D I q => h.run pins s σ H D I (k _ _ _ q)⟩
/-- [elt for x in it if c] -/
theorem evl_lc2 {scope : Scope} {it elt : Expr} {m : M (List α)} {cm : α → M Bool} {f : α → M β} {tp : Pos} {ifs : List Expr} {s₀ : Slot} (ok : Ok p sc NN VV GG k g) (hI : EvI g L (.Name x tp) it S m) (hN : NN[i]? = some x) (hLi : L[i]? = some s₀) (hs₀ : NoOwn s₀) (hb : blkC NN sc scope [(x, i)] = true)
    (hv : VV'.all (seenB scope) = true) (hg : GG'.all (glB scope) = true) (hx : locB scope x = true)
    (hc : ∀ g', Ok p scope NN VV' GG' k g' → ∀ d, PTs g'.X ifs (tT g'.fm g'.W (L.set i (sV false S d)) (cm d)))
    (he : ∀ g', Ok p scope NN VV' GG' k g' → ∀ d, EvE g' (L.set i (sV false S d)) elt md T (f d)) (hs : ∀ x, foldedSetIterable it g.X.env x = pure x := by intro _; rfl) :
    (EvL g L (.ListComp elt [⟨.Name x tp, it, ifs, 0⟩] scope pos) md T (m.bind fun xs => compM (fun d => (cm d).bind fun c => if c = true then (f d).bind fun y => .ok (some y) else .ok none) xs)) ∧
    (∀ {y : Str} {i2 : Nat} {py spos : Pos}, NN[i2]? = some y → g.X.env.scope.names.lookup y = some .local → swapsWith (.ListComp elt [⟨.Name x tp, it, ifs, 0⟩] scope pos) (some (.Name y py)) spos.line g.X.env = pure true →
      PS g.X (.Assign [.Name y py] (.ListComp elt [⟨.Name x tp, it, ifs, 0⟩] scope pos) spos) (tAsg (tL g.fm g.W L md T (m.bind fun xs => compM (fun d => (cm d).bind fun c => if c = true then (f d).bind fun y => .ok (some y) else .ok none) xs)) (gName i2))) := by
  have loc : ∀ (s : Shared) (H : Hp) (C : Addr) (cl : List (Str × Addr)) (fp : List Addr), L2.Loc (g.X.blk s H scope (compEnvC scope cl C g.X.env) fp).env.scope x ∧ ((g.X.blk s H scope (compEnvC scope cl C g.X.env) fp).fn x = true ∨ (g.X.blk s H scope (compEnvC scope cl C g.X.env) fp).env.scope.names.lookup x = some .local) := by
    intro s H C cl fp
    rcases locB_v hx with h | h
    · have q : (relabel scope g.X.env).names.lookup x = some .local := by
        rcases lookup_rl (env := g.X.env) h with q | ⟨q, _⟩
        · exact q
        · cases q
      exact ⟨.inl q, .inr q⟩
    · have q : (relabel scope g.X.env).names.lookup x = some .cell := by
        rcases lookup_rl (env := g.X.env) h with q | ⟨q, _⟩
        · exact q
        · cases q
      refine ⟨.inr q, .inl ?_⟩
      show (scope.names.lookup x == some .cell) = true
      rw [h]; rfl
  have BODY : ∀ σ H Q, tL g.fm g.W L md T (m.bind fun xs => compM (fun d => (cm d).bind fun c => if c = true then (f d).bind fun y => .ok (some y) else .ok none) xs) σ H Q →
      tLc (tI g.fm g.W L S m) (gName i) (fun σ H Q => ∃ z : {fm' : Fm // fm'.K = p.K ∧ ∀ P, p.T = some P → LamX.TabS fm'.H0 P lamQ} × α, tT z.1.1 (fun _ _ _ => False) (L.set i (sV false S z.2)) (cm z.2) σ H Q)
        (fun σ H Q => ∃ z : {fm' : Fm // fm'.K = p.K ∧ ∀ P, p.T = some P → LamX.TabS fm'.H0 P lamQ} × α, tE z.1.1 (fun _ _ _ => False) (L.set i (sV false S z.2)) md T (f z.2) σ H Q) ([(x, i)].map (·.2)) σ H Q := by
    intro σ H Q q
    obtain ⟨kp, own, at_, q⟩ := tL_iff.mp q
    cases m with
    | ex c => exact ⟨kp, own, at_, q⟩
    | no => exact q.elim
    | ok xs =>
    refine ⟨kp, own, at_, fun J H1 s1 hJ D hD => ?_⟩
    have at1 := at_.ext s1
    have hHD : H D = none := s1.free hD
    -- the inner frame
    let fm' : Fm := ⟨g.fm.K, g.fm.H0, fun a => a = D ∨ g.fm.z a⟩
    let hh : α → M (Option β) := fun d => (cm d).bind fun c => if c = true then (f d).bind fun y => .ok (some y) else .ok none
    have q : FinL g.fm g.W own σ H md T Q (compM hh xs) := q
    unfold compM at q
    split at q
    case isFalse => exact q.elim
    rename_i hlen
    have aw : At g.fm kp (L.set i sAny) (σ.set i none) H1 own := at1.setN hLi hs₀ rfl
    have rdD : ∀ (md : Md) (H0 : Hp) a o, RX g.fm own H0 H1 md a o → RX fm' own H0 (upd H1 D (.lst [])) md a o := fun md H0 a o z => by
      have z2 := RX.add (o' := .lst []) hD a o z
      cases md with
      | sh => exact z2.imp (fun ⟨a1, a2, a3⟩ => ⟨a1, fun y => a2 (List.mem_cons_of_mem _ y), fun y => y.elim (fun e => a2 (by rw [e]; exact List.mem_cons_self)) a3⟩) id
      | f0 => exact ⟨z2.1, fun y => z2.2.1 (List.mem_cons_of_mem _ y), fun y => y.elim (fun e => z2.2.1 (by rw [e]; exact List.mem_cons_self)) z2.2.2.1, z2.2.2.2⟩
      | fx => exact ⟨z2.1, fun y => z2.2.1 (List.mem_cons_of_mem _ y), fun y => y.elim (fun e => z2.2.1 (by rw [e]; exact List.mem_cons_self)) z2.2.2.1, z2.2.2.2⟩
    have a0 : At fm' (RD g.fm own H1) (L.set i sAny) (wipe σ [i]) (upd H1 D (.lst [])) own := by
      obtain ⟨h1, h2, ⟨Fs, h3, e⟩, h4, h5, h6⟩ := aw
      refine ⟨h1.trans (newSame hD), fun a z => ?_, ⟨Fs, h3.st (fun b a o z => ?_) fun y hy => ?_, e⟩, h4, fun y hy => ⟨fun n => (h5 y hy).1 ((newSame hD).free n), (h5 y hy).2.1, fun z => z.elim (fun e => (h5 y hy).1 (by rw [e]; exact hD)) (h5 y hy).2.2⟩, fun a o z => rdD .sh H1 a o z⟩
      · rcases z with z | z
        · rw [z, upd_same]; exact fun n => by cases n
        · exact fun n => h2 a z ((newSame hD).free n)
      · cases b with
        | false => exact rdD .sh H1 a o z
        | true => exact rdD .f0 H1 a o z
      · exact upd_ne fun e' => (h5 y (by rw [e]; exact hy)).1 (by rw [e']; exact hD)
    have upR : ∀ (md : Md) {H5 : Hp} {vs' : List V}, ∀ a o, RX g.fm (D :: own) H H5 md a o → RX g.fm (D :: own) H (upd H5 D (.lst vs')) md a o := fun md {H5 vs'} a o z => by
      have ne : a ∉ D :: own → a ≠ D := fun h e => h (by rw [e]; exact List.mem_cons_self)
      cases md with
      | sh =>
        refine z.imp (fun ⟨a1, a2, a3⟩ => ⟨?_, a2, a3⟩) id
        unfold Rd
        rw [cl_upd_ne (ne a2)]
        exact a1
      | f0 => exact ⟨by rw [cl_upd_ne (ne z.2.1)]; exact z.1, z.2⟩
      | fx => exact ⟨by rw [cl_upd_ne (ne z.2.1)]; exact z.1, z.2⟩
    refine ⟨fun n mm H' => mm = xs.length - n ∧ n ≤ xs.length ∧ ∃ vs ds, H' D = some (.lst vs) ∧ vs.length ≤ n ∧ Same H H' ∧ Reps T (RX g.fm (D :: own) H H' md) ds vs ∧ At fm' (RD g.fm own H1) (L.set i sAny) (wipe σ [i]) H' own ∧
      FinL g.fm g.W own σ H md T Q ((compG hh (xs.drop n)).bind fun l => .ok (ds ++ l)), ⟨_, rfl, Nat.zero_le _, [], [], upd_same, Nat.zero_le _, s1.trans (newSame hD), .nil, a0, ?_⟩, ?_⟩
    · rw [List.drop_zero]
      have e : ((compG hh xs).bind fun l => M.ok ([] ++ l)) = compG hh xs := by cases compG hh xs <;> rfl
      rw [e]; exact q
    rintro n mm H' ⟨rfl, hn, vs, ds, hDv, hvl, sH, rr, a', q'⟩
    have rb : Rdb g.fm.K (RD g.fm own H1) H' := fun a o z => (a'.kept a o z).imp (fun h => Rd.raw h.1) id
    obtain ⟨hgo, hst⟩ := hJ H' rb n
    by_cases hlt : n < xs.length
    · have hx' : xs[n]? = some xs[n] := by simp [hlt]
      obtain ⟨go, yl⟩ := hgo _ hx'
      refine .inr ⟨go, fun H6 => ∃ vs ds, H6 D = some (.lst vs) ∧ vs.length ≤ n + 1 ∧ Same H H6 ∧ Reps T (RX g.fm (D :: own) H H6 md) ds vs ∧ At fm' (RD g.fm own H1) (L.set i sAny) (wipe σ [i]) H6 own ∧
        FinL g.fm g.W own σ H md T Q ((compG hh (xs.drop (n + 1))).bind fun l => .ok (ds ++ l)), fun H6 z => ⟨xs.length - (n + 1), by omega, rfl, hlt, z⟩, fun y H3 hy => ?_⟩
      obtain ⟨s3, r3⟩ := yl y H3 hy
      have a3 := a'.ext s3
      have ry : S.rep xs[n] y (RD fm' own H3) := S.mono r3 (Nw.rd a' a'.kept s3)
      have hLw : (L.set i sAny)[i]? = some sAny := by
        have hlt' := (List.getElem?_eq_some_iff.mp hLi).1
        rw [List.getElem?_set_self hlt']
      have a4 : At fm' (RD g.fm own H1) (L.set i (sV false S xs[n])) ((wipe σ [i]).set i (some y)) H3 own := by
        have := a3.setN (s' := sV false S xs[n]) (v := some y) hLw no_any ⟨rfl, y, rfl, ry⟩
        rwa [List.set_set] at this
      rw [List.drop_eq_getElem_cons hlt] at q'
      refine ⟨wipe1, ⟨⟨fm', ok.fmK, ok.tab⟩, xs[n]⟩, _, own, a4, ?_⟩
      have q2 : FinL g.fm g.W own σ H md T Q (((hh xs[n]).nox.bind fun o => (compG hh (xs.drop (n + 1))).bind fun l => .ok (o.toList ++ l)).bind fun l => .ok (ds ++ l)) := q'
      cases hcm : cm xs[n] with
      | ex c => rw [show hh xs[n] = .ex c from by show (cm xs[n]).bind _ = _; rw [hcm]; rfl] at q2; exact q2.elim
      | no => rw [show hh xs[n] = .no from by show (cm xs[n]).bind _ = _; rw [hcm]; rfl] at q2; exact q2.elim
      | ok c =>
        intro H4 s4
        cases c with
        | false =>
          rw [show hh xs[n] = .ok none from by show (cm xs[n]).bind _ = _; rw [hcm]; rfl] at q2
          refine (if_neg (by decide)).mpr ?_
          have a5 : At fm' (RD g.fm own H1) (L.set i sAny) (wipe σ [i]) H4 own := a3.ext s4
          refine ⟨vs, ds, s4.keep _ _ (s3.keep _ _ hDv rfl) rfl, Nat.le_succ_of_le hvl, (sH.trans s3).trans s4, rr.mono (RX.same (s3.trans s4)), a5, ?_⟩
          have e : (((M.ok (none : Option β)).nox.bind fun o => (compG hh (xs.drop (n + 1))).bind fun l => M.ok (o.toList ++ l)).bind fun l => M.ok (ds ++ l)) = (compG hh (xs.drop (n + 1))).bind fun l => M.ok (ds ++ l) := by
            cases compG hh (xs.drop (n + 1)) <;> rfl
          rw [e] at q2; exact q2
        | true =>
          refine (if_pos rfl).mpr ⟨⟨⟨fm', ok.fmK, ok.tab⟩, xs[n]⟩, _, own, a4.ext s4, ?_⟩
          cases hf : f xs[n] with
          | ex c => rw [show hh xs[n] = .ex c from by show (cm xs[n]).bind _ = _; rw [hcm]; show (f xs[n]).bind _ = _; rw [hf]; rfl] at q2; exact q2.elim
          | no => rw [show hh xs[n] = .no from by show (cm xs[n]).bind _ = _; rw [hcm]; show (f xs[n]).bind _ = _; rw [hf]; rfl] at q2; exact q2.elim
          | ok w =>
            rw [show hh xs[n] = .ok (some w) from by show (cm xs[n]).bind _ = _; rw [hcm]; show (f xs[n]).bind _ = _; rw [hf]; rfl] at q2
            intro v H5 s5 r5
            have s35 : Same H' H5 := (s3.trans s4).trans s5
            have sHH5 : Same H H5 := sH.trans s35
            have nw : ∀ a o, RX fm' own H4 H5 md a o → RX g.fm (D :: own) H H5 md a o := fun a o z => by
              have nd : ¬ fm'.z a → a ≠ D ∧ ¬ g.fm.z a := fun h => ⟨fun e => h (.inl e), fun e => h (.inr e)⟩
              cases md with
              | sh => exact z.imp (fun ⟨a1, a2, a3⟩ => ⟨a1, fun y => (List.mem_cons.mp y).elim (nd a3).1 a2, (nd a3).2⟩) id
              | f0 => exact ⟨z.1, fun y => (List.mem_cons.mp y).elim (nd z.2.2.1).1 z.2.1, (nd z.2.2.1).2, z.2.2.2⟩
              | fx => exact ⟨z.1, fun y => (List.mem_cons.mp y).elim (nd z.2.2.1).1 z.2.1, (nd z.2.2.1).2, z.2.2.2.1, ((sH.trans s3).trans s4).free z.2.2.2.2⟩
            refine ⟨vs, s35.keep _ _ hDv rfl, by omega, vs ++ [v], ds ++ [w], upd_same, by rw [List.length_append, List.length_singleton]; omega, sHH5.wr hHD (s35.keep _ _ hDv rfl) (fun _ z => nomatch z) rfl, ?_, ?_, ?_⟩
            · exact ((rr.mono (RX.same s35)).append (.cons (T.mono r5 nw) .nil)).mono (upR md)
            · -- the slots at the changed heap
              have a5 : At fm' (RD g.fm own H1) (L.set i sAny) (wipe σ [i]) H5 own := a'.ext s35
              obtain ⟨h1, h2, ⟨Fs, h3, e⟩, h4, h5, h6⟩ := a5
              have ne : ∀ {a : Addr}, ¬ fm'.z a → a ≠ D := fun h e => h (.inl e)
              have k0 : ∀ (md : Md) a o, RX fm' own H5 H5 md a o → md = .fx ∨ RX fm' own (upd H5 D (.lst (vs ++ [v]))) (upd H5 D (.lst (vs ++ [v]))) md a o := fun md a o z => by
                cases md with
                | sh =>
                  refine .inr (z.imp (fun ⟨a1, a2, a3⟩ => ⟨?_, a2, a3⟩) id)
                  unfold Rd
                  rw [cl_upd_ne (ne a3)]
                  exact a1
                | f0 => exact .inr ⟨by rw [cl_upd_ne (ne z.2.2.1)]; exact z.1, z.2⟩
                | fx => exact .inl rfl
              have up : ∀ a, H5 a ≠ none → upd H5 D (.lst (vs ++ [v])) a ≠ none := fun a hne => by
                by_cases e : a = D
                · rw [e, upd_same]; exact fun z => by cases z
                · rw [upd_ne e]; exact hne
              refine ⟨h1.wr (at_.same.free hHD) (s35.keep _ _ hDv rfl) (fun _ z => nomatch z) rfl, fun a z => up a (h2 a z), ⟨Fs, h3.st (fun b a o z => ?_) fun y hy => ?_, e⟩, h4, fun y hy => ⟨up y (h5 y hy).1, (h5 y hy).2⟩, fun a o z => (k0 .sh a o (h6 a o z)).resolve_left fun e => nomatch e⟩
              · cases b with
                | false => exact (k0 .sh a o z).resolve_left fun e => nomatch e
                | true => exact (k0 .f0 a o z).resolve_left fun e => nomatch e
              · exact upd_ne (ne (h5 y (by rw [e]; exact hy)).2.2)
            · have e : (((M.ok (some w)).nox.bind fun o => (compG hh (xs.drop (n + 1))).bind fun l => M.ok (o.toList ++ l)).bind fun l => M.ok (ds ++ l)) = (compG hh (xs.drop (n + 1))).bind fun l => M.ok ((ds ++ [w]) ++ l) := by
                cases compG hh (xs.drop (n + 1)) <;> simp [M.nox, M.bind]
              rw [e] at q2; exact q2
    · have e : n = xs.length := by omega
      subst e
      rw [List.drop_length] at q'
      refine .inl ⟨hst (by simp), ?_⟩
      have q2 : FinL g.fm g.W own σ H md T Q (.ok (ds ++ [])) := q'
      rw [List.append_nil] at q2
      exact q2 D vs H' sH hHD hDv rr
  refine ⟨PE.imp (pe_lc (own := [(x, i)]) ok.calm (by rw [ok.N]; exact ok.nd) hI (by rw [ok.N]; exact ok.blk hb) (fun s H C cl fp => pg_name (i := i) (by show g.X.N.Nodup; rw [ok.N]; exact ok.nd) (by show g.X.N[i]? = _; rw [ok.N]; exact hN) (loc s H C cl fp).1 (loc s H C cl fp).2)
    (fun s H C cl fp => PTs.ex (t := fun (z : {fm' : Fm // fm'.K = p.K ∧ ∀ P, p.T = some P → LamX.TabS fm'.H0 P lamQ} × α) => tT z.1.1 (fun _ _ _ => False) (L.set i (sV false S z.2)) (cm z.2)) fun z => hc ⟨g.X.blk s H scope (compEnvC scope cl C g.X.env) fp, z.1.1, fun _ _ _ => False, []⟩ (blk_ok ok z.1.2 hv hg) z.2) (fun s H C cl fp => PE.ex (t := fun (z : {fm' : Fm // fm'.K = p.K ∧ ∀ P, p.T = some P → LamX.TabS fm'.H0 P lamQ} × α) => tE z.1.1 (fun _ _ _ => False) (L.set i (sV false S z.2)) md T (f z.2)) fun z => he ⟨g.X.blk s H scope (compEnvC scope cl C g.X.env) fp, z.1.1, fun _ _ _ => False, []⟩ (blk_ok ok z.1.2 hv hg) z.2) hs) BODY, fun {y i2 py spos} hy hyl hsw => ?_⟩
  exact PS.imp (ps_setLc (own := [(x, i)]) ok.calm (by rw [ok.N]; exact ok.nd) (by rw [ok.N]; exact hy) hyl hsw hI (by rw [ok.N]; exact ok.blk hb) (fun s H C cl fp => pg_name (i := i) (by show g.X.N.Nodup; rw [ok.N]; exact ok.nd) (by show g.X.N[i]? = _; rw [ok.N]; exact hN) (loc s H C cl fp).1 (loc s H C cl fp).2)
    (fun s H C cl fp => PTs.ex (t := fun (z : {fm' : Fm // fm'.K = p.K ∧ ∀ P, p.T = some P → LamX.TabS fm'.H0 P lamQ} × α) => tT z.1.1 (fun _ _ _ => False) (L.set i (sV false S z.2)) (cm z.2)) fun z => hc ⟨g.X.blk s H scope (compEnvC scope cl C g.X.env) fp, z.1.1, fun _ _ _ => False, []⟩ (blk_ok ok z.1.2 hv hg) z.2) (fun s H C cl fp => PE.ex (t := fun (z : {fm' : Fm // fm'.K = p.K ∧ ∀ P, p.T = some P → LamX.TabS fm'.H0 P lamQ} × α) => tE z.1.1 (fun _ _ _ => False) (L.set i (sV false S z.2)) md T (f z.2)) fun z => he ⟨g.X.blk s H scope (compEnvC scope cl C g.X.env) fp, z.1.1, fun _ _ _ => False, []⟩ (blk_ok ok z.1.2 hv hg) z.2) hs) fun E σ H q => BODY σ H _ q
/-- [elt for x in it if c] -/
theorem evl_lc {scope : Scope} {it elt : Expr} {m : M (List α)} {cm : α → M Bool} {f : α → M β} {tp : Pos} {ifs : List Expr} {s₀ : Slot} (ok : Ok p sc NN VV GG k g) (hI : EvI g L (.Name x tp) it S m) (hN : NN[i]? = some x) (hLi : L[i]? = some s₀) (hs₀ : NoOwn s₀) (hb : blkC NN sc scope [(x, i)] = true)
    (hv : VV'.all (seenB scope) = true) (hg : GG'.all (glB scope) = true) (hx : locB scope x = true)
    (hc : ∀ g', Ok p scope NN VV' GG' k g' → ∀ d, PTs g'.X ifs (tT g'.fm g'.W (L.set i (sV false S d)) (cm d)))
    (he : ∀ g', Ok p scope NN VV' GG' k g' → ∀ d, EvE g' (L.set i (sV false S d)) elt md T (f d)) (hs : ∀ x, foldedSetIterable it g.X.env x = pure x := by intro _; rfl) :
    EvL g L (.ListComp elt [⟨.Name x tp, it, ifs, 0⟩] scope pos) md T (m.bind fun xs => compM (fun d => (cm d).bind fun c => if c = true then (f d).bind fun y => .ok (some y) else .ok none) xs) := (evl_lc2 ok hI hN hLi hs₀ hb hv hg hx hc he hs).1
end
end Hd

namespace Hd
open PySem PySem.Spec L2
section
variable {p : Pr} {sc : Scope} {NN VV GG VV' GG' : List Str} {k : Nat} {g : G} {L L' : List Slot} {a b c e e' : Expr} {es : List Expr} {md md' : Md} {α β γ δ ρ : Type} {S : Ty α} {T : Ty β} {U : Ty γ} {A : Ar δ} {pos : Pos} {K : PySem.W.Frag} {tg : Expr} {i j : Nat} {x : Str}
/-- all slots forgotten -/
theorem wkX {n : Nat} (h : g.LX = List.replicate n sAny) (e : L.length = n) : Wk L g.LX := h ▸ Wk.anys e
theorem ev_gint {i : Int} (ok : Ok p sc NN VV GG k g) (hG : GG[j]? = some x) (h : ∃ t, p.mg x = some (.int i t)) : EvE g L (.Name x pos) md tInt (.ok i) := by
  obtain ⟨t, h⟩ := h
  exact ev_glob (v := .int i) ok hG h ⟨t, rfl⟩ (fun _ => rfl)
theorem ev_gstr {s : String} (ok : Ok p sc NN VV GG k g) (hG : GG[j]? = some x) (h : ∃ t, p.mg x = some (.str (Str.ofString s) t)) (hl : okTxB (tx s) = true) : EvE g L (.Name x pos) md tStr (.ok (tx s)) := by
  obtain ⟨t, h⟩ := h
  exact ev_glob (v := .str (Str.ofString s)) ok hG h ⟨t, rfl⟩ (fun _ => ⟨by rw [toS_tx], okTx_of hl⟩)
/-! ### built-ins of one, of two arguments -/
theorem ev_b1 {id : String} {r : List V → Hp → VK → Prop} {f : α → M γ} {fr : Bool} {m : M α} {pp : Pos} (ok : Ok p sc NN VV GG k g) (hc : CallR g.X (.builtin id) r)
    (F : ∀ {d v R H Q}, Rdb p.K R H → S.rep d v R → OpEnd U fr R H Q (f d) → r [v] H Q) (hne : ∀ d c, f d ≠ .ex c) (hm : MdOk fr md md')
    (hG : GG[j]? = some x) (hmg : p.mg x = none) (hv : bootBuiltins x = some (.builtin id)) (ha : EvE g L e md S m) (hs : starEach [e] g.X.env = (false, eval e g.X.env) :: starEach [] g.X.env := by rfl) : EvE g L (.Call (.Name x pp) [e] [] pos) md' U (m.bind f) := by
  have h := ev_callB (md' := md') (U := U) (A := aCons S aNil) (f := fun d => f d.1) (fr := fr) (pos := pos) (pp := pp) ok hc ⟨fun {d xs R H Q} rb ⟨v, r, e1, h1, e3⟩ q => by
    subst e1; cases (show r = [] from e3); exact F rb h1 q⟩ (fun d c => hne d.1 c) hm hG hmg hv (eva_cons ha eva_nil hs) hs rfl
  have e : (m.bind fun d => (M.ok ()).bind fun e => M.ok (d, e)).bind (fun d => f d.1) = m.bind f := by cases m <;> rfl
  rwa [e] at h
theorem ev_t1 {id : String} {r : List V → Hp → VK → Prop} {f : α → M γ} {fr : Bool} {m : M α} {pp : Pos} (ok : Ok p sc NN VV GG k g) (hc : CallR g.X (.type id) r)
    (F : ∀ {d v R H Q}, Rdb p.K R H → S.rep d v R → OpEnd U fr R H Q (f d) → r [v] H Q) (hne : ∀ d c, f d ≠ .ex c) (hm : MdOk fr md md')
    (hG : GG[j]? = some x) (hmg : p.mg x = none) (hv : bootBuiltins x = some (.type id)) (ha : EvE g L e md S m) (hs : starEach [e] g.X.env = (false, eval e g.X.env) :: starEach [] g.X.env := by rfl) : EvE g L (.Call (.Name x pp) [e] [] pos) md' U (m.bind f) := by
  have h := ev_callTy (md' := md') (U := U) (A := aCons S aNil) (f := fun d => f d.1) (fr := fr) (pos := pos) (pp := pp) ok hc ⟨fun {d xs R H Q} rb ⟨v, r, e1, h1, e3⟩ q => by
    subst e1; cases (show r = [] from e3); exact F rb h1 q⟩ (fun d c => hne d.1 c) hm hG hmg hv (eva_cons ha eva_nil hs) hs rfl
  have e : (m.bind fun d => (M.ok ()).bind fun e => M.ok (d, e)).bind (fun d => f d.1) = m.bind f := by cases m <;> rfl
  rwa [e] at h
theorem ev_b2 {id : String} {r : List V → Hp → VK → Prop} {f : α → β → M γ} {fr : Bool} {m1 : M α} {m2 : M β} {pp : Pos} (ok : Ok p sc NN VV GG k g) (hc : CallR g.X (.builtin id) r)
    (F : ∀ {d e v w R H Q}, Rdb p.K R H → S.rep d v R → T.rep e w R → OpEnd U fr R H Q (f d e) → r [v, w] H Q) (hne : ∀ d e c, f d e ≠ .ex c) (hm : MdOk fr md md')
    (hG : GG[j]? = some x) (hmg : p.mg x = none) (hv : bootBuiltins x = some (.builtin id)) (ha : EvE g L a md S m1) (hb : EvE g L b md T m2)
    (hs1 : starEach [a, b] g.X.env = (false, eval a g.X.env) :: starEach [b] g.X.env := by rfl) (hs2 : starEach [b] g.X.env = (false, eval b g.X.env) :: starEach [] g.X.env := by rfl)
    (hpl : (backTo pos (starEach [b] g.X.env)).any (·.1) = false := by rfl) : EvE g L (.Call (.Name x pp) [a, b] [] pos) md' U (m1.bind fun d => m2.bind fun e => f d e) := by
  have h := ev_callB (md' := md') (U := U) (A := aCons S (aCons T aNil)) (f := fun d => f d.1 d.2.1) (fr := fr) (pos := pos) (pp := pp) ok hc ⟨fun {d xs R H Q} rb ⟨v, r, e1, h1, w, r2, e2, h2, e3⟩ q => by
    subst e1; subst e2; cases (show r2 = [] from e3); exact F rb h1 h2 q⟩ (fun d c => hne d.1 d.2.1 c) hm hG hmg hv (eva_cons ha (eva_cons hb eva_nil hs2) hs1) hs1 hpl
  have e : (m1.bind fun d => (m2.bind fun d => (M.ok ()).bind fun e => M.ok (d, e)).bind fun e => M.ok (d, e)).bind (fun d => f d.1 d.2.1) = m1.bind fun d => m2.bind fun e => f d e := by cases m1 <;> cases m2 <;> rfl
  rwa [e] at h
variable {m1 m2 : M Int} {pp : Pos}
theorem ev_abs (ok : Ok p sc NN VV GG k g) (hG : GG[j]? = some "abs") (hmg : p.mg "abs" = none) (ha : EvE g L a md tInt m1) (hs : starEach [a] g.X.env = (false, eval a g.X.env) :: starEach [] g.X.env := by rfl) : EvE g L (.Call (.Name "abs" pp) [a] [] pos) md' tInt (m1.bind fun x => .ok (x.natAbs : Int)) :=
  ev_b1 (fr := true) ok call_abs (fun {d v R H Q} rb h q => by
    refine ⟨d, by rw [h], q _ _ (Same.refl _) ?_⟩
    show V.int _ = V.int _
    congr 1
    split <;> omega) (fun _ _ h => nomatch h) .fresh hG hmg (by decide +kernel) ha hs
theorem ev_max2 (ok : Ok p sc NN VV GG k g) (hG : GG[j]? = some "max") (hmg : p.mg "max" = none) (ha : EvE g L a md tInt m1) (hb : EvE g L b md tInt m2)
    (hs1 : starEach [a, b] g.X.env = (false, eval a g.X.env) :: starEach [b] g.X.env := by rfl) (hs2 : starEach [b] g.X.env = (false, eval b g.X.env) :: starEach [] g.X.env := by rfl)
    (hpl : (backTo pos (starEach [b] g.X.env)).any (·.1) = false := by rfl) : EvE g L (.Call (.Name "max" pp) [a, b] [] pos) md' tInt (m1.bind fun x => m2.bind fun y => .ok (max x y)) :=
  ev_b2 (fr := true) (f := fun x y => .ok (max x y)) ok (call_max2 ok.calm) (fun {d e v w R H Q} rb h1 h2 q => by
    refine ⟨d, e, by rw [h1, h2], q _ _ (Same.refl _) ?_⟩
    show V.int _ = V.int _
    congr 1
    split <;> omega) (fun _ _ _ h => nomatch h) .fresh hG hmg (by decide +kernel) ha hb hs1 hs2 hpl
theorem ev_min2 (ok : Ok p sc NN VV GG k g) (hG : GG[j]? = some "min") (hmg : p.mg "min" = none) (ha : EvE g L a md tInt m1) (hb : EvE g L b md tInt m2)
    (hs1 : starEach [a, b] g.X.env = (false, eval a g.X.env) :: starEach [b] g.X.env := by rfl) (hs2 : starEach [b] g.X.env = (false, eval b g.X.env) :: starEach [] g.X.env := by rfl)
    (hpl : (backTo pos (starEach [b] g.X.env)).any (·.1) = false := by rfl) : EvE g L (.Call (.Name "min" pp) [a, b] [] pos) md' tInt (m1.bind fun x => m2.bind fun y => .ok (min x y)) :=
  ev_b2 (fr := true) (f := fun x y => .ok (min x y)) ok (call_min2 ok.calm) (fun {d e v w R H Q} rb h1 h2 q => by
    refine ⟨d, e, by rw [h1, h2], q _ _ (Same.refl _) ?_⟩
    show V.int _ = V.int _
    congr 1
    split <;> omega) (fun _ _ _ h => nomatch h) .fresh hG hmg (by decide +kernel) ha hb hs1 hs2 hpl
def bInt (b : Bool) : Int := if b then 1 else 0
theorem ev_intB {m : M Bool} (ok : Ok p sc NN VV GG k g) (hG : GG[j]? = some "int") (hmg : p.mg "int" = none) (ha : EvE g L a md tBool m) (hs : starEach [a] g.X.env = (false, eval a g.X.env) :: starEach [] g.X.env := by rfl) : EvE g L (.Call (.Name "int" pp) [a] [] pos) md' tInt (m.bind fun x => .ok (bInt x)) :=
  ev_t1 (fr := true) ok call_int1 (fun {d v R H Q} rb h q => .inr ⟨d, by rw [h], q _ _ (Same.refl _) rfl⟩) (fun _ _ h => nomatch h) .fresh hG hmg (by decide +kernel) ha hs
theorem ev_intI (ok : Ok p sc NN VV GG k g) (hG : GG[j]? = some "int") (hmg : p.mg "int" = none) (ha : EvE g L a md tInt m1) (hs : starEach [a] g.X.env = (false, eval a g.X.env) :: starEach [] g.X.env := by rfl) : EvE g L (.Call (.Name "int" pp) [a] [] pos) md' tInt (m1.bind fun x => .ok x) :=
  ev_t1 (fr := true) ok call_int1 (fun {d v R H Q} rb h q => .inl ⟨d, by rw [h], q _ _ (Same.refl _) rfl⟩) (fun _ _ h => nomatch h) .fresh hG hmg (by decide +kernel) ha hs
/-! ### lists of flat things -/
theorem Reps.ints {R : RdR} {ds : List Int} {vs : List V} (r : Reps tInt R ds vs) : vs = ds.map V.int := by
  induction r with
  | nil => rfl
  | cons h _ ih => cases h; rw [ih]; rfl
theorem Reps.bools {R : RdR} {ds : List Bool} {vs : List V} (r : Reps tBool R ds vs) : vs = ds.map V.bl := by
  induction r with
  | nil => rfl
  | cons h _ ih => cases h; rw [ih]; rfl
theorem Reps.strs {R : RdR} {ds : List Tx} {vs : List V} (r : Reps tStr R ds vs) : vs = (ds.map toS).map V.str ∧ ∀ d ∈ ds, OkTx d := by
  induction r with
  | nil => exact ⟨rfl, fun _ h => nomatch h⟩
  | cons h _ ih =>
    obtain ⟨e, h⟩ := h
    subst e
    refine ⟨by rw [ih.1]; rfl, fun d hd => ?_⟩
    rcases List.mem_cons.mp hd with e | hd
    · rw [e]; exact h
    · exact ih.2 d hd
theorem ev_sum {m : M (List Int)} (ok : Ok p sc NN VV GG k g) (hG : GG[j]? = some "sum") (hmg : p.mg "sum" = none) (ha : EvE g L a md (tList tInt) m) (hs : starEach [a] g.X.env = (false, eval a g.X.env) :: starEach [] g.X.env := by rfl) : EvE g L (.Call (.Name "sum" pp) [a] [] pos) md' tInt (m.bind fun x => .ok x.sum) :=
  ev_b1 (S := tList tInt) (fr := true) ok (cr_sum ok.calm) (fun {d v R H Q} rb ⟨a, vs, e, h, r⟩ q => ⟨a, d, by rw [e], by rw [← r.ints, ok.K]; exact sq_of rb h, q _ _ (Same.refl _) rfl⟩) (fun _ _ h => nomatch h) .fresh hG hmg (by decide +kernel) ha hs
theorem ev_all {m : M (List Bool)} (ok : Ok p sc NN VV GG k g) (hG : GG[j]? = some "all") (hmg : p.mg "all" = none) (ha : EvE g L a md (tList tBool) m) (hs : starEach [a] g.X.env = (false, eval a g.X.env) :: starEach [] g.X.env := by rfl) : EvE g L (.Call (.Name "all" pp) [a] [] pos) md' tBool (m.bind fun x => .ok (x.all id)) :=
  ev_b1 (S := tList tBool) (fr := true) ok (cr_all ok.calm) (fun {d v R H Q} rb ⟨a, vs, e, h, r⟩ q => ⟨a, d, by rw [e], by rw [← r.bools, ok.K]; exact sq_of rb h, q _ _ (Same.refl _) rfl⟩) (fun _ _ h => nomatch h) .fresh hG hmg (by decide +kernel) ha hs
theorem ev_any {m : M (List Bool)} (ok : Ok p sc NN VV GG k g) (hG : GG[j]? = some "any") (hmg : p.mg "any" = none) (ha : EvE g L a md (tList tBool) m) (hs : starEach [a] g.X.env = (false, eval a g.X.env) :: starEach [] g.X.env := by rfl) : EvE g L (.Call (.Name "any" pp) [a] [] pos) md' tBool (m.bind fun x => .ok (x.any id)) :=
  ev_b1 (S := tList tBool) (fr := true) ok (cr_any ok.calm) (fun {d v R H Q} rb ⟨a, vs, e, h, r⟩ q => ⟨a, d, by rw [e], by rw [← r.bools, ok.K]; exact sq_of rb h, q _ _ (Same.refl _) rfl⟩) (fun _ _ h => nomatch h) .fresh hG hmg (by decide +kernel) ha hs
def maxM : List Int → M Int
  | [] => .no
  | x :: r => .ok (r.foldl max x)
def minM : List Int → M Int
  | [] => .no
  | x :: r => .ok (r.foldl min x)
theorem foldl_max_le : ∀ (r : List Int) (x : Int), x ≤ r.foldl max x ∧ (∀ y ∈ r, y ≤ r.foldl max x) ∧ (r.foldl max x = x ∨ r.foldl max x ∈ r)
  | [], x => ⟨Int.le_refl _, (fun _ h => nomatch h), .inl rfl⟩
  | y :: r, x => by
    obtain ⟨h1, h2, h3⟩ := foldl_max_le r (max x y)
    rw [List.foldl_cons]
    refine ⟨by omega, fun z hz => ?_, ?_⟩
    · rcases List.mem_cons.mp hz with e | hz
      · subst e; omega
      · exact h2 z hz
    · rcases h3 with h | h
      · rw [h]
        by_cases q : x ≤ y
        · exact .inr (by rw [show max x y = y by omega]; exact List.mem_cons_self)
        · exact .inl (by omega)
      · exact .inr (List.mem_cons_of_mem _ h)
theorem foldl_min_le : ∀ (r : List Int) (x : Int), r.foldl min x ≤ x ∧ (∀ y ∈ r, r.foldl min x ≤ y) ∧ (r.foldl min x = x ∨ r.foldl min x ∈ r)
  | [], x => ⟨Int.le_refl _, (fun _ h => nomatch h), .inl rfl⟩
  | y :: r, x => by
    obtain ⟨h1, h2, h3⟩ := foldl_min_le r (min x y)
    rw [List.foldl_cons]
    refine ⟨by omega, fun z hz => ?_, ?_⟩
    · rcases List.mem_cons.mp hz with e | hz
      · subst e; omega
      · exact h2 z hz
    · rcases h3 with h | h
      · rw [h]
        by_cases q : y ≤ x
        · exact .inr (by rw [show min x y = y by omega]; exact List.mem_cons_self)
        · exact .inl (by omega)
      · exact .inr (List.mem_cons_of_mem _ h)
theorem ev_max1 {m : M (List Int)} (ok : Ok p sc NN VV GG k g) (hG : GG[j]? = some "max") (hmg : p.mg "max" = none) (ha : EvE g L a md (tList tInt) m) (hs : starEach [a] g.X.env = (false, eval a g.X.env) :: starEach [] g.X.env := by rfl) : EvE g L (.Call (.Name "max" pp) [a] [] pos) md' tInt (m.bind maxM) :=
  ev_b1 (S := tList tInt) (fr := true) ok (cr_max ok.calm) (fun {d v R H Q} rb ⟨a, vs, e, h, rp⟩ q => by
    refine ⟨a, d, by rw [e], by rw [← rp.ints, ok.K]; exact sq_of rb h, ?_⟩
    cases d with
    | nil => exact q.elim
    | cons x r =>
      refine ⟨by simp, fun m hm hle => ?_⟩
      obtain ⟨h1, h2, h3⟩ := foldl_max_le r x
      have e : m = r.foldl max x := by
        have a1 : r.foldl max x ≤ m := hle _ (by rcases h3 with h | h; rw [h]; exact List.mem_cons_self; exact List.mem_cons_of_mem _ h)
        have a2 : m ≤ r.foldl max x := by rcases List.mem_cons.mp hm with e | hm; rw [e]; exact h1; exact h2 m hm
        omega
      rw [e]
      exact q _ _ (Same.refl _) rfl) (fun d c h => by cases d <;> cases h) .fresh hG hmg (by decide +kernel) ha hs
theorem ev_min1 {m : M (List Int)} (ok : Ok p sc NN VV GG k g) (hG : GG[j]? = some "min") (hmg : p.mg "min" = none) (ha : EvE g L a md (tList tInt) m) (hs : starEach [a] g.X.env = (false, eval a g.X.env) :: starEach [] g.X.env := by rfl) : EvE g L (.Call (.Name "min" pp) [a] [] pos) md' tInt (m.bind minM) :=
  ev_b1 (S := tList tInt) (fr := true) ok (cr_min ok.calm) (fun {d v R H Q} rb ⟨a, vs, e, h, rp⟩ q => by
    refine ⟨a, d, by rw [e], by rw [← rp.ints, ok.K]; exact sq_of rb h, ?_⟩
    cases d with
    | nil => exact q.elim
    | cons x r =>
      refine ⟨by simp, fun m hm hle => ?_⟩
      obtain ⟨h1, h2, h3⟩ := foldl_min_le r x
      have e : m = r.foldl min x := by
        have a1 : m ≤ r.foldl min x := hle _ (by rcases h3 with h | h; rw [h]; exact List.mem_cons_self; exact List.mem_cons_of_mem _ h)
        have a2 : r.foldl min x ≤ m := by rcases List.mem_cons.mp hm with e | hm; rw [e]; exact h1; exact h2 m hm
        omega
      rw [e]
      exact q _ _ (Same.refl _) rfl) (fun d c h => by cases d <;> cases h) .fresh hG hmg (by decide +kernel) ha hs
/-! ### texts of numbers -/
def itx (i : Int) : Tx := tx (toString i)
def strM (i : Int) : M Tx := if -(10 ^ 100) < i ∧ i < 10 ^ 100 then .ok (itx i) else .no
theorem tx_ok (s : String) (h : (Str.ofString s).length ≤ sizeLine) : OkTx (tx s) := by
  refine ⟨?_, fun c hc => ?_⟩
  · have e : (tx s).length = (Str.ofString s).length := by show (Str.ofString s).cps.toList.length = (Str.ofString s).cps.size; simp
    rw [e]; exact h
  · unfold tx at hc
    rw [PySem.Str.ofString_eq_toList] at hc
    simp only [List.mem_map] at hc
    obtain ⟨ch, _, rfl⟩ := hc
    have := ch.valid
    show ch.val.toNat < 0x110000
    rcases this with h | h
    · have : ch.val.toNat < 0xd800 := h
      omega
    · exact h.2
set_option exponentiation.threshold 3000 in
theorem ev_strI (ok : Ok p sc NN VV GG k g) (hG : GG[j]? = some "str") (hmg : p.mg "str" = none) (ha : EvE g L a md tInt m1) (hs : starEach [a] g.X.env = (false, eval a g.X.env) :: starEach [] g.X.env := by rfl) : EvE g L (.Call (.Name "str" pp) [a] [] pos) md' tStr (m1.bind strM) :=
  ev_t1 (fr := true) ok call_str_int (fun {d v R H Q} rb h q => by
    unfold strM at q
    split at q
    · rename_i hb
      have hlt : d.natAbs < 10 ^ 100 := by omega
      have hl : d.natAbs.log2 < 1920 := by
        by_cases h0 : d.natAbs = 0
        · rw [h0]; decide
        · exact (Nat.log2_lt h0).mpr (Nat.lt_of_lt_of_le hlt (by decide))
      refine ⟨d, by rw [h], hl, q _ _ (Same.refl _) ⟨?_, tx_ok _ (int_text_fits hl)⟩⟩
      show V.str _ = V.str _
      rw [show itx d = tx (toString d) from rfl, toS_tx]
    · exact q.elim) (fun d c h => by unfold strM at h; split at h <;> cases h) .fresh hG hmg (by decide +kernel) ha hs
end
end Hd

namespace Hd
open PySem PySem.Spec L2
theorem lstR {X : Cx} {pins : List (Addr × Obj)} {σ : L2.St} {H : Hp} {s : Shared} {l : Addr} {xs : List V} (I : Inv X pins σ H s) (h : Rd H l (.lst xs)) : xs.length ≤ sizeLine ∧ ∃ (its : List Value) (n : Nat), Vals xs its ∧ xs.length = its.length ∧ s.heap.get? l = some { cls := .type "list", data := .seq its.toArray n } := by
  obtain ⟨z, its, n, r, e⟩ := h.ok I.hok
  exact ⟨z, its, n, r, r.length, e⟩
def rCatR : R2 := fun x y H Q => ∃ l b xs zs, x = .ref l ∧ y = .ref b ∧ Rd H l (.lst xs) ∧ Rd H b (.lst zs) ∧ xs.length + zs.length ≤ sizeLine ∧ ∀ p, H p = none → Q (.ref p) (upd H p (.lst (xs ++ zs)))
theorem op_catR {X : Cx} : OpR X (binaryOp .Add) rCatR := by
  intro pins s σ H x y v u Q I rx ry h
  obtain ⟨l, b, xs, zs, rfl, rfl, hH, hB, hz, q⟩ := h
  cases rx
  cases ry
  obtain ⟨z, its, n, r, hl, e⟩ := lstR I hH
  obtain ⟨z2, its2, n2, r2, hl2, e2⟩ := lstR I hB
  refine PySem.P.add_list e e2 ?_ (by rw [List.size_toArray, List.size_toArray]; omega)
  have ea : its.toArray ++ its2.toArray = (its ++ its2).toArray := by simp
  rw [ea]
  exact ⟨.ref _, _, I.lnew (t' := s.toks) (r.append r2) (by rw [List.length_append]; omega), rfl, q _ I.fresh⟩
def rExtR : V → List V → Hp → VK → Prop := fun x vs H Q => ∃ l b xs zs, x = .ref l ∧ vs = [.ref b] ∧ H l = some (.lst xs) ∧ Rd H b (.lst zs) ∧ xs.length + zs.length ≤ sizeLine ∧ Q .non (upd H l (.lst (xs ++ zs)))
theorem mt_extR {X : Cx} : MtR X "list.extend" rExtR := by
  intro pins s σ H x vs v us Q I rx rv h
  obtain ⟨l, b, xs, zs, rfl, rfl, hH, hB, hz, q⟩ := h
  cases rx
  obtain ⟨u, rfl, ru⟩ := rv.one
  cases ru
  obtain ⟨z, its, n, r, hl, e⟩ := I.lstM hH
  obtain ⟨z2, its2, n2, r2, hl2, e2⟩ := lstR I hB
  have hsz : its.toArray.size + its2.toArray.size ≤ sizeLine := by rw [List.size_toArray, List.size_toArray]; omega
  have hlong : ¬ (!its.toArray.isEmpty && Builtin.List.listTooLong (its.toArray.size + its2.toArray.size)) = true := by
    rw [notLongL hsz, Bool.and_false]
    exact Bool.false_ne_true
  refine call_meets F.slot_list_extend ⟨_, e, rfl⟩ F.entry_list_extend (F.args_list_extend_2 _ _)
    (AutoSeq1.list_extend_list_list_0 l its.toArray n b its2.toArray n2 hlong (by rw [List.size_toArray]; omega) (by omega)) ⟨e, e2, ?_⟩
  refine ⟨.non, _, I.lset (its' := its ++ its2) hH e (by simp) (r.append r2) ?_, rfl, q⟩
  rw [List.length_append]
  omega
section
variable {p : Pr} {sc : Scope} {NN VV GG VV' GG' : List Str} {k : Nat} {g : G} {L L' : List Slot} {a b c e e' : Expr} {es : List Expr} {md md' : Md} {α β γ δ ρ : Type} {S : Ty α} {T : Ty β} {U : Ty γ} {A : Ar δ} {pos : Pos} {K : PySem.W.Frag} {tg : Expr} {i j : Nat} {x : Str}
/-! ### methods of texts -/
theorem ev_sm1 {id : String} {name : Str} {r : V → List V → Hp → VK → Prop} {f : Tx → β → M γ} {m1 : M Tx} {m2 : M β} {apos : Pos} (ok : Ok p sc NN VV GG k g) (slot : PySem.Slot "str" name id) (hty : typeOf (.builtin id) = pure (.type "method_descriptor")) (hmt : MtR g.X id r)
    (F : ∀ {d e y R H Q}, Rdb p.K R H → OkTx d → T.rep e y R → OpEnd U true R H Q (f d e) → r (.str (toS d)) [y] H Q) (hne : ∀ d e c, f d e ≠ .ex c) (ha : EvE g L a md tStr m1) (hb : EvE g L b md T m2)
    (hs : starEach [b] g.X.env = [(false, eval b g.X.env)] := by rfl) (hbase : attributeBase a name g.X.env (eval a g.X.env) = eval a g.X.env := by rfl) (hline : (apos.endLine == pos.line) = true := by rfl) :
    EvE g L (.Call (.Attribute a name apos) [b] [] pos) md' U (m1.bind fun d => m2.bind fun e => f d e) := by
  refine PE.imp (pe_m1 slot hty hmt ha hb hs hbase hline) fun σ H Q q => ?_
  obtain ⟨kp, own, at_, q⟩ := tE_iff.mp q
  refine sub finE (Same.refl H) at_ q fun d x H1 s1 r1 at1 q1 => ⟨⟨_, r1.1⟩, sub finE s1 at1 q1 fun e y H2 s2 r2 at2 q2 => ?_⟩
  rw [r1.1]
  rw [← ok.fmK] at F
  exact F (R := RX g.fm own H H2 md) RX.rdb r1.2 r2 (q2.fin (MdOk.fresh : MdOk true md md') (s1.trans s2) at2 (hne d e))
theorem ev_sm0 {id : String} {name : Str} {r : V → List V → Hp → VK → Prop} {f : Tx → M γ} {m1 : M Tx} {apos : Pos} (ok : Ok p sc NN VV GG k g) (slot : PySem.Slot "str" name id) (hty : typeOf (.builtin id) = pure (.type "method_descriptor")) (hmt : MtR g.X id r)
    (F : ∀ {d R H Q}, Rdb p.K R H → OkTx d → OpEnd U true R H Q (f d) → r (.str (toS d)) [] H Q) (hne : ∀ d c, f d ≠ .ex c) (ha : EvE g L a md tStr m1)
    (hbase : attributeBase a name g.X.env (eval a g.X.env) = eval a g.X.env := by rfl) (hline : (apos.endLine == pos.line) = true := by rfl) :
    EvE g L (.Call (.Attribute a name apos) [] [] pos) md' U (m1.bind f) := by
  refine PE.imp (pe_m0 slot hty hmt ha hbase hline) fun σ H Q q => ?_
  obtain ⟨kp, own, at_, q⟩ := tE_iff.mp q
  refine sub finE (Same.refl H) at_ q fun d x H1 s1 r1 at1 q1 => ⟨⟨_, r1.1⟩, ?_⟩
  rw [r1.1]
  rw [← ok.fmK] at F
  exact F (R := RX g.fm own H H1 md) RX.rdb r1.2 (q1.fin (MdOk.fresh : MdOk true md md') s1 at1 (hne d))
/-- sep.join(xs) -/
def joinM (s : Tx) (xs : List Tx) : M Tx := if (xs.map List.length).sum + xs.length * s.length ≤ 16777216 then .ok (TL.joinL s xs) else .no
theorem joinM_ne {s : Tx} {xs : List Tx} {c : Ec} : joinM s xs ≠ .ex c := by unfold joinM; split <;> exact fun h => nomatch h
theorem joinL_len (s : Tx) : ∀ xs : List Tx, (TL.joinL s xs).length ≤ (xs.map List.length).sum + xs.length * s.length
  | [] => by simp [TL.joinL]
  | [x] => by simp [TL.joinL]
  | x :: y :: r => by
    have := joinL_len s (y :: r)
    simp only [TL.joinL, List.length_append, List.map_cons, List.sum_cons, List.length_cons] at this ⊢
    rw [Nat.add_mul, Nat.add_mul] at *
    omega
theorem joinL_mem (s : Tx) {c : Nat} : ∀ xs : List Tx, c ∈ TL.joinL s xs → c ∈ s ∨ ∃ x ∈ xs, c ∈ x
  | [], h => nomatch h
  | [x], h => .inr ⟨x, List.mem_cons_self, h⟩
  | x :: y :: r, h => by
    simp only [TL.joinL, List.mem_append] at h
    rcases h with h | h | h
    · exact .inr ⟨x, List.mem_cons_self, h⟩
    · exact .inl h
    · rcases joinL_mem s (y :: r) h with h | ⟨z, hz, h⟩
      · exact .inl h
      · exact .inr ⟨z, List.mem_cons_of_mem _ hz, h⟩
theorem tl_toS (x : Tx) : TL.tl (toS x) = x := by simp [TL.tl, toS]
theorem ev_join {m1 : M Tx} {m2 : M (List Tx)} {apos : Pos} (ok : Ok p sc NN VV GG k g) (ha : EvE g L a md tStr m1) (hb : EvE g L b md (tList tStr) m2)
    (hs : starEach [b] g.X.env = [(false, eval b g.X.env)] := by rfl) (hbase : attributeBase a "join" g.X.env (eval a g.X.env) = eval a g.X.env := by rfl) (hline : (apos.endLine == pos.line) = true := by rfl) :
    EvE g L (.Call (.Attribute a "join" apos) [b] [] pos) md' tStr (m1.bind fun s => m2.bind fun xs => joinM s xs) :=
  ev_sm1 (T := tList tStr) ok PySem.F.slot_str_join PySem.F.type_str_join mt_join (fun {d e y R H Q} rb hd ⟨a, vs, ey, h, r⟩ q => by
    obtain ⟨ev, ho⟩ := r.strs
    unfold joinM at q
    split at q
    · rename_i hz
      refine ⟨toS d, a, e.map toS, rfl, by rw [ey], .inl (by rw [← ev, ok.K]; exact sq_of rb h), ?_, ?_⟩
      · rw [List.map_map, show (fun x : Str => x.length) ∘ toS = List.length from funext toS_len, List.length_map, toS_len]; exact hz
      · refine q _ _ (Same.refl _) ⟨?_, Nat.le_trans (joinL_len d e) (Nat.le_trans hz (by decide)), fun c hc => ?_⟩
        · show V.str _ = V.str _
          congr 1
          rw [TL.join_eq]
          refine TL.ext_tl ?_
          rw [TL.tl_join, tl_toS, tl_toS, List.map_map, show TL.tl ∘ toS = id from funext tl_toS, List.map_id]
        · rcases joinL_mem d e hc with h | ⟨z, hz, h⟩
          · exact hd.2 c h
          · exact (ho z hz).2 c h
    · exact q.elim) (fun _ _ _ => joinM_ne) ha hb hs hbase hline
/-! ### slices -/
def tO (fm : Fm) (W : Wx) (L : List Slot) (m : M (Option Int)) : TO := fun σ H Q => ∃ kp own, At fm kp L σ H own ∧
  match m with
  | .ok d => ∀ H', Same H H' → Q d H'
  | .ex c => ∀ H', Same H H' → W c σ H'
  | .no => False
def EvO (g : G) (L : List Slot) (e : Option Expr) (m : M (Option Int)) : Prop := PO g.X e (tO g.fm g.W L m)
theorem PO.imp {X : Cx} {e : Option Expr} {t t' : TO} (h : PO X e t) (k : ∀ σ H Q, t' σ H Q → t σ H Q) : PO X e t' := ⟨fun pins s σ H Q I q => h.run pins s σ H Q I (k _ _ _ q)⟩
theorem evo_none : EvO g L none (.ok none) := PO.imp po_none fun σ H Q ⟨kp, own, at_, q⟩ => q H (Same.refl H)
theorem evo_some {m : M Int} (h : EvE g L e md tInt m) : EvO g L (some e) (m.bind fun i => .ok (some i)) := PO.imp (po_some h) fun σ H Q q => by
  cases m with
  | ok d => obtain ⟨kp, own, at_, q⟩ := q; exact ⟨kp, own, at_, fun v H' s r => ⟨d, r, q H' s⟩⟩
  | ex c => exact q
  | no => exact q
def FinO (W : Wx) (σ : L2.St) (H : Hp) (Q : Option Int → Hp → Prop) : M (Option Int) → Prop
  | .ok d => ∀ H', Same H H' → Q d H'
  | .ex c => ∀ H', Same H H' → W c σ H'
  | .no => False
theorem tO_iff {fm : Fm} {W : Wx} {m : M (Option Int)} {σ : L2.St} {H : Hp} {Q : Option Int → Hp → Prop} : tO fm W L m σ H Q ↔ ∃ kp own, At fm kp L σ H own ∧ FinO W σ H Q m := by
  cases m <;> exact Iff.rfl
theorem subO {fm : Fm} {W : Wx} {kp : RdR} {own : List Addr} {σ : L2.St} {H0 H : Hp} {F : M β → Prop} {m : M (Option Int)} {f : Option Int → M β} {K : Option Int → Hp → Prop} (hF : Fin W σ H0 F) (s0 : Same H0 H) (at_ : At fm kp L σ H own) (q : F (m.bind f))
    (h : ∀ d H1, Same H H1 → At fm kp L σ H1 own → F (f d) → K d H1) : tO fm W L m σ H K := by
  refine tO_iff.mpr ⟨kp, own, at_, ?_⟩
  cases m with
  | ok d => exact fun H1 s => h d H1 s (at_.ext s) q
  | ex c => exact fun H' s => hF.ex q H' (s0.trans s)
  | no => exact hF.no q
def cutL {α : Type} (xs : List α) (lo hi : Option Int) : List α := (xs.drop (HT.sIx xs.length 0 lo)).take (HT.sIx xs.length xs.length hi - HT.sIx xs.length 0 lo)
theorem Reps.cut {R : RdR} {ds : List α} {vs : List V} (h : Reps S R ds vs) (lo hi : Option Int) : Reps S R (cutL ds lo hi) (L2.cutV vs lo hi) := by
  unfold cutL L2.cutV
  rw [h.length]
  exact (h.drop _).take _
theorem cutL_len {xs : List α} {lo hi : Option Int} : (cutL xs lo hi).length ≤ xs.length := by
  unfold cutL
  rw [List.length_take, List.length_drop]
  omega
theorem cutL_mem {xs : List α} {lo hi : Option Int} {d : α} (h : d ∈ cutL xs lo hi) : d ∈ xs := List.mem_of_mem_drop (List.mem_of_mem_take h)
variable {lo hi : Option Expr} {ml mh : M (Option Int)} {p2 : Pos}
theorem ev_slS {m : M Tx} (ok : Ok p sc NN VV GG k g) (ha : EvE g L a md tStr m) (hl : EvO g L lo ml) (hh : EvO g L hi mh) : EvE g L (.Subscript a (.Slice lo hi none p2) pos) md' tStr (m.bind fun x => ml.bind fun l => mh.bind fun h => .ok (cutL x l h)) := by
  refine PE.imp (pe_slice sl_str ha hl hh) fun σ H Q q => ?_
  obtain ⟨kp, own, at_, q⟩ := tE_iff.mp q
  refine sub finE (Same.refl H) at_ q fun d x H1 s1 r1 at1 q1 => subO finE s1 at1 q1 fun l H2 s2 at2 q2 => subO finE (s1.trans s2) at2 q2 fun h H3 s3 at3 q3 => ?_
  refine ⟨toS d, r1.1, by rw [toS_len]; exact r1.2.1, q3 _ H3 ((s1.trans s2).trans s3) ⟨?_, Nat.le_trans cutL_len r1.2.1, fun c hc => r1.2.2 c (cutL_mem hc)⟩⟩
  show V.str _ = V.str _
  congr 1
theorem evl_slL {m : M (List α)} (ok : Ok p sc NN VV GG k g) (ha : EvE g L a md (tList S) m) (hl : EvO g L lo ml) (hh : EvO g L hi mh) : EvL g L (.Subscript a (.Slice lo hi none p2) pos) md S (m.bind fun x => ml.bind fun l => mh.bind fun h => .ok (cutL x l h)) := by
  refine PE.imp (pe_slice sl_list ha hl hh) fun σ H Q q => ?_
  obtain ⟨kp, own, at_, q⟩ := tL_iff.mp q
  refine sub finL (Same.refl H) at_ q fun d x H1 s1 r1 at1 q1 => subO finL s1 at1 q1 fun l H2 s2 at2 q2 => subO finL (s1.trans s2) at2 q2 fun h H3 s3 at3 q3 => ?_
  obtain ⟨ad, vs, e, h1, rr⟩ := r1
  have h3 : RX g.fm own H H3 md ad (.lst vs) := RX.same (s2.trans s3) _ _ h1
  refine ⟨ad, vs, e, (ok.fmK.trans ok.K.symm) ▸ RX.list h3, fun q hq => q3 q (L2.cutV vs l h) _ (((s1.trans s2).trans s3).trans (newSame hq)) (((s1.trans s2).trans s3).free hq) upd_same ?_⟩
  exact ((rr.mono (RX.same (s2.trans s3))).cut l h).mono (RX.add hq)
/-! ### lists by operators -/
def repM {α : Type} (xs : List α) (n : Int) : M (List α) := if -(2 ^ 63) ≤ n ∧ n < 2 ^ 63 ∧ xs.length * n.toNat ≤ sizeLine then .ok (List.replicate n.toNat xs).flatten else .no
theorem Reps.rep {R : RdR} {ds : List α} {vs : List V} (h : Reps S R ds vs) : ∀ n : Nat, Reps S R (List.replicate n ds).flatten (List.replicate n vs).flatten
  | 0 => .nil
  | n + 1 => by rw [List.replicate_succ, List.flatten_cons, List.replicate_succ, List.flatten_cons]; exact h.append (Reps.rep h n)
theorem RX.drop1' {fm : Fm} {own : List Addr} {H H1 : Hp} {q : Addr} : ∀ a o, RX fm (q :: own) H H1 md a o → RX fm own H H1 md a o := RX.drop1
/-- xs * n: xs just made -/
theorem evl_rep {m : M (List α)} {mn : M Int} (ok : Ok p sc NN VV GG k g) (ha : EvL g L a md S m) (hb : EvE g L b md tInt mn) : EvL g L (.BinOp a .Mult b pos) md S (m.bind fun x => mn.bind fun n => repM x n) := by
  refine PE.imp (pe_op op_rep ha hb) fun σ H Q q => ?_
  obtain ⟨kp, own, at_, q⟩ := tL_iff.mp q
  refine tL_iff.mpr ⟨kp, own, at_, ?_⟩
  cases m with
  | ex c => exact q
  | no => exact q.elim
  | ok xs =>
  intro q1 vs H1 s1 n1 h1 r1
  have at1 := at_.ext s1
  have q' : FinL g.fm g.W own σ H md S Q (mn.bind fun n => repM xs n) := q
  refine sub finL s1 at1 q' fun n y H2 s2 r2 at2 q2 => ?_
  have q2 : FinL g.fm g.W own σ H md S Q (repM xs n) := q2
  unfold repM at q2
  split at q2
  · rename_i hz
    refine ⟨q1, n, vs, rfl, r2, s2.keep _ _ h1 rfl, hz.1, hz.2.1, by rw [← r1.length]; exact hz.2.2, fun z hz => q2 z _ _ ((s1.trans s2).trans (newSame hz)) ((s1.trans s2).free hz) upd_same ?_⟩
    exact ((r1.mono fun a o w => RX.same s2 a o (RX.drop1 a o w)).rep _).mono (RX.add hz)
  · exact q2.elim
/-- xs + ys -/
def catL {α : Type} (xs ys : List α) : M (List α) := if xs.length + ys.length ≤ sizeLine then .ok (xs ++ ys) else .no
theorem evl_cat {m1 m2 : M (List α)} (ok : Ok p sc NN VV GG k g) (ha : EvE g L a md (tList S) m1) (hb : EvE g L b md (tList S) m2) : EvL g L (.BinOp a .Add b pos) md S (m1.bind fun x => m2.bind fun y => catL x y) := by
  refine PE.imp (pe_op op_catR ha hb) fun σ H Q q => ?_
  obtain ⟨kp, own, at_, q⟩ := tL_iff.mp q
  refine sub finL (Same.refl H) at_ q fun d x H1 s1 r1 at1 q1 => sub finL s1 at1 q1 fun e y H2 s2 r2 at2 q2 => ?_
  obtain ⟨a1, vs1, rfl, h1, rr1⟩ := r1
  obtain ⟨a2, vs2, rfl, h2, rr2⟩ := r2
  unfold catL at q2
  split at q2
  · rename_i hz
    have rb : Rdb g.fm.K (RX g.fm own H H2 md) H2 := RX.rdb
    refine ⟨a1, a2, vs1, vs2, rfl, rfl, rd_of rb (RX.same s2 _ _ h1), rd_of rb h2, by rw [← rr1.length, ← rr2.length]; exact hz, fun z hz => q2 z _ _ ((s1.trans s2).trans (newSame hz)) ((s1.trans s2).free hz) upd_same ?_⟩
    exact ((rr1.mono (RX.same s2)).append rr2).mono (RX.add hz)
  · exact q2.elim
/-! ### in -/
structure FlatV (S : Ty α) : Prop where
  fl : ∀ {d v R}, S.rep d v R → flatV v = true
  eq : ∀ {d e v w R R'}, S.rep d v R → S.rep e w R' → (eqV v w = true ↔ d = e)
theorem f_int : FlatV tInt := ⟨fun h => by cases h; rfl, fun h1 h2 => by cases h1; cases h2; exact beq_iff_eq⟩
theorem f_str : FlatV tStr := ⟨fun h => by cases h.1; rfl, fun h1 h2 => by
  cases h1.1; cases h2.1
  exact ⟨fun h => toS_inj (beq_iff_eq.mp h), fun h => by rw [h]; exact beq_self_eq_true _⟩⟩
theorem f_bool : FlatV tBool := ⟨fun h => by cases h; rfl, fun h1 h2 => by cases h1; cases h2; exact beq_iff_eq⟩
theorem Reps.allFlat {R : RdR} {ds : List α} {vs : List V} (hf : FlatV S) (h : Reps S R ds vs) : vs.all flatV = true := by
  induction h with
  | nil => rfl
  | cons r _ ih => rw [List.all_cons, hf.fl r, ih]; rfl
theorem Reps.inV [DecidableEq α] {R R' : RdR} {ds : List α} {vs : List V} (hf : FlatV S) (h : Reps S R ds vs) {d : α} {v : V} (r : S.rep d v R') : L2.inV v vs = decide (d ∈ ds) := by
  induction h with
  | nil => simp [L2.inV]
  | @cons d' ds v' vs r' _ ih =>
    unfold L2.inV at ih ⊢
    rw [List.any_cons, ih]
    by_cases e : d = d'
    · have : eqV v' v = true := (hf.eq r' r).mpr e.symm
      rw [this]; simp [e]
    · have : eqV v' v = false := by
        cases q : eqV v' v with
        | true => exact absurd ((hf.eq r' r).mp q).symm e
        | false => rfl
      rw [this]; simp [e]
theorem c_in [DecidableEq α] {X : Cx} (hX : X.K = p.K) (hf : FlatV S) : CmpOk p X .In S (tList S) (fun x xs => decide (x ∈ xs)) := ⟨rIn p.K false, by rw [← hX]; exact op_in_seq, ⟨fun {d e x y R H Q} rb rx ⟨a, vs, ey, h, r⟩ q => by
  subst ey
  exact ⟨a, vs, rfl, .inl (sq_of rb h), hf.fl rx, r.allFlat hf, q _ _ (Same.refl _) (by show _ = V.bl _; rw [r.inV hf rx]; rfl)⟩⟩⟩
theorem c_notin [DecidableEq α] {X : Cx} (hX : X.K = p.K) (hf : FlatV S) : CmpOk p X .NotIn S (tList S) (fun x xs => !decide (x ∈ xs)) := ⟨rIn p.K true, by rw [← hX]; exact op_notIn_seq, ⟨fun {d e x y R H Q} rb rx ⟨a, vs, ey, h, r⟩ q => by
  subst ey
  exact ⟨a, vs, rfl, .inl (sq_of rb h), hf.fl rx, r.allFlat hf, q _ _ (Same.refl _) (by show _ = V.bl _; rw [r.inV hf rx]; rfl)⟩⟩⟩
/-- one sign in a text -/
def inSM (x s : Tx) : M Bool := match x with
  | [c] => .ok (decide (c ∈ s))
  | _ => .no
def notinSM (x s : Tx) : M Bool := match x with
  | [c] => .ok (!decide (c ∈ s))
  | _ => .no
theorem inSM_ne {x s : Tx} {c : Ec} : inSM x s ≠ .ex c := by unfold inSM; split <;> exact fun h => nomatch h
theorem notinSM_ne {x s : Tx} {c : Ec} : notinSM x s ≠ .ex c := by unfold notinSM; split <;> exact fun h => nomatch h
theorem o_inS {X : Cx} : OpR X (compareOp .In) (fun x y H Q => ∃ (c : Nat) (z : Str), x = .str ⟨#[c]⟩ ∧ y = .str z ∧ Q (.bl (decide (c ∈ z.cps.toList))) H) := op_in_sign
theorem ev_inS {m1 m2 : M Tx} (ok : Ok p sc NN VV GG k g) (ha : EvE g L a md tStr m1) (hb : EvE g L b md tStr m2) (hk : behindInMarks .In b = false := by first | exact nomark _ (by decide) (by decide) | rfl) : EvE g L (.Compare a [.In] [b] pos) md' tBool (m1.bind fun x => m2.bind fun y => inSM x y) :=
  ev_cmp (fr := true) ok op_in_sign ⟨fun {d e x y R H Q} rb rx ry q => by
    unfold inSM at q
    split at q
    · rename_i c
      exact ⟨c, toS e, rx.1, ry.1, q _ _ (Same.refl _) (by show V.bl _ = V.bl _; rw [show (toS e).cps.toList = e from tl_toS e])⟩
    · exact q.elim⟩ (fun _ _ _ => inSM_ne) .fresh ha hb hk
theorem ev_notinS {m1 m2 : M Tx} (ok : Ok p sc NN VV GG k g) (ha : EvE g L a md tStr m1) (hb : EvE g L b md tStr m2) (hk : behindInMarks .NotIn b = false := by first | exact nomark _ (by decide) (by decide) | rfl) : EvE g L (.Compare a [.NotIn] [b] pos) md' tBool (m1.bind fun x => m2.bind fun y => notinSM x y) :=
  ev_cmp (fr := true) ok op_notIn_sign ⟨fun {d e x y R H Q} rb rx ry q => by
    unfold notinSM at q
    split at q
    · rename_i c
      exact ⟨c, toS e, rx.1, ry.1, q _ _ (Same.refl _) (by show V.bl _ = V.bl _; rw [show (toS e).cps.toList = e from tl_toS e])⟩
    · exact q.elim⟩ (fun _ _ _ => notinSM_ne) .fresh ha hb hk
/-! ### tuples by place -/
inductive ArAt : {δ α : Type} → Ar δ → Int → Ty α → (δ → α) → Prop where
  | z {α δ : Type} {T : Ty α} {A : Ar δ} : ArAt (aCons T A) 0 T (fun d => d.1)
  | s {α β δ : Type} {T : Ty α} {S : Ty β} {A : Ar δ} {n : Int} {f : δ → α} : ArAt A n T f → ArAt (aCons S A) (n + 1) T (fun d => f d.2)
theorem ArAt.nat {n : Int} {f : δ → α} (h : ArAt A n S f) : 0 ≤ n := by
  induction h with
  | z => omega
  | s _ ih => omega
theorem ArAt.get {n : Int} {f : δ → α} (h : ArAt A n S f) : ∀ {d : δ} {vs : List V} {R : RdR}, A.rep d vs R → ∃ v, vs[n.toNat]? = some v ∧ S.rep (f d) v R := by
  induction h with
  | z => intro d vs R ⟨v, r, e, h1, h2⟩; subst e; exact ⟨v, rfl, h1⟩
  | s h ih =>
    intro d vs R ⟨v, r, e, h1, h2⟩
    subst e
    obtain ⟨w, h3, h4⟩ := ih h2
    have := h.nat
    refine ⟨w, ?_, h4⟩
    rename_i n _
    rw [show (n + 1).toNat = n.toNat + 1 by omega, List.getElem?_cons_succ]
    exact h3
theorem ev_ixA {n : Int} {f : δ → α} {m : M δ} (ok : Ok p sc NN VV GG k g) (hA : ArAt A n S f) (ha : EvE g L a md (tTup A) m) (hb : EvE g L b md tInt (.ok n)) (hs : PlainIx b := by exact fun _ _ => rfl) : EvE g L (.Subscript a b pos) md S (m.bind fun t => .ok (f t)) :=
  ev_ix (S := tTup A) (r := rIxT p.K) (m2 := .ok ()) (f := fun t _ => .ok (f t)) (T := tLit n) (fr := false) ok (by rw [← ok.K]; exact ix_tup) ⟨fun {d e x y R H Q} rb ⟨a, vs, ex, h, r⟩ ry q => by
    obtain ⟨v, h1, h2⟩ := hA.get r
    refine ⟨a, vs, n, v, ex, ry, st_of rb h, ?_, q _ _ (Same.refl _) (S.mono h2 (Nw.old rfl))⟩
    have := atI_nat (xs := vs) (j := n.toNat) h1
    rwa [Int.toNat_of_nonneg hA.nat] at this⟩ (fun _ _ _ h => nomatch h) .same ha (ev_lit hb) hs
/-! ### blocks -/
variable {st : List Stmt} {D : δ → Out} {d : δ}
/-- if c: raise X("..") -/
theorem evb_ifr {mc : M Bool} {m2 : M δ} {y : Str} {ec : Ec} {jj : Nat} {msg : Str} {q1 q2 q3 q4 : Pos} (ok : OkS p sc NN VV GG k g) (wk : Wk L g.LX) (X : ExF p y ec) (hG : GG[j]? = some y) (hc : EvT g L c mc) (hr : EvB g L st D m2) :
    EvB g L (.If c [.Raise (some (.Call (.Name y q1) [.Constant (.str msg) jj q2] [] q3)) none q4] [] pos :: st) D (mc.bind fun c => if c = true then .ex ec else m2) := by
  refine PSs.imp (pss_cons (ps_if hc (evb_raise (D := fun _ : Unit => Out.bad) (st := []) (pos := q4) (msg := msg) (jj := jj) (pp := q1) (p2 := q2) (p3 := q3) ok wk X hG) pss_nil) hr) fun E σ H ⟨kp, own, at_, q⟩ => ?_
  cases mc with
  | ok c =>
    refine ⟨kp, own, at_, fun H1 s => ?_⟩
    cases c with
    | true => exact ⟨kp, own, at_.ext s, q⟩
    | false => exact ⟨kp, own, at_.ext s, q⟩
  | ex c => exact ⟨kp, own, at_, BOk.exx wk at_ q⟩
  | no => exact q.elim
/-- ways that leave and ways that go on -/
theorem evb_ifF {ρ : Type} {mc : M Bool} {m1 m2 : M (Fl β ρ)} {h : β → M δ} {dr : ρ → δ} {LJ : β → List Slot} {sa sb : List Stmt} (wk : Wk L g.LX) (hc : EvT g L c mc) (ha : EvB g L sa (Fl.el (fun s => Out.nx (LJ s)) fun r => (D (dr r)).cut) m1)
    (hb : EvB g L sb (Fl.el (fun s => Out.nx (LJ s)) fun r => (D (dr r)).cut) m2) (hr : ∀ s, EvB g (LJ s) st D (h s)) (hn : ∀ r, (D (dr r)).isNx = false := by intro d; first | rfl | (cases d <;> first | rfl | (rename_i z; cases z <;> rfl))) :
    EvB g L (.If c sa sb pos :: st) D (mc.bind fun c => (if c = true then m1 else m2).bind (Fl.el h fun r => .ok (dr r))) := by
  refine PSs.imp (pss_cons (ps_if hc ha hb) (PSs.ex hr)) fun E σ H ⟨kp, own, at_, q⟩ => ?_
  have key : ∀ {m : M (Fl β ρ)} {H1 : Hp}, Same H H1 → BOk g kp E D (m.bind (Fl.el h fun r => .ok (dr r))) → tB g L (Fl.el (fun s => Out.nx (LJ s)) fun r => (D (dr r)).cut) m { E with nx := fun σ H => ∃ d, tB g (LJ d) D (h d) E σ H } σ H1 := fun {m H1} s q => by
    cases m with
    | ok d =>
      cases d with
      | nx s' => exact ⟨kp, own, at_.ext s, fun σ' H' own' a' => ⟨s', kp, own', a', q⟩⟩
      | rt r =>
        refine ⟨kp, own, at_.ext s, ?_⟩
        have q : OutOk g.fm kp E (D (dr r)) := q
        show OutOk g.fm kp _ (D (dr r)).cut
        exact OutOk.cut (E := E) (E' := { E with nx := fun σ H => ∃ d, tB g (LJ d) D (h d) E σ H }) rfl rfl (hn r) q
    | ex c => exact ⟨kp, own, at_.ext s, q⟩
    | no => exact q.elim
  cases mc with
  | ok c =>
    refine ⟨kp, own, at_, fun H1 s => ?_⟩
    cases c with
    | true => exact key s q
    | false => exact key s q
  | ex c => exact ⟨kp, own, at_, BOk.exx wk at_ q⟩
  | no => exact q.elim
end
end Hd

namespace Hd
open PySem PySem.Spec L2
section
variable {p : Pr} {sc : Scope} {NN VV GG VV' GG' : List Str} {k : Nat} {g : G} {L L' : List Slot} {a b c e e' : Expr} {es : List Expr} {md md' : Md} {α β γ δ ρ : Type} {S : Ty α} {T : Ty β} {U : Ty γ} {A : Ar δ} {pos : Pos} {K : PySem.W.Frag} {tg : Expr} {i j : Nat} {x : Str}
/-- a list of the written part -/
def KList (K : PySem.W.Frag) (a : Addr) (xs : List V) : Prop := ∃ (o : Obj) (its : Array Value) (n : Nat), K.lookup a = some o ∧ o.cls = .type "list" ∧ o.dict = none ∧ o.data = .seq its n ∧ its.size ≤ sizeLine ∧ Vals xs its.toList
/-- a list that is but read -/
def tListK {α : Type} (K : PySem.W.Frag) (T : Ty α) : Ty (List α) := ⟨fun ds v R => ∃ a vs, v = .ref a ∧ (R a (.lst vs) ∨ KList K a vs) ∧ Reps T R ds vs, fun ⟨a, vs, e, r, h⟩ s => ⟨a, vs, e, r.imp (s _ _) id, h.mono s⟩⟩
structure IsSq (K : PySem.W.Frag) (Q : Ty (List α)) (S : Ty α) : Prop where
  sq : ∀ {d v R H}, Rdb K R H → Q.rep d v R → ∃ a vs, v = .ref a ∧ SqL K H a vs ∧ Reps S R d vs
theorem sq_l : IsSq K (tList S) S := ⟨fun rb ⟨a, vs, e, h, r⟩ => ⟨a, vs, e, sq_of rb h, r⟩⟩
theorem sq_k : IsSq K (tListK K S) S := ⟨fun rb ⟨a, vs, e, h, r⟩ => ⟨a, vs, e, h.elim (sq_of rb) .inr, r⟩⟩
variable {Q : Ty (List α)}
theorem ev_ixQ {mx : M (List α)} {mi : M Int} (ok : Ok p sc NN VV GG k g) (hq : IsSq p.K Q S) (ha : EvE g L a md Q mx) (hb : EvE g L b md tInt mi) (hs : PlainIx b := by exact fun _ _ => rfl) : EvE g L (.Subscript a b pos) md S (mx.bind fun xs => mi.bind fun i => getM xs i) :=
  ev_ix (S := Q) (r := rIxL p.K) (fr := false) ok (by rw [← ok.K]; exact ix_list) ⟨fun {d e x y R H W} rb rx ry q => by
    obtain ⟨a, vs, ex, h, r⟩ := hq.sq rb rx
    unfold getM at q
    cases hj : L2.atI d e with
    | none => rw [hj] at q; exact q.elim
    | some u =>
      rw [hj] at q
      obtain ⟨v, h1, h2⟩ := r.at hj
      exact ⟨a, vs, e, v, ex, ry, h, h1, q _ _ (Same.refl _) (S.mono h2 (Nw.old rfl))⟩⟩ (fun _ _ _ => getM_ne) .same ha hb hs
theorem ev_lenQ {mx : M (List α)} {pp : Pos} (ok : Ok p sc NN VV GG k g) (hq : IsSq p.K Q S) (hG : GG[j]? = some "len") (hmg : p.mg "len" = none) (ha : EvE g L e md Q mx) (hs : starEach [e] g.X.env = (false, eval e g.X.env) :: starEach [] g.X.env := by rfl) : EvE g L (.Call (.Name "len" pp) [e] [] pos) md' tInt (mx.bind fun xs => .ok (xs.length : Int)) :=
  ev_b1 (S := Q) (fr := true) ok call_len_seq (fun {d v R H W} rb h q => by
    obtain ⟨a, vs, e, hs, r⟩ := hq.sq rb h
    exact ⟨a, vs, by rw [e], .inl (by rw [ok.K]; exact hs), q _ _ (Same.refl _) (by show _ = V.int _; rw [r.length])⟩) (fun _ _ h => nomatch h) .fresh hG hmg PySem.boot_len ha hs
theorem evi_seq {m : M (List α)} (ok : Ok p sc NN VV GG k g) (hq : IsSq p.K Q S) (he : EvE g L e md Q m) : EvI g L tg e S m := by
  refine PI.imp (pi_list he) fun σ H R ⟨kp, own, at_, q⟩ => ?_
  refine tE_iff.mpr ⟨kp, own, at_, ?_⟩
  cases m with
  | ok xs =>
    intro v H' s rx
    have rx' : Q.rep xs v (RD g.fm own H') := Q.mono rx RX.sh
    have rb0 : Rdb p.K (RD g.fm own H') H' := by rw [← ok.fmK]; exact RD.rdb
    obtain ⟨a, vs, rfl, h, r⟩ := hq.sq rb0 rx'
    refine ⟨a, rfl, ⟨vs, by rw [ok.K]; exact h⟩, ?_⟩
    rw [show Itl g.X.K a = Itl g.fm.K a from by rw [ok.K, ok.fmK]]
    refine q (Itl g.fm.K a) H' s fun H2 rb i => ?_
    obtain ⟨a', vs', e', hs, r2⟩ := hq.sq (by rw [← ok.fmK]; exact rb) rx'
    cases e'
    rw [← ok.fmK] at hs
    refine ⟨fun d hd => ?_, fun hn => ⟨vs', hs, ?_⟩⟩
    · obtain ⟨v, h1, h2⟩ := r2.get hd
      refine ⟨⟨vs', v, hs, h1⟩, fun x H3 ⟨e, hx⟩ => ?_⟩
      subst e
      have := hx vs' hs
      rw [h1] at this
      cases this
      exact ⟨Same.refl _, S.mono h2 fun a o z => .inl ⟨rfl, z⟩⟩
    · rw [List.getElem?_eq_none_iff, r2.length] at hn
      exact hn
  | ex c => exact q
  | no => exact q
variable {lo hi : Option Expr} {ml mh : M (Option Int)} {p2 : Pos}
theorem evl_slQ {m : M (List α)} (ok : Ok p sc NN VV GG k g) (hq : IsSq p.K Q S) (ha : EvE g L a md Q m) (hl : EvO g L lo ml) (hh : EvO g L hi mh) : EvL g L (.Subscript a (.Slice lo hi none p2) pos) md S (m.bind fun x => ml.bind fun l => mh.bind fun h => .ok (cutL x l h)) := by
  refine PE.imp (pe_slice sl_list ha hl hh) fun σ H W q => ?_
  obtain ⟨kp, own, at_, q⟩ := tL_iff.mp q
  refine sub finL (Same.refl H) at_ q fun d x H1 s1 r1 at1 q1 => subO finL s1 at1 q1 fun l H2 s2 at2 q2 => subO finL (s1.trans s2) at2 q2 fun h H3 s3 at3 q3 => ?_
  have r3 : Q.rep d x (RX g.fm own H H3 md) := Q.mono r1 (RX.same (s2.trans s3))
  obtain ⟨ad, vs, e, h3, rr⟩ := hq.sq (by rw [← ok.fmK]; exact RX.rdb) r3
  refine ⟨ad, vs, e, by rw [ok.K]; exact h3, fun z hz => q3 z (L2.cutV vs l h) _ (((s1.trans s2).trans s3).trans (newSame hz)) (((s1.trans s2).trans s3).free hz) upd_same ?_⟩
  exact (rr.cut l h).mono (RX.add hz)
theorem evl_copyQ {mx : M (List α)} {pp : Pos} (ok : Ok p sc NN VV GG k g) (hq : IsSq p.K Q S) (hG : GG[j]? = some "list") (hmg : p.mg "list" = none) (ha : EvE g L e md Q mx) (hs : starEach [e] g.X.env = (false, eval e g.X.env) :: starEach [] g.X.env := by rfl) : EvL g L (.Call (.Name "list" pp) [e] [] pos) md S mx := by
  obtain ⟨hg, ho⟩ := ok.gl hG
  obtain ⟨h1, _, h3⟩ := okName_d ho
  refine PE.imp (pe_callTy call_list_of hg (by rw [ok.mg]; exact hmg) (by decide +kernel) (eva_cons ha eva_nil hs) h3 h1 hs rfl) fun σ H W q => ?_
  obtain ⟨kp, own, at_, q⟩ := tL_iff.mp q
  refine tA_iff.mpr ⟨kp, own, at_, ?_⟩
  cases mx with
  | ok d =>
    rintro vs H1 s1 ⟨v, r, rfl, rx, e3⟩
    cases (show r = [] from e3)
    obtain ⟨a, ws, rfl, h, rr⟩ := hq.sq (by rw [← ok.fmK]; exact RX.rdb) rx
    exact ⟨a, ws, rfl, .inl (by rw [ok.K]; exact h), fun l hl => q l ws _ (s1.trans (newSame hl)) (s1.free hl) upd_same (rr.mono (RX.add hl))⟩
  | ex c => exact q
  | no => exact q
/-! ### tests of a comprehension -/
theorem evpts_nil : PTs g.X [] (tT g.fm g.W L (.ok true)) := ⟨fun pins s σ H Q I ⟨kp, own, at_, q⟩ => pts_nil.run pins s σ H Q I (q H (Same.refl H))⟩
theorem evpts_one {m : M Bool} (h : EvT g L c m) : PTs g.X [c] (tT g.fm g.W L m) := pts_one h
/-! ### blocks -/
variable {st : List Stmt} {D : δ → Out} {d : δ}
/-- one way leaves, the other goes on, where the block itself is a way of an if -/
theorem evb_ifxJ {mc : M Bool} {m1 : M ρ} {m2 : M δ} {dr : ρ → δ} {sa : List Stmt} (wk : Wk L g.LX) (hc : EvT g L c mc) (ha : EvB g L sa (fun d => (D (dr d)).cut) m1) (hr : EvB g L st D m2) (hn : ∀ r, (D (dr r)).isNx = false := by intro d; first | rfl | (cases d <;> first | rfl | (rename_i z; cases z <;> rfl))) :
    EvB g L (.If c sa [] pos :: st) D (mc.bind fun c => if c = true then m1.bind (fun r => .ok (dr r)) else m2) := by
  refine PSs.imp (pss_cons (ps_if hc ha pss_nil) hr) fun E σ H ⟨kp, own, at_, q⟩ => ?_
  cases mc with
  | ok c =>
    refine ⟨kp, own, at_, fun H1 s => ?_⟩
    cases c with
    | true =>
      have q : BOk g kp E D (m1.bind fun r => .ok (dr r)) := q
      refine ⟨kp, own, at_.ext s, ?_⟩
      cases m1 with
      | ok d => exact OutOk.cut (E := E) (E' := { E with nx := tB g L D m2 E }) rfl rfl (hn d) q
      | ex c => exact q
      | no => exact q
    | false => exact ⟨kp, own, at_.ext s, q⟩
  | ex c => exact ⟨kp, own, at_, BOk.exx wk at_ q⟩
  | no => exact q.elim
/-- where a loop's head knows less of a slot -/
theorem evb_weak {m : M δ} (w : Wk L L') (hr : EvB g L' st D m) : EvB g L st D m := evb_drop w hr
/-! ### perhaps None -/
structure NotNon (S : Ty α) : Prop where
  nn : ∀ {d v R}, S.rep d v R → v ≠ .non
theorem nn_int : NotNon tInt := ⟨fun h => by cases h; exact fun z => nomatch z⟩
theorem nn_bool : NotNon tBool := ⟨fun h => by cases h; exact fun z => nomatch z⟩
theorem nn_str : NotNon tStr := ⟨fun h => by cases h.1; exact fun z => nomatch z⟩
theorem nn_list : NotNon (tList S) := ⟨fun ⟨a, vs, e, _⟩ => by subst e; exact fun z => nomatch z⟩
theorem nn_tup : NotNon (tTup A) := ⟨fun ⟨a, vs, e, _⟩ => by subst e; exact fun z => nomatch z⟩
theorem ev_some {m : M α} (hn : NotNon S) (h : EvE g L e md S m) : EvE g L e md (tOpt S) (m.bind fun d => .ok (some d)) :=
  ev_as (T := tOpt S) (d2 := some) (fun d v R r => ⟨r, hn.nn r⟩) h
theorem ev_isN {m : M (Option α)} {j1 : Nat} {p1 : Pos} (ok : Ok p sc NN VV GG k g) (ha : EvE g L a md (tOpt S) m) : EvE g L (.Compare a [.Is] [.Constant .none j1 p1] pos) md' tBool (m.bind fun d => .ok d.isNone) := by
  have h := ev_cmp (pos := pos) (md' := md') (S := tOpt S) (T := tNone) (U := tBool) (fr := true) (f := fun d _ => .ok d.isNone) ok op_isN ⟨fun {d e x y R H W} rb rx ry q => ⟨ry, q _ _ (Same.refl _) (by
    show _ = V.bl _
    cases d with
    | none => cases (show x = .non from rx); rfl
    | some d => rw [decide_eq_false rx.2]; rfl)⟩⟩ (fun _ _ _ h => nomatch h) .fresh ha (ev_none (j := j1) (pos := p1)) (by first | exact nomark _ (by decide) (by decide) | rfl)
  have e : (m.bind fun d => (M.ok ()).bind fun _ => M.ok d.isNone) = m.bind fun d => .ok d.isNone := by cases m <;> rfl
  rwa [e] at h
theorem ev_notN {m : M (Option α)} {j1 : Nat} {p1 : Pos} (ok : Ok p sc NN VV GG k g) (ha : EvE g L a md (tOpt S) m) : EvE g L (.Compare a [.IsNot] [.Constant .none j1 p1] pos) md' tBool (m.bind fun d => .ok d.isSome) := by
  have h := ev_cmp (pos := pos) (md' := md') (S := tOpt S) (T := tNone) (U := tBool) (fr := true) (f := fun d _ => .ok d.isSome) ok op_notN ⟨fun {d e x y R H W} rb rx ry q => ⟨ry, q _ _ (Same.refl _) (by
    show _ = V.bl _
    cases d with
    | none => cases (show x = .non from rx); rfl
    | some d => rw [decide_eq_false rx.2]; rfl)⟩⟩ (fun _ _ _ h => nomatch h) .fresh ha (ev_none (j := j1) (pos := p1)) (by first | exact nomark _ (by decide) (by decide) | rfl)
  have e : (m.bind fun d => (M.ok ()).bind fun _ => M.ok d.isSome) = m.bind fun d => .ok d.isSome := by cases m <;> rfl
  rwa [e] at h
def unM {α : Type} : Option α → M α
  | some d => .ok d
  | none => .no
/-- what is known not to be None -/
theorem ev_un1 {m : M (Option α)} (h : EvE g L e md (tOpt S) m) : EvE g L e md S (m.bind unM) := PE.imp h fun σ H Q q => by
  obtain ⟨kp, own, at_, q⟩ := tE_iff.mp q
  refine tE_iff.mpr ⟨kp, own, at_, ?_⟩
  cases m with
  | ok d =>
    cases d with
    | none => exact q.elim
    | some d => exact fun v H' s r => q v H' s r.1
  | ex c => exact q
  | no => exact q
end
end Hd

namespace Hd
open PySem PySem.Spec L2
def fuel : Nat := 1000000000
theorem M.bok {α β : Type} (a : α) (f : α → M β) : M.bind (.ok a) f = f a := by
  have h : ∀ m : M α, m = .ok a → M.bind m f = f a := fun m e => by rw [e]; rfl
  exact h _ rfl
section
variable {p : Pr} {sc : Scope} {NN VV GG VV' GG' : List Str} {k : Nat} {g : G} {L L' : List Slot} {a b c e e' : Expr} {es : List Expr} {md md' : Md} {α β γ δ ρ : Type} {S : Ty α} {T : Ty β} {U : Ty γ} {A : Ar δ} {pos : Pos} {K : PySem.W.Frag} {tg : Expr} {i j : Nat} {x : Str}
/-- how many items -/
def LenM (n : Nat) (m : M (List α)) : Prop := ∀ ds, m = .ok ds → ds.length = n
theorem ln0 : LenM 0 (.ok ([] : List α)) := fun ds h => by cases h; rfl
theorem lnS {n : Nat} {m1 : M α} {m2 : M (List α)} (h : LenM n m2) : LenM (n + 1) (m1.bind fun d => m2.bind fun e => .ok (d :: e)) := fun ds q => by
  cases m1 with
  | ok d =>
    cases m2 with
    | ok e => cases q; rw [List.length_cons, h e rfl]
    | ex c => cases q
    | no => cases q
  | ex c => cases q
  | no => cases q
theorem evl_lstN {n : Nat} {m : M (List α)} (h : LenM n m) (hn : n ≤ 1000) (ha : EvA g L es md (aAll S) m) : EvL g L (.List es pos) md S m := evl_lst (fun ds q => by rw [h ds q]; exact hn) ha
/-! ### a comprehension given to a name -/
def isLoc (sc : Scope) (y : Str) : Bool := (match sc.kind with | .function => true | _ => false) && match sc.names.lookup y with | some .local => true | _ => false
def isCell (sc : Scope) (y : Str) : Bool := match sc.names.lookup y with | some .cell => true | _ => false
theorem isLoc_k {sc : Scope} {y : Str} (h : isLoc sc y = true) : sc.kind = .function ∧ sc.names.lookup y = some .local := by
  unfold isLoc at h
  rw [Bool.and_eq_true] at h
  obtain ⟨h1, h2⟩ := h
  constructor
  · split at h1
    · assumption
    · cases h1
  · split at h2
    · assumption
    · cases h2
theorem isCell_k {sc : Scope} {y : Str} (h : isCell sc y = true) : sc.names.lookup y = some .cell := by
  unfold isCell at h
  split at h
  · assumption
  · cases h
theorem sw_cell {elt : Expr} {gs : List Comprehension} {scope : Scope} {pos py : Pos} {y : Str} {l : Nat} {env : Env} (hy : env.scope.names.lookup y = some .cell) : swapsWith (.ListComp elt gs scope pos) (some (.Name y py)) l env = pure false := by
  have ky : env.kindOf y = some .cell := hy
  unfold swapsWith
  simp only [ky]
  have e : (some NameKind.cell == some NameKind.local) = false := rfl
  simp only [e, Bool.and_false, Bool.false_and]
theorem sw_own {elt : Expr} {gs : List Comprehension} {scope : Scope} {pos py : Pos} {y : Str} {l : Nat} {env : Env} (ha : (scope.names.any fun (n, k) => n == y && (k == .local || k == .cell)) = true) : swapsWith (.ListComp elt gs scope pos) (some (.Name y py)) l env = pure false := by
  unfold swapsWith
  simp only [ha, Bool.not_true, Bool.and_false]
variable {st : List Stmt} {D : δ → Out} {y : Str} {py spos cpos : Pos} {elt it : Expr} {ifs : List Expr} {scope : Scope} {tp : Pos} {s₀ : Slot}
theorem sw_loc (ok : OkS p sc NN VV GG k g) {gs : List Comprehension} (hy : isLoc sc y = true) (hl : (py.line == cpos.line) = true) (ha : (scope.names.any fun (n, k) => n == y && (k == .local || k == .cell)) = false) :
    g.X.env.scope.names.lookup y = some .local ∧ swapsWith (.ListComp elt gs scope cpos) (some (.Name y py)) spos.line g.X.env = pure true := by
  obtain ⟨h1, h2⟩ := isLoc_k hy
  have e1 : g.X.env.scope.kind = .function := by rw [ok.scp]; exact h1
  have e2 : g.X.env.scope.names.lookup y = some .local := by rw [ok.scp]; exact h2
  exact ⟨e2, sw_true e1 e2 hl ha⟩
/-- y = [elt for x in it if c], y its owner -/
theorem evb_ownC {m : M (List α)} {cm : α → M Bool} {f : α → M β} {h : List β → M δ} {b : Bool} {i2 : Nat} (ok : OkS p sc NN VV GG k g) (hN2 : NN[i2]? = some y) (wk : Wk L g.LX) (hbb : SlB md b) (hy : isLoc sc y = true) (hl : (py.line == cpos.line) = true) (ha : (scope.names.any fun (n, k) => n == y && (k == .local || k == .cell)) = false)
    (hI : EvI g L (.Name x tp) it S m) (hN : NN[i]? = some x) (hLi : L[i]? = some s₀) (hs₀ : NoOwn s₀) (hb : blkC NN sc scope [(x, i)] = true) (hv : VV'.all (seenB scope) = true) (hg : GG'.all (glB scope) = true) (hx : locB scope x = true)
    (hc : ∀ g', Ok p scope NN VV' GG' k g' → ∀ d, PTs g'.X ifs (tT g'.fm g'.W (L.set i (sV false S d)) (cm d))) (he : ∀ g', Ok p scope NN VV' GG' k g' → ∀ d, EvE g' (L.set i (sV false S d)) elt md T (f d))
    (hr : ∀ d, EvB g (L.set i2 (sOwn b T d)) st D (h d)) (hs : ∀ x, foldedSetIterable it g.X.env x = pure x := by intro _; rfl) :
    EvB g L (.Assign [.Name y py] (.ListComp elt [⟨.Name x tp, it, ifs, 0⟩] scope cpos) spos :: st) D ((m.bind fun xs => compM (fun d => (cm d).bind fun c => if c = true then (f d).bind fun y => .ok (some y) else .ok none) xs).bind h) := by
  obtain ⟨e1, e2⟩ := sw_loc (elt := elt) (spos := spos) (gs := [⟨.Name x tp, it, ifs, 0⟩]) ok hy hl ha
  refine PSs.imp (pss_cons ((evl_lc2 ok.toOk hI hN hLi hs₀ hb hv hg hx hc he hs).2 hN2 e1 e2) (PSs.ex hr)) fun E σ H ⟨kp, own, at_, q⟩ => ?_
  unfold tSeq tAsg
  refine tL_iff.mpr ⟨kp, own, at_, ?_⟩
  generalize (m.bind fun xs => compM (fun d => (cm d).bind fun c => if c = true then (f d).bind fun y => .ok (some y) else .ok none) xs) = mm at q ⊢
  cases mm with
  | ok d =>
    intro v vs H' s n h' r
    obtain ⟨own', a'⟩ := at_.setOwn (i := i2) (b := b) s n h' (r.mono hbb.rb)
    exact ⟨d, kp, own', a', q⟩
  | ex c => exact BOk.exx wk at_ q
  | no => exact q
theorem evb_setC {m : M (List α)} {cm : α → M Bool} {f : α → M β} {h : List β → M δ} {i2 : Nat} (ok : OkS p sc NN VV GG k g) (hN2 : NN[i2]? = some y) (wk : Wk L g.LX) (hy : isLoc sc y = true) (hl : (py.line == cpos.line) = true) (ha : (scope.names.any fun (n, k) => n == y && (k == .local || k == .cell)) = false)
    (hI : EvI g L (.Name x tp) it S m) (hN : NN[i]? = some x) (hLi : L[i]? = some s₀) (hs₀ : NoOwn s₀) (hb : blkC NN sc scope [(x, i)] = true) (hv : VV'.all (seenB scope) = true) (hg : GG'.all (glB scope) = true) (hx : locB scope x = true)
    (hc : ∀ g', Ok p scope NN VV' GG' k g' → ∀ d, PTs g'.X ifs (tT g'.fm g'.W (L.set i (sV false S d)) (cm d))) (he : ∀ g', Ok p scope NN VV' GG' k g' → ∀ d, EvE g' (L.set i (sV false S d)) elt md T (f d))
    (hr : ∀ d, EvB g (L.set i2 (sV false (tList T) d)) st D (h d)) (hs : ∀ x, foldedSetIterable it g.X.env x = pure x := by intro _; rfl) :
    EvB g L (.Assign [.Name y py] (.ListComp elt [⟨.Name x tp, it, ifs, 0⟩] scope cpos) spos :: st) D ((m.bind fun xs => compM (fun d => (cm d).bind fun c => if c = true then (f d).bind fun y => .ok (some y) else .ok none) xs).bind h) := by
  obtain ⟨e1, e2⟩ := sw_loc (elt := elt) (spos := spos) (gs := [⟨.Name x tp, it, ifs, 0⟩]) ok hy hl ha
  refine PSs.imp (pss_cons ((evl_lc2 ok.toOk hI hN hLi hs₀ hb hv hg hx hc he hs).2 hN2 e1 e2) (PSs.ex hr)) fun E σ H ⟨kp, own, at_, q⟩ => ?_
  unfold tSeq tAsg
  refine tL_iff.mpr ⟨kp, own, at_, ?_⟩
  generalize (m.bind fun xs => compM (fun d => (cm d).bind fun c => if c = true then (f d).bind fun y => .ok (some y) else .ok none) xs) = mm at q ⊢
  cases mm with
  | ok d =>
    intro v vs H' s n h' r
    obtain ⟨own', a'⟩ := (at_.ext s).setV (i := i2) (b := false) (T := tList T) (d := d) (v := .ref v) ⟨v, vs, rfl, RX.sh (H := H) _ _ (newRX' (md := .sh) at_ n h'), r.mono fun a o z => RX.sh (H := H) a o (RX.drop1 a o z)⟩
    exact ⟨d, kp, own', a', q⟩
  | ex c => exact BOk.exx wk at_ q
  | no => exact q
/-! ### what is worth a known value -/
theorem pureT {m : M Bool} {v : Bool} (h : EvT g L e m) (q : m = .ok v) : EvT g L e (.ok v) := q ▸ h
theorem pureW {m : M Bool} {v : Bool} (h : EvW g L e m) (q : m = .ok v) : EvW g L e (.ok v) := q ▸ h
theorem pureE {m : M α} {v : α} (h : EvE g L e md S m) (q : m = .ok v) : EvE g L e md S (.ok v) := q ▸ h
end
end Hd

namespace Hd
open PySem PySem.Spec L2
/-! ### the end -/
theorem fnCx {P : Program} {w : World} {K : PySem.W.Frag} {mg : Str → Option Value} {base : Heap} {CX CX' : CXT} {k : Nat} {f : Addr} {fd : FuncData} {ps : List Str} {sp : Sp} (F : FnOk P w K mg base CX k f fd ps sp)
    (h : ∀ outer H s E u s', CX outer H s E u s' → CX' outer H s E u s') : FnOk P w K mg base CX' k f fd ps sp :=
  ⟨F.len, fun A outer s H args us vs Q E hr he hb hv hs => codeAny_mono (F.run A outer s H args us vs Q E hr he hb hv hs) fun r s' q => by
    cases r with
    | error e => exact h _ _ _ _ _ _ q
    | ok fl => cases fl <;> exact q⟩
def CXw (P : Program) : CXT := fun outer H s E u s' => ∃ w, L2.CX P w outer H s E u s'
def ecName : Ec → Str
  | .weave => "WeaveError"
  | .noRow => "NoRow"
  | .tooLarge => "TooLarge"
  | .noCloth => "NoCloth"
  | .noDraft => "NoDraft"
  | .noStrand => "NoStrand"
  | .noDeed => "NoDeed"
  | .noLaying => "NoLaying"
  | .noShuttle => "NoShuttle"
  | .noColour => "NoColour"
  | .noBlock => "NoBlock"
  | .noPattern => "NoPattern"
  | .unknown => "Unknown"
  | .twice => "Twice"
theorem reps_ints {R : RdR} : ∀ ns : List Int, Reps tInt R ns (ns.map V.int)
  | [] => .nil
  | n :: r => .cons rfl (reps_ints r)
theorem law_end {l : PySem.W.OpenLaw} {k : Nat} {q : Program} {loose : List Str} {XP : (Str → Option Value) → Heap → Prop} {YP : World → Heap → Prop} {d : DefRec} {cl : List Int × Unit → M Bool}
    (hn : l.most = some 63) (hdf : d.params.defaults = []) (hr : Room k callerA)
    (F : ∀ (w : World) (mg : Str → Option Value) (fa : Addr) (h : Heap), YP w h → h.Ns mainGlobals mg → mg d.name = some (.ref fa) →
      ∃ (K : PySem.W.Frag) (fd : FuncData) (C : Ec → Addr), K.In h ∧ (∀ (s : Shared) (u : Value), BindsTo s fd ⟨[u], []⟩ [("script", u)]) ∧
        ∀ base : Heap, FnOk l.prog w K mg base (L2.CX l.prog w) k fa fd ["script"] (spM ⟨l.prog, w, K, mg, base, C, none⟩ (aCons (tListK K tInt) aNil) (fun r => .rt false tBool r) cl))
    (math : ∀ ns : List Int, ns.length ≤ 63 → cl (ns, ()) = .ok true) : PySem.W.WalkO q loose XP YP l.row.toRowW d [] (fun f vs => PySem.call f vs) := by
  refine L2.walk_ofE (CX := CXw l.prog) (x := "script") (k := k) hn (by decide) hdf hr (fun w mg fa h Y G hm => ?_) (fun H s e s' z => ?_)
  · obtain ⟨K, fd, C, KX, hb, hF⟩ := F w mg fa h Y G hm
    refine ⟨K, fd, spM ⟨l.prog, w, K, mg, h, C, none⟩ (aCons (tListK K tInt) aNil) (fun r => .rt false tBool r) cl, KX, hb, fun H a ns hl hO hS => ?_, fun base _ _ => fnCx (hF base) fun _ _ _ _ _ _ z => ⟨w, z⟩⟩
    refine ⟨(ns, ()), fun _ => False, ⟨fun _ z => z.elim, fun P e => nomatch e⟩, ⟨.ref a, [], rfl, ⟨a, ns.map V.int, rfl, hS.imp (fun r => .inl ⟨Rd.clo r, (fun z => nomatch z), fun z => z⟩) id, reps_ints ns⟩, rfl⟩, ?_⟩
    rw [math ns hl]
    exact fun v H' s r => r
  · obtain ⟨w, a, B, H', cls, d, _, _, _, _, _, _, _, z⟩ := z
    exact z
theorem exF {K : PySem.W.Frag} {h : Heap} {mg : Str → Option Value} {P : Program} {w : World} {base : Heap} {T : Option Addr} (X : K.In h) (G : h.Ns mainGlobals mg) {x : Str} {c : Ec} (e : ecName c = x) (c1 : (He.Fa.glo x).ok K = true) (c2 : (He.Fa.exc x).ok K = true) : ExF ⟨P, w, K, mg, base, fun c => He.ga K (ecName c), T⟩ x c := by
  subst e
  obtain ⟨h1, h2, h3, h4⟩ := He.exc_ok c2
  exact ⟨h1, He.glo_ok X G c1, h2, h3, h4⟩
theorem L2_bindsA {K : PySem.W.Frag} {x qual : Str} {params : Arguments} {body : List Stmt} {scope : Scope} {f : Addr} {fd : FuncData} (F : FunD K x qual params body scope [] [] f fd) (s : Shared) (v : Value)
    (h : ∀ (kV doc pm : Value) (an : Option Addr) (cdv ct : Value) (us : List Value), us.length = (["script"] : List Str).length → bindArgs (PySem.W.fnOf x qual params body scope .none kV doc pm an cdv ct) ⟨us, []⟩ = pure ((["script"] : List Str).zip us) := by
      exact fun _ _ _ _ _ _ us hl => match us, hl with | [_], _ => rfl) : BindsTo s fd ⟨[v], []⟩ [("script", v)] := F.bindsA (ps := ["script"]) h s [v] rfl
end Hd

namespace Hd
open PySem PySem.Spec L2
section
variable {p : Pr} {sc : Scope} {NN VV GG VV' GG' : List Str} {k : Nat} {g : G} {L L' : List Slot} {a b c e e' : Expr} {es : List Expr} {md md' : Md} {α β γ δ ρ : Type} {S : Ty α} {T : Ty β} {U : Ty γ} {A : Ar δ} {pos : Pos} {K : PySem.W.Frag} {tg : Expr} {i j : Nat} {x : Str} {pp : Pos}
/-! ### counting -/
theorem cnt_count (c : Nat) : ∀ l : List Nat, PyProof.Rows.cnt c l = (l.count c : Int)
  | [] => rfl
  | n :: r => by
    rw [PyProof.Rows.cnt_cons, cnt_count c r, List.count_cons]
    by_cases h : n = c
    · subst h; simp; omega
    · simp [h]
def countS (x y : Tx) : M Int := match y with
  | [c] => .ok (x.count c : Int)
  | _ => .no
theorem countS_ne {x y : Tx} {c : Ec} : countS x y ≠ .ex c := by unfold countS; split <;> exact fun h => nomatch h
theorem ev_countS {m1 m2 : M Tx} {apos : Pos} (ok : Ok p sc NN VV GG k g) (ha : EvE g L a md tStr m1) (hb : EvE g L b md tStr m2)
    (hs : starEach [b] g.X.env = [(false, eval b g.X.env)] := by rfl) (hbase : attributeBase a "count" g.X.env (eval a g.X.env) = eval a g.X.env := by rfl) (hline : (apos.endLine == pos.line) = true := by rfl) :
    EvE g L (.Call (.Attribute a "count" apos) [b] [] pos) md' tInt (m1.bind fun s => m2.bind fun y => countS s y) :=
  ev_sm1 (T := tStr) ok PySem.F.slot_str_count PySem.F.type_str_count mt_count (fun {d e y R H Q} rb hd hy q => by
    unfold countS at q
    split at q
    · rename_i c
      refine ⟨toS d, toS [c], rfl, by rw [hy.1], q _ _ (Same.refl _) ?_⟩
      show V.int _ = V.int _
      congr 1
      rw [show toS [c] = (⟨#[c]⟩ : Str) from rfl, PyProof.Rows.count_cnt, cnt_count]
      rw [show (toS d).cps.toList = d from tl_toS d]
    · exact q.elim) (fun _ _ _ => countS_ne) ha hb hs hbase hline
theorem ev_countI {m1 : M (List Int)} {m2 : M Int} {apos : Pos} (ok : Ok p sc NN VV GG k g) (ha : EvE g L a md (tList tInt) m1) (hb : EvE g L b md tInt m2)
    (hbase : attributeBase a "count" g.X.env (eval a g.X.env) = eval a g.X.env := by rfl)
    (hfew : ((backTo pos (starEach [b] g.X.env)).all (fun x => !x.1) && (backToKw pos (keywordEach [] g.X.env)).all (fun x => x.1.isSome)
      && decide (([b] : List Expr).length + ([] : List Keyword).length + (if ([] : List Keyword).isEmpty then 0 else 1) < 30)) = true := by rfl)
    (hs : starEach [b] g.X.env = (false, eval b g.X.env) :: starEach [] g.X.env := by rfl) (hline : (apos.endLine == pos.line) = true := by rfl) (hplain : (backTo pos (starEach [] g.X.env)).any (·.1) = false := by rfl) :
    EvE g L (.Call (.Attribute a "count" apos) [b] [] pos) md' tInt (m1.bind fun s => m2.bind fun y => .ok (s.count y : Int)) := by
  have h := ev_bm (md' := md') (S := tList tInt) (A := aCons tInt aNil) (U := tInt) (f := fun s y => .ok (s.count y.1 : Int)) (fr := true) ok PySem.F.plainAttrs_list PySem.F.slot_list_count PySem.F.type_list_count mt_lcount
    ⟨fun {d x R H} rb ⟨ad, vs, ex, hh, r⟩ => by subst ex; exact .inl ⟨rfl, _, sq_of rb hh⟩, fun {d e x xs R H Q} rb ⟨ad, vs, ex, hh, r⟩ ⟨v, w, e1, e2, e3⟩ q => by
      subst e1; cases (show w = [] from e3)
      exact ⟨ad, d, e.1, by rw [ex], by rw [e2], by rw [← r.ints, ok.K]; exact sq_of rb hh, q _ _ (Same.refl _) rfl⟩⟩ (fun _ _ _ h => nomatch h) .fresh ha (eva_cons hb eva_nil hs) hbase hfew hs hline hplain
  have e : (m1.bind fun d => (m2.bind fun d => (M.ok ()).bind fun e => M.ok (d, e)).bind fun e => M.ok (d.count e.1 : Int)) = m1.bind fun s => m2.bind fun y => .ok (s.count y : Int) := by cases m1 <;> cases m2 <;> rfl
  rwa [e] at h
/-- xs.index(y): the first place -/
def indexM [DecidableEq α] (xs : List α) (y : α) : M Int := if y ∈ xs then .ok (xs.idxOf y : Int) else .no
theorem indexM_ne [DecidableEq α] {xs : List α} {y : α} {c : Ec} : indexM xs y ≠ .ex c := by unfold indexM; split <;> exact fun h => nomatch h
theorem ev_index [DecidableEq α] {m1 : M (List α)} {m2 : M α} {apos : Pos} (ok : Ok p sc NN VV GG k g) (hf : FlatV S) (ha : EvE g L a md (tList S) m1) (hb : EvE g L b md S m2)
    (hbase : attributeBase a "index" g.X.env (eval a g.X.env) = eval a g.X.env := by rfl)
    (hfew : ((backTo pos (starEach [b] g.X.env)).all (fun x => !x.1) && (backToKw pos (keywordEach [] g.X.env)).all (fun x => x.1.isSome)
      && decide (([b] : List Expr).length + ([] : List Keyword).length + (if ([] : List Keyword).isEmpty then 0 else 1) < 30)) = true := by rfl)
    (hs : starEach [b] g.X.env = (false, eval b g.X.env) :: starEach [] g.X.env := by rfl) (hline : (apos.endLine == pos.line) = true := by rfl) (hplain : (backTo pos (starEach [] g.X.env)).any (·.1) = false := by rfl) :
    EvE g L (.Call (.Attribute a "index" apos) [b] [] pos) md' tInt (m1.bind fun s => m2.bind fun y => indexM s y) := by
  have h := ev_bm (md' := md') (S := tList S) (A := aCons S aNil) (U := tInt) (f := fun s y => indexM s y.1) (fr := true) ok PySem.F.plainAttrs_list PySem.F.slot_list_index PySem.F.type_list_index mt_index
    ⟨fun {d x R H} rb ⟨ad, vs, ex, hh, r⟩ => by subst ex; exact .inl ⟨rfl, _, sq_of rb hh⟩, fun {d e x xs R H Q} rb ⟨ad, vs, ex, hh, r⟩ ⟨v, w, e1, e2, e3⟩ q => by
      subst e1; cases (show w = [] from e3)
      unfold indexM at q
      split at q
      · rename_i hm
        have hlt := List.idxOf_lt_length_of_mem hm
        have hget : d[d.idxOf e.1]? = some e.1 := by rw [List.getElem?_eq_getElem hlt]; congr 1; exact List.getElem_idxOf hlt
        obtain ⟨z, hz1, hz2⟩ := r.get hget
        refine ⟨ad, vs, v, d.idxOf e.1, z, ex, rfl, by rw [ok.K]; exact sq_of rb hh, hf.fl e2, r.allFlat hf, hz1, (hf.eq hz2 e2).mpr rfl, fun m z' hm' hz' => ?_, q _ _ (Same.refl _) rfl⟩
        obtain ⟨d', hd1, hd2⟩ := r.get' hz'
        cases hq : eqV z' v with
        | false => rfl
        | true =>
          have e5 := (hf.eq hd2 e2).mp hq
          subst e5
          have hlt' : m < d.length := (List.getElem?_eq_some_iff.mp hd1).1
          have := List.not_of_lt_findIdx (xs := d) (p := (· == e.1)) (i := m) (by exact hm')
          rw [List.getElem?_eq_getElem hlt'] at hd1
          have e6 : d[m] = e.1 := Option.some.inj hd1
          simp [e6] at this
      · exact q.elim⟩ (fun _ _ _ => indexM_ne) .fresh ha (eva_cons hb eva_nil hs) hbase hfew hs hline hplain
  have e : (m1.bind fun d => (m2.bind fun d => (M.ok ()).bind fun e => M.ok (d, e)).bind fun e => indexM d e.1) = m1.bind fun s => m2.bind fun y => indexM s y := by cases m1 <;> cases m2 <;> rfl
  rwa [e] at h
/-! ### an item of an own list -/
theorem ev_ixOwn {bb : Bool} {ds : List α} {mi : M Int} {npos : Pos} (ok : Ok p sc NN VV GG k g) (hN : NN[i]? = some x) (hV : VV[j]? = some x) (hL : L[i]? = some (sOwn bb S ds)) (hb : EvE g L b .sh tInt mi) (hs : PlainIx b := by exact fun _ _ => rfl) :
    EvE g L (.Subscript (.Name x npos) b pos) .sh S (mi.bind fun i => getM ds i) := by
  obtain ⟨hv, ho⟩ := ok.vis hV
  obtain ⟨h1, h2, _⟩ := okName_d ho
  refine PE.imp (pe_ix ix_list (pe_var (i := i) (by rw [ok.N]; exact hN) hv h1 h2) hb hs) fun σ H Q q => ?_
  obtain ⟨kp, own, at_, q⟩ := tE_iff.mp q
  obtain ⟨Fs, hA, rfl⟩ := at_.sl
  obtain ⟨v, F, e1, e2, pp, vs, rfl, rfl, hp, r⟩ := hA.get hL
  refine ⟨_, e1, sub finE (Same.refl H) at_ q fun n y H2 s2 r2 at2 q2 => ?_⟩
  unfold getM at q2
  cases hj : L2.atI ds n with
  | none => rw [hj] at q2; exact q2.elim
  | some u =>
    rw [hj] at q2
    obtain ⟨w, w1, w2⟩ := r.at hj
    refine ⟨pp, vs, n, w, rfl, r2, .inl (.inl (s2.keep _ _ hp rfl)), w1, q2 w H2 s2 (S.mono w2 fun a o z => ?_)⟩
    have z1 : RX g.fm Fs.flatten H H (if bb then .f0 else .sh) a o := z
    exact RX.same s2 a o (RX.sh a o z1)
/-! ### None or a thing of a kind -/
theorem ev_isiO {ty n : String} {r : Bool} {m : M (Option α)} (ok : Ok p sc NN VV GG k g) (hG : GG[j]? = some "isinstance") (hmg : p.mg "isinstance" = none) (hT : IsT S ty) (hr : kitB ty n = some r) (hn : kitB "NoneType" n = some false) (ha : EvE g L a md (tOpt S) m) (hb : EvE g L b md (tTy n) (.ok ()))
    (hs1 : starEach (a :: [b]) g.X.env = (false, eval a g.X.env) :: starEach [b] g.X.env := by rfl) (hs2 : starEach [b] g.X.env = (false, eval b g.X.env) :: starEach [] g.X.env := by rfl) (hpl : (backTo pos (starEach [b] g.X.env)).any (·.1) = false := by rfl) :
    EvE g L (.Call (.Name "isinstance" pp) [a, b] [] pos) md' tBool (m.bind fun d => .ok (d.isSome && r)) := by
  have h := ev_callB (md' := md') (U := tBool) (A := aCons (tOpt S) (aCons (tTy n) aNil)) (f := fun d => .ok (d.1.isSome && r)) (fr := true) (pos := pos) (pp := pp) ok (id := "isinstance") call_isi ⟨fun {d xs R H Q} rb ⟨v, w, e1, h1, v2, w2, e2, h2, e3⟩ q => by
    subst e1; subst e2; cases (show w2 = [] from e3); cases h2
    obtain ⟨d1, d2⟩ := d
    cases d1 with
    | none =>
      cases (show v = .non from h1)
      exact ⟨.non, .ty n, .type "NoneType", .type n, false, rfl, .ty n, .base .non, kit_ty hn, q _ _ (Same.refl _) rfl⟩
    | some d =>
      exact ⟨v, .ty n, .type ty, .type n, r, rfl, .ty n, hT.t (by rw [ok.K]; exact rb) h1.1, kit_ty hr, q _ _ (Same.refl _) (by show V.bl r = V.bl _; simp)⟩⟩ (fun _ _ h => nomatch h) .fresh hG hmg (by decide +kernel) (eva_cons ha (eva_cons hb eva_nil hs2) hs1) hs1 hpl
  have e : (m.bind fun d => ((M.ok ()).bind fun d => (M.ok ()).bind fun e => M.ok (d, e)).bind fun e => M.ok (d, e)).bind (fun d => M.ok (d.1.isSome && r)) = m.bind fun d => .ok (d.isSome && r) := by cases m <;> rfl
  rwa [e] at h
/-! ### walks -/
theorem upFrom_get0 (n i : Nat) : (upFrom 0 n)[i]? = if i < n then some (i : Int) else none := by rw [upFrom_get]; simp
variable {Q : Ty (List α)}
theorem evi_rev {m : M (List α)} (ok : Ok p sc NN VV GG k g) (hq : IsSq p.K Q S) (hG : GG[j]? = some "reversed") (hmg : p.mg "reversed" = none) (ha : EvE g L a md Q m) (hs : starEach [a] g.X.env = (false, eval a g.X.env) :: starEach [] g.X.env := by rfl) :
    EvI g L tg (.Call (.Name "reversed" pp) [a] [] pos) S (m.bind fun xs => .ok xs.reverse) := by
  obtain ⟨hg, ho⟩ := ok.gl hG
  refine PI.imp (pi_reversed hg (by rw [ok.mg]; exact hmg) (eva_cons ha eva_nil hs) hs) fun σ H R ⟨kp, own, at_, q⟩ => ?_
  refine tA_iff.mpr ⟨kp, own, at_, ?_⟩
  cases m with
  | ok xs =>
    rintro vs H' s ⟨v, r, rfl, rx, e3⟩
    cases (show r = [] from e3)
    have rx' : Q.rep xs v (RD g.fm own H') := Q.mono rx RX.sh
    have rb0 : Rdb p.K (RD g.fm own H') H' := by rw [← ok.fmK]; exact RD.rdb
    obtain ⟨ad, vs, rfl, h, r⟩ := hq.sq rb0 rx'
    refine ⟨ad, vs, rfl, by rw [ok.K]; exact h, ?_⟩
    rw [show Itv g.X.K ad = Itv g.fm.K ad from by rw [ok.K, ok.fmK]]
    refine q _ H' s fun H2 rb i => ?_
    obtain ⟨a', vs', e', hs', r2⟩ := hq.sq (by rw [← ok.fmK]; exact rb) rx'
    cases e'
    rw [← ok.fmK] at hs'
    have hl : vs.length = xs.length := r.length.symm
    have hl' : vs'.length = xs.length := r2.length.symm
    refine ⟨fun d hd => ?_, fun hn => ?_⟩
    · have hlt : i < xs.length := by have := (List.getElem?_eq_some_iff.mp hd).1; rwa [List.length_reverse] at this
      rw [List.getElem?_reverse hlt] at hd
      obtain ⟨v, h1, h2⟩ := r2.get hd
      have h1' : vs'[vs.length - 1 - i]? = some v := by rw [hl]; exact h1
      refine ⟨⟨by rw [hl]; exact hlt, vs', v, hs', h1'⟩, fun x H3 ⟨e, hx⟩ => ?_⟩
      subst e
      have := hx vs' hs'
      rw [h1'] at this
      cases this
      exact ⟨Same.refl _, S.mono h2 fun a o z => .inl ⟨rfl, z⟩⟩
    · rw [List.getElem?_eq_none_iff, List.length_reverse] at hn
      show vs.length ≤ i
      omega
  | ex c => exact q
  | no => exact q
def enumL {α : Type} (xs : List α) : List (Int × α × Unit) := xs.mapIdx fun i d => ((i : Int), d, ())
theorem evi_enum {m : M (List α)} {elts : List Expr} {kk : Nat} {tpos : Pos} (ok : Ok p sc NN VV GG k g) (hq : IsSq p.K Q S) (hG : GG[j]? = some "enumerate") (hmg : p.mg "enumerate" = none) (ha : EvE g L a md Q m) (hs : starEach [a] g.X.env = (false, eval a g.X.env) :: starEach [] g.X.env := by rfl) :
    EvI g L (.Tuple elts kk tpos) (.Call (.Name "enumerate" pp) [a] [] pos) (tTup (aCons tInt (aCons S aNil))) (m.bind fun xs => .ok (enumL xs)) := by
  obtain ⟨hg, ho⟩ := ok.gl hG
  refine PI.imp (pi_enum hg (by rw [ok.mg]; exact hmg) (eva_cons ha eva_nil hs) hs) fun σ H R ⟨kp, own, at_, q⟩ => ?_
  refine tA_iff.mpr ⟨kp, own, at_, ?_⟩
  cases m with
  | ok xs =>
    rintro vs H' s ⟨v, r, rfl, rx, e3⟩
    cases (show r = [] from e3)
    have rx' : Q.rep xs v (RD g.fm own H') := Q.mono rx RX.sh
    have rb0 : Rdb p.K (RD g.fm own H') H' := by rw [← ok.fmK]; exact RD.rdb
    obtain ⟨ad, vs, rfl, h, r⟩ := hq.sq rb0 rx'
    refine ⟨ad, vs, rfl, by rw [ok.K]; exact h, ?_⟩
    rw [show Ite g.X.K ad = Ite g.fm.K ad from by rw [ok.K, ok.fmK]]
    refine q _ H' s fun H2 rb i => ?_
    obtain ⟨a', vs', e', hs', r2⟩ := hq.sq (by rw [← ok.fmK]; exact rb) rx'
    cases e'
    rw [← ok.fmK] at hs'
    unfold enumL
    rw [List.getElem?_mapIdx]
    refine ⟨fun d hd => ?_, fun hn => ⟨vs', hs', ?_⟩⟩
    · cases hx : xs[i]? with
      | none => rw [hx] at hd; cases hd
      | some d0 =>
        rw [hx] at hd
        cases hd
        obtain ⟨v, h1, h2⟩ := r2.get hx
        refine ⟨⟨vs', v, hs', h1⟩, fun x H3 ⟨T, y, e1, e2, e3, hy⟩ => ?_⟩
        subst e1; subst e3
        have := hy vs' hs'
        rw [h1] at this
        cases this
        refine ⟨newSame e2, T, _, rfl, .inr ⟨cl_of upd_same, e2⟩, .int (i : Nat), _, rfl, rfl, _, [], rfl, S.mono h2 fun a o z => .inl ⟨rfl, z⟩, rfl⟩
    · cases hx : xs[i]? with
      | none => rw [List.getElem?_eq_none_iff] at hx; rw [← r2.length]; exact hx
      | some d0 => rw [hx] at hn; cases hn
  | ex c => exact q
  | no => exact q
variable {Q2 : Ty (List β)}
def zipL {α β : Type} (xs : List α) (ys : List β) : List (α × β × Unit) := (xs.zip ys).map fun q => (q.1, q.2, ())
theorem evi_zip {m1 : M (List α)} {m2 : M (List β)} {elts : List Expr} {kk : Nat} {tpos : Pos} (ok : Ok p sc NN VV GG k g) (hq : IsSq p.K Q S) (hq2 : IsSq p.K Q2 T) (hG : GG[j]? = some "zip") (hmg : p.mg "zip" = none) (ha : EvE g L a md Q m1) (hb : EvE g L b md Q2 m2)
    (hs1 : starEach [a, b] g.X.env = (false, eval a g.X.env) :: starEach [b] g.X.env := by rfl) (hs2 : starEach [b] g.X.env = (false, eval b g.X.env) :: starEach [] g.X.env := by rfl) (hpl : (backTo pos (starEach [b] g.X.env)).any (·.1) = false := by rfl) :
    EvI g L (.Tuple elts kk tpos) (.Call (.Name "zip" pp) [a, b] [] pos) (tTup (aCons S (aCons T aNil))) (m1.bind fun xs => m2.bind fun ys => .ok (zipL xs ys)) := by
  obtain ⟨hg, ho⟩ := ok.gl hG
  refine PI.imp (pi_zip hg (by rw [ok.mg]; exact hmg) (eva_cons ha (eva_cons hb eva_nil hs2) hs1) hs1 hpl) fun σ H R ⟨kp, own, at_, q⟩ => ?_
  refine tA_iff.mpr ⟨kp, own, at_, ?_⟩
  cases m1 with
  | ok xs =>
    cases m2 with
    | ok ys =>
      rintro vs H' s ⟨v, r, rfl, rx, v2, r2, rfl, ry, e3⟩
      cases (show r2 = [] from e3)
      have rx' : Q.rep xs v (RD g.fm own H') := Q.mono rx RX.sh
      have ry' : Q2.rep ys v2 (RD g.fm own H') := Q2.mono ry RX.sh
      have rb0 : Rdb p.K (RD g.fm own H') H' := by rw [← ok.fmK]; exact RD.rdb
      obtain ⟨ad, vs, rfl, h, r⟩ := hq.sq rb0 rx'
      obtain ⟨bd, ws, rfl, h', r'⟩ := hq2.sq rb0 ry'
      refine ⟨ad, bd, vs, ws, rfl, by rw [ok.K]; exact h, by rw [ok.K]; exact h', ?_⟩
      rw [show Itz g.X.K ad bd = Itz g.fm.K ad bd from by rw [ok.K, ok.fmK]]
      refine q _ H' s fun H2 rb i => ?_
      obtain ⟨a', vs', e', hs', r2⟩ := hq.sq (by rw [← ok.fmK]; exact rb) rx'
      cases e'
      obtain ⟨b', ws', e'', hs'', r3⟩ := hq2.sq (by rw [← ok.fmK]; exact rb) ry'
      cases e''
      rw [← ok.fmK] at hs' hs''
      unfold zipL
      rw [List.getElem?_map]
      refine ⟨fun d hd => ?_, fun hn => ⟨vs', ws', hs', hs'', ?_⟩⟩
      · cases hx : (xs.zip ys)[i]? with
        | none => rw [hx] at hd; cases hd
        | some d0 =>
          rw [hx] at hd
          cases hd
          obtain ⟨hx1, hx2⟩ := List.getElem?_zip_eq_some.mp hx
          obtain ⟨v, h1, h2⟩ := r2.get hx1
          obtain ⟨w, h3, h4⟩ := r3.get hx2
          refine ⟨⟨vs', ws', v, w, hs', hs'', h1, h3⟩, fun x H3 ⟨T', y, z, e1, e2, e3, hy, hz⟩ => ?_⟩
          subst e1; subst e3
          have q1 := hy vs' hs'
          rw [h1] at q1
          cases q1
          have q2 := hz ws' hs''
          rw [h3] at q2
          cases q2
          refine ⟨newSame e2, T', _, rfl, .inr ⟨cl_of upd_same, e2⟩, _, _, rfl, S.mono h2 fun a o z => .inl ⟨rfl, z⟩, _, [], rfl, T.mono h4 fun a o z => .inl ⟨rfl, z⟩, rfl⟩
      · cases hx : (xs.zip ys)[i]? with
        | none =>
          rw [List.getElem?_eq_none_iff, List.length_zip] at hx
          rw [← r2.length, ← r3.length]
          omega
        | some d0 => rw [hx] at hn; cases hn
    | ex c => exact q
    | no => exact q
  | ex c => exact q
  | no => exact q
/-! ### tuples compared -/
structure DeepA (A : Ar δ) where
  pd : δ → List PyData
  dp : Nat
  rep : ∀ {K d vs R H}, Rdb K R H → A.rep d vs R → DpAll K H vs (pd d) ∧ PyData.canLayAll0 (pd d) = true
  dep : ∀ d, PyData.depthAll (pd d) ≤ dp
  eqv : ∀ d e, PyData.eqvAll (pd d) (pd e) = true ↔ d = e
def dNil : DeepA aNil := ⟨fun _ => [], 0, fun rb h => by cases (show _ = [] from h); exact ⟨.nil, rfl⟩, fun _ => by simp [PyData.depthAll], fun d e => by simp [PyData.eqvAll]⟩
def dCons (D : Deep S) (E : DeepA A) : DeepA (aCons S A) := ⟨fun d => D.pd d.1 :: E.pd d.2, max D.dp E.dp, fun {K d vs R H} rb ⟨v, r, e, h1, h2⟩ => by
    subst e
    obtain ⟨a1, a2⟩ := D.rep rb h1
    obtain ⟨b1, b2⟩ := E.rep rb h2
    exact ⟨.cons a1 b1, by simp only [PyData.canLayAll0, a2, b2, Bool.and_self]⟩, fun d => by
    have h1 := D.dep d.1
    have h2 := E.dep d.2
    simp only [PyData.depthAll]
    omega, fun d e => by
    simp only [PyData.eqvAll, Bool.and_eq_true, D.eqv, E.eqv]
    exact ⟨fun h => Prod.ext h.1 h.2, fun h => by rw [h]; exact ⟨rfl, rfl⟩⟩⟩
def dTup (E : DeepA A) : Deep (tTup A) := ⟨fun d => .tuple (E.pd d), E.dp + 1, fun {K ds v R H} rb ⟨a, vs, e, h, r⟩ => by
    subst e
    obtain ⟨h1, h2⟩ := E.rep rb r
    exact ⟨.tup ((rb _ _ h).imp id id) h1, h2⟩, fun ds => by simp only [PyData.depth]; have := E.dep ds; omega, fun d e => by
    simp only [PyData.eqv]
    exact E.eqv d e⟩
/-! ### a < b < c -/
structure ChI (op : CmpOp) (f : Int → Int → Bool) : Prop where
  ex : ∀ {K : PySem.W.Frag} {X : Cx}, ∃ r, OpR X (compareOp op) r ∧ Op2 K r tInt tInt tBool (fun x y => .ok (f x y)) false
theorem ch_lt : ChI .Lt (fun x y => decide (x < y)) := ⟨⟨_, op_lt, ⟨fun rb rx ry q => ⟨_, _, rx, ry, q _ _ (Same.refl _) rfl⟩⟩⟩⟩
theorem ch_le : ChI .LtE (fun x y => decide (x ≤ y)) := ⟨⟨_, op_le, ⟨fun rb rx ry q => ⟨_, _, rx, ry, q _ _ (Same.refl _) rfl⟩⟩⟩⟩
theorem evt_chainI {op op' : CmpOp} {f f' : Int → Int → Bool} {m1 m2 m3 : M Int} {d1 d2 d3 : Int} (ok : Ok p sc NN VV GG k g) (F : ChI op f) (F' : ChI op' f') (ha : EvE g L a md tInt m1) (hb : EvE g L b md tInt m2) (hc : EvE g L c md tInt m3) (e1 : m1 = .ok d1) (e2 : m2 = .ok d2) (e3 : m3 = .ok d3)
    (hm : lastMarks [op, op'] [b, c] = false := by with_unfolding_all rfl) : EvT g L (.Compare a [op, op'] [b, c] pos) (.ok (f d1 d2 && f' d2 d3)) := by
  subst e1; subst e2; subst e3
  obtain ⟨r, h1, h2⟩ := F.ex (K := p.K) (X := g.X)
  obtain ⟨r', h1', h2'⟩ := F'.ex (K := p.K) (X := g.X)
  exact evt_chain ok h1 h1' h2 h2' ha hb hc hm
/-! ### xs.extend(ys) -/
variable {st : List Stmt} {D : δ → Out} {d : δ}
theorem evb_extend {bb : Bool} {ds : List α} {m : M (List α)} {f : List α → M δ} {p1 ap cp : Pos} (ok : OkS p sc NN VV GG k g) (wk : Wk L g.LX) (hN : NN[i]? = some x) (hV : VV[j]? = some x) (hL : L[i]? = some (sOwn bb S ds)) (hb : SlB md bb)
    (he : EvE g L e md (tList S) m) (hr : ∀ ds', EvB g (L.set i (sOwn bb S ds')) st D (f ds'))
    (hs : swapsWith (.Call (.Attribute (.Name x p1) "extend" ap) [e] [] cp) none pos.line g.X.env = pure false := by rfl)
    (hbase : attributeBase (.Name x p1) "extend" g.X.env (eval (.Name x p1) g.X.env) = eval (.Name x p1) g.X.env := by rfl)
    (hfew : ((backTo cp (starEach [e] g.X.env)).all (fun x => !x.1) && (backToKw cp (keywordEach [] g.X.env)).all (fun x => x.1.isSome)
      && decide (([e] : List Expr).length + ([] : List Keyword).length + (if ([] : List Keyword).isEmpty then 0 else 1) < 30)) = true := by rfl)
    (hline : (ap.endLine == cp.line) = true := by rfl) (hst : starEach [e] g.X.env = (false, eval e g.X.env) :: starEach [] g.X.env := by rfl) (hpl : (backTo cp (starEach [] g.X.env)).any (·.1) = false := by rfl) :
    EvB g L (.Expr (.Call (.Attribute (.Name x p1) "extend" ap) [e] [] cp) pos :: st) D (m.bind fun d => (catL ds d).bind f) := by
  obtain ⟨hv, ho⟩ := ok.vis hV
  obtain ⟨h1, h2, _⟩ := okName_d ho
  refine PSs.imp (pss_cons (ps_expr (pe_bm PySem.F.plainAttrs_list PySem.F.slot_list_extend PySem.F.type_list_extend mt_extR (pe_var (i := i) (by rw [ok.N]; exact hN) hv h1 h2) (pa_cons he pa_nil hst) (hbase := hbase) (hfew := hfew) (hline := hline) (hs := hst) (hplain := hpl)) hs) (PSs.ex hr)) fun E σ H ⟨kp, own, at_, q⟩ => ?_
  obtain ⟨p', vs, e1, hp, r, mu⟩ := at_.mut hL
  refine ⟨_, e1, Or.inl ⟨rfl, _, SqL.of hp⟩, tE_iff.mpr ⟨kp, own, at_, ?_⟩⟩
  cases m with
  | ok d =>
    rintro v H1 s1 ⟨ad, ws, rfl, h3, r3⟩
    have a1 := at_.ext s1
    obtain ⟨p2, vs2, e12, hp2, rr2, mu2⟩ := a1.mut hL
    rw [e1] at e12
    cases e12
    have q : BOk g kp E D ((catL ds d).bind f) := q
    unfold catL at q
    split at q
    · rename_i hlt
      have rb : Rdb g.fm.K (RX g.fm own H H1 md) H1 := RX.rdb
      refine ⟨_, ad, vs2, ws, rfl, rfl, hp2, rd_of rb h3, by rw [← rr2.length, ← r3.length]; exact hlt, ds ++ d, kp, own, mu2 _ _ (rr2.append (r3.mono hb.rb)), q⟩
    · exact q.elim
  | ex c => exact BOk.exx wk at_ q
  | no => exact q
end
end Hd

namespace Hd
open PySem PySem.Spec L2
/-! ### a caught refusal, kept as a value (the rule for the statement goes the way of the layer's ps_try_as; here what was caught stays known behind the suite) -/
def ExQ (cls : Value) (a : Addr) : HO := .ext fun h => ∃ (oe : Obj) (vs : Array Value), h.get? a = some oe ∧ Zc cls none oe ∧ oe.data = .fields vs
theorem exQ_ok {P : Program} {w : World} {H : Hp} {h : Heap} {a : Addr} {cls : Value} {oe : Obj} {vs : Array Value} (e : h.get? a = some oe) (z : Zc cls none oe) (dd : oe.data = .fields vs) : ObjOk P w H h a (ExQ cls a) :=
  ⟨⟨oe, vs, e, z, dd⟩, ⟨oe, e⟩, fun _ _ ⟨o, v, q, r⟩ k => ⟨o, v, k o q, r⟩⟩
section
variable {X : Cx} {pins : List (Addr × Obj)} {σ : L2.St} {H : Hp} {s : Shared}
theorem track {a : Addr} {oe : Obj} {vs : Array Value} {cls : Value} (I : Inv X pins σ H s) (he : s.heap.get? a = some oe) (hz : Zc cls none oe) (hd : oe.data = .fields vs) (na : H a = none) (nL : a ≠ X.env.locals)
    (nC : ∀ y z, X.env.cells.lookup y = some z → z ≠ a) (nP : ∀ r ∈ X.pn ++ pins, r.1 ≠ a) (n0 : X.s_0.heap.get? a = none) : Inv X pins σ (upd H a (ExQ cls a)) s := by
  have ne : ∀ {b : Addr} {u : HO}, H b = some u → b ≠ a := fun e z => by rw [z, na] at e; cases e
  refine ⟨I.ok, I.os, I.bare, ⟨I.base.keep, I.base.slot, fun b o e n hx => ?_, I.base.there, fun b xs e => ?_, fun b o u e => ?_, fun b ps e => ?_⟩, I.loc, I.cell, ?_, fun y z e => ?_, fun r hr => ?_, fun b o e => ?_, I.len⟩
  · rw [upd_ne (fun z => by rw [z, n0] at e; cases e)]; exact I.base.free b o e n hx
  · have := I.base.tups b xs e
    rw [upd_ne (ne this)]; exact this
  · have := I.base.frzs b o u e
    rw [upd_ne (ne this)]; exact this
  · obtain ⟨more, this⟩ := I.base.tbls b ps e
    exact ⟨more, by rw [upd_ne (ne this)]; exact this⟩
  · rw [upd_ne (Ne.symm nL)]; exact I.free
  · rw [upd_ne (nC y z e)]; exact I.freeC y z e
  · obtain ⟨p1, p2, p3⟩ := I.pin r hr
    exact ⟨p1, by rw [upd_ne (nP r hr)]; exact p2, p3⟩
  · by_cases hb : b = a
    · subst hb
      rw [upd_same] at e
      cases e
      exact exQ_ok he hz hd
    · rw [upd_ne hb] at e
      exact (I.hok b o e).stay (fun c v _ q => q) (fun c q => by rw [upd_ne (ne q)]; exact q) fun c xs q => by rw [upd_ne (ne q)]; exact q
end
/-- what the clause wishes of an exception of the body -/
def wKp (K : PySem.W.Frag) (c : Value) (i : Nat) (ts : Addr → Value → Option Addr → TS) (Wout : WX) (D : Ends) : WX := fun cls dd σ H =>
  ∃ b, PySem.W.exmOne K cls c = some b ∧ (b = true → dd = none ∧ ∀ a, H a = none → ts a cls dd { nx := fun τ Hq => D.nx (τ.set i none) (upd Hq a (ExQ cls a)), rt := fun _ _ => False, bk := fun _ _ => False, ct := fun _ _ => False } (σ.set i (some (.ref a))) H) ∧ (b = false → Wout cls dd σ H)
section
variable {Y : Cx} {x n : Str} {c : Value} {i : Nat} {body suite : List Stmt} {b₀ : Stmt} {np pos pos' : Pos} {tb : WX → TS} {ts : Addr → Value → Option Addr → TS} {Wout : WX}
theorem ps_keep (hs : Y.stack = Y.env :: Y.outer) (hf : Y.env.frame = some Y.env.locals) (hex : Y.ex = []) (hN : Y.N.Nodup) (hi : Y.N[i]? = some n) (hln : Y.env.kindOf n = some .local) (hc : Names Y x c) (tk : Takes Y Wout)
    (hb : ∀ (W : WX) (pn : List (Addr × Obj)) (xe : Value → Shared → Prop), Takes (Y.tr pn xe) W → PassesOwn (model Y.prog Y.w) Y.A Y.env xe → PSs (Y.tr pn xe) body (tb W))
    (hsu : ∀ (ad : Addr) (oE : Obj) (cl : Value) (dd : Option Addr) (pn : List (Addr × Obj)), Zc cl dd oE → (∃ vs, oE.data = .fields vs) → PSs (Y.suite ad ((ad, oE) :: pn)) (b₀ :: suite) (ts ad cl dd)) :
    PS Y (.Try body [.ExceptHandler (some (.Name x np)) (some n) (b₀ :: suite) pos'] [] [] pos) (fun D σ H => tb (wKp Y.K c i ts Wout D) D σ H) := by
  refine ⟨fun pz s σ H D I h => ?_⟩
  have oK := I.ok
  have hfR : Y.A.frames = some (Y.env :: Y.outer) := by rw [oK.frames, hs]
  have hlC : Loc Y.env.scope n := .inl hln
  refine wpAny_Try_except ?_
  refine wpAny_mono ((hb (wKp Y.K c i ts Wout D) (Y.pn ++ pz) (fun e s₁ => wpAny (model Y.prog Y.w) Y.A (noteFrame e Y.env) (fun _ s₂ => wpAny (model Y.prog Y.w) Y.A (setFlight e none) (fun _ s₃ =>
    wpAny (model Y.prog Y.w) Y.A (handleBy e Y.env [.ExceptHandler (some (.Name x np)) (some n) (b₀ :: suite) pos']) (SP Y pz D) Y.xe s₃) Y.xe s₂) Y.xe s₁) (fun u sq xx => ?_) PassesOwn.looking).run [] s σ H D (I.toTry _) h) (fun f s1 hp => ?_) (fun e s1 hE => hE)
  · -- the catch
    obtain ⟨ad, B, sJ, py, τ, Hq, cl, dd, rfl, Jq, nB, uP, sKy, nA, oS, aG, b, bb1, hY, hN0⟩ := xx
    have Jz : Inv Y pz τ Hq sJ := Jq.ofTry oK
    have sKq : Sky B (Y.env :: Y.outer) ad (Zc cl dd) Y.env.locals sq.heap := by rw [← hs]; exact sKy
    show wpAny (model Y.prog Y.w) Y.A (noteFrame (.ref ad) Y.env) _ _ _
    refine Sky.land Zc.steady hfR hf sKq fun k3 fL uQ => ?_
    have Jt : Inv Y pz τ Hq { sq with heap := k3 } := Jz.landed nB fL.1 (uP.trans uQ) oS aG
    obtain ⟨oT, vT, eT, zT, dT⟩ := fL.there
    have nFr : ∀ {h : Heap} {o : Obj} {vs : Array Value}, h.FunFrames B (Y.env :: Y.outer) → h.get? ad = some o → o.data = .fields vs → ad ∉ frs (Y.env :: Y.outer) := fun {h o vs} ff e dd hm => by
      obtain ⟨_, o', e', hnf⟩ := ff.mem hm
      rw [e] at e'; cases e'
      exact hnf _ dd
    have nfq := nFr fL.2.2.1 eT dT
    have nL : ad ≠ Y.env.locals := fun z => nfq (List.mem_filterMap.mpr ⟨Y.env, List.mem_cons_self, by rw [hf, z]⟩)
    have nF : ad ∉ Y.fs := fun hm => by
      obtain ⟨e, hE, q⟩ := List.mem_filterMap.mp hm
      exact nfq (List.mem_filterMap.mpr ⟨e, List.mem_cons_of_mem _ hE, q⟩)
    have St := Jt.suite eT dT nA nL nF
    refine wpAny_handleBy_cons (codeAny_handlers_test ?_) (by intro q; cases q)
    have lT : PySem.W.Looks (model Y.prog Y.w) k3 (typeOf (.ref ad)) cl := fun A Q E s k q => wpAny_typeOf_ref (k _ _ eT) (by rw [zT.1]; exact q)
    have lM := PySem.W.exm_one (M := model Y.prog Y.w) (Jt.kIn) lT bb1
    have tst : ∀ {Q : Value → Shared → Prop} {E : Value → Shared → Prop}, Q c { sq with heap := k3 } → wpAny (model Y.prog Y.w) (Y.A.mark (some (.ref ad))) (eval (.Name x np) Y.env) Q E { sq with heap := k3 } := fun {Q E} q => by
      obtain ⟨hg, hdbg, hm | ⟨hm, hv, hnn⟩⟩ := hc
      · exact ld_glob (X := Y.suite ad ((ad, oT) :: (Y.pn ++ pz))) St hg hm q hdbg
      · exact ld_blt (X := Y.suite ad ((ad, oT) :: (Y.pn ++ pz))) St hg hm hv q hnn hdbg
    refine tst (lM.here ?_)
    cases b with
    | true =>
      obtain rfl := (hY rfl).1
      refine codeAny_handlers_suite_as ?_
      refine HandSPX.lands_againZ fL fun k4 fM uR => ?_
      have Ju : Inv Y pz τ Hq { sq with heap := k4 } := Jz.landed nB fM.1 ((uP.trans uQ).trans uR) oS aG
      obtain ⟨oU, vU, eU, zU, dU⟩ := fM.there
      have Su := Ju.suite eU dU nA nL nF
      refine store_ok (X := Y.suite ad ((ad, oU) :: (Y.pn ++ pz))) (v := .ref ad) Su hN hi hlC rfl (fun sv Sv => ?_) (.inr hln)
      refine wpAny_mono ((hsu ad oU cl none (Y.pn ++ pz) zU ⟨_, dU⟩).run [] sv _ Hq _ Sv ((hY rfl).2 ad nA)) (fun f sw hp => ?_) (fun _ _ z => False.elim z)
      have none_ : ∀ o, sJ.heap.get? ad = some o → False := fun o e => by
        have z := nB ad o e (by rw [hs]; exact nfq)
        rw [fM.2.1] at z
        cases z
      have n0 : Y.s_0.heap.get? ad = none := by
        cases e : Y.s_0.heap.get? ad with
        | none => rfl
        | some o =>
          obtain ⟨o2, e2⟩ := Jz.base.there ad o e (by rw [hex]; exact fun z => nomatch z)
          exact (none_ o2 e2).elim
      have nC : ∀ y z, Y.env.cells.lookup y = some z → z ≠ ad := fun y z e w => by
        obtain ⟨v, o, e2, _⟩ := Jz.cell y z e
        rw [w] at e2
        exact none_ o e2
      have nP : ∀ r ∈ Y.pn ++ pz, r.1 ≠ ad := fun r hr w => by
        have e2 := (Jz.pin r hr).1
        rw [w] at e2
        exact none_ _ e2
      cases f with
      | next =>
        obtain ⟨τw, Hw, Sw, qw⟩ := hp
        obtain ⟨g1, g2, _⟩ := Sw.pin (ad, oU) (List.mem_append.mpr (.inl List.mem_cons_self))
        exact gone_ok (track (Sw.unsuite oK) g1 zU dU g2 nL nC nP n0) hN hi hln fun sx Jx => ⟨_, _, Jx, qw⟩
      | brk =>
        obtain ⟨τw, Hw, Sw, qw⟩ := hp
        exact qw.elim
      | cont =>
        obtain ⟨τw, Hw, Sw, qw⟩ := hp
        exact qw.elim
      | ret u =>
        obtain ⟨v6, τw, Hw, Sw, r6, qw⟩ := hp
        exact qw.elim
    | false =>
      show wpAny _ Y.A (handleBy (.ref ad) Y.env []) _ _ _
      refine wpAny_handleBy_nil ?_
      obtain ⟨_, _, _, oE, vs, T, oT, _, hE, hz, hd, h1, hr⟩ := id fL
      unfold PySem.passOn
      refine wpAny_bind (wpAny_field hE hd h1 ?_)
      rw [if_neg (show ¬ ((Value.ref T == Value.none) = true) from by simp)]
      have fIn : wpAny (model Y.prog Y.w) Y.A (setFlight (.ref ad) Y.env.frame) (fun _ s4 => wpAny (model Y.prog Y.w) Y.A (throw (.ref ad) : Sem Flow) (SP Y pz D) Y.xe s4) Y.xe { sq with heap := k3 } := by
        rw [hf]
        refine HandSPX.setFlight_upZ fL fun k4 hh4 uR => wpAny_throw (tk _ _ ?_)
        exact ⟨ad, B, sJ, pz, τ, Hq, cl, dd, rfl, Jz, nB, (uP.trans uQ).trans uR, .inr (.inr (by rw [hs]; exact hh4)), nA, oS, aG, hN0 rfl⟩
      first
        | exact wpAny_bind (wpAny_pure (wpAny_bind fIn))
        | exact wpAny_bind fIn
  · cases f with
    | next =>
      obtain ⟨τ, Hq, Jq, q⟩ := hp
      exact wpAny_execs_nil ⟨τ, Hq, Jq.ofTry oK, q⟩
    | brk =>
      obtain ⟨τ, Hq, Jq, q⟩ := hp
      exact ⟨τ, Hq, Jq.ofTry oK, q⟩
    | cont =>
      obtain ⟨τ, Hq, Jq, q⟩ := hp
      exact ⟨τ, Hq, Jq.ofTry oK, q⟩
    | ret u =>
      obtain ⟨v, τ, Hq, Jq, r, q⟩ := hp
      exact ⟨v, τ, Hq, Jq.ofTry oK, r, q⟩
end
end Hd

namespace Hd
open PySem PySem.Spec L2
/-- c stands under d -/
def isB (c d : Ec) : Bool := decide (d = c) || decide (d = .weave)
/-- a caught refusal -/
def tExc (p : Pr) : Ty Ec := ⟨fun c v R => ∃ a, v = .ref a ∧ R a (ExQ (.ref (p.C c)) a), fun ⟨a, e, h⟩ s => ⟨a, e, s _ _ h⟩⟩
/-- a class of refusals, as a value -/
def tCls (p : Pr) : Ty Ec := ⟨fun c v _ => v = .ref (p.C c), fun h _ => h⟩
/-- what the head tells of the classes -/
structure Kn (p : Pr) (kn : List Ec) : Prop where
  isc : ∀ c ∈ kn, ExcC p.K (p.C c)
  exm : ∀ c ∈ kn, ∀ d ∈ kn, PySem.W.exmOne p.K (.ref (p.C c)) (.ref (p.C d)) = some (isB c d)
  kit : ∀ c ∈ kn, ∀ d ∈ kn, PySem.W.kitOne p.K (.ref (p.C c)) (.ref (p.C d)) = some (isB c d)
  kitV : ∀ c ∈ kn, PySem.W.kitOne p.K (.ref (p.C c)) (.type "ValueError") = some true
  kitN : ∀ c ∈ kn, PySem.W.kitOne p.K (.type "NoneType") (.ref (p.C c)) = some false
def tryM {β : Type} (kn : List Ec) (cx : Ec) (mb : M β) (h : Ec → β) : M β := match mb with
  | .ok s => .ok s
  | .ex c => if c ∈ kn then (if isB c cx = true then .ok (h c) else .ex c) else .no
  | .no => .no
theorem nn_exc {p : Pr} : NotNon (tExc p) := ⟨fun ⟨a, e, _⟩ => by subst e; exact fun z => nomatch z⟩
section
variable {p : Pr} {sc : Scope} {NN VV GG VV' GG' : List Str} {k : Nat} {g : G} {L L' : List Slot} {a b c e e' : Expr} {es : List Expr} {md md' : Md} {α β γ δ ρ : Type} {S : Ty α} {T : Ty β} {U : Ty γ} {A : Ar δ} {pos : Pos} {K : PySem.W.Frag} {tg : Expr} {i j : Nat} {x : Str} {pp : Pos}
theorem At.setAnyV {fm : Fm} {kp : RdR} {σ : L2.St} {H : Hp} {own : List Addr} {v : Option V} (h : At fm kp L σ H own) : ∃ own', At fm kp (L.set i sAny) (σ.set i v) H own' ∧ ∀ p ∈ own', p ∈ own := by
  obtain ⟨h1, h2, ⟨Fs, h3, rfl⟩, h4, h5, h6⟩ := h
  have kk : ∀ p ∈ (Fs.set i []).flatten, p ∈ Fs.flatten := fun p hp => (set_sub (i := i)).subset hp
  exact ⟨_, ⟨h1, h2, ⟨Fs.set i [], (h3.st (RB.own kk) fun _ _ => rfl).set (s := sAny) (v := v) rfl i, rfl⟩, h4.sublist set_sub, fun p hp => h5 p (kk p hp), fun a o q => RX.own (md := .sh) (H := H) kk a o (h6 a o q)⟩, kk⟩
theorem wkL (h : g.LX = L') (w : Wk L L') : Wk L g.LX := h ▸ w
variable {st : List Stmt} {D : δ → Out} {d : δ}
/-- try: body / except X as e: y = e -/
theorem evb_tryA {kn : List Ec} {cx : Ec} {mb : M β} {h : Ec → β} {f : β → M δ} {LJ : β → List Slot} {body : List Stmt} {n y : Str} {iE iC jE jC : Nat} {np pos' p1 p2 p3 : Pos} (ok : OkS p sc NN VV GG k g) (wk : Wk L g.LX) (hkn : Kn p kn) (hcx : cx ∈ kn) (hx : p.mg x = some (.ref (p.C cx))) (hG : GG[j]? = some x)
    (hNE : NN[iE]? = some n) (hVE : VV[jE]? = some n) (hlE : isLoc sc n = true) (hNC : NN[iC]? = some y) (hVC : VV[jC]? = some y) {s₀ : Slot} (hLE : L[iE]? = some s₀)
    (hb : ∀ g', OkS p sc NN VV GG k g' → g'.LX = L → EvB g' L body (fun s => .nx (LJ s)) mb)
    (hh : ∀ c, Wk (((L.set iE sAny).set iC (sV false (tOpt (tExc p)) (some c))).set iE sAny) (LJ (h c))) (hr : ∀ s, EvB g (LJ s) st D (f s)) (hs : ∀ Y : Cx, swapsWith (.Name n p1) (some (.Name y p2)) p3.line Y.env = pure false := by intro _; rfl) :
    EvB g L (.Try body [.ExceptHandler (some (.Name x np)) (some n) [.Assign [.Name y p2] (.Name n p1) p3] pos'] [] [] pos :: st) D ((tryM kn cx mb h).bind f) := by
  obtain ⟨hg, ho⟩ := ok.gl hG
  obtain ⟨hvE, hoE⟩ := ok.vis hVE
  obtain ⟨n1, n2, _⟩ := okName_d hoE
  obtain ⟨_, hlE2⟩ := isLoc_k hlE
  have elE : g.X.env.scope.names.lookup n = some .local := by rw [ok.scp]; exact hlE2
  refine PSs.imp (pss_cons (ps_keep (i := iE) (c := .ref (p.C cx)) (tb := fun W D σ H => ∃ q : {W'' : Wx // ∀ c σ H, W'' c σ H → W (.ref (p.C c)) none σ H}, tB ⟨g.X, g.fm, q.1, L⟩ L (fun s => Out.nx (LJ s)) mb D σ H)
    (ts := fun ad cl dd => tAsg (tVar iE) (gName iC)) (Wout := fun cls d σ H => ∃ c, cls = .ref (p.C c) ∧ d = none ∧ g.W c σ H) ok.stk ok.frm ok.exn (by rw [ok.N]; exact ok.nd) (by rw [ok.N]; exact hNE) elE ⟨hg, (okName_d ho).1, .inl (by rw [ok.mg]; exact hx)⟩ ok.tk
    (fun W pn xe tkW psO => ?_) (fun ad oE cl dd pn _ _ => ?_)) (PSs.ex hr)) fun E σ H ⟨kp, own, at_, q⟩ => ?_
  · refine PSs.ex (t := fun (q : {W'' : Wx // ∀ c σ H, W'' c σ H → W (.ref (p.C c)) none σ H}) => tB ⟨g.X, g.fm, q.1, L⟩ L (fun s => Out.nx (LJ s)) mb) fun q => ?_
    exact hb ⟨g.X.tr pn xe, g.fm, q.1, L⟩
      { prog := ok.prog, w := ok.w, K := ok.K, mg := ok.mg, base := ok.base, N := ok.N, fmK := ok.fmK, tab := ok.tab, room := ok.room, nd := ok.nd, vis := ok.vis, gl := ok.gl
        tk := Takes.imp tkW fun cls d σ H ⟨c, e1, e2, z⟩ => by subst e1; subst e2; exact q.2 c σ H z
        calm := ok.calm, blk := ok.blk, loc := ok.loc, fnT := ok.fnT, psO := psO, scp := ok.scp, stk := ok.stk, frm := ok.frm, exn := ok.exn } rfl
  · exact pss_one (ps_set (i := iC) (by show g.X.N.Nodup; rw [ok.N]; exact ok.nd) (by show g.X.N[iC]? = _; rw [ok.N]; exact hNC) (ok.loc hVC) (pe_var (i := iE) (by show g.X.N[iE]? = _; rw [ok.N]; exact hNE) hvE n1 n2) (hs _) (.inl (ok.fnT y)))
  · have cont : ∀ c σ' H', c ∈ kn → isB c cx = true → (∃ own', At g.fm kp L σ' H' own') → BOk g kp E D (f (h c)) → ∀ ad, H' ad = none →
        ∃ d, tB g (LJ d) D (f d) E (((σ'.set iE (some (.ref ad))).set iC (some (.ref ad))).set iE none) (upd H' ad (ExQ (.ref (p.C c)) ad)) := fun c σ' H' _ _ ⟨own', a'⟩ qc ad hn => by
      have a1 := a'.ext (newSame (o := ExQ (.ref (p.C c)) ad) hn)
      obtain ⟨own2, a2, k2⟩ := At.setAnyV (i := iE) (v := some (.ref ad)) a1
      have hrep : (tOpt (tExc p)).rep (some c) (.ref ad) (RB g.fm own2 (upd H' ad (ExQ (.ref (p.C c)) ad)) false) := by
        refine ⟨⟨ad, rfl, .inl ⟨.inl (cl_of upd_same), fun z => ?_, fun z => ?_⟩⟩, fun z => nomatch z⟩
        · exact (a'.new ad (k2 ad z)).1 hn
        · exact a'.zin ad z hn
      obtain ⟨own3, a3⟩ := a2.setV (i := iC) (b := false) (T := tOpt (tExc p)) (d := some c) (v := .ref ad) hrep
      obtain ⟨own4, a4, _⟩ := At.setAnyV (i := iE) (v := none) a3
      obtain ⟨own5, a5, _⟩ := a4.weak (hh c)
      exact ⟨h c, kp, own5, a5, qc⟩
    refine ⟨⟨fun c σ' H' => (c ∈ kn → isB c cx = true → ∀ ad, H' ad = none → ∃ d, tB g (LJ d) D (f d) E (((σ'.set iE (some (.ref ad))).set iC (some (.ref ad))).set iE none) (upd H' ad (ExQ (.ref (p.C c)) ad))) ∧ (c ∈ kn) ∧ (isB c cx = false → g.W c σ' H') ∧ iE < σ'.length, fun c σ' H' ⟨z1, z2, z3, z4⟩ => ?_⟩, kp, own, at_, ?_⟩
    · refine ⟨isB c cx, by rw [ok.K]; exact hkn.exm c z2 cx hcx, fun hB => ⟨rfl, fun ad hn => ⟨.ref ad, by rw [List.getElem?_set_self z4], z1 z2 hB ad hn⟩⟩, fun hB => ⟨c, rfl, rfl, z3 hB⟩⟩
    · cases mb with
      | ok s => exact fun σ' H' own' a' => ⟨s, kp, own', a', q⟩
      | no => exact q.elim
      | ex c =>
        intro σ' H' own' a'
        have q : BOk g kp E D (((if c ∈ kn then (if isB c cx = true then M.ok (h c) else .ex c) else .no) : M β).bind f) := q
        by_cases hc : c ∈ kn
        · rw [if_pos hc] at q
          have hlen : iE < σ'.length := by rw [a'.len]; exact (List.getElem?_eq_some_iff.mp hLE).1
          refine ⟨fun _ hB ad hn => ?_, hc, fun hB => ?_, hlen⟩
          · rw [if_pos hB] at q
            exact cont c σ' H' hc hB ⟨own', a'⟩ q ad hn
          · rw [if_neg (by rw [hB]; exact Bool.false_ne_true)] at q
            obtain ⟨own2, a2, _⟩ := a'.weak wk
            exact q σ' H' own2 a2
        · rw [if_neg hc] at q; exact q.elim
/-! ### what kind of refusal -/
def KitQ (K : PySem.W.Frag) (H : Hp) (v : V) (t : Value) : Prop := (v = .non ∧ t = .type "NoneType") ∨ ∃ a D, v = .ref a ∧ t = .ref D ∧ ExcC K D ∧ Rd H a (ExQ (.ref D) a)
theorem kit_q {X : Cx} {pins : List (Addr × Obj)} {σ : L2.St} {H : Hp} {s : Shared} {v : V} {u t : Value} (I : Inv X pins σ H s) (rx : RelV v u) (q : KitQ X.K H v t) : ∃ P : Heap → Prop, PySem.W.KitX X.K u t P ∧ P s.heap ∧ u ≠ .builtin "__main__.__loader__#opaque" := by
  rcases q with ⟨rfl, rfl⟩ | ⟨a, D, rfl, rfl, C, h⟩
  · cases (show u = Value.none from rx)
    exact ⟨_, PySem.W.kitx_none, True.intro, fun z => nomatch z⟩
  · cases (show u = Value.ref a from rx)
    obtain ⟨⟨oe, vs, he, hz, hd⟩, _⟩ := (show ObjOk X.prog X.w H s.heap a (ExQ (.ref D) a) from h.ok I.hok)
    have J : PySem.W.InstAt s.heap a oe D none := by
      obtain ⟨oc, od, oda, osl⟩ := oe
      obtain ⟨h1, h2⟩ := hz
      dsimp only at h1 h2 hd
      subst h1 h2 hd
      exact ⟨he, rfl, rfl, trivial⟩
    exact ⟨_, PySem.W.handS_kitx_exc C.hg C.hk C.hs C.hd C.ha C.hn C.ht C.hm, J, fun z => nomatch z⟩
def rIsQ (K : PySem.W.Frag) : List V → Hp → VK → Prop := fun xs H Q => ∃ (x c : V) (t u : Value) (b : Bool), xs = [x, c] ∧ ClsV c u ∧ KitQ K H x t ∧ PySem.W.kitOne K t u = some b ∧ Q (.bl b) H
theorem call_isQ {X : Cx} : CallR X (.builtin "isinstance") (rIsQ X.K) := by
  intro pins s σ H xs us Q I r h
  obtain ⟨x, c, t, u, b, rfl, k, ty, e, q⟩ := h
  cases r with
  | cons r1 rr =>
    cases rr with
    | cons r2 rr =>
      cases rr
      have e2 := k.eq r2
      subst e2
      obtain ⟨P, Z, hP, hx⟩ := kit_q I r1 ty
      exact PySem.W.kia_one Z I.kIn hP e hx fun tk => ⟨.bl b, H, I.tok tk, rfl, q⟩
def rIsQT (K : PySem.W.Frag) : List V → Hp → VK → Prop := fun xs H Q => ∃ (x : V) (tp : Addr) (cs : List V) (t : Value) (us : List Value) (b : Bool), xs = [x, .ref tp] ∧ SqT K H tp cs ∧ Paired ClsV cs us ∧ KitQ K H x t ∧ PySem.W.kitAny K t us = some b ∧ Q (.bl b) H
theorem call_isQT {X : Cx} : CallR X (.builtin "isinstance") (rIsQT X.K) := by
  intro pins s σ H xs us Q I r h
  obtain ⟨x, tp, cs, t, ws, b, rfl, hT, k, ty, e, q⟩ := h
  cases r with
  | cons r1 rr =>
    cases rr with
    | @cons _ u2 _ _ r2 rr =>
      cases rr
      cases (show u2 = Value.ref tp from r2)
      obtain ⟨P, Z, hP, hx⟩ := kit_q I r1 ty
      obtain ⟨its, rv, ⟨o, h1, h2, n, h3⟩, _⟩ := I.tuple hT
      have e3 := ClsV.all k rv
      subst e3
      obtain ⟨oc, od, dt, sl⟩ := o
      simp only at h2 h3
      subst h2 h3
      exact PySem.W.kia_tup Z I.kIn hP h1 e hx fun tk => ⟨.bl b, H, I.tok tk, rfl, q⟩
/-- isinstance(caught, X), X a class of refusals -/
def isEM (kn : List Ec) (c : Option Ec) (d : Ec) : M Bool := match c with
  | none => .ok false
  | some c => if c ∈ kn then .ok (isB c d) else .no
theorem isEM_ne {kn : List Ec} {c : Option Ec} {d : Ec} {z : Ec} : isEM kn c d ≠ .ex z := by unfold isEM; split <;> (try split) <;> exact fun h => nomatch h
/-- isinstance(caught, (X, Y, ..)) -/
def isEsM (kn : List Ec) (c : Option Ec) (ds : List Ec) : M Bool := match c with
  | none => .ok false
  | some c => if c ∈ kn then .ok (ds.any fun d => isB c d) else .no
theorem isEsM_ne {kn : List Ec} {c : Option Ec} {ds : List Ec} {z : Ec} : isEsM kn c ds ≠ .ex z := by unfold isEsM; split <;> (try split) <;> exact fun h => nomatch h
/-- isinstance(caught, ValueError) -/
def isVM (kn : List Ec) (c : Option Ec) : M Bool := match c with
  | none => .ok false
  | some c => if c ∈ kn then .ok true else .no
theorem isVM_ne {kn : List Ec} {c : Option Ec} {z : Ec} : isVM kn c ≠ .ex z := by unfold isVM; split <;> (try split) <;> exact fun h => nomatch h
theorem ev_cls {cc : Ec} (ok : Ok p sc NN VV GG k g) (hG : GG[j]? = some x) (hx : p.mg x = some (.ref (p.C cc))) : EvE g L (.Name x pos) md (tCls p) (.ok cc) := ev_glob (v := .ref (p.C cc)) ok hG hx rfl (fun _ => rfl)
theorem kitQ_some {kn : List Ec} (hkn : Kn p kn) {c : Ec} (hc : c ∈ kn) {R : RdR} {H : Hp} {v : V} (rb : Rdb p.K R H) (h : (tExc p).rep c v R) : KitQ p.K H v (.ref (p.C c)) := by
  obtain ⟨a, e, h⟩ := h
  exact .inr ⟨a, p.C c, e, rfl, hkn.isc c hc, (rb _ _ h).resolve_right fun z => z⟩
theorem ev_isE {kn : List Ec} {dd : Ec} {m : M (Option Ec)} (ok : Ok p sc NN VV GG k g) (hkn : Kn p kn) (hd : dd ∈ kn) (hG : GG[j]? = some "isinstance") (hmg : p.mg "isinstance" = none) (ha : EvE g L a md (tOpt (tExc p)) m) (hb : EvE g L b md (tCls p) (.ok dd))
    (hs1 : starEach [a, b] g.X.env = (false, eval a g.X.env) :: starEach [b] g.X.env := by rfl) (hs2 : starEach [b] g.X.env = (false, eval b g.X.env) :: starEach [] g.X.env := by rfl)
    (hpl : (backTo pos (starEach [b] g.X.env)).any (·.1) = false := by rfl) : EvE g L (.Call (.Name "isinstance" pp) [a, b] [] pos) md' tBool (m.bind fun c => isEM kn c dd) := by
  have h := ev_b2 (S := tOpt (tExc p)) (T := (⟨fun _ v _ => v = .ref (p.C dd), fun h _ => h⟩ : Ty Unit)) (md' := md') (U := tBool) (f := fun c _ => isEM kn c dd) (m2 := .ok ()) (fr := true) (pp := pp) (pos := pos) ok call_isQ (fun {d e v w R H W} rb h1 h2 q => by
    unfold isEM at q
    cases d with
    | none =>
      cases (show v = .non from h1)
      exact ⟨.non, w, .type "NoneType", .ref (p.C dd), false, rfl, by rw [h2]; exact .own _, .inl ⟨rfl, rfl⟩, by rw [ok.K]; exact hkn.kitN dd hd, q _ _ (Same.refl _) rfl⟩
    | some c =>
      by_cases hc : c ∈ kn
      · simp only [if_pos hc] at q
        exact ⟨v, w, .ref (p.C c), .ref (p.C dd), isB c dd, rfl, by rw [h2]; exact .own _, by rw [ok.K]; exact kitQ_some hkn hc rb h1.1, by rw [ok.K]; exact hkn.kit c hc dd hd, q _ _ (Same.refl _) rfl⟩
      · simp only [if_neg hc] at q
        exact q.elim) (fun _ _ _ => isEM_ne) .fresh hG hmg (by decide +kernel) ha (ev_asP (T := (⟨fun _ v _ => v = .ref (p.C dd), fun h _ => h⟩ : Ty Unit)) (d2 := ()) (fun v R r => r) hb) hs1 hs2 hpl
  have e : (m.bind fun d => (M.ok ()).bind fun _ => isEM kn d dd) = m.bind fun c => isEM kn c dd := by cases m <;> rfl
  rwa [e] at h
theorem ev_isV {kn : List Ec} {m : M (Option Ec)} (ok : Ok p sc NN VV GG k g) (hkn : Kn p kn) (hG : GG[j]? = some "isinstance") (hmg : p.mg "isinstance" = none) (ha : EvE g L a md (tOpt (tExc p)) m) (hb : EvE g L b md (tTy "ValueError") (.ok ()))
    (hs1 : starEach [a, b] g.X.env = (false, eval a g.X.env) :: starEach [b] g.X.env := by rfl) (hs2 : starEach [b] g.X.env = (false, eval b g.X.env) :: starEach [] g.X.env := by rfl)
    (hpl : (backTo pos (starEach [b] g.X.env)).any (·.1) = false := by rfl) : EvE g L (.Call (.Name "isinstance" pp) [a, b] [] pos) md' tBool (m.bind fun c => isVM kn c) := by
  have h := ev_b2 (S := tOpt (tExc p)) (T := tTy "ValueError") (md' := md') (U := tBool) (f := fun c _ => isVM kn c) (m2 := .ok ()) (fr := true) (pp := pp) (pos := pos) ok call_isQ (fun {d e v w R H W} rb h1 h2 q => by
    unfold isVM at q
    cases d with
    | none =>
      cases (show v = .non from h1)
      exact ⟨.non, w, .type "NoneType", .type "ValueError", false, rfl, by rw [h2]; exact .ty _, .inl ⟨rfl, rfl⟩, kit_ty (by decide +kernel), q _ _ (Same.refl _) rfl⟩
    | some c =>
      by_cases hc : c ∈ kn
      · simp only [if_pos hc] at q
        exact ⟨v, w, .ref (p.C c), .type "ValueError", true, rfl, by rw [h2]; exact .ty _, by rw [ok.K]; exact kitQ_some hkn hc rb h1.1, by rw [ok.K]; exact hkn.kitV c hc, q _ _ (Same.refl _) rfl⟩
      · simp only [if_neg hc] at q
        exact q.elim) (fun _ _ _ => isVM_ne) .fresh hG hmg (by decide +kernel) ha hb hs1 hs2 hpl
  have e : (m.bind fun d => (M.ok ()).bind fun _ => isVM kn d) = m.bind fun c => isVM kn c := by cases m <;> rfl
  rwa [e] at h
theorem kitAny_map {kn : List Ec} (hkn : Kn p kn) {c : Ec} (hc : c ∈ kn) : ∀ ds : List Ec, (∀ d ∈ ds, d ∈ kn) → PySem.W.kitAny p.K (.ref (p.C c)) (ds.map fun d => .ref (p.C d)) = some (ds.any fun d => isB c d)
  | [], _ => rfl
  | d :: ds, h => by
    rw [List.map_cons, List.any_cons]
    refine kitAny_cons (b := isB c d) (hkn.kit c hc d (h d List.mem_cons_self)) (fun e => ?_) fun e => by rw [e]; rfl
    rw [e, Bool.false_or]
    exact kitAny_map hkn hc ds fun z hz => h z (List.mem_cons_of_mem _ hz)
theorem kitAny_none {kn : List Ec} (hkn : Kn p kn) : ∀ ds : List Ec, (∀ d ∈ ds, d ∈ kn) → PySem.W.kitAny p.K (.type "NoneType") (ds.map fun d => .ref (p.C d)) = some false
  | [], _ => rfl
  | d :: ds, h => by
    rw [List.map_cons]
    exact kitAny_cons (hkn.kitN d (h d List.mem_cons_self)) (fun _ => kitAny_none hkn ds fun z hz => h z (List.mem_cons_of_mem _ hz)) fun e => by cases e
theorem reps_cls {R : RdR} {ds : List Ec} {vs : List V} (r : Reps (tCls p) R ds vs) : Paired ClsV vs (ds.map fun d => .ref (p.C d)) := by
  induction r with
  | nil => exact .nil
  | cons h _ ih => cases h; exact .cons (.own _) ih
/-- a tuple of things of one kind -/
theorem ev_tupL {n : Nat} {m : M (List α)} {x1} (h : LenM n m) (hn : n ≤ 1000) (ha : EvA g L es md (aAll S) m) : EvE g L (.Tuple es x1 pos) md (tTupL S) m := by
  refine PE.imp (pe_tup ha) fun σ H Q q => ?_
  obtain ⟨kp, own, at_, q⟩ := tE_iff.mp q
  refine tA_iff.mpr ⟨kp, own, at_, ?_⟩
  cases m with
  | ok d => exact fun vs H1 s1 r1 => ⟨Nat.le_trans (by rw [← tupL_le r1, h d rfl]; exact hn) (by decide), fun p hp => q _ _ (s1.trans (newSame hp)) ⟨p, vs, rfl, newRX (at_.ext s1) s1 hp, Reps.mono r1 (RX.same (newSame hp))⟩⟩
  | ex c => exact q
  | no => exact q
theorem ev_isEs {kn ds : List Ec} {m : M (Option Ec)} {mt : M (List Ec)} (ok : Ok p sc NN VV GG k g) (hkn : Kn p kn) (hd : ∀ d ∈ ds, d ∈ kn) (hG : GG[j]? = some "isinstance") (hmg : p.mg "isinstance" = none) (ha : EvE g L a md (tOpt (tExc p)) m) (hb : EvE g L b md (tTupL (tCls p)) mt) (hmt : mt = .ok ds)
    (hs1 : starEach [a, b] g.X.env = (false, eval a g.X.env) :: starEach [b] g.X.env := by rfl) (hs2 : starEach [b] g.X.env = (false, eval b g.X.env) :: starEach [] g.X.env := by rfl)
    (hpl : (backTo pos (starEach [b] g.X.env)).any (·.1) = false := by rfl) : EvE g L (.Call (.Name "isinstance" pp) [a, b] [] pos) md' tBool (m.bind fun c => isEsM kn c ds) := by
  subst hmt
  have hb' : EvE g L b md (⟨fun _ v R => (tTupL (tCls p)).rep ds v R, fun h s => (tTupL (tCls p)).mono h s⟩ : Ty Unit) (.ok ()) := ev_asP (fun v R r => r) hb
  have h := ev_b2 (S := tOpt (tExc p)) (md' := md') (U := tBool) (f := fun c _ => isEsM kn c ds) (fr := true) (pp := pp) (pos := pos) ok call_isQT (fun {d e v w R H W} rb h1 h2 q => by
    obtain ⟨tp, ws, ew, ht, rt⟩ := h2
    have hT : SqT g.X.K H tp ws := by rw [ok.K]; exact st_of rb ht
    unfold isEsM at q
    cases d with
    | none =>
      cases (show v = .non from h1)
      exact ⟨.non, tp, ws, .type "NoneType", _, false, by rw [ew], hT, reps_cls rt, .inl ⟨rfl, rfl⟩, by rw [ok.K]; exact kitAny_none hkn ds hd, q _ _ (Same.refl _) rfl⟩
    | some c =>
      by_cases hc : c ∈ kn
      · simp only [if_pos hc] at q
        exact ⟨v, tp, ws, .ref (p.C c), _, _, by rw [ew], hT, reps_cls rt, by rw [ok.K]; exact kitQ_some hkn hc rb h1.1, by rw [ok.K]; exact kitAny_map hkn hc ds hd, q _ _ (Same.refl _) rfl⟩
      · simp only [if_neg hc] at q
        exact q.elim) (fun _ _ _ => isEsM_ne) .fresh hG hmg (by decide +kernel) ha hb' hs1 hs2 hpl
  have e : (m.bind fun d => (M.ok ()).bind fun _ => isEsM kn d ds) = m.bind fun c => isEsM kn c ds := by cases m <;> rfl
  rwa [e] at h
end
end Hd

namespace Hd
open PySem PySem.Spec L2
section
variable {p : Pr} {sc : Scope} {NN VV GG VV' GG' : List Str} {k : Nat} {g : G} {L L' : List Slot} {a b c e e' : Expr} {es : List Expr} {md md' : Md} {α β γ δ ρ : Type} {S : Ty α} {T : Ty β} {U : Ty γ} {A : Ar δ} {pos : Pos} {K : PySem.W.Frag} {tg : Expr} {i j : Nat} {x : Str} {pp : Pos}
variable {st : List Stmt} {D : δ → Out} {d : δ}
/-- try: body / except X: y = a written thing -/
theorem evb_tryC {kn : List Ec} {cx : Ec} {mb : M β} {h : β} {f : β → M δ} {LJ : β → List Slot} {body : List Stmt} {y : Str} {iC jC : Nat} {np pos' p2 p3 : Pos} {v : V} {dv : α} (ok : OkS p sc NN VV GG k g) (wk : Wk L g.LX) (hkn : Kn p kn) (hcx : cx ∈ kn) (hx : p.mg x = some (.ref (p.C cx))) (hG : GG[j]? = some x)
    (hNC : NN[iC]? = some y) (hVC : VV[jC]? = some y) (he : ∀ Y : Cx, PE Y e (fun σ H Q => Q v H)) (hrep : ∀ R, S.rep dv v R)
    (hb : ∀ g', OkS p sc NN VV GG k g' → g'.LX = L → EvB g' L body (fun s => .nx (LJ s)) mb)
    (hh : Wk (L.set iC (sV false S dv)) (LJ h)) (hr : ∀ s, EvB g (LJ s) st D (f s)) (hs : ∀ Y : Cx, swapsWith e (some (.Name y p2)) p3.line Y.env = pure false := by intro _; rfl) :
    EvB g L (.Try body [.ExceptHandler (some (.Name x np)) none [.Assign [.Name y p2] e p3] pos'] [] [] pos :: st) D ((tryM kn cx mb fun _ => h).bind f) := by
  obtain ⟨hg, ho⟩ := ok.gl hG
  refine PSs.imp (pss_cons (ps_try_only (c := .ref (p.C cx)) (tb := fun W D σ H => ∃ q : {W'' : Wx // ∀ c σ H, W'' c σ H → W (.ref (p.C c)) none σ H}, tB ⟨g.X, g.fm, q.1, L⟩ L (fun s => Out.nx (LJ s)) mb D σ H)
    (ts := fun ad cl dd => tAsg (fun σ H Q => Q v H) (gName iC)) (Wout := fun cls d σ H => ∃ c, cls = .ref (p.C c) ∧ d = none ∧ g.W c σ H) ok.stk ok.frm ⟨hg, (okName_d ho).1, .inl (by rw [ok.mg]; exact hx)⟩ ok.tk
    (fun W pn xe tkW psO => ?_) (fun ad oE cl dd pn _ _ => ?_)) (PSs.ex hr)) fun E σ H ⟨kp, own, at_, q⟩ => ?_
  · refine PSs.ex (t := fun (q : {W'' : Wx // ∀ c σ H, W'' c σ H → W (.ref (p.C c)) none σ H}) => tB ⟨g.X, g.fm, q.1, L⟩ L (fun s => Out.nx (LJ s)) mb) fun q => ?_
    exact hb ⟨g.X.tr pn xe, g.fm, q.1, L⟩
      { prog := ok.prog, w := ok.w, K := ok.K, mg := ok.mg, base := ok.base, N := ok.N, fmK := ok.fmK, tab := ok.tab, room := ok.room, nd := ok.nd, vis := ok.vis, gl := ok.gl
        tk := Takes.imp tkW fun cls d σ H ⟨c, e1, e2, z⟩ => by subst e1; subst e2; exact q.2 c σ H z
        calm := ok.calm, blk := ok.blk, loc := ok.loc, fnT := ok.fnT, psO := psO, scp := ok.scp, stk := ok.stk, frm := ok.frm, exn := ok.exn } rfl
  · exact pss_one (ps_set (i := iC) (by show g.X.N.Nodup; rw [ok.N]; exact ok.nd) (by show g.X.N[iC]? = _; rw [ok.N]; exact hNC) (ok.loc hVC) (he _) (hs _) (.inl (ok.fnT y)))
  · refine ⟨⟨fun c σ' H' => (c ∈ kn → isB c cx = true → ∃ d, tB g (LJ d) D (f d) E (σ'.set iC (some v)) H') ∧ (c ∈ kn) ∧ (isB c cx = false → g.W c σ' H'), fun c σ' H' ⟨z1, z2, z3⟩ => ?_⟩, kp, own, at_, ?_⟩
    · exact ⟨isB c cx, by rw [ok.K]; exact hkn.exm c z2 cx hcx, fun hB ad hn => z1 z2 hB, fun hB => ⟨c, rfl, rfl, z3 hB⟩⟩
    · cases mb with
      | ok s => exact fun σ' H' own' a' => ⟨s, kp, own', a', q⟩
      | no => exact q.elim
      | ex c =>
        intro σ' H' own' a'
        have q : BOk g kp E D (((if c ∈ kn then (if isB c cx = true then M.ok h else .ex c) else .no) : M β).bind f) := q
        by_cases hc : c ∈ kn
        · rw [if_pos hc] at q
          refine ⟨fun _ hB => ?_, hc, fun hB => ?_⟩
          · rw [if_pos hB] at q
            obtain ⟨own3, a3⟩ := a'.setV (i := iC) (b := false) (T := S) (d := dv) (v := v) (hrep _)
            obtain ⟨own5, a5, _⟩ := a3.weak hh
            exact ⟨h, kp, own5, a5, q⟩
          · rw [if_neg (by rw [hB]; exact Bool.false_ne_true)] at q
            obtain ⟨own2, a2, _⟩ := a'.weak wk
            exact q σ' H' own2 a2
        · rw [if_neg hc] at q; exact q.elim
/-! ### called() -/
def tAny : Ty Unit := ⟨fun _ _ _ => True, fun h _ => h⟩
structure Cl (p : Pr) (c : Ec) (t : Tx) : Prop where
  ex : ∃ (f : Addr) (fd : FuncData), FnOk p.P p.w p.K p.mg p.base (L2.CX p.P p.w) 1 f fd ["self"] (spM p (aCons tAny aNil) (fun r => .rt false tStr r) (fun _ => .ok t)) ∧ Meth p.K (p.C c) "called" f ∧ Binds p.K fd ["self"] []
def calledM (kc : List (Ec × Tx)) (c : Ec) : M Tx := match kc.lookup c with
  | some t => .ok t
  | none => .no
theorem calledM_ne {kc : List (Ec × Tx)} {c z : Ec} : calledM kc c ≠ .ex z := by unfold calledM; split <;> exact fun h => nomatch h
theorem getm {X : Cx} {pins : List (Addr × Obj)} {σ : L2.St} {H : Hp} {s : Shared} {ad D f : Addr} {pl : Sem Bool} {Q : Value × List Value → Shared → Prop} {A : Around} {E : Value → Shared → Prop} (I : Inv X pins σ H s) (h : Rd H ad (ExQ (.ref D) ad)) (C : ExcC X.K D) (m : Meth X.K D "called" f)
    (hq : Q (.ref f, [.ref ad]) s) : wpAny (model X.prog X.w) A (getMethod (.ref ad) "called" pl) Q E s := by
  obtain ⟨⟨oe, vs, he, hz, hd⟩, _⟩ := (show ObjOk X.prog X.w H s.heap ad (ExQ (.ref D) ad) from h.ok I.hok)
  have J : PySem.W.InstAt s.heap ad oe D none := by
    obtain ⟨oc, od, oda, osl⟩ := oe
    obtain ⟨h1, h2⟩ := hz
    dsimp only at h1 h2 hd
    subst h1 h2 hd
    exact ⟨he, rfl, rfl, trivial⟩
  obtain ⟨m', F⟩ := I.fr
  exact PySem.W.method_exc0 F I.mod.kin J C.hg C.hk m.at_ m.fn hq
def tCalled (X : Cx) (ta : TE) : TE := fun σ H Q => ta σ H fun v H1 => ∃ (ad D f : Addr) (fd : FuncData) (sp : Sp), v = .ref ad ∧ Rd H1 ad (ExQ (.ref D) ad) ∧ ExcC X.K D ∧ Meth X.K D "called" f ∧ FnOk X.prog X.w X.K X.mg X.base (L2.CX X.prog X.w) 1 f fd ["self"] sp ∧ Binds X.K fd ["self"] [] ∧ sp [.ref ad] H1 Q fun _ _ _ => False
theorem pe_called {X : Cx} {o : Expr} {ta : TE} {apos : Pos} {pl : Sem Bool} (he : PE X o ta) (hr : Room 1 X.A)
    (ht : eval (.Call (.Attribute o "called" apos) [] [] pos) X.env = (do
      let ov ← eval o X.env
      standAt apos.atName
      let (f, first) ← holding [ov] (getMethod ov "called" pl)
      callWith pos f first (backTo pos (starEach [] X.env)) (backToKw pos (keywordEach [] X.env))) := by rfl) :
    PE X (.Call (.Attribute o "called" apos) [] [] pos) (tCalled X ta) := by
  refine ⟨fun pins s σ H Q I h => ?_⟩
  refine PySem.W.methodCall_KW (pl := pl) (thn (he.run pins s σ H _ I h) fun u s1 ⟨x, H1, I1, rx, q⟩ => ?_) ht
  obtain ⟨ad, D, f, fd, sp, rfl, hR, C, m, F, hb, hq⟩ := q
  obtain rfl : u = Value.ref ad := rx
  refine getm I1 hR C m ?_
  exact PySem.W.callWith_K0 (first := [.ref ad]) I1.kIn m.kp (run_fn (us := [.ref ad]) (vs := [.ref ad]) (dvs := []) (ds := []) F hr hb .nil (E := fun _ _ _ => False) (by intro a1 a2 a3 a4 a5 a6 a7 a8; obtain ⟨_, _, _, _, _, _, _, _, _, _, _, _, z⟩ := a8; exact z.elim) I1 (.cons rfl .nil) hq)
theorem ev_called {kn : List Ec} {kc : List (Ec × Tx)} {m : M Ec} {apos : Pos} {pl : Sem Bool} (ok : Ok p sc NN VV GG k g) (hk1 : 1 ≤ k) (hkn : Kn p kn) (hkc : ∀ c t, kc.lookup c = some t → c ∈ kn ∧ Cl p c t) (ha : EvE g L a md (tExc p) m)
    (ht : eval (.Call (.Attribute a "called" apos) [] [] pos) g.X.env = (do
      let ov ← eval a g.X.env
      standAt apos.atName
      let (f, first) ← holding [ov] (getMethod ov "called" pl)
      callWith pos f first (backTo pos (starEach [] g.X.env)) (backToKw pos (keywordEach [] g.X.env))) := by rfl) :
    EvE g L (.Call (.Attribute a "called" apos) [] [] pos) md' tStr (m.bind fun c => calledM kc c) := by
  refine PE.imp (pe_called (pl := pl) ha (ok.room.mono hk1) ht) fun σ H Q q => ?_
  obtain ⟨kp, own, at_, q⟩ := tE_iff.mp q
  refine sub finE (Same.refl H) at_ q fun c v H1 s1 r1 at1 q1 => ?_
  unfold calledM at q1
  cases hl : kc.lookup c with
  | none => rw [hl] at q1; exact q1.elim
  | some t =>
    rw [hl] at q1
    obtain ⟨hc, hC⟩ := hkc c t hl
    obtain ⟨f, fd, F, mth, bd⟩ := hC.ex
    obtain ⟨ad, rfl, hR⟩ := r1
    have hR' : Rd H1 ad (ExQ (.ref (p.C c)) ad) := (RX.rdb (md := md) _ _ hR).resolve_right fun z => z
    rw [← ok.prog, ← ok.w, ← ok.base] at F
    refine ⟨ad, p.C c, f, fd, _, rfl, hR', by rw [ok.K]; exact hkn.isc c hc, by rw [ok.K]; exact mth, by rw [ok.K, ok.mg]; exact F, by rw [ok.K]; exact bd, ?_⟩
    show ∃ d z, _ ∧ _ ∧ _
    refine ⟨((), ()), fun _ => False, ⟨fun _ z => z.elim, fun P e => at1.same.tab P (ok.tab P e)⟩, ⟨.ref ad, [], rfl, trivial, rfl⟩, ?_⟩
    exact fun v H' s r => q1 v H' (s1.trans s) r
end
/-! ### the head with the classes -/
def excCB (K : PySem.W.Frag) (D : Addr) : Bool :=
  He.eqO (PySem.W.findIn K (.ref D) "__getattribute__") (some (some (.builtin "BaseException.__getattribute__"))) && (He.eqO (PySem.W.findIn K (.ref D) "__getattr__") (some none) && (decide (PySem.W.subIn K (.ref D) (.type "BaseException") = some true) && (PySem.W.hasDictIn K D &&
    (He.eqO (PySem.W.findIn K (.ref D) "__class__") (some (some (.builtin "object.__class__"))) && (He.eqO (PySem.W.specialIn K (.builtin "object.__class__") "__get__") (some (some (.builtin "getset_descriptor.__get__"))) && (decide (PySem.W.takesIn K (.builtin "object.__class__") = some true) && decide (PySem.W.mroIn K D (.type "object") = some true)))))))
theorem excCB_ok {K : PySem.W.Frag} {D : Addr} (h : excCB K D = true) : ExcC K D := by
  obtain ⟨h1, h⟩ := He.ba h
  obtain ⟨h2, h⟩ := He.ba h
  obtain ⟨h3, h⟩ := He.ba h
  obtain ⟨h4, h⟩ := He.ba h
  obtain ⟨h5, h⟩ := He.ba h
  obtain ⟨h6, h⟩ := He.ba h
  obtain ⟨h7, h8⟩ := He.ba h
  exact ⟨He.eqO_ok h1, He.eqO_ok h2, of_decide_eq_true h3, h4, He.eqO_ok h5, He.eqO_ok h6, of_decide_eq_true h7, of_decide_eq_true h8⟩
def knB (kn : List Ec) (K : PySem.W.Frag) : Bool := kn.all fun c => excCB K (He.ga K (ecName c)) && (kn.all (fun d => decide (PySem.W.exmOne K (.ref (He.ga K (ecName c))) (.ref (He.ga K (ecName d))) = some (isB c d)) && decide (PySem.W.kitOne K (.ref (He.ga K (ecName c))) (.ref (He.ga K (ecName d))) = some (isB c d))) &&
  (decide (PySem.W.kitOne K (.ref (He.ga K (ecName c))) (.type "ValueError") = some true) && decide (PySem.W.kitOne K (.type "NoneType") (.ref (He.ga K (ecName c))) = some false)))
theorem kn_ok {kn : List Ec} {K : PySem.W.Frag} {P : Program} {w : World} {mg : Str → Option Value} {base : Heap} {T : Option Addr} (h : knB kn K = true) : Kn ⟨P, w, K, mg, base, fun c => He.ga K (ecName c), T⟩ kn := by
  have key := fun c hc => List.all_eq_true.mp h c hc
  refine ⟨fun c hc => ?_, fun c hc d hd => ?_, fun c hc d hd => ?_, fun c hc => ?_, fun c hc => ?_⟩
  · exact excCB_ok (He.ba (key c hc)).1
  · have h1 := (He.ba (He.ba (key c hc)).2).1
    exact of_decide_eq_true (He.ba (List.all_eq_true.mp h1 d hd)).1
  · have h1 := (He.ba (He.ba (key c hc)).2).1
    exact of_decide_eq_true (He.ba (List.all_eq_true.mp h1 d hd)).2
  · exact of_decide_eq_true (He.ba (He.ba (He.ba (key c hc)).2).2).1
  · exact of_decide_eq_true (He.ba (He.ba (He.ba (key c hc)).2).2).2
abbrev AlE : Type := Bool × He.AlD
def obsE (fa : List He.Fa) (fn : List He.DefD) (ex : PySem.W.Frag → Bool) (K : PySem.W.Frag) : AlE := (ex K, He.obsD fa fn K)
def obsEG (n : Nat) (fa : List He.Fa) (fn : List He.DefD) (ex : PySem.W.Frag → Bool) (g : Addr → Option Obj) : AlE := obsE fa fn ex (He.frG g (He.asD g n))
def hookE (n : Nat) (fa : List He.Fa) (fn : List He.DefD) (ex : PySem.W.Frag → Bool) : PySem.W.Hook where
  α := AlE
  obs := fun s => obsEG n fa fn ex s.heap.get?
  val := fun _ => (true, He.valD fn)
  says := fun _ h => ∃ K : PySem.W.Frag, K.In h ∧ ex K = true ∧ He.SaysD fa fn K
  of := fun _ _ e => ⟨_, He.frG_in, congrArg (fun z : AlE => z.1) e, congrArg (fun z : AlE => z.2) e⟩
  keeps := fun _ _ _ ⟨K, hK, h1, c⟩ kk => ⟨K, PySem.W.Frag.In.keeps hK kk, h1, c⟩
theorem obsEG_eq {n : Nat} {fa : List He.Fa} {fn : List He.DefD} {ex : PySem.W.Frag → Bool} {g : Addr → Option Obj} {s : Shared} (h : ∀ a, g a = s.heap.get? a) : obsEG n fa fn ex g = (hookE n fa fn ex).obs s := by
  have e : g = s.heap.get? := funext h
  rw [e]; rfl
def clsBody : Stmt → List Stmt
  | .ClassDef _ _ _ b _ _ _ _ _ _ _ => b
  | _ => []
end Hd

namespace Hd
open PySem PySem.Spec L2
theorem kc_nil {p : Pr} {kn : List Ec} : ∀ c t, ([] : List (Ec × Tx)).lookup c = some t → c ∈ kn ∧ Cl p c t := fun _ _ h => nomatch h
theorem kc_cons {p : Pr} {kn : List Ec} {c0 : Ec} {t0 : Tx} {l : List (Ec × Tx)} (h1 : c0 ∈ kn) (h2 : Cl p c0 t0) (h : ∀ c t, l.lookup c = some t → c ∈ kn ∧ Cl p c t) : ∀ c t, ((c0, t0) :: l).lookup c = some t → c ∈ kn ∧ Cl p c t := by
  intro c t e
  rw [List.lookup_cons] at e
  by_cases q : c = c0
  · subst q
    simp at e
    subst e
    exact ⟨h1, h2⟩
  · have : (c == c0) = false := by simpa using q
    rw [this] at e
    exact h c t e
end Hd

namespace Hd
open PySem PySem.Spec L2
section
variable {p : Pr} {sc : Scope} {NN VV GG : List Str} {k : Nat} {g : G} {α : Type} {S : Ty α}
theorem eqvN_l {x : PyData} (h : x ≠ .none) : PyData.eqv .none x = false := by cases x <;> first | rfl | exact absurd rfl h | simp [PyData.eqv]
theorem eqvN_r {x : PyData} (h : x ≠ .none) : PyData.eqv x .none = false := by cases x <;> first | rfl | exact absurd rfl h | simp [PyData.eqv]
/-- None or a thing -/
def dOpt (D : Deep S) (h : ∀ d, D.pd d ≠ .none) : Deep (tOpt S) := ⟨fun d => match d with | none => .none | some d => D.pd d, D.dp, fun {K d v R H} rb r => by
    cases d with
    | none => cases (show v = .non from r); exact ⟨.non, rfl⟩
    | some d => exact D.rep rb r.1, fun d => by
    cases d with
    | none => simp [PyData.depth]
    | some d => exact D.dep d, fun d e => by
    cases d with
    | none => cases e with
      | none => simp [PyData.eqv]
      | some e => simp [eqvN_l (h e)]
    | some d => cases e with
      | none => simp [eqvN_r (h d)]
      | some e => simpa using D.eqv d e⟩
def memD {α : Type} [DecidableEq α] (x : α) (xs : List α) : Bool := decide (x ∈ xs)
theorem any_eqv [DecidableEq α] (D : Deep S) (d : α) : ∀ ds : List α, ((ds.map D.pd).any fun z => PyData.eqv z (D.pd d)) = memD d ds
  | [] => by simp [memD]
  | e :: ds => by
    rw [List.map_cons, List.any_cons, any_eqv D d ds, D.bq]
    unfold memD
    by_cases h : e = d
    · subst h; simp
    · have : ¬ d = e := fun z => h z.symm
      simp [h, this]
theorem c_inD [DecidableEq α] (ok : Ok p sc NN VV GG k g) (D : Deep S) (hd : D.dp + 1 ≤ 64) : CmpOk p g.X .In S (tList S) (fun x xs => memD x xs) := ⟨rInD p.K, by rw [← ok.K]; exact op_inD (by have := ok.room.un; omega), ⟨fun {d e x y R H Q} rb rx ry q => by
  obtain ⟨a1, a2⟩ := D.rep rb rx
  obtain ⟨b1, b2⟩ := (dList D).rep rb ry
  exact ⟨_, _, a1, b1, D.sh (Nat.le_trans (Nat.le_succ _) hd) a2, (dList D).sh hd b2, q _ _ (Same.refl _) (by show _ = V.bl _; rw [any_eqv])⟩⟩⟩
theorem c_notinD [DecidableEq α] (ok : Ok p sc NN VV GG k g) (D : Deep S) (hd : D.dp + 1 ≤ 64) : CmpOk p g.X .NotIn S (tList S) (fun x xs => !memD x xs) := ⟨rNotInD p.K, by rw [← ok.K]; exact op_notInD (by have := ok.room.un; omega), ⟨fun {d e x y R H Q} rb rx ry q => by
  obtain ⟨a1, a2⟩ := D.rep rb rx
  obtain ⟨b1, b2⟩ := (dList D).rep rb ry
  exact ⟨_, _, a1, b1, D.sh (Nat.le_trans (Nat.le_succ _) hd) a2, (dList D).sh hd b2, q _ _ (Same.refl _) (by show _ = V.bl _; rw [any_eqv])⟩⟩⟩
variable {L : List Slot} {a b : Expr} {md md' : Md} {pos : Pos}
theorem evt_isN {m : M (Option α)} {j1 : Nat} {p1 : Pos} (ok : Ok p sc NN VV GG k g) (ha : EvE g L a md (tOpt S) m) : EvT g L (.Compare a [.Is] [.Constant .none j1 p1] pos) (m.bind fun d => .ok d.isNone) := by
  have h := evt_cmp (fr := true) (pos := pos) (S := tOpt S) (T := tNone) (f := fun d _ => .ok d.isNone) ok op_isN ⟨fun {d e x y R H W} rb rx ry q => ⟨ry, q _ _ (Same.refl _) (by
    show _ = V.bl _
    cases d with
    | none => cases (show x = .non from rx); rfl
    | some d => rw [decide_eq_false rx.2]; rfl)⟩⟩ (fun _ _ _ h => nomatch h) ha (ev_none (j := j1) (pos := p1)) (by first | exact nomark _ (by decide) (by decide) | rfl)
  have e : (m.bind fun d => (M.ok ()).bind fun _ => M.ok d.isNone) = m.bind fun d => .ok d.isNone := by cases m <;> rfl
  rwa [e] at h
theorem evt_notN {m : M (Option α)} {j1 : Nat} {p1 : Pos} (ok : Ok p sc NN VV GG k g) (ha : EvE g L a md (tOpt S) m) : EvT g L (.Compare a [.IsNot] [.Constant .none j1 p1] pos) (m.bind fun d => .ok d.isSome) := by
  have h := evt_cmp (fr := true) (pos := pos) (S := tOpt S) (T := tNone) (f := fun d _ => .ok d.isSome) ok op_notN ⟨fun {d e x y R H W} rb rx ry q => ⟨ry, q _ _ (Same.refl _) (by
    show _ = V.bl _
    cases d with
    | none => cases (show x = .non from rx); rfl
    | some d => rw [decide_eq_false rx.2]; rfl)⟩⟩ (fun _ _ _ h => nomatch h) ha (ev_none (j := j1) (pos := p1)) (by first | exact nomark _ (by decide) (by decide) | rfl)
  have e : (m.bind fun d => (M.ok ()).bind fun _ => M.ok d.isSome) = m.bind fun d => .ok d.isSome := by cases m <;> rfl
  rwa [e] at h
theorem evt_inS {m1 m2 : M Tx} (ok : Ok p sc NN VV GG k g) (ha : EvE g L a md tStr m1) (hb : EvE g L b md tStr m2) (hk : behindInMarks .In b = false := by first | exact nomark _ (by decide) (by decide) | rfl) : EvT g L (.Compare a [.In] [b] pos) (m1.bind fun x => m2.bind fun y => inSM x y) :=
  evt_cmp (fr := true) ok op_in_sign ⟨fun {d e x y R H Q} rb rx ry q => by
    unfold inSM at q
    split at q
    · rename_i c
      exact ⟨c, toS e, rx.1, ry.1, q _ _ (Same.refl _) (by show V.bl _ = V.bl _; rw [show (toS e).cps.toList = e from tl_toS e])⟩
    · exact q.elim⟩ (fun _ _ _ => inSM_ne) ha hb hk
theorem evt_notinS {m1 m2 : M Tx} (ok : Ok p sc NN VV GG k g) (ha : EvE g L a md tStr m1) (hb : EvE g L b md tStr m2) (hk : behindInMarks .NotIn b = false := by first | exact nomark _ (by decide) (by decide) | rfl) : EvT g L (.Compare a [.NotIn] [b] pos) (m1.bind fun x => m2.bind fun y => notinSM x y) :=
  evt_cmp (fr := true) ok op_notIn_sign ⟨fun {d e x y R H Q} rb rx ry q => by
    unfold notinSM at q
    split at q
    · rename_i c
      exact ⟨c, toS e, rx.1, ry.1, q _ _ (Same.refl _) (by show V.bl _ = V.bl _; rw [show (toS e).cps.toList = e from tl_toS e])⟩
    · exact q.elim⟩ (fun _ _ _ => notinSM_ne) ha hb hk
end
end Hd

namespace Hd
open PySem PySem.Spec L2
section
variable {X : Cx} {p : Pr} {sc : Scope} {NN VV GG : List Str} {k : Nat} {g : G} {L : List Slot} {a b e tg : Expr} {md md' : Md} {pos pp : Pos} {j : Nat} {α β : Type} {S : Ty α} {T : Ty β}
/-! ### text * number -/
theorem flat_arr (d : Tx) : ∀ n : Nat, ((List.replicate n d.toArray).foldl (· ++ ·) #[]) = (List.replicate n d).flatten.toArray := by
  have key : ∀ (n : Nat) (acc : Array Nat), ((List.replicate n d.toArray).foldl (· ++ ·) acc) = acc ++ (List.replicate n d).flatten.toArray := by
    intro n
    induction n with
    | zero => intro acc; simp
    | succ n ih => intro acc; rw [List.replicate_succ, List.foldl_cons, ih, List.replicate_succ, List.flatten_cons]; simp
  intro n
  rw [key n]
  simp
theorem flat_len {α : Type} (d : List α) : ∀ n : Nat, (List.replicate n d).flatten.length = d.length * n
  | 0 => by simp
  | n + 1 => by rw [List.replicate_succ, List.flatten_cons, List.length_append, flat_len d n, Nat.mul_succ, Nat.add_comm]
def rRepS : R2 := fun x y H Q => ∃ (d : Tx) (n : Int), x = .str (toS d) ∧ y = .int n ∧ -(2 ^ 63) ≤ n ∧ n < 2 ^ 63 ∧ d.length * n.toNat ≤ sizeLine ∧ Q (.str (toS (List.replicate n.toNat d).flatten)) H
theorem op_rep_str : OpR X (binaryOp .Mult) rRepS := by
  intro pins s σ H x y v u Q I rx ry h
  obtain ⟨d, n, rfl, rfl, h1, h2, h3, q⟩ := h
  obtain ⟨t, rfl⟩ := rx
  obtain ⟨t', rfl⟩ := ry
  have hz : sizeLine < 2 ^ 40 := by decide
  have hl : (toS d).length = d.length := toS_len d
  refine P.mul_str (by simp; omega) (fun a b => ?_) (fun a b => ?_) ?_
  · rw [hl]
    intro z
    have hn : 0 < n := by omega
    have : ((2 ^ 63 - 1 : Int)) / n < d.length := z
    have h4 := (Int.ediv_lt_iff_lt_mul hn).mp this
    have h5 : ((d.length * n.toNat : Nat) : Int) = (d.length : Int) * n := by push_cast; rw [Int.toNat_of_nonneg (by omega)]
    omega
  · rw [hl]; show decide (_ > sizeLine) = false; exact decide_eq_false (by omega)
  · by_cases c : n < 1
    · rw [if_pos c]
      have e : n.toNat = 0 := by omega
      rw [e] at q
      exact ⟨by decide, ⟨.str (toS (List.replicate 0 d).flatten), H, I.tok _, ⟨_, rfl⟩, q⟩⟩
    · rw [if_neg c]
      by_cases c2 : (n == 1 || (toS d).length == 0) = true
      · rw [if_pos c2]
        have e : (List.replicate n.toNat d).flatten = d := by
          rw [hl] at c2
          simp only [Bool.or_eq_true, beq_iff_eq] at c2
          rcases c2 with e | e
          · subst e; simp
          · have : d = [] := List.length_eq_zero_iff.mp e
            subst this
            simp
        rw [e] at q
        exact ⟨.str (toS d), H, I, ⟨_, rfl⟩, q⟩
      · rw [if_neg c2]
        refine ⟨?_, ⟨.str (toS (List.replicate n.toNat d).flatten), H, I.tok _, ⟨s.toks, ?_⟩, q⟩⟩
        · show _ ≤ sizeLine
          have e : (⟨(List.replicate n.toNat (toS d).cps).foldl (· ++ ·) #[]⟩ : Str) = toS (List.replicate n.toNat d).flatten := congrArg Str.mk (flat_arr d n.toNat)
          rw [e, toS_len, flat_len]
          omega
        · show Value.str _ _ = Value.str _ _
          congr 1
          show Str.mk _ = Str.mk _
          congr 1
          exact flat_arr d n.toNat
def repS (x : Tx) (n : Int) : M Tx := if -(2 ^ 63) ≤ n ∧ n < 2 ^ 63 ∧ x.length * n.toNat ≤ sizeLine then .ok (List.replicate n.toNat x).flatten else .no
theorem repS_ne {x : Tx} {n : Int} {c : Ec} : repS x n ≠ .ex c := by unfold repS; split <;> exact fun h => nomatch h
theorem ev_repS {ma : M Tx} {mb : M Int} (ok : Ok p sc NN VV GG k g) (ha : EvE g L a md tStr ma) (hb : EvE g L b md tInt mb) : EvE g L (.BinOp a .Mult b pos) md' tStr (ma.bind fun x => mb.bind fun n => repS x n) :=
  ev_op2 (fr := true) ok op_rep_str ⟨fun {d e x y R H Q} rb rx ry q => by
    unfold repS at q
    split at q
    · rename_i h
      refine ⟨d, e, rx.1, ry, h.1, h.2.1, h.2.2, q _ _ (Same.refl _) ⟨rfl, ?_, fun c hc => ?_⟩⟩
      · rw [flat_len]; exact h.2.2
      · obtain ⟨l, hl, hc⟩ := List.mem_flatten.mp hc
        rw [(List.mem_replicate.mp hl).2] at hc
        exact rx.2.2 c hc
    · exact q.elim⟩ (fun _ _ _ => repS_ne) .fresh ha hb
end
end Hd

namespace Hd
open PySem PySem.Spec PyProof.Rows L2
section
variable {p : Pr} {sc : Scope} {NN VV GG : List Str} {k : Nat} {g : G} {L : List Slot} {a b e tg : Expr} {md md' : Md} {pos pp : Pos} {j : Nat} {α β δ : Type} {S : Ty α} {T : Ty β} {A : Ar δ}
/-! ### tuples: how long, walked -/
theorem ev_lenT {n : Nat} {m : M δ} (ok : Ok p sc NN VV GG k g) (hA : ∀ {d vs R}, A.rep d vs R → vs.length = n) (hG : GG[j]? = some "len") (hmg : p.mg "len" = none) (ha : EvE g L e md (tTup A) m) (hs : starEach [e] g.X.env = (false, eval e g.X.env) :: starEach [] g.X.env := by rfl) : EvE g L (.Call (.Name "len" pp) [e] [] pos) md' tInt (m.bind fun _ => .ok (n : Int)) :=
  ev_b1 (S := tTup A) (fr := true) ok call_len_seq (fun {d v R H W} rb ⟨a, vs, e, h, r⟩ q => by
    exact ⟨a, vs, by rw [e], .inr (by rw [ok.K]; exact st_of rb h), q _ _ (Same.refl _) (by show _ = V.int _; rw [hA r])⟩) (fun _ _ h => nomatch h) .fresh hG hmg PySem.boot_len ha hs
structure HomA (A : Ar δ) (S : Ty α) (f : δ → List α) : Prop where
  r : ∀ {d vs R}, A.rep d vs R → Reps S R (f d) vs
theorem hom0 : HomA aNil S (fun _ => []) := ⟨fun {d vs R} h => by cases (show vs = [] from h); exact .nil⟩
theorem homS {f : δ → List α} (h : HomA A S f) : HomA (aCons S A) S (fun d => d.1 :: f d.2) := ⟨fun {d vs R} q => by
  obtain ⟨v, r, e, h1, h2⟩ := q
  subst e
  exact .cons h1 (h.r h2)⟩
theorem evi_tupL {m : M (List α)} (ok : Ok p sc NN VV GG k g) (he : EvE g L e md (tTupL S) m) : EvI g L tg e S m := by
  refine PI.imp (pi_tup he) fun σ H R ⟨kp, own, at_, q⟩ => ?_
  refine tE_iff.mpr ⟨kp, own, at_, ?_⟩
  cases m with
  | ok xs =>
    rintro v H' s ⟨a, vs, rfl, h, r⟩
    have hk : RD g.fm own H' a (.tup vs) := RX.sh a _ h
    have rb0 : Rdb p.K (RD g.fm own H') H' := by rw [← ok.fmK]; exact RD.rdb
    refine ⟨a, rfl, ⟨vs, by rw [ok.K]; exact st_of rb0 hk⟩, ?_⟩
    rw [show Itt g.X.K a = Itt g.fm.K a from by rw [ok.K, ok.fmK]]
    refine q (Itt g.fm.K a) H' s fun H2 rb i => ?_
    have hs : SqT g.fm.K H2 a vs := st_of rb hk
    refine ⟨fun d hd => ?_, fun hn => ⟨vs, hs, ?_⟩⟩
    · obtain ⟨v, h1, h2⟩ := r.get hd
      refine ⟨⟨vs, v, hs, h1⟩, fun x H3 ⟨e, hx⟩ => ?_⟩
      subst e
      have := hx vs hs
      rw [h1] at this
      cases this
      exact ⟨Same.refl _, S.mono h2 fun a o z => .inl ⟨rfl, RX.sh a o z⟩⟩
    · rw [List.getElem?_eq_none_iff, r.length] at hn
      exact hn
  | ex c => exact q
  | no => exact q
theorem evi_tupH {f : δ → List α} {m : M δ} (ok : Ok p sc NN VV GG k g) (hA : HomA A S f) (he : EvE g L e md (tTup A) m) : EvI g L tg e S (m.bind fun d => .ok (f d)) :=
  evi_tupL (S := S) ok (ev_as (S := tTup A) (T := tTupL S) (d2 := f) (fun d v R ⟨a, vs, e, h, r⟩ => ⟨a, vs, e, h, hA.r r⟩) he)
/-! ### enumerate(text) -/
def ItEs (x : Str) : It := ⟨fun i _ => i < x.cps.size, fun i H v H' => ∃ T c, v = .ref T ∧ H T = none ∧ H' = upd H T (.tup [.int (i : Nat), .str ⟨#[c]⟩]) ∧ x.cps[i]? = some c, fun i _ => x.cps.size ≤ i⟩
theorem turn_enumS {P : Program} {w : World} {K : PySem.W.Frag} {elts : List Expr} {kk : Nat} {tpos : Pos} (e it : Addr) (x : Str) (t : Tok) (ty : String) (hty : ty = "str_ascii_iterator" ∨ ty = "str_iterator") :
    Turn P w K (.Tuple elts kk tpos) (ItEs x) [e, it] e (fun i h => (∃ old, IsEnum h e it ((i : Nat) : Int) old) ∧ h.IsStrIter it ty x t i ∧ e ≠ it ∧ i ≤ x.cps.size) where
  mem := by simp
  obj := fun i h st b hb => by
    obtain ⟨⟨old, he⟩, ⟨o, ho, hc, hd⟩, _⟩ := st
    have e' : b = e ∨ b = it := by simpa using hb
    rcases e' with z | z
    · rw [z]; exact ⟨_, he, fun v q => nomatch q⟩
    · rw [z]; exact ⟨o, ho, fun v q => by rw [hd] at q; cases q⟩
  keep := fun i h h' st k => let ⟨⟨old, he⟩, ⟨o, ho, r⟩, hne⟩ := st; ⟨⟨old, k e (by simp) _ he⟩, ⟨o, k it (by simp) o ho, r⟩, hne⟩
  item := by
    intro X hP hw hK hc i pins s σ H E I hf st hg
    subst hP hw hK
    obtain ⟨⟨old, he⟩, hit, hne, hle⟩ := st
    have D : Draws X.prog X.w X.A.in1 it [it] x.cps.size (fun i v => ∃ c u, x.cps[i]? = some c ∧ v = .str ⟨#[c]⟩ u) (fun i h => h.IsStrIter it ty x t i) := by
      rcases hty with e | e
      · rw [e]; exact Draws.strAscii (A := X.A.in1) (I.ok.hd hc) it x t
      · rw [e]; exact Draws.strWide (A := X.A.in1) (I.ok.hd hc) it x t
    have hel : e < s.heap.objs.size := Heap.lt_size he
    have hil : it < s.heap.objs.size := by obtain ⟨_, q, _⟩ := hit; exact Heap.lt_size q
    refine wpAny_pyNext_enum_itemD D he hit hg hne (by simpa using hne) fun u h' tk hP ho hit' hT hsz hk => ?_
    obtain ⟨c, t2, hcx, rfl⟩ := hP
    refine ⟨_, rfl, wpAny_letOwnedTupleGo_enum (s := { s with heap := h', toks := tk + 1 }) ho fun h'' he' sb => ?_⟩
    have hT2 : h''.get? s.heap.objs.size = some { cls := .type "tuple", data := .seq #[.int i tk, .str ⟨#[c]⟩ t2] } := (sb.2 _ (Nat.ne_of_gt hel)).trans hT
    have new : ObjOk X.prog X.w (upd H s.heap.objs.size (.tup [.int (i : Nat), .str ⟨#[c]⟩])) h'' s.heap.objs.size (.tup [.int (i : Nat), .str ⟨#[c]⟩]) :=
      ⟨by show 2 ≤ sizeLine; decide, [.int i tk, .str ⟨#[c]⟩ t2], .cons ⟨_, rfl⟩ (.cons ⟨_, rfl⟩ .nil), ⟨_, hT2, rfl, _, rfl⟩⟩
    have I1 : Inv X pins σ (upd H s.heap.objs.size (.tup [.int (i : Nat), .str ⟨#[c]⟩])) { s with heap := h'', toks := tk + 1 } :=
      I.turnedNew (ch := [e, it]) (fun b ob hb q => (sb.2 b (fun z => hb (by simp [z]))).trans (hk b ob (fun z => hb (by simp [z])) (fun z => hb (by simp [z])) q)) hf (Nat.le_refl _) new
    refine ⟨.ref s.heap.objs.size, _, I1, rfl, ⟨_, c, rfl, I.hok.fresh (Nat.le_refl _), rfl, hcx⟩, ⟨⟨.str ⟨#[c]⟩ t2, ?_⟩, D.frame _ _ _ hit' fun b hb o q => (sb.2 b (fun z => hne (by rw [← z]; simpa using hb))).trans q, hne, hg⟩, fun b hb => ?_⟩
    · have e1 : ((i + 1 : Nat) : Int) = (i : Int) + 1 := by omega
      rw [e1]; exact he'
    · have hb' : b < s.heap.objs.size := by
        have e' : b = e ∨ b = it := by simpa using hb
        rcases e' with z | z
        · rw [z]; exact hel
        · rw [z]; exact hil
      rw [upd_ne (Nat.ne_of_lt hb')]
      exact (hf b hb).1
  done := by
    intro X hP hw hK hc i pins s σ H E I hf st hg
    subst hP hw hK
    obtain ⟨⟨old, he⟩, hit, hne, hle⟩ := st
    have D : Draws X.prog X.w X.A.in1 it [it] x.cps.size (fun i v => ∃ c u, x.cps[i]? = some c ∧ v = .str ⟨#[c]⟩ u) (fun i h => h.IsStrIter it ty x t i) := by
      rcases hty with e | e
      · rw [e]; exact Draws.strAscii (A := X.A.in1) (I.ok.hd hc) it x t
      · rw [e]; exact Draws.strWide (A := X.A.in1) (I.ok.hd hc) it x t
    obtain ⟨f0, f1, f2, f3, f4, f5⟩ := hf it (by simp)
    have e1 : i = x.cps.size := Nat.le_antisymm hle hg
    subst e1
    exact wpAny_pyNext_enum_endD D he hit fun h' eb => ⟨rfl, I.turned (t' := s.toks) (fun b o hb q => eb b o hb q) f0 f1 f3 f4 f5⟩
  self := fun A i s Q E st h => let ⟨⟨_, he⟩, _⟩ := st; wpAny_pyIter_enum he h
def iEnumS (ta : TA) : TI := fun σ H R => ta σ H fun vs H1 => ∃ x, vs = [.str x] ∧ R (ItEs x) H1
theorem pi_enumS {X : Cx} {e : Expr} {ta : TA} {p pos tpos : Pos} {elts : List Expr} {kk : Nat} (hg : Gl X "enumerate") (hm : X.mg "enumerate" = none) (ha : PA X [e] ta) (hs : starEach [e] X.env = [(false, eval e X.env)] := by rfl) :
    PI X (.Tuple elts kk tpos) (.Call (.Name "enumerate" p) [e] [] pos) (iEnumS ta) := by
  refine ⟨fun pins s σ H R I h => ?_⟩
  refine Call_ (ld_blt I hg hm boot_enumerate (PyProof.Rows.callWith_type1 (thn (ha.run pos pins s σ H _ I h) fun us s1 ⟨vs, H1, I1, r1, q1⟩ => ?_) hs rfl))
  obtain ⟨x, ex, q⟩ := q1
  subst ex
  cases r1 with
  | cons r rr =>
    cases rr
    obtain ⟨t, rfl⟩ := r
    refine call_enumerate_str fun h' he hit hsz hk => wpAny_pyIter_enum he ?_
    have I2 : Inv X pins σ H1 { s1 with heap := h' } := I1.kept (t' := s1.toks) hk
    refine ⟨s1.heap.objs.size + 1, [s1.heap.objs.size + 1, s1.heap.objs.size], _, _, H1, rfl, I2, turn_enumS (s1.heap.objs.size + 1) s1.heap.objs.size x t (strIterType x) ?_, ⟨⟨.none, he⟩, hit, Nat.succ_ne_self _, Nat.zero_le _⟩, fun b hb => ?_, q⟩
    · unfold strIterType
      split
      · exact .inl rfl
      · exact .inr rfl
    · have e' : b = s1.heap.objs.size + 1 ∨ b = s1.heap.objs.size := by simpa using hb
      have hle : s1.heap.objs.size ≤ b := by
        rcases e' with z | z
        · rw [z]; exact Nat.le_add_right _ _
        · rw [z]; exact Nat.le_refl _
      exact I1.fpOk hle (I1.hok.fresh hle)
theorem evi_enumS {m : M Tx} {elts : List Expr} {kk : Nat} {tpos : Pos} (ok : Ok p sc NN VV GG k g) (hG : GG[j]? = some "enumerate") (hmg : p.mg "enumerate" = none) (ha : EvE g L a md tStr m) (hs : starEach [a] g.X.env = (false, eval a g.X.env) :: starEach [] g.X.env := by rfl) :
    EvI g L (.Tuple elts kk tpos) (.Call (.Name "enumerate" pp) [a] [] pos) (tTup (aCons tInt (aCons tStr aNil))) (m.bind fun x => .ok (enumL (x.map fun c => [c]))) := by
  obtain ⟨hg, ho⟩ := ok.gl hG
  refine PI.imp (pi_enumS hg (by rw [ok.mg]; exact hmg) (eva_cons ha eva_nil hs) hs) fun σ H R ⟨kp, own, at_, q⟩ => ?_
  refine tA_iff.mpr ⟨kp, own, at_, ?_⟩
  cases m with
  | ok xs =>
    rintro vs H' s ⟨v, r, rfl, ⟨rfl, hok⟩, e3⟩
    cases (show r = [] from e3)
    refine ⟨toS xs, rfl, q (ItEs (toS xs)) H' s fun H2 rb i => ?_⟩
    unfold enumL
    rw [List.getElem?_mapIdx, List.getElem?_map]
    refine ⟨fun d hd => ?_, fun hn => ?_⟩
    · cases hx : xs[i]? with
      | none => rw [hx] at hd; cases hd
      | some c =>
        rw [hx] at hd
        cases hd
        have hlt := (List.getElem?_eq_some_iff.mp hx).1
        have hcx : (toS xs).cps[i]? = some c := by
          show xs.toArray[i]? = some c
          simpa using hx
        refine ⟨by show i < xs.toArray.size; simpa using hlt, fun x H3 ⟨T, y, e1, e2, e3, hy⟩ => ?_⟩
        subst e1; subst e3
        rw [hcx] at hy
        cases hy
        refine ⟨newSame e2, T, _, rfl, .inr ⟨cl_of upd_same, e2⟩, .int (i : Nat), _, rfl, rfl, _, [], rfl, ⟨rfl, by show 1 ≤ sizeLine; decide, fun z hz => ?_⟩, rfl⟩
        rw [List.mem_singleton.mp hz]
        exact hok.2 c (List.mem_of_getElem? hx)
    · show (toS xs).cps.size ≤ i
      cases hx : xs[i]? with
      | none => rw [List.getElem?_eq_none_iff] at hx; show xs.toArray.size ≤ i; simpa using hx
      | some d0 => rw [hx] at hn; cases hn
  | ex c => exact q
  | no => exact q
end
end Hd

namespace Hd
open PySem PySem.Spec PyProof.Rows L2
section
variable {X : Cx} {p : Pr}
def rIsB : R2 := fun x y H Q => ∃ a b, x = .bl a ∧ y = .bl b ∧ Q (.bl (decide (a = b))) H
def rNotB : R2 := fun x y H Q => ∃ a b, x = .bl a ∧ y = .bl b ∧ Q (.bl (!decide (a = b))) H
theorem op_isB : OpR X (compareOp .Is) rIsB := by
  intro pins s σ H x y v u Q I rx ry h
  obtain ⟨a, b, rfl, rfl, q⟩ := h
  cases (show v = Value.bool a from rx)
  cases (show u = Value.bool b from ry)
  exact wpAny_is_plain rfl (fin_bl I q (by cases a <;> cases b <;> rfl))
theorem op_notB : OpR X (compareOp .IsNot) rNotB := by
  intro pins s σ H x y v u Q I rx ry h
  obtain ⟨a, b, rfl, rfl, q⟩ := h
  cases (show v = Value.bool a from rx)
  cases (show u = Value.bool b from ry)
  exact wpAny_isNot_plain rfl (fin_bl I q (by cases a <;> cases b <;> rfl))
theorem c_isB : CmpOk p X .Is tBool tBool (fun x y => decide (x = y)) := ⟨_, op_isB, ⟨fun rb rx ry q => ⟨_, _, rx, ry, q _ _ (Same.refl _) rfl⟩⟩⟩
theorem c_isnB : CmpOk p X .IsNot tBool tBool (fun x y => !decide (x = y)) := ⟨_, op_notB, ⟨fun rb rx ry q => ⟨_, _, rx, ry, q _ _ (Same.refl _) rfl⟩⟩⟩
end
end Hd

namespace Hd
open PySem PySem.Spec PyProof.Rows L2
section
variable {p : Pr} {sc : Scope} {NN VV GG : List Str} {k : Nat} {g : G} {L : List Slot} {a b e tg : Expr} {md md' : Md} {pos pp : Pos} {j : Nat} {α β δ : Type} {S : Ty α} {T : Ty β} {A : Ar δ} {X : Cx}
/-! ### range over numbers of any size -/
theorem turn_long {P : Program} {w : World} {K : PySem.W.Frag} {tg : Expr} (it : Addr) (lo : Int) (n : Nat) : Turn P w K tg (Itr lo n) [it] it (fun i h => IsLongIter h it (lo + (i : Nat) * 1) ((n : Int) - (i : Nat)) 1) where
  mem := by simp
  obj := fun i h st b hb => by
    have e : b = it := by simpa using hb
    subst e
    exact ⟨_, st, fun v z => by
      have z' : Data.fields _ = Data.cell v := z
      cases z'⟩
  keep := fun i h h' st k => k it (by simp) _ st
  item := by
    intro X hP hw hK hc i pins s σ H E I hf st hg
    subst hP hw hK
    obtain ⟨f0, f1, f2, f3, f4, f5⟩ := hf it (by simp)
    have W := Walks.longrange (prog := X.prog) (w := X.w) (I.ok.hd hc) it lo 1 n
    refine W.item i s _ _ hg st fun v h' tk hv st' kk => ?_
    obtain ⟨t, rfl⟩ := hv
    have I1 : Inv X pins σ H { s with heap := h', toks := tk } := I.turned (fun b o hb e => kk b o (by simpa using hb) e) f0 f1 f3 f4 f5
    refine ⟨_, rfl, go_of (s := { s with heap := h', toks := tk }) (n := "longrange_iterator") st' rfl rfl (by decide) ⟨.int (lo + i), H, I1, ⟨t, ?_⟩, ⟨rfl, rfl⟩, st', fun b hb => (hf b hb).1⟩⟩
    rw [Int.mul_one]
  done := by
    intro X hP hw hK hc i pins s σ H E I hf st hg
    subst hP hw hK
    obtain ⟨f0, f1, f2, f3, f4, f5⟩ := hf it (by simp)
    exact wpAny_pyNext_long_end (I.ok.hd hc) st (by have : n ≤ i := hg; omega) fun h' eb => ⟨rfl, I.turned (t' := s.toks) (fun b o hb e => eb b o hb e) f0 f1 f3 f4 f5⟩
  self := fun _ _ _ _ _ st h => wpAny_pyIter_longiter st h
theorem range_any {pins : List (Addr × Obj)} {σ : L2.St} {H : Hp} {s : Shared} {R : It → Hp → Prop} {E : Value → Shared → Prop} {lo hi : Int} {t u v : Tok} {tk : Nat} (I : Inv X pins σ H s)
    (q : R (Itr lo (hi - lo).toNat) H) : wpAny (model X.prog X.w) X.A (pyIter (.ref s.heap.objs.size)) (PIE X pins σ tg R) E { s with heap := s.heap.push { cls := .type "range", data := .fields #[.int lo t, .int hi u, .int 1 v] }, toks := tk } := by
  have I1 : Inv X pins σ H { s with heap := s.heap.push { cls := .type "range", data := .fields #[.int lo t, .int hi u, .int 1 v] }, toks := tk } := I.kept fun b o e => Heap.get?_push_of_some _ e
  have e1 : lo + ((0 : Nat) : Int) * 1 = lo := by simp
  have e2 : (((hi - lo).toNat : Nat) : Int) - ((0 : Nat) : Int) = Builtin.Range.rangeSize lo hi 1 := by rw [rangeSize_one]; split <;> omega
  have fp : ∀ b ∈ [(s.heap.push { cls := .type "range", data := .fields #[.int lo t, .int hi u, .int 1 v] }).objs.size], _ := fun b hb => by
    have e : b = (s.heap.push { cls := .type "range", data := .fields #[.int lo t, .int hi u, .int 1 v] }).objs.size := by simpa using hb
    subst e
    exact I1.fpOk (Nat.le_refl _) (I1.hok.fresh (Nat.le_refl _))
  cases hs : Builtin.Range.small lo hi 1 with
  | true =>
    refine wpAny_pyIter_range (IsRange.new ..) hs ?_
    refine ⟨(s.heap.push { cls := .type "range", data := .fields #[.int lo t, .int hi u, .int 1 v] }).objs.size, [(s.heap.push { cls := .type "range", data := .fields #[.int lo t, .int hi u, .int 1 v] }).objs.size], _, _, H, rfl,
      I1.kept (t' := tk) fun b o e => Heap.get?_push_of_some _ e, turn_range _ lo (hi - lo).toNat, ?_, fp, q⟩
    show IsRangeIter _ _ (lo + ((0 : Nat) : Int) * 1) ((((hi - lo).toNat : Nat) : Int) - ((0 : Nat) : Int)) 1
    rw [e1, e2]
    exact Heap.get?_push_size _ rfl
  | false =>
    refine wpAny_pyIter_longrange (IsRange.new ..) hs ?_
    refine ⟨(s.heap.push { cls := .type "range", data := .fields #[.int lo t, .int hi u, .int 1 v] }).objs.size, [(s.heap.push { cls := .type "range", data := .fields #[.int lo t, .int hi u, .int 1 v] }).objs.size], _, _, H, rfl,
      I1.kept (t' := tk) fun b o e => Heap.get?_push_of_some _ e, turn_long _ lo (hi - lo).toNat, ?_, fp, q⟩
    show IsLongIter _ _ (lo + ((0 : Nat) : Int) * 1) ((((hi - lo).toNat : Nat) : Int) - ((0 : Nat) : Int)) 1
    rw [e1, e2]
    exact Heap.get?_push_size _ rfl
def iRngB (ta : TA) : TI := fun σ H R => ta σ H fun vs H1 => ∃ i j : Int, vs = [.int i, .int j] ∧ R (Itr i (j - i).toNat) H1
theorem pi_rangeB {a b : Expr} {ta : TA} {p pos : Pos} (hg : Gl X "range") (hm : X.mg "range" = none) (ha : PA X [a, b] ta) (hs : starEach [a, b] X.env = [(false, eval a X.env), (false, eval b X.env)] := by rfl) (hs2 : starEach [b] X.env = [(false, eval b X.env)] := by rfl) :
    PI X tg (.Call (.Name "range" p) [a, b] [] pos) (iRngB ta) := by
  refine ⟨fun pins s σ H R I h => ?_⟩
  refine Call_ (ld_blt I hg hm boot_range (PyProof.Rows.callWith_type1 (thn (ha.run pos pins s σ H _ I h) fun us s1 ⟨vs, H1, I1, r1, q1⟩ => ?_) (by rw [hs, hs2]) (by rw [hs2]; rfl)))
  obtain ⟨i, j, e, q⟩ := q1
  subst e
  cases r1 with
  | cons r rr =>
    cases rr with
    | cons r' rr =>
      cases rr
      obtain ⟨t, rfl⟩ := r
      obtain ⟨t', rfl⟩ := r'
      exact call_range_2 (range_any I1 q)
theorem evi_rangeB {j : Nat} {m1 m2 : M Int} {pp : Pos} (ok : Ok p sc NN VV GG k g) (hG : GG[j]? = some "range") (hmg : p.mg "range" = none) (ha : EvE g L a md tInt m1) (hb : EvE g L b md tInt m2)
    (hs1 : starEach [a, b] g.X.env = (false, eval a g.X.env) :: starEach [b] g.X.env := by rfl) (hs2 : starEach [b] g.X.env = (false, eval b g.X.env) :: starEach [] g.X.env := by rfl) :
    EvI g L tg (.Call (.Name "range" pp) [a, b] [] pos) tInt (m1.bind fun lo => m2.bind fun hi => .ok (upFrom lo (hi - lo).toNat)) := by
  obtain ⟨hg, ho⟩ := ok.gl hG
  refine PI.imp (pi_rangeB hg (by rw [ok.mg]; exact hmg) (eva_cons ha (eva_cons hb eva_nil hs2) hs1) (by rw [hs1, hs2]; rfl) (by rw [hs2]; rfl)) fun σ H R ⟨kp, own, at_, q⟩ => ?_
  refine tA_iff.mpr ⟨kp, own, at_, ?_⟩
  cases m1 with
  | ok lo =>
    cases m2 with
    | ok hi =>
      rintro vs H' s ⟨v, r, rfl, rfl, v2, r2, rfl, rfl, e3⟩
      cases (show r2 = [] from e3)
      exact ⟨lo, hi, rfl, q _ H' s itr_ok⟩
    | ex c => exact q
    | no => exact q
  | ex c => exact q
  | no => exact q
/-- a part of a tuple of one kind, the place a number -/
theorem ev_ixH {f : δ → List α} {m : M δ} {mi : M Int} (ok : Ok p sc NN VV GG k g) (hA : HomA A S f) (ha : EvE g L a md (tTup A) m) (hb : EvE g L b md tInt mi) (hs : PlainIx b := by exact fun _ _ => rfl) : EvE g L (.Subscript a b pos) md S (m.bind fun d => mi.bind fun i => getM (f d) i) := by
  have h := ev_ix (pos := pos) (S := tTupL S) (T := tInt) (U := S) (r := rIxT p.K) (f := getM) (fr := false) ok (by rw [← ok.K]; exact ix_tup) o_ixT (fun _ _ _ => getM_ne) .same (ev_as (S := tTup A) (T := tTupL S) (d2 := f) (fun d v R ⟨a, vs, e, h, r⟩ => ⟨a, vs, e, h, hA.r r⟩) ha) hb hs
  have e : ((m.bind fun d => .ok (f d)).bind fun x => mi.bind fun i => getM x i) = m.bind fun d => mi.bind fun i => getM (f d) i := by cases m <;> rfl
  rwa [e] at h
end
end Hd

namespace Hd
open PySem PySem.Spec PyProof.Rows L2
section
variable {p : Pr} {sc : Scope} {NN VV GG : List Str} {k : Nat} {g : G} {L : List Slot} {a b e tg : Expr} {md md' : Md} {pos pp : Pos} {j : Nat} {α β δ : Type} {S : Ty α} {T : Ty β} {Q : Ty (List α)}
/-! ### zip(list, text) -/
theorem draws_stop {prog : Program} {w : World} {A : Around} (hh : A.handled = none) (it l : Addr) (hne : l ≠ it) (items : Array Value) (i : Nat) (hi : items[i]? = none) :
    Draws prog w A it [it, l] i (fun _ _ => True) (fun j h => j = i ∧ h.IsListIter it l j ∧ h.IsList l items) where
  live := fun _ _ st => let ⟨o, ho, _⟩ := st.2.1; ⟨o, ho⟩
  frame := fun _ _ _ st hk => ⟨st.1, st.2.1.at fun o e => hk it (by simp) o e, st.2.2.at fun o e => hk l (by simp) o e⟩
  item := fun j s Q E hj st hQ => absurd st.1 (Nat.ne_of_lt hj)
  done := fun s Q E st hE => wpAny_nextOf_list_end hh st.2.1 st.2.2 hi hE
def ItzS (K : PySem.W.Frag) (a : Addr) (x : Str) : It :=
  ⟨fun i H => ∃ (xs : List V) (v : V), SqL K H a xs ∧ xs[i]? = some v ∧ i < x.cps.size,
    fun i H v H' => ∃ T u c, v = .ref T ∧ H T = none ∧ H' = upd H T (.tup [u, .str ⟨#[c]⟩]) ∧ (∀ xs, SqL K H a xs → xs[i]? = some u) ∧ x.cps[i]? = some c,
    fun i H => ∃ xs : List V, SqL K H a xs ∧ (xs.length ≤ i ∨ x.cps.size ≤ i)⟩
theorem turn_zipS {P : Program} {w : World} {K : PySem.W.Frag} {elts : List Expr} {kk : Nat} {tpos : Pos} {a z TI TO i1 i2 : Addr} {x : Str} {t : Tok} (D : ZipSep2 z TI TO i1 i2 [i1, a] [i2]) (hai : a ≠ i1) :
    Turn P w K (.Tuple elts kk tpos) (ItzS K a x) [z, TI, TO, i1, i2] z (fun i h => IsZip h z TI TO .none ∧ IsTupOf2 h TI (.ref i1) (.ref i2) ∧ (∃ p q, IsTupOf2 h TO p q) ∧ h.IsListIter i1 a i ∧ h.IsStrIter i2 (strIterType x) x t i ∧ i ≤ x.cps.size) where
  mem := by simp
  obj := fun i h st c hc => by
    obtain ⟨hz, hTI, ⟨x, y, hTO⟩, ⟨o1, e1, _, d1⟩, ⟨o2, e2, _, d2⟩, _⟩ := st
    have e' : c = z ∨ c = TI ∨ c = TO ∨ c = i1 ∨ c = i2 := by simpa using hc
    rcases e' with q | q | q | q | q
    · rw [q]; exact ⟨_, hz, fun v q => nomatch q⟩
    · rw [q]; exact ⟨_, hTI, fun v q => nomatch q⟩
    · rw [q]; exact ⟨_, hTO, fun v q => nomatch q⟩
    · rw [q]; exact ⟨o1, e1, fun v q => by rw [d1] at q; cases q⟩
    · rw [q]; exact ⟨o2, e2, fun v q => by rw [d2] at q; cases q⟩
  keep := fun i h h' st k => by
    obtain ⟨hz, hTI, ⟨x, y, hTO⟩, h1, ⟨o2, e2, r2⟩, hle⟩ := st
    exact ⟨k z (by simp) _ hz, k TI (by simp) _ hTI, ⟨x, y, k TO (by simp) _ hTO⟩, h1.at fun o q => k i1 (by simp) o q, ⟨o2, k i2 (by simp) _ e2, r2⟩, hle⟩
  item := by
    intro X hP hw hK hc i pins s σ H E I hf st hg
    subst hP hw hK
    obtain ⟨hz, hTI, ⟨x0, y0, hTO⟩, h1, h2, hle⟩ := st
    obtain ⟨xs, v, hqx, hx, hy⟩ := hg
    obtain ⟨its, rv, p, _⟩ := I.list hqx
    obtain ⟨u, hu, ru⟩ := rv.get hx
    have hzl : z < s.heap.objs.size := Heap.lt_size hz
    have D1 := Draws.list (prog := X.prog) (w := X.w) (A := X.A.in1) (I.ok.hd hc) i1 a hai its.toArray
    have D2 := Draws.text (prog := X.prog) (w := X.w) (A := X.A.in1) (I.ok.hd hc) i2 x t
    have hu' : its.toArray[i]? = some u := by simpa using hu
    have hlt1 : i < its.toArray.size := by
      rcases Nat.lt_or_ge i its.toArray.size with q | q
      · exact q
      · rw [Array.getElem?_eq_none q] at hu'; cases hu'
    refine wpAny_pyNext_zipD2_item D D1 D2 hz hTI hTO ⟨h1, p.isList⟩ h2 hlt1 hy fun x1 x2 h' tk q1 q2 z' TO' st1 st2 hT hsz hk => ?_
    obtain ⟨c, t2, hcx, rfl⟩ := q2
    rw [hu'] at q1
    cases q1
    refine ⟨_, rfl, wpAny_letOwnedTupleGo_zip (s := { s with heap := h', toks := tk }) z' fun h'' z'' sb => ?_⟩
    have hT2 : h''.get? s.heap.objs.size = some { cls := .type "tuple", data := .seq #[u, .str ⟨#[c]⟩ t2] } := (sb.2 _ (Nat.ne_of_gt hzl)).trans hT
    have new : ObjOk X.prog X.w (upd H s.heap.objs.size (.tup [v, .str ⟨#[c]⟩])) h'' s.heap.objs.size (.tup [v, .str ⟨#[c]⟩]) :=
      ⟨by show 2 ≤ sizeLine; decide, [u, .str ⟨#[c]⟩ t2], .cons ru (.cons ⟨_, rfl⟩ .nil), ⟨_, hT2, rfl, _, rfl⟩⟩
    have I1 : Inv X pins σ (upd H s.heap.objs.size (.tup [v, .str ⟨#[c]⟩])) { s with heap := h'', toks := tk } :=
      I.turnedNew (t' := tk) (ch := [z, TI, TO, i1, i2]) (fun c o hb q => (sb.2 c (fun q' => hb (by simp [q']))).trans (hk c o (fun q' => hb (by simp [q'])) (fun q' => hb (by simp [q'])) (fun q' => hb (by simp [q'])) (fun q' => hb (by simp [q'])) q)) hf (Nat.le_refl _) new
    obtain ⟨o2, e2, r2⟩ := st2
    refine ⟨.ref s.heap.objs.size, _, I1, rfl, ⟨_, v, c, rfl, I.hok.fresh (Nat.le_refl _), rfl, fun l hl => by rw [I.list_inj hl hqx]; exact hx, hcx⟩, ⟨z'', ?_, ⟨u, .str ⟨#[c]⟩ t2, ?_⟩, ?_, ⟨o2, ?_, r2⟩, hy⟩, fun c hcm => ?_⟩
    · exact (sb.2 _ D.TIz).trans (hk _ _ D.TIz D.TITO D.TIi1 D.TIi2 hTI)
    · exact (sb.2 _ D.TOz).trans TO'
    · exact st1.1.at fun o q => (sb.2 _ D.zi1.symm).trans q
    · exact (sb.2 _ D.zi2.symm).trans e2
    · have hlt : c < s.heap.objs.size := by
        have e' : c = z ∨ c = TI ∨ c = TO ∨ c = i1 ∨ c = i2 := by simpa using hcm
        rcases e' with q | q | q | q | q
        · rw [q]; exact hzl
        · rw [q]; exact Heap.lt_size hTI
        · rw [q]; exact Heap.lt_size hTO
        · rw [q]; obtain ⟨_, e1, _⟩ := h1; exact Heap.lt_size e1
        · rw [q]; obtain ⟨_, e2, _⟩ := h2; exact Heap.lt_size e2
      rw [upd_ne (Nat.ne_of_lt hlt)]
      exact (hf c hcm).1
  done := by
    intro X hP hw hK hc i pins s σ H E I hf st hg
    subst hP hw hK
    obtain ⟨hz, hTI, ⟨x0, y0, hTO⟩, h1, h2, hle⟩ := st
    obtain ⟨xs, hqx, hend⟩ := hg
    obtain ⟨its, rv, p, _⟩ := I.list hqx
    have l1 := rv.length
    have D2 := Draws.text (prog := X.prog) (w := X.w) (A := X.A.in1) (I.ok.hd hc) i2 x t
    by_cases c : xs.length ≤ i
    · have hi : its.toArray[i]? = none := by simp; omega
      have D1 := draws_stop (prog := X.prog) (w := X.w) (A := X.A.in1) (I.ok.hd hc) i1 a hai its.toArray i hi
      exact wpAny_pyNext_zipD2_end D D1 D2 hz hTI hTO ⟨rfl, h1, p.isList⟩ h2 (Nat.le_refl _) hle (.inl rfl) fun h' tk hk => ⟨rfl, I.turnedL (t' := tk) (ch := [z, TI, TO, i1, i2]) (fun c o hb q =>
        hk c o (fun q' => hb (by simp [q'])) (fun q' => hb (by simp [q'])) (fun q' => hb (by simp [q'])) (fun q' => hb (by simp [q'])) q) hf⟩
    · have D1 := Draws.list (prog := X.prog) (w := X.w) (A := X.A.in1) (I.ok.hd hc) i1 a hai its.toArray
      have hi2 : i = x.cps.size := by
        rcases hend with q | q
        · exact absurd q c
        · omega
      exact wpAny_pyNext_zipD2_end D D1 D2 hz hTI hTO ⟨h1, p.isList⟩ h2 (by simp; omega) hle (.inr hi2) fun h' tk hk => ⟨rfl, I.turnedL (t' := tk) (ch := [z, TI, TO, i1, i2]) (fun c o hb q =>
        hk c o (fun q' => hb (by simp [q'])) (fun q' => hb (by simp [q'])) (fun q' => hb (by simp [q'])) (fun q' => hb (by simp [q'])) q) hf⟩
  self := fun A i s Q E st h => wpAny_pyIter_zip st.1 h
theorem zip_sep (n a : Nat) (la : a < n) : ZipSep2 (n + 4) (n + 2) (n + 3) n (n + 1) [n, a] [n + 1] := by
  have ne : ∀ x y : Nat, x < y ∨ y < x → (x : Addr) ≠ (y : Addr) := fun x y h e => by
    have e : x = y := e
    omega
  have nm1 : ∀ x y : Nat, x < y ∨ y < x → (x : Addr) ∉ ([y] : List Addr) := fun x y h m => ne x y h (List.mem_singleton.mp m)
  have nm2 : ∀ x y z : Nat, x < y ∨ y < x → x < z ∨ z < x → (x : Addr) ∉ ([y, z] : List Addr) := fun x y z h h2 m => (List.mem_cons.mp m).elim (ne x y h) fun m => ne x z h2 (List.mem_singleton.mp m)
  exact ⟨ne _ _ (by omega), ne _ _ (by omega), ne _ _ (by omega), ne _ _ (by omega), List.mem_cons_self, nm2 _ _ _ (by omega) (by omega), nm2 _ _ _ (by omega) (by omega), ne _ _ (by omega), List.mem_cons_self, nm1 _ _ (by omega), nm1 _ _ (by omega), nm1 _ _ (by omega), nm2 _ _ _ (by omega) (by omega)⟩
def iZipS (K : PySem.W.Frag) (ta : TA) : TI := fun σ H R => ta σ H fun vs H1 => ∃ a x xs, vs = [.ref a, .str x] ∧ SqL K H1 a xs ∧ R (ItzS K a x) H1
theorem pi_zipS {X : Cx} {e e2 : Expr} {ta : TA} {p pos tpos : Pos} {elts : List Expr} {kk : Nat} (hg : Gl X "zip") (hm : X.mg "zip" = none) (ha : PA X [e, e2] ta)
    (hs : starEach [e, e2] X.env = (false, eval e X.env) :: starEach [e2] X.env := by rfl) (hpl : (backTo pos (starEach [e2] X.env)).any (·.1) = false := by rfl) :
    PI X (.Tuple elts kk tpos) (.Call (.Name "zip" p) [e, e2] [] pos) (iZipS X.K ta) := by
  refine ⟨fun pins s σ H R I h => ?_⟩
  refine Call_ (ld_blt I hg hm PyProof.Rows.boot_zip (PyProof.Rows.callWith_type1 (thn (ha.run pos pins s σ H _ I h) fun us s1 ⟨vs, H1, I1, r1, q1⟩ => ?_) hs hpl))
  obtain ⟨a, x, xs, ex, hqx, q⟩ := q1
  subst ex
  cases r1 with
  | cons r rr =>
    cases rr with
    | cons r' rr =>
      cases rr
      cases r
      obtain ⟨t, rfl⟩ := r'
      obtain ⟨its, rv, p1, _⟩ := I1.list hqx
      have la : a < s1.heap.objs.size := p1.lt
      refine zip_begins2 (begins_list a its.toArray) (begins_text x t) p1.isList trivial fun h' hz hTI hTO g1 g2 hsz hk => wpAny_pyIter_zip hz ?_
      have I2 : Inv X pins σ H1 { s1 with heap := h' } := I1.kept (t' := s1.toks) hk
      have sep := zip_sep s1.heap.objs.size a la
      refine ⟨s1.heap.objs.size + 4, [s1.heap.objs.size + 4, s1.heap.objs.size + 2, s1.heap.objs.size + 3, s1.heap.objs.size, s1.heap.objs.size + 1], _, _, H1, rfl, I2, turn_zipS (x := x) (t := t) sep (Nat.ne_of_lt la), ⟨hz, hTI, ⟨_, _, hTO⟩, ⟨_, g1, rfl, rfl⟩, ⟨_, g2, rfl, rfl⟩, Nat.zero_le _⟩, fun c hcm => ?_, q⟩
      have e' : c = s1.heap.objs.size + 4 ∨ c = s1.heap.objs.size + 2 ∨ c = s1.heap.objs.size + 3 ∨ c = s1.heap.objs.size ∨ c = s1.heap.objs.size + 1 := by simpa using hcm
      have hle : s1.heap.objs.size ≤ c := by
        rcases e' with z | z | z | z | z
        · rw [z]; exact Nat.le_add_right _ _
        · rw [z]; exact Nat.le_add_right _ _
        · rw [z]; exact Nat.le_add_right _ _
        · rw [z]; exact Nat.le_refl _
        · rw [z]; exact Nat.le_add_right _ _
      exact I1.fpOk hle (I1.hok.fresh hle)
theorem evi_zipS {m1 : M (List α)} {m2 : M Tx} {elts : List Expr} {kk : Nat} {tpos : Pos} (ok : Ok p sc NN VV GG k g) (hq : IsSq p.K Q S) (hG : GG[j]? = some "zip") (hmg : p.mg "zip" = none) (ha : EvE g L a md Q m1) (hb : EvE g L b md tStr m2)
    (hs1 : starEach [a, b] g.X.env = (false, eval a g.X.env) :: starEach [b] g.X.env := by rfl) (hs2 : starEach [b] g.X.env = (false, eval b g.X.env) :: starEach [] g.X.env := by rfl) (hpl : (backTo pos (starEach [b] g.X.env)).any (·.1) = false := by rfl) :
    EvI g L (.Tuple elts kk tpos) (.Call (.Name "zip" pp) [a, b] [] pos) (tTup (aCons S (aCons tStr aNil))) (m1.bind fun xs => m2.bind fun y => .ok (zipL xs (y.map fun c => [c]))) := by
  obtain ⟨hg, ho⟩ := ok.gl hG
  refine PI.imp (pi_zipS hg (by rw [ok.mg]; exact hmg) (eva_cons ha (eva_cons hb eva_nil hs2) hs1) hs1 hpl) fun σ H R ⟨kp, own, at_, q⟩ => ?_
  refine tA_iff.mpr ⟨kp, own, at_, ?_⟩
  cases m1 with
  | ok xs =>
    cases m2 with
    | ok y =>
      rintro vs H' s ⟨v, r, rfl, rx, v2, r2, rfl, ⟨rfl, hok⟩, e3⟩
      cases (show r2 = [] from e3)
      have rx' : Q.rep xs v (RD g.fm own H') := Q.mono rx RX.sh
      have rb0 : Rdb p.K (RD g.fm own H') H' := by rw [← ok.fmK]; exact RD.rdb
      obtain ⟨ad, vs, rfl, h, r⟩ := hq.sq rb0 rx'
      refine ⟨ad, toS y, vs, rfl, by rw [ok.K]; exact h, ?_⟩
      rw [show ItzS g.X.K ad (toS y) = ItzS g.fm.K ad (toS y) from by rw [ok.K, ok.fmK]]
      refine q _ H' s fun H2 rb i => ?_
      obtain ⟨a', vs', e', hs', r2⟩ := hq.sq (by rw [← ok.fmK]; exact rb) rx'
      cases e'
      rw [← ok.fmK] at hs'
      have hyl : (toS y).cps.size = y.length := by show y.toArray.size = _; simp
      unfold zipL
      rw [List.getElem?_map]
      refine ⟨fun d hd => ?_, fun hn => ⟨vs', hs', ?_⟩⟩
      · cases hx : (xs.zip (y.map fun c => [c]))[i]? with
        | none => rw [hx] at hd; cases hd
        | some d0 =>
          rw [hx] at hd
          cases hd
          obtain ⟨hx1, hx2⟩ := List.getElem?_zip_eq_some.mp hx
          obtain ⟨v, h1, h2⟩ := r2.get hx1
          rw [List.getElem?_map] at hx2
          cases hy : y[i]? with
          | none => rw [hy] at hx2; cases hx2
          | some c =>
            rw [hy] at hx2
            have hx2 : [c] = d0.2 := by injection hx2
            have hlt := (List.getElem?_eq_some_iff.mp hy).1
            have hcy : (toS y).cps[i]? = some c := by
              show y.toArray[i]? = some c
              simpa using hy
            refine ⟨⟨vs', v, hs', h1, by rw [hyl]; exact hlt⟩, fun x H3 ⟨T', u, c', e1, e2, e3, hyy, hz⟩ => ?_⟩
            subst e1; subst e3
            have q1 := hyy vs' hs'
            rw [h1] at q1
            cases q1
            rw [hcy] at hz
            cases hz
            refine ⟨newSame e2, T', _, rfl, .inr ⟨cl_of upd_same, e2⟩, _, _, rfl, S.mono h2 fun a o z => .inl ⟨rfl, z⟩, _, [], rfl, ?_, rfl⟩
            show tStr.rep d0.2 _ _
            rw [← hx2]
            exact ⟨rfl, by show 1 ≤ sizeLine; decide, fun z hz => by rw [List.mem_singleton.mp hz]; exact hok.2 c (List.mem_of_getElem? hy)⟩
      · cases hx : (xs.zip (y.map fun c => [c]))[i]? with
        | none =>
          rw [List.getElem?_eq_none_iff, List.length_zip, List.length_map] at hx
          rw [← r2.length, hyl]
          omega
        | some d0 => rw [hx] at hn; cases hn
    | ex c => exact q
    | no => exact q
  | ex c => exact q
  | no => exact q
end
end Hd

set_option maxHeartbeats 1000000
namespace Hd
open PySem PySem.Spec PyProof.Rows L2 RT
/-! ### reversed(text) -/
theorem norev_str : typeLookup (.type "str") "__reversed__" = pure none := by rw [typeLookup_type, builtinLookup_eq_fast]; kernel_rfl
theorem get_str : typeLookup (.type "str") "__getitem__" = pure (some (.builtin "str.__getitem__")) := by rw [typeLookup_type, builtinLookup_eq_fast]; kernel_rfl
def rsObj (x : Str) (u : Tok) (i : Int) : Obj := { cls := .type "reversed", data := .fields #[.str x u, rawInt i] }
def IsRs (h : Heap) (a : Addr) (x : Str) (u : Tok) (i : Int) : Prop := ∃ o, h.get? a = some o ∧ o.cls = .type "reversed" ∧ o.data = .fields #[.str x u, rawInt i]
theorem IsRs.at {h h' : Heap} {a : Addr} {x : Str} {u : Tok} {i : Int} (y : IsRs h a x u i) (e : ∀ o, h.get? a = some o → h'.get? a = some o) : IsRs h' a x u i := let ⟨o, ho, r⟩ := y; ⟨o, e _ ho, r⟩
section
variable {prog : Program} {w : World} {A : Around} {E : Value → Shared → Prop} {s : Shared} {x : Str} {u : Tok}
theorem IsRs.typeIs {a : Addr} {i : Int} (y : IsRs s.heap a x u i) : s.TypeIs (.ref a) "reversed" := let ⟨o, ho, hc, _⟩ := y; ⟨o, ho, hc⟩
theorem code_reversed_str {Q₁ : Value → Shared → Prop} (hn : x.length ≤ sizeLine)
    (h : Q₁ (.ref s.heap.objs.size) { s with heap := s.heap.push (rsObj x u ((x.length : Int) - 1)), toks := s.toks + 1 + 1 }) :
    codeAny (model prog w) A (.call (.builtin "reversed.__new__") ⟨[.type "reversed", .str x u], []⟩) (wants Q₁ E) s := by
  have hT : s.TypeIs (.str x u) "str" := typeIs_str s x u
  have hz : sizeLine < 2 ^ 40 := by decide
  refine codeAny_of_tree ?_
  show wpAny _ A.in1 (do checkBuiltinCall "reversed.__new__" ⟨[.type "reversed", .str x u], []⟩; again (.builtin "reversed.__new__" ⟨[.type "reversed", .str x u], []⟩)) _ _ s
  refine wpAny_bind (wpAny_of_eq (F.newCall_reversed_1 _) (wpAny_pure ⟨plainId_quiet F.plain_reversed_new _, codeAny_builtin F.entry_reversed_new ?_⟩))
  rw [Around.under_plainId F.plain_reversed_new _]
  unfold Builtin.«reversed.__new__»
  refine wpAny_bind (wpAny_of_eq (newClass_reversed _) ?_)
  try dsimp only
  refine wpAny_bind (wpAny_of_eq (a := ()) (by first | rfl | kernel_rfl) ?_)
  try dsimp only
  refine wpAny_bind (wpAny_of_eq (a := ()) (by first | rfl | kernel_rfl) ?_)
  try dsimp only
  refine wpAny_bind (wpAny_specialOf hT norev_str ?_)
  try dsimp only
  refine wpAny_bind ?_
  wp_delta
  refine wpAny_bind (wpAny_isInstance (T := "str") (U := "dict") (b := false) hT PySem.F.sub_str_dict ?_)
  try dsimp only
  try rw [if_neg Bool.false_ne_true]
  try dsimp only
  refine wpAny_bind (wpAny_specialOf hT get_str ?_)
  try dsimp only
  try rw [if_pos (by decide +kernel)]
  refine wpAny_pure ?_
  try dsimp only
  try rw [if_neg (by decide)]
  try dsimp only
  refine wpAny_bind (len_str (by omega) ?_)
  refine wpAny_bind (wpAny_of_eq (a := some ((x.length : Nat) : Int)) rfl ?_)
  try dsimp only
  refine wpAny_bind ?_
  show wpAny _ _ (newObj (.type "reversed") (.fields #[.str x u, rawInt ((x.length : Int) - 1)])) _ _ _
  refine wpAny_newObj_type ?_
  exact wpAny_pure h
theorem call_reversed_str {Q : Value → Shared → Prop} (hn : x.length ≤ sizeLine)
    (h : Q (.ref s.heap.objs.size) { s with heap := s.heap.push (rsObj x u ((x.length : Int) - 1)), toks := s.toks + 1 + 1 }) : wpAny (model prog w) A (call (.type "reversed") [.str x u]) Q E s := by
  refine callType_codes (Q₁ := fun obj s₁ => s₁.TypeIs obj "reversed" ∧ Q obj s₁) called_rt (F.typeCall_reversed_1 _) F.entry_object_init
    (code_reversed_str (A := A.in1) hn ⟨⟨_, Heap.get?_push_size _ rfl, rfl⟩, h⟩) fun obj s₁ h₁ => ?_
  exact ⟨h₁.1, F.args_object_init_2 obj _, object_init_meets called_rt.init.lookup called_rt.made (by decide) prog w A.in1 _ s₁ ⟨h₁.1, rfl, h₁.2⟩⟩
theorem next_rs_item {it : Addr} {i : Nat} {c : Nat} {Q : Option Value → Shared → Prop} (hit : IsRs s.heap it x u (i : Int)) (hx : x.cps[i]? = some c) (hsz : x.length ≤ sizeLine)
    (hQ : ∀ h' tk t, IsRs h' it x u ((i : Int) - 1) → Heap.SameBut it s.heap h' → Q (some (.str ⟨#[c]⟩ t)) { s with heap := h', toks := tk }) : wpAny (model prog w) A (pyNext (.ref it)) Q E s := by
  obtain ⟨o, ho, hc, hd⟩ := id hit
  have hi : i < x.length := (Array.getElem?_eq_some_iff.mp hx).1
  have hT : s.TypeIs (.str x u) "str" := typeIs_str s x u
  have hz : sizeLine < 2 ^ 40 := by decide
  unfold pyNext
  refine wpAny_bind (wpAny_attempt (wpAny_callSpecial?_slot (name := Str.ofString "__next__") hit.typeIs slot_rt_next
    (wpAny_call_entry slot_rt_next hit.typeIs entry_rt_next ?_ (args_rt_next _))))
  unfold Builtin.«reversed.__next__»
  refine wpAny_bind (wpAny_of_eq (a := (Value.ref it, [])) rfl ?_)
  try dsimp only
  refine wpAny_bind (wpAny_field ho hd (x := .str x u) rfl ?_)
  try dsimp only
  refine wpAny_bind (wpAny_field ho hd (x := rawInt (i : Int)) rfl ?_)
  show wpAny _ _ (if (i : Int) < 0 then _ else _) _ _ s
  rw [if_neg (by omega)]
  try dsimp only
  refine wpAny_bind (wpAny_specialOf hT get_str ?_)
  try dsimp only
  try rw [if_neg (by decide)]
  try dsimp only
  refine wpAny_bind (wpAny_mkInt ?_)
  refine wpAny_bind (wpAny_attempt ?_)
  have fin : seqIndex? (i : Int) x.length = some i := seqIndex_of (by omega) (by omega)
  refine PyProof.Rows.getItem_str (s := { s with toks := s.toks + 1 }) (c := c) (by simp; omega) (by rw [fin]; exact hx) ?_
  try dsimp only
  refine wpAny_bind (wpAny_field (s := { s with toks := s.toks + 1 + 1 }) ho hd (x := rawInt (i : Int)) rfl ?_)
  try dsimp only
  refine wpAny_bind (wpAny_setField (s := { s with toks := s.toks + 1 + 1 }) ho hd (by simp) ?_)
  first
  | refine wpAny_pure ⟨_, rfl, wpAny_pure (hQ _ _ _ ?_ (Heap.SameBut.update ..))⟩
  | refine wpAny_bind (wpAny_pure (wpAny_pure ⟨_, rfl, wpAny_pure (hQ _ _ _ ?_ (Heap.SameBut.update ..))⟩))
  exact ⟨_, Heap.get?_update_self _ ho (Obj.isFreed_of_fields (Obj.data_mapFields hd _)), (Obj.cls_mapFields ..).trans hc, by
    rw [Obj.data_mapFields hd]; simp⟩
theorem next_rs_end {it : Addr} {Q : Option Value → Shared → Prop} (hh : A.handled = none) (hit : IsRs s.heap it x u (-1))
    (hQ : ∀ h', Heap.ExtBut it s.heap h' → Q none { s with heap := h' }) : wpAny (model prog w) A (pyNext (.ref it)) Q E s := by
  obtain ⟨o, ho, hc, hd⟩ := id hit
  unfold pyNext
  refine wpAny_bind (wpAny_attempt (wpAny_callSpecial?_slot (name := Str.ofString "__next__") hit.typeIs slot_rt_next
    (wpAny_call_entry slot_rt_next hit.typeIs entry_rt_next ?_ (args_rt_next _))))
  unfold Builtin.«reversed.__next__»
  refine wpAny_bind (wpAny_of_eq (a := (Value.ref it, [])) rfl ?_)
  try dsimp only
  refine wpAny_bind (wpAny_field ho hd (x := .str x u) rfl ?_)
  try dsimp only
  refine wpAny_bind (wpAny_field ho hd (x := rawInt (-1)) rfl ?_)
  show wpAny _ _ (if (-1 : Int) < 0 then _ else _) _ _ s
  rw [if_pos (by decide)]
  try dsimp only
  refine wpAny_bind (wpAny_rule ?_)
  refine wpAny_bind ?_
  wp_delta
  refine wpAny_bind (wpAny_setField ho hd (by simp) ?_)
  have ho2 := Heap.get?_update_self (Obj.mapFields (·.setIfInBounds 1 (rawInt (-1)))) ho (Obj.isFreed_of_fields (Obj.data_mapFields hd _))
  refine wpAny_setField (s := { s with heap := s.heap.update it (Obj.mapFields (·.setIfInBounds 1 (rawInt (-1)))) }) ho2 (Obj.data_mapFields hd _) (by simp) ?_
  try dsimp only
  first
  | show wpAny _ _ (newExc (.type "StopIteration") [] >>= _) _ _ _
  | (refine wpAny_bind ?_; show wpAny _ _ (newExc (.type "StopIteration") [] >>= _) _ _ _)
  | (refine wpAny_bind ?_; wp_delta; show wpAny _ _ (newExc (.type "StopIteration") [] >>= _) _ _ _)
  refine wpAny_bind ?_
  simp only [newExc, newTuple]
  refine wpAny_bind (wpAny_newObj_type ?_ (by size_fits))
  refine wpAny_bind (m := firstArgMember _ _) (wpAny_of_eq (a := Value.none) (by first | rfl | (simp only [firstArgMember]; rfl)) ?_)
  refine wpAny_newObj_type ?_ (by size_fits)
  simp only [raiseNew]
  refine wpAny_bind (wpAny_handled ?_)
  first | rw [show A.in1.handled = none from hh] | rw [hh]
  refine wpAny_bind (wpAny_pure (wpAny_throw ?_))
  refine wpAny_bind (wpAny_isInstance (T := "StopIteration") (b := true) ⟨_, Heap.get?_push_size _ rfl, rfl⟩ isSubtype_stop ?_)
  refine wpAny_pure (hQ _ ?_)
  refine ((?_ : Heap.ExtBut it s.heap _).push _).push _
  exact fun b ob hb e => (Heap.get?_update_other _ _ (Ne.symm hb)).trans ((Heap.get?_update_other _ _ (Ne.symm hb)).trans e)
theorem iter_rs {it : Addr} {i : Int} {Q : Value → Shared → Prop} (hit : IsRs s.heap it x u i) (h : Q (.ref it) s) : wpAny (model prog w) A (pyIter (.ref it)) Q E s := by
  refine wpAny_pyIter_slot hit.typeIs slot_rt_iter (wpAny_call_entry slot_rt_iter hit.typeIs entry_rt_iter ?_ (args_rt_iter _))
  show wpAny _ _ (ret (.ref it)) _ _ s
  exact wpAny_pure ⟨_, rfl, "reversed", _, hit.typeIs, slot_rt_next.lookup, h⟩
end
def ItvS (x : Str) : It := ⟨fun i _ => i < x.cps.size, fun i H v H' => H' = H ∧ ∃ c, x.cps[x.cps.size - 1 - i]? = some c ∧ v = .str ⟨#[c]⟩, fun i _ => x.cps.size ≤ i⟩
theorem turn_rs {P : Program} {w : World} {K : PySem.W.Frag} {tg : Expr} (it : Addr) (x : Str) (u : Tok) (hsz : x.length ≤ sizeLine) : Turn P w K tg (ItvS x) [it] it (fun i h => i ≤ x.cps.size ∧ IsRs h it x u ((x.cps.size : Int) - 1 - (i : Nat))) where
  mem := by simp
  obj := fun i h st b hb => by
    have e : b = it := by simpa using hb
    subst e
    obtain ⟨_, o, e, c, d⟩ := st
    exact ⟨o, e, fun v z => by rw [d] at z; cases z⟩
  keep := fun i h h' st k => ⟨st.1, st.2.at fun o e => k it (by simp) o e⟩
  item := by
    intro X hP hw hK hc i pins s σ H E I hf st hg
    subst hP hw hK
    have hin : i < x.cps.size := hg
    obtain ⟨f0, f1, f2, f3, f4, f5⟩ := hf it (by simp)
    obtain ⟨_, hit⟩ := st
    have e1 : (x.cps.size : Int) - 1 - ((i : Nat) : Int) = ((x.cps.size - 1 - i : Nat) : Int) := by omega
    rw [e1] at hit
    have hx : x.cps[x.cps.size - 1 - i]? = some (x.cps[x.cps.size - 1 - i]'(by omega)) := by simp
    refine next_rs_item hit hx hsz fun h' tk t st' sb => ?_
    have e2 : ((x.cps.size - 1 - i : Nat) : Int) - 1 = (x.cps.size : Int) - 1 - ((i + 1 : Nat) : Int) := by omega
    rw [e2] at st'
    have I1 : Inv X pins σ H { s with heap := h', toks := tk } := I.turned (t' := tk) (fun b o hb e => (sb.2 b hb).trans e) f0 f1 f3 f4 f5
    obtain ⟨o, e, cc, d⟩ := id st'
    exact ⟨_, rfl, go_of (s := { s with heap := h', toks := tk }) e cc d (by decide) ⟨.str ⟨#[x.cps[x.cps.size - 1 - i]'(by omega)]⟩, H, I1, ⟨t, rfl⟩, ⟨rfl, _, hx, rfl⟩, ⟨hin, st'⟩, fun b hb => (hf b hb).1⟩⟩
  done := by
    intro X hP hw hK hc i pins s σ H E I hf st hg
    subst hP hw hK
    obtain ⟨f0, f1, f2, f3, f4, f5⟩ := hf it (by simp)
    obtain ⟨hin, hit⟩ := st
    have hge : x.cps.size ≤ i := hg
    have e1 : (x.cps.size : Int) - 1 - ((i : Nat) : Int) = -1 := by omega
    rw [e1] at hit
    exact next_rs_end (I.ok.hd hc) hit fun h' eb => ⟨rfl, I.turned (t' := s.toks) (fun b o hb e => eb b o hb e) f0 f1 f3 f4 f5⟩
  self := fun A i s Q E st h => iter_rs st.2 h
def iRevS (ta : TA) : TI := fun σ H R => ta σ H fun vs H1 => ∃ x, vs = [.str x] ∧ x.length ≤ sizeLine ∧ R (ItvS x) H1
theorem pi_revS {X : Cx} {tg e : Expr} {ta : TA} {p pos : Pos} (hg : Gl X "reversed") (hm : X.mg "reversed" = none) (ha : PA X [e] ta) (hs : starEach [e] X.env = [(false, eval e X.env)] := by rfl) : PI X tg (.Call (.Name "reversed" p) [e] [] pos) (iRevS ta) := by
  refine ⟨fun pins s σ H R I h => ?_⟩
  refine Call_ (ld_blt I hg hm PyProof.Rows.boot_reversed (PyProof.Rows.callWith_type1 (thn (ha.run pos pins s σ H _ I h) fun us s1 ⟨vs, H1, I1, r1, q1⟩ => ?_) hs rfl))
  obtain ⟨x, ex, hz, q⟩ := q1
  subst ex
  cases r1 with
  | cons r rr =>
    cases rr
    obtain ⟨t, rfl⟩ := r
    have e1 : ((x.length : Nat) : Int) - 1 = (x.cps.size : Int) - 1 - ((0 : Nat) : Int) := by show (x.cps.size : Int) - 1 = _; omega
    refine call_reversed_str hz (iter_rs (x := x) (u := t) (i := (x.length : Int) - 1) ⟨_, Heap.get?_push_size _ rfl, rfl, rfl⟩ ?_)
    refine pi_one (tk := s1.toks + 1 + 1) I1 _ (turn_rs _ x t hz) ⟨Nat.zero_le _, ?_⟩ q
    rw [← e1]
    exact ⟨_, Heap.get?_push_size _ rfl, rfl, rfl⟩
section
variable {p : Pr} {sc : Scope} {NN VV GG : List Str} {k : Nat} {g : G} {L : List Slot} {a b e tg : Expr} {md md' : Md} {pos pp : Pos} {j : Nat} {α β δ : Type} {S : Ty α} {T : Ty β}
theorem evi_revS {m : M Tx} (ok : Ok p sc NN VV GG k g) (hG : GG[j]? = some "reversed") (hmg : p.mg "reversed" = none) (ha : EvE g L a md tStr m) (hs : starEach [a] g.X.env = (false, eval a g.X.env) :: starEach [] g.X.env := by rfl) :
    EvI g L tg (.Call (.Name "reversed" pp) [a] [] pos) tStr (m.bind fun x => .ok (x.reverse.map fun c => [c])) := by
  obtain ⟨hg, ho⟩ := ok.gl hG
  refine PI.imp (pi_revS hg (by rw [ok.mg]; exact hmg) (eva_cons ha eva_nil hs) hs) fun σ H R ⟨kp, own, at_, q⟩ => ?_
  refine tA_iff.mpr ⟨kp, own, at_, ?_⟩
  cases m with
  | ok xs =>
    rintro vs H' s ⟨v, r, rfl, ⟨rfl, hok⟩, e3⟩
    cases (show r = [] from e3)
    have hl : (toS xs).cps.size = xs.length := by show xs.toArray.size = _; simp
    refine ⟨toS xs, rfl, by rw [toS_len]; exact hok.1, q (ItvS (toS xs)) H' s fun H2 rb i => ?_⟩
    rw [List.getElem?_map]
    refine ⟨fun d hd => ?_, fun hn => ?_⟩
    · cases hx : xs.reverse[i]? with
      | none => rw [hx] at hd; cases hd
      | some c =>
        rw [hx] at hd
        cases hd
        have hlt := (List.getElem?_eq_some_iff.mp hx).1
        rw [List.length_reverse] at hlt
        rw [List.getElem?_reverse hlt] at hx
        refine ⟨by show i < (toS xs).cps.size; rw [hl]; exact hlt, fun x H3 ⟨e, c', h1, h2⟩ => ?_⟩
        subst e
        have : c' = c := by
          have h1' : xs.toArray[(toS xs).cps.size - 1 - i]? = some c' := h1
          rw [hl, List.getElem?_toArray, hx] at h1'
          exact (Option.some.inj h1').symm
        subst this
        exact ⟨Same.refl _, h2, by show 1 ≤ sizeLine; decide, fun c2 hc2 => by rw [List.mem_singleton.mp hc2]; exact hok.2 _ (List.mem_of_getElem? hx)⟩
    · show (toS xs).cps.size ≤ i
      rw [hl]
      cases hx : xs.reverse[i]? with
      | none => rw [List.getElem?_eq_none_iff, List.length_reverse] at hx; exact hx
      | some d0 => rw [hx] at hn; cases hn
  | ex c => exact q
  | no => exact q
end
end Hd

namespace Hd
open PySem PySem.Spec PyProof.Rows L2
section
variable {p : Pr} {sc : Scope} {NN VV GG : List Str} {k : Nat} {g : G} {L : List Slot} {α β δ : Type} {S : Ty α} {md : Md} {pos : Pos} {st : List Stmt} {D : δ → Out} {i j : Nat} {x : Str}
def popM {α : Type} (xs : List α) : M (List α) := if 0 < xs.length then .ok xs.dropLast else .no
theorem evb_pop {bb : Bool} {ds : List α} {f : List α → M δ} {p1 ap cp : Pos} (ok : OkS p sc NN VV GG k g) (wk : Wk L g.LX) (hN : NN[i]? = some x) (hV : VV[j]? = some x) (hL : L[i]? = some (sOwn bb S ds))
    (hr : ∀ ds', EvB g (L.set i (sOwn bb S ds')) st D (f ds'))
    (hs : swapsWith (.Call (.Attribute (.Name x p1) "pop" ap) [] [] cp) none pos.line g.X.env = pure false := by rfl)
    (hbase : attributeBase (.Name x p1) "pop" g.X.env (eval (.Name x p1) g.X.env) = eval (.Name x p1) g.X.env := by rfl)
    (hline : (ap.endLine == cp.line) = true := by rfl) :
    EvB g L (.Expr (.Call (.Attribute (.Name x p1) "pop" ap) [] [] cp) pos :: st) D ((popM ds).bind f) := by
  obtain ⟨hv, ho⟩ := ok.vis hV
  obtain ⟨h1, h2, _⟩ := okName_d ho
  refine PSs.imp (pss_cons (ps_expr (pe_bm0 PySem.F.plainAttrs_list PySem.F.slot_list_pop PySem.F.type_list_pop mt_pop (pe_var (i := i) (by rw [ok.N]; exact hN) hv h1 h2) (hbase := hbase) (hline := hline)) hs) (PSs.ex hr)) fun E σ H ⟨kp, own, at_, q⟩ => ?_
  obtain ⟨p', vs, e1, hp, r, mu⟩ := at_.mut hL
  unfold popM at q
  by_cases c : 0 < ds.length
  · rw [if_pos c] at q
    have hl := r.length
    have hy : vs[vs.length - 1]? = some (vs[vs.length - 1]'(by omega)) := by simp
    have rr : Reps S (RB g.fm own H bb) ds.dropLast vs.dropLast := by
      rw [List.dropLast_eq_take, List.dropLast_eq_take, hl]
      exact r.take _
    exact ⟨_, e1, Or.inl ⟨rfl, _, SqL.of hp⟩, _, vs, _, rfl, rfl, hp, hy, ds.dropLast, kp, own, mu _ _ rr, q⟩
  · rw [if_neg c] at q
    exact q.elim
end
end Hd

namespace Hd
open PySem PySem.Spec PyProof.Rows L2
/-! ### a dict of one's own -/
section
variable {p : Pr} {sc : Scope} {NN VV GG : List Str} {k : Nat} {g : G} {L : List Slot} {α β δ : Type} {S : Ty α} {T : Ty β} {md md' : Md} {pos : Pos} {st : List Stmt} {D : δ → Out} {i j : Nat} {x : Str} {a b c e : Expr}
inductive KReps {α : Type} (T : Ty α) (R : RdR) : List (Key × α) → List (Key × V) → Prop where
  | nil : KReps T R [] []
  | cons {k d v ds vs} : T.rep d v R → KReps T R ds vs → KReps T R ((k, d) :: ds) ((k, v) :: vs)
theorem KReps.mono {R R' : RdR} {ds : List (Key × α)} {vs : List (Key × V)} (h : KReps S R ds vs) (s : ∀ a o, R a o → R' a o) : KReps S R' ds vs := by
  induction h with
  | nil => exact .nil
  | cons r _ ih => exact .cons (S.mono r s) ih
theorem KReps.length {R : RdR} {ds : List (Key × α)} {vs : List (Key × V)} (h : KReps S R ds vs) : ds.length = vs.length := by
  induction h with
  | nil => rfl
  | cons r _ ih => simp [ih]
/-- what stands at a key -/
def dgetL {α : Type} (ds : List (Key × α)) (k : Key) : Option α := (ds.find? fun kv => decide (kv.1 = k)).map (·.2)
def dputL {α : Type} (ds : List (Key × α)) (k : Key) (d : α) : List (Key × α) := if (ds.any fun kv => decide (kv.1 = k)) = true then ds.map (fun kv => if kv.1 = k then (kv.1, d) else kv) else ds ++ [(k, d)]
theorem KReps.get {R : RdR} {ds : List (Key × α)} {vs : List (Key × V)} (h : KReps S R ds vs) (k : Key) : (dgetL ds k = none ∧ valV vs k = none) ∨ ∃ d v, dgetL ds k = some d ∧ valV vs k = some v ∧ S.rep d v R := by
  induction h with
  | nil => exact .inl ⟨rfl, rfl⟩
  | @cons k' d v ds vs r _ ih =>
    by_cases e : k' = k
    · exact .inr ⟨d, v, by simp [dgetL, List.find?_cons, e], valV_pos e, r⟩
    · have e1 : dgetL ((k', d) :: ds) k = dgetL ds k := by simp [dgetL, List.find?_cons, e]
      rw [e1, valV_neg e]
      exact ih
theorem KReps.map {R : RdR} {ds : List (Key × α)} {vs : List (Key × V)} (h : KReps S R ds vs) (k : Key) {d : α} {v : V} (r : S.rep d v R) : KReps S R (ds.map (fun kv => if kv.1 = k then (kv.1, d) else kv)) (vs.map (fun kv => if kv.1 = k then (kv.1, v) else kv)) := by
  induction h with
  | nil => exact .nil
  | @cons k' d' v' ds vs r' _ ih =>
    rw [List.map_cons, List.map_cons]
    by_cases e : k' = k
    · simp only [if_pos e]; exact .cons r ih
    · simp only [if_neg e]; exact .cons r' ih
theorem KReps.any {R : RdR} {ds : List (Key × α)} {vs : List (Key × V)} (h : KReps S R ds vs) (k : Key) : (ds.any fun kv => decide (kv.1 = k)) = (vs.any fun kv => decide (kv.1 = k)) := by
  induction h with
  | nil => rfl
  | cons r _ ih => rw [List.any_cons, List.any_cons, ih]
theorem KReps.snoc {R : RdR} {ds : List (Key × α)} {vs : List (Key × V)} (h : KReps S R ds vs) (k : Key) {d : α} {v : V} (r : S.rep d v R) : KReps S R (ds ++ [(k, d)]) (vs ++ [(k, v)]) := by
  induction h with
  | nil => exact .cons r .nil
  | cons r' _ ih => exact .cons r' ih
theorem KReps.put {R : RdR} {ds : List (Key × α)} {vs : List (Key × V)} (h : KReps S R ds vs) (k : Key) {d : α} {v : V} (r : S.rep d v R) : KReps S R (dputL ds k d) (putK vs k v) := by
  unfold dputL putK
  rw [h.any k]
  split
  · exact h.map k r
  · exact h.snoc k r
def sDict {α : Type} (b : Bool) (T : Ty α) (ds : List (Key × α)) : Slot := ⟨fun v H R F => ∃ p xs, v = some (.ref p) ∧ F = [p] ∧ H p = some (.dK xs) ∧ KReps T (R b) ds xs,
  fun ⟨p, xs, e, f, h, r⟩ s k => ⟨p, xs, e, f, by rw [k p (by simp [f])]; exact h, r.mono (s b)⟩, fun ⟨p, xs, e, f, h, r⟩ q hq => by subst f; rw [List.mem_singleton.mp hq, cl_of h]; exact fun z => nomatch z⟩
theorem At.mutD {fm : Fm} {kp : RdR} {σ : L2.St} {H : Hp} {own : List Addr} {b : Bool} {ds : List (Key × α)} {i : Nat} (h : At fm kp L σ H own) (hL : L[i]? = some (sDict b S ds)) :
    ∃ p vs, σ[i]? = some (some (.ref p)) ∧ H p = some (.dK vs) ∧ KReps S (RB fm own H b) ds vs ∧ ∀ ds' vs', KReps S (RB fm own H b) ds' vs' → At fm kp (L.set i (sDict b S ds')) σ (upd H p (.dK vs')) own := by
  obtain ⟨h1, h2, ⟨Fs, h3, rfl⟩, h4, h5, h6⟩ := h
  obtain ⟨v, F, e1, e2, q, vs, rfl, rfl, hp, r⟩ := h3.get hL
  have qin : q ∈ Fs.flatten := List.mem_flatten.mpr ⟨[q], List.mem_of_getElem? e2, by simp⟩
  refine ⟨q, vs, e1, hp, r, fun ds' vs' r' => ?_⟩
  have key : ∀ (md : Md) a o, RX fm Fs.flatten H H md a o → RX fm Fs.flatten (upd H q (.dK vs')) (upd H q (.dK vs')) md a o ∨ md = .fx := fun md a o z => by
    cases md with
    | sh =>
      rcases z with z | z
      · have n : a ≠ q := fun e => z.2.1 (by rw [e]; exact qin)
        refine .inl (.inl ⟨?_, z.2⟩)
        unfold Rd
        rw [cl_upd_ne n]
        exact z.1
      · exact .inl (.inr z)
    | f0 =>
      have n : a ≠ q := fun e => z.2.1 (by rw [e]; exact qin)
      exact .inl ⟨by rw [cl_upd_ne n]; exact z.1, z.2⟩
    | fx => exact .inr rfl
  have keyB : ∀ (b : Bool) a o, RB fm Fs.flatten H b a o → RB fm Fs.flatten (upd H q (.dK vs')) b a o := fun b a o z => by
    cases b with
    | false => exact (key .sh a o z).resolve_right (fun e => nomatch e)
    | true => exact (key .f0 a o z).resolve_right (fun e => nomatch e)
  have up : ∀ a, H a ≠ none → upd H q (.dK vs') a ≠ none := fun a n => by
    by_cases e : a = q
    · rw [e, upd_same]; exact fun z => by cases z
    · rw [upd_ne e]; exact n
  refine ⟨h1.wr (h5 q qin).2.1 hp (fun _ z => nomatch z) rfl, fun a z => up a (h2 a z), ⟨Fs, ?_, rfl⟩, h4, fun x hx => ⟨up x (h5 x hx).1, (h5 x hx).2⟩, fun a o z => (key .sh a o (h6 a o z)).resolve_right (fun e => nomatch e)⟩
  · -- the slots
    have gen : ∀ {L : List Slot} {σ : L2.St} {Fs' : List (List Addr)}, AllS H (RB fm Fs.flatten H) L σ Fs' → Fs'.flatten.Nodup → ∀ {i : Nat}, Fs'[i]? = some [q] → L[i]? = some (sDict b S ds) → σ[i]? = some (some (V.ref q)) →
        AllS (upd H q (.dK vs')) (RB fm Fs.flatten (upd H q (.dK vs'))) (L.set i (sDict b S ds')) σ Fs' := by
      intro L σ Fs' hA
      induction hA with
      | nil => intro _ i e _ _; simp at e
      | @cons sl L v σ F Fs' r t ih =>
        intro nd i e eL eσ
        rw [List.flatten_cons, List.nodup_append] at nd
        cases i with
        | zero =>
          simp at e eL eσ
          subst e; subst eL; subst eσ
          refine .cons ⟨q, vs', rfl, rfl, upd_same, r'.mono (keyB b)⟩ (t.st keyB fun x hx => ?_)
          exact upd_ne fun z => nd.2.2 q (by simp) x hx z.symm
        | succ i =>
          have e' : Fs'[i]? = some [q] := by simpa using e
          refine .cons (sl.st r keyB fun x hx => upd_ne fun z => nd.2.2 x hx q (List.mem_flatten.mpr ⟨[q], List.mem_of_getElem? e', by simp⟩) z) (ih nd.2.1 e' (by simpa using eL) (by simpa using eσ))
    exact gen h3 h4 e2 hL e1
theorem At.setOwnD {fm : Fm} {kp : RdR} {σ : L2.St} {H H' : Hp} {own : List Addr} {b : Bool} {ds : List (Key × α)} {vs : List (Key × V)} {q : Addr} (h : At fm kp L σ H own) (s : Same H H') (hn : H q = none) (h' : H' q = some (.dK vs))
    (r : KReps S (RB fm (q :: own) H' b) ds vs) : ∃ own', At fm kp (L.set i (sDict b S ds)) (σ.set i (some (.ref q))) H' own' := by
  obtain ⟨h1, h2, ⟨Fs, h3, rfl⟩, h4, h5, h6⟩ := h
  have hq : q ∉ Fs.flatten := fun z => (h5 q z).1 hn
  have sub : ∀ x ∈ (Fs.set i [q]).flatten, x ∈ q :: Fs.flatten := fun x hx => (set_own x hx).elim (fun e => by rw [e]; exact List.mem_cons_self) (List.mem_cons_of_mem _)
  have key : ∀ (md : Md) a o, RX fm Fs.flatten H H md a o → RX fm (Fs.set i [q]).flatten H H' md a o := fun md a o z => by
    refine RX.own sub a o ?_
    have z1 := RX.add (o' := .lst []) hn a o z
    have na : a ≠ q ∨ KObj fm.K a o := by
      rcases RX.sh a o z with z | z
      · exact .inl fun e => Rd.some z.1 (by rw [e]; exact cl_none hn)
      · exact .inr z
    cases md with
    | sh =>
      rcases z1 with z1 | z1
      · rcases z with z | z
        · exact .inl ⟨Rd.same s z.1, z1.2⟩
        · exact .inr z
      · exact .inr z1
    | f0 => exact ⟨s.cl _ _ z.1, z1.2⟩
    | fx => exact ⟨s.cl _ _ z.1, z1.2⟩
  have keyB : ∀ (b : Bool) a o, RB fm Fs.flatten H b a o → RB fm (Fs.set i [q]).flatten H' b a o := fun b a o z => by
    cases b with
    | false => exact key .sh a o z
    | true => exact key .f0 a o z
  refine ⟨_, h1.trans s, fun a z n => h2 a z (s.free n), ⟨Fs.set i [q], (h3.st (H' := H') keyB fun p hp => ?_).set (s := sDict b S ds) ⟨q, vs, rfl, rfl, h', r.mono fun a o z => ?_⟩ i, rfl⟩, set_own_nd hq h4, fun p hp => ?_, fun a o z => key .sh a o (h6 a o z)⟩
  · cases e : cl H p with
    | none => exact absurd e (h3.tb p hp)
    | some u => rw [cl_raw e]; exact s.keep _ _ (cl_raw e) (cl_nt e)
  · cases b <;> exact RX.own sub a o z
  · rcases set_own p hp with rfl | hp
    · exact ⟨by rw [h']; exact (fun z => by cases z), h1.free hn, fun z => h2 _ z hn⟩
    · exact ⟨fun e => (h5 p hp).1 (s.free e), (h5 p hp).2⟩

theorem evb_newD {f : List (Key × α) → M δ} {pos' pd : Pos} (ok : OkS p sc NN VV GG k g) (hN : NN[i]? = some x) (hV : VV[j]? = some x) (hr : ∀ ds, EvB g (L.set i (sDict false S ds)) st D (f ds))
    (hs : ∀ Y : Cx, swapsWith (.Dict [] [] pd) (some (.Name x pos')) pos.line Y.env = pure false := by intro _; rfl) : EvB g L (.Assign [.Name x pos'] (.Dict [] [] pd) pos :: st) D ((M.ok ([] : List (Key × α))).bind f) := by
  refine PSs.imp (pss_cons (ps_set (i := i) (by rw [ok.N]; exact ok.nd) (by rw [ok.N]; exact hN) (ok.loc hV) pe_dnewK (hs _) (okS_fn ok)) (PSs.ex hr)) fun E σ H ⟨kp, own, at_, q⟩ => ?_
  intro q' hq'
  obtain ⟨own', a'⟩ := at_.setOwnD (S := S) (i := i) (b := false) (ds := []) (vs := []) (newSame hq') hq' upd_same .nil
  exact ⟨[], kp, own', a', q⟩
def dputM {α : Type} (ds : List (Key × α)) (k : Key) (d : α) : M (List (Key × α)) := if ds.length < sizeLine then .ok (dputL ds k d) else .no
theorem ev_getD {bb : Bool} {ds : List (Key × α)} {m1 : M Int} {m2 : M α} {npos ap : Pos} (ok : Ok p sc NN VV GG k g) (hN : NN[i]? = some x) (hV : VV[j]? = some x) (hL : L[i]? = some (sDict bb S ds)) (ha : EvE g L a .sh tInt m1) (hb : EvE g L b .sh S m2)
    (hm : M2 g.X (.Name x npos) "get" ap a b pos := by exact ⟨rfl, rfl, rfl, rfl⟩) :
    EvE g L (.Call (.Attribute (.Name x npos) "get" ap) [a, b] [] pos) .sh S (m1.bind fun n => m2.bind fun d => .ok ((dgetL ds (.inl n)).getD d)) := by
  obtain ⟨hv, ho⟩ := ok.vis hV
  obtain ⟨h1, h2, _⟩ := okName_d ho
  refine PE.imp (pe_dget2 (by have := ok.room.un; omega) (pe_var (i := i) (by rw [ok.N]; exact hN) hv h1 h2) ha hb hm) fun σ H Q q => ?_
  obtain ⟨kp, own, at_, q⟩ := tE_iff.mp q
  obtain ⟨Fs, hA, rfl⟩ := at_.sl
  obtain ⟨v, F, e1, e2, pp, vs, rfl, rfl, hp, r⟩ := hA.get hL
  refine ⟨_, e1, pp, rfl, .inl ⟨vs, .inl hp⟩, sub finE (Same.refl H) at_ q fun n y H2 s2 r2 at2 q2 => sub finE s2 at2 q2 fun d z H3 s3 r3 at3 q3 => ?_⟩
  cases (show y = .int n from r2)
  refine ⟨valV vs (.inl n), DGet.k (k := .inl n) ((s2.trans s3).keep _ _ hp rfl), ?_⟩
  rcases r.get (.inl n) with ⟨g1, g2⟩ | ⟨d', v', g1, g2, g3⟩
  · rw [g2]
    rw [g1] at q3
    exact q3 z H3 (s2.trans s3) r3
  · rw [g2]
    rw [g1] at q3
    refine q3 v' H3 (s2.trans s3) (S.mono g3 fun a o z => ?_)
    have z1 : RX g.fm Fs.flatten H H (if bb then .f0 else .sh) a o := z
    exact RX.same (s2.trans s3) a o (RX.sh a o z1)
theorem evb_putD {bb : Bool} {ds : List (Key × α)} {m : M α} {mi : M Int} {f : List (Key × α) → M δ} {ix : Expr} {p1 p2 : Pos} (ok : OkS p sc NN VV GG k g) (wk : Wk L g.LX) (hN : NN[i]? = some x) (hV : VV[j]? = some x) (hL : L[i]? = some (sDict bb S ds)) (hb : SlB md bb)
    (he : EvE g L e md S m) (hi : EvE g L ix md' tInt mi) (hr : ∀ ds', EvB g (L.set i (sDict bb S ds')) st D (f ds'))
    (hs : swapsWith e (some (.Subscript (.Name x p1) ix p2)) pos.line g.X.env = pure false := by rfl) :
    EvB g L (.Assign [.Subscript (.Name x p1) ix p2] e pos :: st) D (m.bind fun d => mi.bind fun n => (dputM ds (.inl n) d).bind f) := by
  obtain ⟨hv, ho⟩ := ok.vis hV
  obtain ⟨h1, h2, _⟩ := okName_d ho
  refine PSs.imp (pss_cons (ps_dput (by have := ok.toOk.room.un; omega) (pe_var (i := i) (by rw [ok.N]; exact hN) hv h1 h2) hi he hs) (PSs.ex hr)) fun E σ H ⟨kp, own, at_, q⟩ => ?_
  refine tE_iff.mpr ⟨kp, own, at_, ?_⟩
  cases m with
  | ok d =>
    intro v H1 s1 r1
    have a1 := at_.ext s1
    obtain ⟨p', vs, e1, hp, r, mu⟩ := a1.mutD hL
    refine ⟨_, e1, tE_iff.mpr ⟨kp, own, a1, ?_⟩⟩
    cases mi with
    | ok n =>
      intro y H2 s2 r2
      cases (show y = .int n from r2)
      have a2 := a1.ext s2
      obtain ⟨p2', vs2, e12, hp2, rr2, mu2⟩ := a2.mutD hL
      rw [e1] at e12
      cases e12
      have q : BOk g kp E D ((dputM ds (.inl n) d).bind f) := q
      unfold dputM at q
      split at q
      · rename_i hlt
        exact ⟨p', _, rfl, DPut.k (k := .inl n) hp2 (by rw [← rr2.length]; exact hlt), dputL ds (.inl n) d, kp, own, mu2 _ _ (rr2.put (.inl n) (S.mono r1 fun a o z => RB.same s2 bb a o (hb.rb a o z))), q⟩
      · exact q.elim
    | ex c => exact BOk.exx wk a1 q
    | no => exact q
  | ex c => exact BOk.exx wk at_ q
  | no => exact q
end
end Hd

namespace Hd
open PySem PySem.Spec PyProof.Rows L2
section
variable {p : Pr} {sc : Scope} {NN VV GG : List Str} {k : Nat} {g : G} {L : List Slot} {α β δ : Type} {S : Ty α} {T : Ty β} {md md' : Md} {pos : Pos} {st : List Stmt} {D : δ → Out} {i j : Nat} {x : Str} {a b c e : Expr}
theorem KReps.some {R : RdR} {ds : List (Key × α)} {vs : List (Key × V)} (h : KReps S R ds vs) (k : Key) : (valV vs k).isSome = (dgetL ds k).isSome := by
  rcases h.get k with ⟨g1, g2⟩ | ⟨d, v, g1, g2, _⟩ <;> rw [g1, g2] <;> rfl
def getDM {α : Type} (ds : List (Key × α)) (k : Key) : M α := match dgetL ds k with
  | some d => .ok d
  | none => .no
/-- n in d, a dict of one's own -/
theorem evt_inOwn {bb : Bool} {ds : List (Key × α)} {m1 : M Int} {npos : Pos} (ok : Ok p sc NN VV GG k g) (hN : NN[i]? = some x) (hV : VV[j]? = some x) (hL : L[i]? = some (sDict bb S ds)) (ha : EvE g L a .sh tInt m1)
    (hk : behindInMarks .In (.Name x npos) = false := by first | exact nobehind _ (by decide) (by decide) | rfl) : EvT g L (.Compare a [.In] [.Name x npos] pos) (m1.bind fun n => .ok (dgetL ds (.inl n)).isSome) := by
  obtain ⟨hv, ho⟩ := ok.vis hV
  obtain ⟨h1, h2, _⟩ := okName_d ho
  refine PT.imp (pt_cmp (pc_din (by have := ok.room.un; omega) ha (pe_var (i := i) (by rw [ok.N]; exact hN) hv h1 h2)) hk) fun σ H Q q => ?_
  obtain ⟨kp, own, at_, q⟩ := tT_iff.mp q
  obtain ⟨Fs, hA, rfl⟩ := at_.sl
  obtain ⟨v, F, e1, e2, pp, vs, rfl, rfl, hp, r⟩ := hA.get hL
  refine sub finT (Same.refl H) at_ q fun n y H2 s2 r2 at2 q2 => ?_
  cases (show y = .int n from r2)
  refine ⟨_, e1, pp, _, rfl, DGet.k (k := .inl n) (s2.keep _ _ hp rfl), _, rfl, ?_⟩
  rw [r.some]
  exact q2 H2 s2
theorem evt_notinOwn {bb : Bool} {ds : List (Key × α)} {m1 : M Int} {npos : Pos} (ok : Ok p sc NN VV GG k g) (hN : NN[i]? = some x) (hV : VV[j]? = some x) (hL : L[i]? = some (sDict bb S ds)) (ha : EvE g L a .sh tInt m1)
    (hk : behindInMarks .NotIn (.Name x npos) = false := by first | exact nobehind _ (by decide) (by decide) | rfl) : EvT g L (.Compare a [.NotIn] [.Name x npos] pos) (m1.bind fun n => .ok (!(dgetL ds (.inl n)).isSome)) := by
  obtain ⟨hv, ho⟩ := ok.vis hV
  obtain ⟨h1, h2, _⟩ := okName_d ho
  refine PT.imp (pt_cmp (pc_dnotin (by have := ok.room.un; omega) ha (pe_var (i := i) (by rw [ok.N]; exact hN) hv h1 h2)) hk) fun σ H Q q => ?_
  obtain ⟨kp, own, at_, q⟩ := tT_iff.mp q
  obtain ⟨Fs, hA, rfl⟩ := at_.sl
  obtain ⟨v, F, e1, e2, pp, vs, rfl, rfl, hp, r⟩ := hA.get hL
  refine sub finT (Same.refl H) at_ q fun n y H2 s2 r2 at2 q2 => ?_
  cases (show y = .int n from r2)
  refine ⟨_, e1, pp, _, rfl, DGet.k (k := .inl n) (s2.keep _ _ hp rfl), _, rfl, ?_⟩
  rw [r.some]
  exact q2 H2 s2
/-- d[n], a dict of one's own -/
theorem ev_subOwn {bb : Bool} {ds : List (Key × α)} {m1 : M Int} {npos : Pos} (ok : Ok p sc NN VV GG k g) (hN : NN[i]? = some x) (hV : VV[j]? = some x) (hL : L[i]? = some (sDict bb S ds)) (ha : EvE g L a .sh tInt m1)
    (hs : NoSl a := by intro _ _; rfl) : EvE g L (.Subscript (.Name x npos) a pos) .sh S (m1.bind fun n => getDM ds (.inl n)) := by
  obtain ⟨hv, ho⟩ := ok.vis hV
  obtain ⟨h1, h2, _⟩ := okName_d ho
  refine PE.imp (pe_dget (by have := ok.room.un; omega) (pe_var (i := i) (by rw [ok.N]; exact hN) hv h1 h2) ha hs) fun σ H Q q => ?_
  obtain ⟨kp, own, at_, q⟩ := tE_iff.mp q
  obtain ⟨Fs, hA, rfl⟩ := at_.sl
  obtain ⟨v, F, e1, e2, pp, vs, rfl, rfl, hp, r⟩ := hA.get hL
  refine ⟨_, e1, sub finE (Same.refl H) at_ q fun n y H2 s2 r2 at2 q2 => ?_⟩
  cases (show y = .int n from r2)
  unfold getDM at q2
  rcases r.get (.inl n) with ⟨g1, g2⟩ | ⟨d', v', g1, g2, g3⟩
  · rw [g1] at q2
    exact q2.elim
  · rw [g1] at q2
    refine ⟨pp, v', rfl, by rw [← g2]; exact DGet.k (k := .inl n) (s2.keep _ _ hp rfl), q2 v' H2 s2 (S.mono g3 fun a o z => ?_)⟩
    have z1 : RX g.fm Fs.flatten H H (if bb then .f0 else .sh) a o := z
    exact RX.same s2 a o (RX.sh a o z1)
end
end Hd

namespace Hd
open PySem PySem.Spec PyProof.Rows L2
section
variable {p : Pr} {sc : Scope} {NN VV GG : List Str} {k : Nat} {g : G} {L : List Slot} {α β δ : Type} {S : Ty α} {T : Ty β} {md md' : Md} {pos : Pos} {st : List Stmt} {D : δ → Out} {i j : Nat} {x : Str} {a b c e : Expr}
/-- a dict that is shared -/
def tDict {α : Type} (T : Ty α) : Ty (List (Key × α)) := ⟨fun ds v R => ∃ a vs, v = .ref a ∧ R a (.dK vs) ∧ KReps T R ds vs, fun ⟨a, vs, e, r, h⟩ s => ⟨a, vs, e, s _ _ r, h.mono s⟩⟩
theorem nn_dict : NotNon (tDict S) := ⟨fun ⟨a, vs, e, _⟩ => by subst e; exact fun z => nomatch z⟩
theorem At.freezeD {fm : Fm} {kp : RdR} {σ : L2.St} {H : Hp} {own : List Addr} {b : Bool} {ds : List (Key × α)} (h : At fm kp L σ H own) (hL : L[i]? = some (sDict b S ds)) : ∃ own', At fm kp (L.set i (sV false (tDict S) ds)) σ H own' ∧ ∀ p ∈ own', p ∈ own := by
  obtain ⟨h1, h2, ⟨Fs, h3, rfl⟩, h4, h5, h6⟩ := h
  obtain ⟨v, F, e1, e2, q, vs, rfl, rfl, hp, r⟩ := h3.get hL
  have qin : q ∈ Fs.flatten := List.mem_flatten.mpr ⟨[q], List.mem_of_getElem? e2, by simp⟩
  have kk : ∀ p ∈ (Fs.set i []).flatten, p ∈ Fs.flatten := fun p hp => (set_sub (i := i)).subset hp
  have qn : q ∉ (Fs.set i []).flatten := by
    have nd := h4
    clear h3 h5 h6 qin kk r hp
    induction Fs generalizing i L σ with
    | nil => simp at e2
    | cons F Fs ih =>
      rw [List.flatten_cons, List.nodup_append] at nd
      cases i with
      | zero =>
        simp at e2
        subst e2
        simp only [List.set_cons_zero, List.flatten_cons, List.nil_append]
        exact fun z => nd.2.2 q (by simp) q z rfl
      | succ i =>
        simp only [List.set_cons_succ, List.flatten_cons, List.mem_append, not_or]
        have e2' : Fs[i]? = some [q] := by simpa using e2
        refine ⟨fun z => nd.2.2 q z q (List.mem_flatten.mpr ⟨[q], List.mem_of_getElem? e2', by simp⟩) rfl, ?_⟩
        cases σ with
        | nil => simp at e1
        | cons s σ =>
          cases L with
          | nil => simp at hL
          | cons l L => exact ih (i := i) (L := L) (σ := σ) (hL := by simpa using hL) (e1 := by simpa using e1) (e2 := e2') (h4 := nd.2.1) (nd := nd.2.1)
  have σe : σ.set i (some (V.ref q)) = σ := by
    apply List.ext_getElem?
    intro n
    by_cases hn : n = i
    · subst hn
      rw [e1]
      have := (List.getElem?_eq_some_iff.mp e1).1
      rw [List.getElem?_set_self this]
    · rw [List.getElem?_set_ne (Ne.symm hn)]
  refine ⟨_, ⟨h1, h2, ⟨Fs.set i [], ?_, rfl⟩, h4.sublist set_sub, fun p hp => h5 p (kk p hp), fun a o z => RX.own (md := .sh) (H := H) kk a o (h6 a o z)⟩, kk⟩
  rw [← σe]
  refine (h3.st (RB.own kk) fun _ _ => rfl).set (s := sV false (tDict S) ds) ⟨rfl, .ref q, rfl, q, vs, rfl, ?_, ?_⟩ i
  · exact .inl ⟨.inl (cl_of hp), qn, (h5 q qin).2.2⟩
  · exact r.mono fun a o z => RX.sh (H := H) a o (RB.own kk b a o z)
theorem evb_freezeD {b : Bool} {ds : List (Key × α)} {m : M δ} (hL : L[i]? = some (sDict b S ds)) (hr : EvB g (L.set i (sV false (tDict S) ds)) st D m) : EvB g L st D m := PSs.imp hr fun E σ H ⟨kp, own, at_, q⟩ => by
  obtain ⟨own', a', _⟩ := at_.freezeD hL
  exact ⟨kp, own', a', q⟩
theorem ev_borrowD {b : Bool} {ds : List (Key × α)} {m : M β} (hf : Flat T ∨ md = .fx) (hL : L[i]? = some (sDict b S ds)) (h : EvE g (L.set i (sV false (tDict S) ds)) e md T m) : EvE g L e md T m := PE.imp h fun σ H Q q => by
  obtain ⟨kp, own, at_, q⟩ := tE_iff.mp q
  obtain ⟨own', a', sub⟩ := at_.freezeD hL
  refine tE_iff.mpr ⟨kp, own', a', ?_⟩
  cases m with
  | ok d =>
    refine fun v H' s r => q v H' s ?_
    rcases hf with hf | rfl
    · exact hf r
    · exact T.mono r fun a o z => ⟨z.1, fun y => (at_.new a y).1 z.2.2.2.2, z.2.2⟩
  | ex c => exact q
  | no => exact q
theorem evt_borrowD {b : Bool} {ds : List (Key × α)} {m : M Bool} (hL : L[i]? = some (sDict b S ds)) (h : EvT g (L.set i (sV false (tDict S) ds)) e m) : EvT g L e m := PT.imp h fun σ H Q q => by
  obtain ⟨kp, own, at_, q⟩ := tT_iff.mp q
  obtain ⟨own', a', sub⟩ := at_.freezeD hL
  refine tT_iff.mpr ⟨kp, own', a', ?_⟩
  cases m <;> exact q

theorem evt_inV {m1 : M Int} {m2 : M (List (Key × α))} (ok : Ok p sc NN VV GG k g) (ha : EvE g L a md tInt m1) (hb : EvE g L b md (tDict S) m2)
    (hk : behindInMarks .In b = false := by first | exact nobehind _ (by decide) (by decide) | rfl) : EvT g L (.Compare a [.In] [b] pos) (m1.bind fun n => m2.bind fun ds => .ok (dgetL ds (.inl n)).isSome) := by
  refine PT.imp (pt_cmp (pc_din (by have := ok.room.un; omega) ha hb) hk) fun σ H Q q => ?_
  obtain ⟨kp, own, at_, q⟩ := tT_iff.mp q
  refine sub finT (Same.refl H) at_ q fun n y H1 s1 r1 at1 q1 => sub finT s1 at1 q1 fun ds z H2 s2 r2 at2 q2 => ?_
  cases (show y = .int n from r1)
  obtain ⟨ad, vs, rfl, h, r⟩ := r2
  have hR : Rd H2 ad (.dK vs) := (RX.rdb (md := md) _ _ h).resolve_right fun z => z
  refine ⟨ad, _, rfl, .inl ⟨vs, .inl n, hR, rfl, rfl⟩, _, rfl, ?_⟩
  rw [r.some]
  exact q2 H2 (s1.trans s2)
theorem evt_notinV {m1 : M Int} {m2 : M (List (Key × α))} (ok : Ok p sc NN VV GG k g) (ha : EvE g L a md tInt m1) (hb : EvE g L b md (tDict S) m2)
    (hk : behindInMarks .NotIn b = false := by first | exact nobehind _ (by decide) (by decide) | rfl) : EvT g L (.Compare a [.NotIn] [b] pos) (m1.bind fun n => m2.bind fun ds => .ok (!(dgetL ds (.inl n)).isSome)) := by
  refine PT.imp (pt_cmp (pc_dnotin (by have := ok.room.un; omega) ha hb) hk) fun σ H Q q => ?_
  obtain ⟨kp, own, at_, q⟩ := tT_iff.mp q
  refine sub finT (Same.refl H) at_ q fun n y H1 s1 r1 at1 q1 => sub finT s1 at1 q1 fun ds z H2 s2 r2 at2 q2 => ?_
  cases (show y = .int n from r1)
  obtain ⟨ad, vs, rfl, h, r⟩ := r2
  have hR : Rd H2 ad (.dK vs) := (RX.rdb (md := md) _ _ h).resolve_right fun z => z
  refine ⟨ad, _, rfl, .inl ⟨vs, .inl n, hR, rfl, rfl⟩, _, rfl, ?_⟩
  rw [r.some]
  exact q2 H2 (s1.trans s2)
theorem ev_subV {m1 : M (List (Key × α))} {m2 : M Int} (ok : Ok p sc NN VV GG k g) (ha : EvE g L a md (tDict S) m1) (hb : EvE g L b md tInt m2) (hs : NoSl b := by intro _ _; rfl) :
    EvE g L (.Subscript a b pos) md S (m1.bind fun ds => m2.bind fun n => getDM ds (.inl n)) := by
  refine PE.imp (pe_dget (by have := ok.room.un; omega) ha hb hs) fun σ H Q q => ?_
  obtain ⟨kp, own, at_, q⟩ := tE_iff.mp q
  refine sub finE (Same.refl H) at_ q fun ds z H1 s1 r1 at1 q1 => sub finE s1 at1 q1 fun n y H2 s2 r2 at2 q2 => ?_
  cases (show y = .int n from r2)
  obtain ⟨ad, vs, rfl, h, r⟩ := (tDict S).mono r1 (RX.same s2)
  have hR : Rd H2 ad (.dK vs) := (RX.rdb (md := md) _ _ h).resolve_right fun z => z
  unfold getDM at q2
  rcases r.get (.inl n) with ⟨g1, g2⟩ | ⟨d', v', g1, g2, g3⟩
  · rw [g1] at q2
    exact q2.elim
  · rw [g1] at q2
    exact ⟨ad, v', rfl, by rw [← g2]; exact .inl ⟨vs, .inl n, hR, rfl, rfl⟩, q2.fin (fr := false) .same (s1.trans s2) at2 (fun c z => by cases z) v' H2 (Same.refl _) (S.mono g3 (Nw.old rfl))⟩
end
end Hd

namespace Hd
open PySem PySem.Spec PyProof.Rows L2
section
variable {p : Pr} {sc : Scope} {NN VV GG : List Str} {k : Nat} {g : G} {L : List Slot} {α β δ : Type} {S : Ty α} {T : Ty β} {md md' : Md} {pos : Pos} {st : List Stmt} {D : δ → Out} {i j : Nat} {x : Str} {a b c e : Expr}
/-- x = {a: b}, b a flat thing -/
theorem evb_newD1 {m1 : M Int} {m2 : M α} {f : List (Key × α) → M δ} {pos' pd : Pos} (ok : OkS p sc NN VV GG k g) (wk : Wk L g.LX) (hN : NN[i]? = some x) (hV : VV[j]? = some x) (hf : Flat S) (ha : EvE g L a md tInt m1) (hb : EvE g L b md' S m2) (hr : ∀ ds, EvB g (L.set i (sDict false S ds)) st D (f ds))
    (hs : ∀ Y : Cx, swapsWith (.Dict [some a] [b] pd) (some (.Name x pos')) pos.line Y.env = pure false := by intro _; rfl) : EvB g L (.Assign [.Name x pos'] (.Dict [some a] [b] pd) pos :: st) D (m1.bind fun n => m2.bind fun d => (M.ok [(.inl n, d)]).bind f) := by
  refine PSs.imp (pss_cons (ps_set (i := i) (by rw [ok.N]; exact ok.nd) (by rw [ok.N]; exact hN) (ok.loc hV) (pe_disp (pps_cons ha hb pps_nil) rfl rfl (by simp) (by simp)) (hs _) (okS_fn ok)) (PSs.ex hr)) fun E σ H ⟨kp, own, at_, q⟩ => ?_
  intro q' hq'
  refine tE_iff.mpr ⟨kp, own, at_.ext (newSame hq'), ?_⟩
  cases m1 with
  | ok n =>
    intro y H1 s1 r1
    cases (show y = .int n from r1)
    have a1 := (at_.ext (newSame hq' (o := .dK []))).ext s1
    refine tE_iff.mpr ⟨kp, own, a1, ?_⟩
    cases m2 with
    | ok d =>
      intro z H2 s2 r2
      refine ⟨s2.keep _ _ (s1.keep _ _ upd_same rfl) rfl, [(.inl n, z)], rfl, by simp, ?_⟩
      obtain ⟨own', a'⟩ := at_.setOwnD (S := S) (i := i) (b := false) (ds := [(.inl n, d)]) (vs := [(.inl n, z)]) (H' := upd H2 q' (.dK [(.inl n, z)])) ((((newSame hq').trans s1).trans s2).wr hq' (s2.keep _ _ (s1.keep _ _ upd_same rfl) rfl) (fun _ z => nomatch z) rfl) hq' upd_same (.cons (hf r2) .nil)
      exact ⟨[(.inl n, d)], kp, own', a', q⟩
    | ex c => exact BOk.exx wk a1 q
    | no => exact q
  | ex c => exact BOk.exx wk (at_.ext (newSame hq')) q
  | no => exact q
end
end Hd

namespace Hd
open PySem PySem.Spec PyProof.Rows L2
/-! ### list(reversed(x)) -/
section
variable {prog : Program} {w : World} {A : Around} {E : Value → Shared → Prop} {s : Shared}
theorem call_list_rev {it l : Addr} {items : Array Value} {Q : Value → Shared → Prop} (hh : A.handled = none) (hit : s.heap.IsRevIter it l ((items.size : Int) - 1)) (hl : s.heap.IsList l items) (hne : l ≠ it) (hn : items.size ≤ sizeLine)
    (hQ : ∀ (h' : Heap) (tk : Nat) (acc : Array Value) (c' : Nat), (∀ b o, b ≠ it → s.heap.get? b = some o → h'.get? b = some o) → h'.get? s.heap.objs.size = some { cls := .type "list", data := .seq acc c' } →
      ItemsOf (fun i v => items[items.size - 1 - i]? = some v) acc items.size → Q (.ref s.heap.objs.size) { s with heap := h', toks := tk }) :
    wpAny (model prog w) A (call (.type "list") [.ref it]) Q E s := by
  refine callType_codes (Q₁ := fun obj s₁ => obj = .ref s.heap.objs.size ∧ s₁ = { s with heap := s.heap.push { cls := .type "list", data := .seq #[] } }) F.called_list (F.typeCall_list_1 _) F.entry_list_init
    (code_list_new _ ⟨rfl, rfl⟩) fun obj s₁ h₁ => ?_
  obtain ⟨rfl, rfl⟩ := h₁
  have hS : (s.heap.push { cls := .type "list", data := .seq #[] }).get? s.heap.objs.size = some { cls := .type "list", data := .seq #[] } := Heap.get?_push_size _ rfl
  refine ⟨⟨_, hS, rfl⟩, F.args_list_init_2 _ _, ?_⟩
  obtain ⟨oi, hoi, hoc, hod⟩ := id hit
  obtain ⟨ol, hol, _⟩ := id hl
  have hSi : s.heap.objs.size ≠ it := Nat.ne_of_gt (Heap.lt_size hoi)
  have hSl : s.heap.objs.size ≠ l := Nat.ne_of_gt (Heap.lt_size hol)
  have hSf : s.heap.objs.size ∉ [it, l] := by simp only [List.mem_cons, List.not_mem_nil, or_false, not_or]; exact ⟨hSi, hSl⟩
  have W := (Walks.listRev (prog := prog) (w := w) (A := A.in1.in1) hh it l hne items).toS
  show wpAny _ A.in1.in1 (do let old ← Builtin.List.listItems (.ref s.heap.objs.size); Builtin.List.listUpdate (.ref s.heap.objs.size) (fun _ => #[]); letGo old.toList.reverse; Builtin.List.listExtendWith (.ref s.heap.objs.size) (.ref it) .none) _ _ _
  refine wpAny_bind ?_
  unfold Builtin.List.listItems
  refine wpAny_bind (wpAny_seqItems hS rfl (wpAny_pure ?_))
  show wpAny _ A.in1.in1 (updateSeq s.heap.objs.size (fun _ => #[]) >>= fun _ => letGo (#[] : Array Value).toList.reverse >>= fun _ => Builtin.List.listExtendWith (.ref s.heap.objs.size) (.ref it) .none) _ _ _
  refine wpAny_bind (wpAny_updateSeq hS rfl ?_)
  have hS2 := Heap.get?_update_self (Obj.mapSeq (fun _ => (#[] : Array Value))) hS rfl
  refine wpAny_bind (wpAny_letGo ?_)
  have up : ∀ b o, s.heap.get? b = some o → ((s.heap.push { cls := .type "list", data := .seq #[] }).update s.heap.objs.size (Obj.mapSeq (fun _ => (#[] : Array Value)))).get? b = some o := fun b o e =>
    (Heap.get?_update_other _ _ (Ne.symm (Nat.ne_of_lt (Heap.lt_size e)))).trans (Heap.get?_push_of_some _ e)
  have hit1 : ((s.heap.push { cls := .type "list", data := .seq #[] }).update s.heap.objs.size (Obj.mapSeq (fun _ => (#[] : Array Value)))).IsRevIter it l ((items.size : Int) - 1) := ⟨oi, up _ _ hoi, hoc, hod⟩
  have hl1 : ((s.heap.push { cls := .type "list", data := .seq #[] }).update s.heap.objs.size (Obj.mapSeq (fun _ => (#[] : Array Value)))).IsList l items := by
    obtain ⟨o, ho, r⟩ := hl
    exact ⟨o, up _ _ ho, r⟩
  generalize ((s.heap.push { cls := .type "list", data := .seq #[] }).update s.heap.objs.size (Obj.mapSeq (fun _ => (#[] : Array Value)))) = h2 at hS2 up hit1 hl1 ⊢
  unfold Builtin.List.listExtendWith
  have hT : ({ s with heap := h2 } : Shared).TypeIs (.ref it) "list_reverseiterator" := Heap.IsRevIter.typeIs (s := { s with heap := h2 }) hit1
  have h1 : Builtin.List.listSameRef (.ref s.heap.objs.size) (.ref it) = false := by simp [Builtin.List.listSameRef, hSi]
  refine wpAny_bind (wpAny_typeOf hT ?_)
  rw [if_neg (by rw [h1]; decide)]
  refine wpAny_bind (wpAny_pyIter_revIter (s := { s with heap := h2 }) hit1 ?_)
  refine wpAny_bind (wpAny_holding ?_)
  unfold Builtin.List.listLengthHint
  refine wpAny_bind (wpAny_specialOf hT RT.nolen_lri ?_)
  show wpAny _ A.in1.in1 (specialOf (Value.ref it) (Str.ofString "__length_hint__") >>= _) _ _ _
  refine wpAny_bind (wpAny_specialOf hT RT.hint_lri ?_)
  generalize hid : ("list_reverseiterator.__length_hint__" : String) = id0
  wp_delta
  rw [show splitId id0 = some ("list_reverseiterator", "__length_hint__") from by subst hid; decide +kernel]
  subst hid
  refine wpAny_bind (wpAny_isInstance (b := true) hT (by rw [isSubtype_type]; kernel_rfl) ?_)
  refine wpAny_pure ?_
  rw [if_neg (by decide)]
  have e0 : ((items.size : Nat) : Int) - 1 - ((0 : Nat) : Int) = (items.size : Int) - 1 := by omega
  refine wpAny_pure ⟨plainId_quiet F.plain_extend_loop _, codeAny_extend_loopS W hn _ hSf _ items.size 0 _ _ _ rfl (Nat.zero_le _) ⟨Nat.zero_le _, by rw [e0]; exact hit1, hl1⟩ hS2 (ItemsOf.nil _) fun s' acc' c' hm hS' hacc => ?_⟩
  rw [Moved.eq_with hm]
  refine ⟨rfl, hQ s'.heap s'.toks acc' c' (fun b o hb e => hm.heap b o (fun hmem => ?_) (up _ _ e)) hS' hacc⟩
  rcases List.mem_cons.mp hmem with e' | hmem
  · exact absurd (Heap.lt_size e) (by rw [e']; exact Nat.lt_irrefl _)
  · rcases List.mem_cons.mp hmem with e' | hmem
    · exact hb e'
    · exact absurd hmem (by simp)
end
def tLstRev (K : PySem.W.Frag) (te : TE) : TE := fun σ H Q => te σ H fun v H1 => ∃ (a : Addr) (xs : List V), v = .ref a ∧ SqL K H1 a xs ∧ ∀ q, H1 q = none → Q (.ref q) (upd H1 q (.lst xs.reverse))
theorem pe_lstRev {X : Cx} {e : Expr} {te : TE} {p p2 pos pos2 : Pos} (hc : X.calm = true) (hg : Gl X "list") (hm : X.mg "list" = none) (hg2 : Gl X "reversed") (hm2 : X.mg "reversed" = none) (he : PE X e te)
    (hs : starEach [e] X.env = (false, eval e X.env) :: starEach [] X.env := by rfl)
    (hs2 : starEach [.Call (.Name "reversed" p2) [e] [] pos2] X.env = (false, eval (.Call (.Name "reversed" p2) [e] [] pos2) X.env) :: starEach [] X.env := by rfl) :
    PE X (.Call (.Name "list" p) [.Call (.Name "reversed" p2) [e] [] pos2] [] pos) (tLstRev X.K te) := by
  refine ⟨fun pins s σ H Q I h => ?_⟩
  refine Call_ (ld_blt I hg hm boot_list (PyProof.Rows.callWith_type1 (args_cons (Call_ (ld_blt I hg2 hm2 PyProof.Rows.boot_reversed (PyProof.Rows.callWith_type1 (args_cons (thn (he.run pins s σ H _ I h) fun u s1 ⟨v, H1, I1, r1, q1⟩ => args_nil ?_) hs) hs rfl))) hs2) hs2 rfl))
  obtain ⟨a, xs, ev, hq, q⟩ := q1
  subst ev
  obtain rfl : u = Value.ref a := r1
  obtain ⟨its, rv, p', hz⟩ := I1.list hq
  refine call_reversed_list p'.isList (args_nil ?_)
  have k0 : ∀ b o, s1.heap.get? b = some o → (s1.heap.push (revObj a ((its.toArray.size : Int) - 1))).get? b = some o := fun b o e => Heap.get?_push_of_some _ e
  have I2 : Inv X pins σ H1 { s1 with heap := s1.heap.push (revObj a ((its.toArray.size : Int) - 1)) } := I1.kept (t' := s1.toks) k0
  obtain ⟨f0, f1, f2, f3, f4, f5⟩ := I1.fpOk (H' := H1) (b := s1.heap.objs.size) (Nat.le_refl _) (I1.hok.fresh (Nat.le_refl _))
  have hl := p'.isList
  obtain ⟨ol, hol, _⟩ := id hl
  have hne : a ≠ s1.heap.objs.size := Nat.ne_of_lt (Heap.lt_size hol)
  have hn : its.toArray.size ≤ sizeLine := by rw [List.size_toArray, ← rv.length]; exact hz
  refine call_list_rev (s := { s1 with heap := s1.heap.push (revObj a ((its.toArray.size : Int) - 1)) }) (I1.ok.hd hc) ⟨_, Heap.get?_push_size _ rfl, rfl, rfl⟩ (hl.push _) hne hn fun h' tk acc c' hk hS hi => ?_
  have nN : H1 (s1.heap.push (revObj a ((its.toArray.size : Int) - 1))).objs.size = none := I2.hok.fresh (Nat.le_refl _)
  have sz : s1.heap.objs.size < (s1.heap.push (revObj a ((its.toArray.size : Int) - 1))).objs.size := by rw [Heap.size_push]; omega
  refine ⟨.ref (s1.heap.push (revObj a ((its.toArray.size : Int) - 1))).objs.size, upd H1 (s1.heap.push (revObj a ((its.toArray.size : Int) - 1))).objs.size (.lst xs.reverse), ?_, rfl, q _ nN⟩
  refine I2.turnedNew (t' := tk) (ch := [s1.heap.objs.size]) (fun b o hb e => hk b o (by simpa using hb) e) (fun b hb => ?_) (Nat.le_refl _) (show ObjOk X.prog X.w _ _ _ (.lst xs.reverse) from ⟨by rw [List.length_reverse]; exact hz, acc.toList, c', RT.vals_rev rv hi, by rw [Array.toArray_toList]; exact hS⟩)
  have e : b = s1.heap.objs.size := by simpa using hb
  subst e
  exact ⟨f0, f1, f2, f3, f4, f5⟩
section
variable {p : Pr} {sc : Scope} {NN VV GG : List Str} {k : Nat} {g : G} {L : List Slot} {α β δ : Type} {S : Ty α} {T : Ty β} {Q : Ty (List α)} {md md' : Md} {pos pp p2 pos2 : Pos} {st : List Stmt} {D : δ → Out} {i j j2 : Nat} {x : Str} {a b c e : Expr}
theorem evl_listRev {mx : M (List α)} (ok : Ok p sc NN VV GG k g) (hq : IsSq p.K Q S) (hL : ∀ {d v R H}, Rdb p.K R H → Q.rep d v R → ∃ a vs, v = .ref a ∧ SqL p.K H a vs ∧ Reps S R d vs) (hG : GG[j]? = some "list") (hmg : p.mg "list" = none) (hG2 : GG[j2]? = some "reversed") (hmg2 : p.mg "reversed" = none) (ha : EvE g L e md Q mx)
    (hs : starEach [e] g.X.env = (false, eval e g.X.env) :: starEach [] g.X.env := by rfl) (hs2 : starEach [.Call (.Name "reversed" p2) [e] [] pos2] g.X.env = (false, eval (.Call (.Name "reversed" p2) [e] [] pos2) g.X.env) :: starEach [] g.X.env := by rfl) :
    EvL g L (.Call (.Name "list" pp) [.Call (.Name "reversed" p2) [e] [] pos2] [] pos) md S (mx.bind fun d => .ok d.reverse) := by
  obtain ⟨hg, ho⟩ := ok.gl hG
  obtain ⟨hg2, ho2⟩ := ok.gl hG2
  refine PE.imp (pe_lstRev ok.calm hg (by rw [ok.mg]; exact hmg) hg2 (by rw [ok.mg]; exact hmg2) ha hs hs2) fun σ H W q => ?_
  obtain ⟨kp, own, at_, q⟩ := tL_iff.mp q
  refine tE_iff.mpr ⟨kp, own, at_, ?_⟩
  cases mx with
  | ok d =>
    intro v H1 s1 rx
    obtain ⟨a, ws, rfl, h, rr⟩ := hL (by rw [← ok.fmK]; exact RX.rdb) rx
    exact ⟨a, ws, rfl, by rw [ok.K]; exact h, fun l hl => q l ws.reverse _ (s1.trans (newSame hl)) (s1.free hl) upd_same (rr.reverse.mono (RX.add hl))⟩
  | ex c => exact q
  | no => exact q
theorem sqL_list {K : PySem.W.Frag} : ∀ {d : List α} {v R H}, Rdb K R H → (tList S).rep d v R → ∃ a vs, v = .ref a ∧ SqL K H a vs ∧ Reps S R d vs := fun {d v R H} rb ⟨a, vs, e, r, h⟩ => by
  refine ⟨a, vs, e, ?_, h⟩
  rcases rb _ _ r with r | r
  · exact .inl r
  · exact r.elim
/-! ### list(range(..)) -/
def rangeL (lo hi : Int) : M (List Int) := if -(2 ^ 62) ≤ lo ∧ lo < 2 ^ 62 ∧ -(2 ^ 62) ≤ hi ∧ hi < 2 ^ 62 ∧ (hi - lo).toNat ≤ 2 ^ 24 then .ok (upFrom lo (hi - lo).toNat) else .no
theorem rgV_up (lo hi : Int) : rgV lo hi = (upFrom lo (hi - lo).toNat).map V.int := by
  apply List.ext_getElem?
  intro i
  unfold rgV
  rw [List.getElem?_map, List.getElem?_map, upFrom_get]
  by_cases h : i < (hi - lo).toNat
  · rw [if_pos h, List.getElem?_range h]; rfl
  · rw [if_neg h, List.getElem?_eq_none (by simp; omega)]; rfl
theorem rangeL_ok {lo hi : Int} {F : M (List Int) → Prop} (no : ¬ F .no) (q : F (rangeL lo hi)) : RgOk lo hi ∧ F (.ok (upFrom lo (hi - lo).toNat)) := by
  unfold rangeL at q
  split at q
  · rename_i h; exact ⟨h, q⟩
  · exact absurd q no
theorem evl_listRg1 {m : M Int} (ok : Ok p sc NN VV GG k g) (hG : GG[j]? = some "list") (hmg : p.mg "list" = none) (hG2 : GG[j2]? = some "range") (hmg2 : p.mg "range" = none) (ha : EvE g L a md tInt m)
    (hs : starEach [a] g.X.env = (false, eval a g.X.env) :: starEach [] g.X.env := by rfl) (hs2 : starEach [.Call (.Name "range" p2) [a] [] pos2] g.X.env = (false, eval (.Call (.Name "range" p2) [a] [] pos2) g.X.env) :: starEach [] g.X.env := by rfl) :
    EvL g L (.Call (.Name "list" pp) [.Call (.Name "range" p2) [a] [] pos2] [] pos) md' tInt (m.bind fun n => rangeL 0 n) := by
  obtain ⟨hg, ho⟩ := ok.gl hG
  obtain ⟨hg2, ho2⟩ := ok.gl hG2
  refine PE.imp (pe_listRg ok.calm hg (by rw [ok.mg]; exact hmg) (prg_1 hg2 (by rw [ok.mg]; exact hmg2) ha hs) hs2) fun σ H W q => ?_
  obtain ⟨kp, own, at_, q⟩ := tL_iff.mp q
  refine tE_iff.mpr ⟨kp, own, at_, ?_⟩
  cases m with
  | ok n =>
    intro v H1 s1 rx
    cases (show v = .int n from rx)
    obtain ⟨h1, q⟩ := rangeL_ok (F := FinL g.fm g.W own σ H md' tInt W) (fun z => z) q
    exact ⟨n, rfl, h1, fun l hl => q l _ _ (s1.trans (newSame hl)) (s1.free hl) upd_same (by rw [rgV_up]; exact reps_ints _)⟩
  | ex c => exact q
  | no => exact q
theorem evl_listRg2 {m1 m2 : M Int} (ok : Ok p sc NN VV GG k g) (hG : GG[j]? = some "list") (hmg : p.mg "list" = none) (hG2 : GG[j2]? = some "range") (hmg2 : p.mg "range" = none) (ha : EvE g L a md tInt m1) (hb : EvE g L b md tInt m2)
    (hs : starEach [a, b] g.X.env = (false, eval a g.X.env) :: starEach [b] g.X.env := by rfl) (hs' : starEach [b] g.X.env = (false, eval b g.X.env) :: starEach [] g.X.env := by rfl) (hs2 : starEach [.Call (.Name "range" p2) [a, b] [] pos2] g.X.env = (false, eval (.Call (.Name "range" p2) [a, b] [] pos2) g.X.env) :: starEach [] g.X.env := by rfl) :
    EvL g L (.Call (.Name "list" pp) [.Call (.Name "range" p2) [a, b] [] pos2] [] pos) md' tInt (m1.bind fun lo => m2.bind fun hi => rangeL lo hi) := by
  obtain ⟨hg, ho⟩ := ok.gl hG
  obtain ⟨hg2, ho2⟩ := ok.gl hG2
  refine PE.imp (pe_listRg ok.calm hg (by rw [ok.mg]; exact hmg) (prg_2 hg2 (by rw [ok.mg]; exact hmg2) ha hb hs hs' (by rw [hs']; rfl)) hs2) fun σ H W q => ?_
  obtain ⟨kp, own, at_, q⟩ := tL_iff.mp q
  refine tE_iff.mpr ⟨kp, own, at_, ?_⟩
  cases m1 with
  | ok lo =>
    intro v H1 s1 rx
    cases (show v = .int lo from rx)
    refine tE_iff.mpr ⟨kp, own, at_.ext s1, ?_⟩
    cases m2 with
    | ok hi =>
      intro v H2 s2 rx
      cases (show v = .int hi from rx)
      obtain ⟨h1, q⟩ := rangeL_ok (F := FinL g.fm g.W own σ H md' tInt W) (fun z => z) q
      exact ⟨lo, hi, rfl, rfl, h1, fun l hl => q l _ _ ((s1.trans s2).trans (newSame hl)) ((s1.trans s2).free hl) upd_same (by rw [rgV_up]; exact reps_ints _)⟩
    | ex c => exact fun H' s => q H' (s1.trans s)
    | no => exact q
  | ex c => exact q
  | no => exact q
end
end Hd

namespace Hd
open PySem PySem.Spec PyProof.Rows L2
/-! ### sorted(range(..), key=f) -/
theorem eachIs_get {α β : Type} {R : α → β → Prop} : ∀ (as : List α) (bs : List β), as.length = bs.length → (∀ (i : Nat) a b, as[i]? = some a → bs[i]? = some b → R a b) → PySem.W.EachIs R as bs
  | [], [], _, _ => .nil
  | [], _ :: _, h, _ => by simp at h
  | _ :: _, [], h, _ => by simp at h
  | a :: as, b :: bs, h, f => .cons (f 0 a b rfl rfl) (eachIs_get as bs (by simpa using h) fun i x y e1 e2 => f (i + 1) x y (by simpa using e1) (by simpa using e2))
section
variable {prog : Program} {w : World} {A : Around} {E : Value → Shared → Prop} {s : Shared}
theorem sorted_key_range {r q : Addr} {lo hi : Int} {t u v : Tok} {Q : Value → Shared → Prop} (k : Int → PyData) (hh : A.handled = none) (hr : IsRange s.heap r lo hi 1 t u v) (ok : RgOk lo hi)
    (hal : PySem.W.AllAlike ((upFrom lo (hi - lo).toNat).map k)) (hk : PySem.W.Sortable ((upFrom lo (hi - lo).toNat).map k)) (hu : ∀ x, x ∈ upFrom lo (hi - lo).toNat → A.units + 2 + (k x).depth < cLine)
    (turn : ∀ (x : Int) (tx : Tok), x ∈ upFrom lo (hi - lo).toNat → ∀ (h : Heap) (tk : Nat), (∀ b o, s.heap.get? b = some o → h.get? b = some o) →
      wpAny (model prog w) A.in1.in1 (call (.ref q) [.int x tx]) (PySem.W.KeyPure (k x) { s with heap := h, toks := tk }) (fun _ _ => False) { s with heap := h, toks := tk })
    (h : ∀ (h1 : Heap) (tk1 : Nat), (∀ b o, s.heap.get? b = some o → h1.get? b = some o) → ∀ (out : List Value) (c : Nat) (h' : Heap) (tk : Nat), (∀ b o, h1.get? b = some o → h'.get? b = some o) → h'.get? h1.objs.size = some { cls := .type "list", data := .seq out.toArray c } → PySem.W.EachIs (fun v x => ∃ t, v = Value.int x t) out ((upFrom lo (hi - lo).toNat).mergeSort (PySem.W.dataLe false k)) →
      Q (.ref h1.objs.size) { s with heap := h', toks := tk }) :
    wpAny (model prog w) A (call (.builtin "sorted") [.ref r] [(Str.ofString "key", .ref q)]) Q E s := by
  obtain ⟨b1, b2, b3, b4, b5⟩ := ok
  have hline : (2 : Nat) ^ 24 ≤ sizeLine := by rw [sizeLine_eq]; decide
  refine PyProof.Rows.call_function_entry_kw kind_sorted plain_sorted entry_sorted (ksk_s1 _ _) ?_
  unfold Builtin.«sorted»
  refine wpAny_bind (m := checkCount "sorted" 1 1 _) (wpAny_pure ?_)
  refine wpAny_bind (collect_range (A := A.in1) hh hr (small_one b1 b2 b3 b4) (rangeSize_nat lo hi) b5 fun h1 tk1 acc hk1 hi1 => ?_)
  have hL : acc.toList.length ≤ sizeLine := by rw [Array.length_toList, hi1.1]; exact Nat.le_trans b5 hline
  refine wpAny_bind (wpAny_newList ?_ hL)
  have each : PySem.W.EachIs (fun v x => ∃ t, v = Value.int x t) acc.toList (upFrom lo (hi - lo).toNat) := by
    refine eachIs_get _ _ (by rw [Array.length_toList, hi1.1, upFrom_len]) fun i a b e1 e2 => ?_
    obtain ⟨t, e⟩ := hi1.2 i a (by rw [← Array.getElem?_toList]; exact e1)
    rw [upFrom_get] at e2
    split at e2
    · cases e2; exact ⟨t, by rw [e, Int.mul_one]⟩
    · cases e2
  have at1 : (h1.push { cls := .type "list", data := .seq acc.toList.toArray }).get? h1.objs.size = some { cls := .type "list", data := .seq acc.toList.toArray } := Heap.get?_push_size _ rfl
  have up1 : ∀ b o, h1.get? b = some o → b ≠ h1.objs.size ∧ (h1.push { cls := .type "list", data := .seq acc.toList.toArray }).get? b = some o := fun b o e =>
    ⟨Nat.ne_of_lt (Heap.lt_size e), Heap.get?_push_of_some _ e⟩
  refine wpAny_bind (wpAny_holding (PySem.W.list_sort_key_data (s := { s with heap := h1.push { cls := .type "list", data := .seq acc.toList.toArray }, toks := tk1 }) (R := fun v x => ∃ t, v = Value.int x t) (f := .ref q) (b := false) (n := 0) k at1 each hal hk (by rw [← each.length]; exact hL) (fun x hx => by have := hu x hx; simp only [Around.in1] at *; omega) (ksk_l1 _ _) (ksk_t1 _ _) (fun v x hR hx h tk kp => ?_) fun out c h' tk kp hD _ hE => ?_))
  · obtain ⟨tx, rfl⟩ := hR
    exact turn x tx hx h tk fun b o e => kp b o (up1 b o (hk1 b o e)).1 (up1 b o (hk1 b o e)).2
  · exact wpAny_pure ⟨_, rfl, h h1 tk1 hk1 out c h' tk (fun b o e => kp b o (up1 b o e).1 (up1 b o e).2) hD hE⟩
end
/-! ### the lambda -/
section
open LamX
variable {X : Cx} {pins : List (Addr × Obj)} {σ : L2.St} {H : Hp} {s : Shared}
/-- a table that has one more code object -/
theorem same_tab {P c' : Addr} {ps : Array Value} {pos : Pos} (hP : H P = some (.tbl ps)) (nC : H c' = none) : Same H (upd (upd H P (.tbl (ps ++ #[rawInt pos.line, rawInt pos.col, .ref c']))) c' (CodeO c' lamQ)) := by
  have nPc : P ≠ c' := ne_of_none hP nC
  refine ⟨fun a o e n => ?_, fun a e => ?_, fun P' ⟨ps', t1, t2, t3⟩ => ?_⟩
  · have n1 : a ≠ c' := ne_of_none e nC
    have n2 : a ≠ P := fun z => by rw [z, hP] at e; cases e; cases n
    rw [upd_ne n1, upd_ne n2]; exact e
  · by_cases z : a = c'
    · rw [z, upd_same] at e; cases e
    · rw [upd_ne z] at e
      by_cases z2 : a = P
      · rw [z2, upd_same] at e; cases e
      · rw [upd_ne z2] at e; exact e
  · have old : ∀ c2, H c2 = some (CodeO c2 lamQ) → upd (upd H P (.tbl (ps ++ #[rawInt pos.line, rawInt pos.col, .ref c']))) c' (CodeO c' lamQ) c2 = some (CodeO c2 lamQ) := fun c2 e => by
      have n1 : c2 ≠ c' := ne_of_none e nC
      have n2 : c2 ≠ P := fun z => by rw [z, hP] at e; exact codeO_ne ps (Option.some.inj e).symm
      rw [upd_ne n1, upd_ne n2]; exact e
    by_cases hb : P' = P
    · subst hb
      rw [hP] at t1
      cases t1
      have eL : (ps ++ #[rawInt pos.line, rawInt pos.col, .ref c']).toList = ps.toList ++ [rawInt pos.line, rawInt pos.col, .ref c'] := by simp
      refine ⟨_, by rw [upd_ne nPc, upd_same], by rw [eL]; exact PySem.TriplesOk_snoc _ _ _ _ t2, fun p' cv hcv => ?_⟩
      rw [eL] at hcv
      rcases among_app _ t2 hcv with z | z
      · obtain ⟨c0, e1, e2⟩ := t3 p' cv z
        exact ⟨c0, e1, old c0 e2⟩
      · exact ⟨c', z, upd_same⟩
    · refine ⟨ps', by rw [upd_ne (ne_of_none t1 nC), upd_ne hb]; exact t1, t2, fun p' cv hcv => ?_⟩
      obtain ⟨c0, e1, e2⟩ := t3 p' cv hcv
      exact ⟨c0, e1, old c0 e2⟩
theorem lam_mk {c P : Addr} {params : Arguments} {body : Expr} {scope : Scope} {pos : Pos} {E : Value → Shared → Prop} {Q : Value → Shared → Prop} (I : Inv X pins σ H s) (TB : TabB X.base X.mg c P) (hcode : X.env.code = .ref c)
    (hq : X.env.qual ++ "<lambda>" = lamQ) (hT : TabS H P lamQ) (hdef : defaultsOf params X.env = ([], [])) (hfree : ∀ y ∈ scope.names, y.2 = .free → ∃ c, X.env.cells.lookup y.1 = some c)
    (h : ∀ (f c' : Addr) (pm ctv : Value) (H1 : Hp) (s' : Shared), Inv X pins σ H1 s' → Same H H1 →
      s'.heap.get? f = some (PySem.W.kla_obj "<lambda>" lamQ params body scope (cloFrom X.env.cells scope.names []) pm c' ctv) → H1 c' = some (CodeO c' lamQ) → Q (.ref f) s') :
    wpAny (model X.prog X.w) X.A (eval (.Lambda params body scope pos) X.env) Q E s := by
  obtain ⟨ps, hP, ht, ha⟩ := hT
  have hP' : s.heap.get? P = some { cls := .none, data := .fields ps } := I.hok P _ hP
  have bP : s.heap.BuiltinsAt X.mg P := TB.bm.keeps I.bk
  rw [← hq] at ha h
  refine PySem.W.kla_eval hdef ?_
  cases hc : codeAmong pos ps.toList with
  | some cv =>
    obtain ⟨c', rfl, hco⟩ := ha pos cv hc
    refine PySem.W.kla_makeFunctionHit (c := c) (P := P) (ps := ps) (mg := X.mg) (closure_ok hfree) I.ok.glob (I.mod.glob.keeps I.bk) hcode (TB.code.keeps I.bk) hP' ht hc bP fun ctv h' tk hx hsz => ?_
    refine h h'.objs.size c' ((X.mg "__name__").getD .none) ctv H _ (I.kept (t' := tk) fun b o e => Heap.get?_push_of_some _ (hx b o e)) (Same.refl H) (Heap.get?_push_size _ rfl) hco
  | none =>
    refine PySem.W.kla_makeFunction (c := c) (P := P) (ps := ps) (mg := X.mg) (closure_ok hfree) I.ok.glob (I.mod.glob.keeps I.bk) hcode (TB.code.keeps I.bk) hP' ht hc TB.gP bP fun c' ctv h' tk hx hge hlt hrec htb => ?_
    obtain ⟨c2, oc, vs, t, e2, hoc, hd, hv⟩ := hrec
    cases e2
    have nC : H c' = none := I.hok.fresh hge
    refine h h'.objs.size c' ((X.mg "__name__").getD .none) ctv _ _ (inv_table (t' := tk) (more := #[rawInt pos.line, rawInt pos.col, .ref c']) (h' := h'.push _) I hP (fun b o hb e => Heap.get?_push_of_some _ (hx b o hb e)) (Heap.get?_push_of_some _ htb) hge ⟨oc, vs, t, Heap.get?_push_of_some _ hoc, hd, hv⟩) ?_ (Heap.get?_push_size _ rfl) upd_same
    rw [hq]
    exact same_tab hP nC
end
section
variable {prog : Program} {w : World} {A : Around} {s : Shared}
/-- the lambda's body -/
abbrev lamBody (y z : Str) (q1 q2 q3 q4 q5 q6 : Pos) (x1 : Nat) : Expr := .Tuple [.UnaryOp .USub (.Subscript (.Name y q1) (.Name z q2) q3) q4, .Name z q5] x1 q6
/-- .. at a number -/
theorem lam_key {f c' ca cc : Addr} {y z : Str} {q1 q2 q3 q4 q5 q6 : Pos} {x1 : Nat} {params : Arguments} {scope : Scope} {cl : List (Str × Addr)} {pm ctv : Value} {its : Array Value} {x n : Int} {tx tn : Tok} (room : A.depth < recursionLimit)
    (hf : s.heap.get? f = some (PySem.W.kla_obj "<lambda>" lamQ params (lamBody y z q1 q2 q3 q4 q5 q6 x1) scope cl pm c' ctv)) (hcr : s.heap.CodeRec (.ref c') lamQ) (lim : s.heap.NoLimit)
    (hcl : cl.lookup y = some cc) (hcell : s.heap.IsCell cc (some (.ref ca))) (hl : s.heap.IsList ca its) (hx0 : 0 ≤ x) (hx1 : x < 2 ^ 62) (hit : its[x.toNat]? = some (.int n tn))
    (kd : scope.kind = .function) (co : scope.isCoroutine = false) (gen : scope.isGenerator = false) (nc : ∀ a ∈ scope.names, a.2 ≠ .cell) (sy : scope.names.lookup y = some .free) (sz : scope.names.lookup z = some .local)
    (hy : (y == ("__debug__" : Str)) = false) (hy2 : (y == ("__classdict__" : Str)) = false) (hz : (z == ("__debug__" : Str)) = false)
    (hbind : bindArgs (PySem.W.kla_fn "<lambda>" lamQ params (lamBody y z q1 q2 q3 q4 q5 q6 x1) scope cl pm (.ref c') ctv) ⟨[.int x tx], []⟩ = pure [(z, .int x tx)])
    (hs1 : ∀ env, starEach [Expr.UnaryOp .USub (.Subscript (.Name y q1) (.Name z q2) q3) q4, .Name z q5] env = (false, eval (.UnaryOp .USub (.Subscript (.Name y q1) (.Name z q2) q3) q4) env) :: starEach [Expr.Name z q5] env := by intro _; rfl)
    (hs2 : ∀ env, starEach [Expr.Name z q5] env = (false, eval (.Name z q5) env) :: starEach [] env := by intro _; rfl) :
    wpAny (model prog w) A (call (.ref f) [.int x tx]) (PySem.W.KeyPure (.tuple [.int (-n), .int x]) s) (fun _ _ => False) s := by
  refine wpAny_call (PySem.W.kla_callFunE room hf rfl co gen rfl hcr ?_)
  rw [hbind]
  refine wpAny_pure (wpAny_newFunctionEnv nc (fun a ha => by rw [List.mem_singleton.mp ha]; exact sz) (fun h₁ hns hsb => ⟨lim.fresh _ hsb, ?_⟩) kd)
  have kp : ∀ b o, s.heap.get? b = some o → h₁.get? b = some o := fun b o e => hsb.extBut b o (Nat.ne_of_lt (Heap.lt_size e)) (Heap.get?_push_of_some _ e)
  show codeAny _ _ (.expr (lamBody y z q1 q2 q3 q4 q5 q6 x1) (PySem.W.envX lamQ scope s.heap.objs.size f (.ref c') cl)) _ _
  have cell1 : h₁.IsCell cc (some (.ref ca)) := by obtain ⟨o, ho, hd⟩ := hcell; exact ⟨o, kp _ _ ho, hd⟩
  have list1 : h₁.IsList ca its := by obtain ⟨o, ho, r⟩ := hl; exact ⟨o, kp _ _ ho, r⟩
  have lz : ([(z, Value.int x tx)] : List (Str × Value)).reverse.lookup z = some (.int x tx) := by simp [List.lookup]
  refine PySem.W.kla_codeExpr ?_
  refine wpAny_Tuple_spliced ?_
  rw [hs1]
  show wpAny _ _ (spliced ((false, _) :: backTo q6 (starEach [Expr.Name z q5] _))) _ _ _
  refine Calls.spliced_cons (UnaryOp_ (Subscript_ (wpAny_Name (wpAny_loadName_free kd sy hcl cell1 ?_ hy2) hy)))
  refine wpAny_Name (wpAny_loadName_local kd sz hns lz ?_) hz
  refine item_listR list1 hx0 (by omega) hit ?_
  refine neg_int ?_
  rw [hs2]
  show wpAny _ _ (spliced ((false, _) :: backTo q6 (starEach [] _))) _ _ _
  refine Calls.spliced_cons (wpAny_Name (wpAny_loadName_local kd sz hns lz ?_) hz)
  refine Calls.spliced_nil ⟨by show 2 ≤ sizeLine; rw [sizeLine_eq]; decide, ?_⟩
  show PySem.W.KeyPure _ _ _ _
  refine ⟨_, _, rfl, fun b o e => Heap.get?_push_of_some _ (kp b o e), ?_⟩
  exact .tuple (Heap.get?_push_size _ rfl) rfl rfl (.cons (.int _ _) (.cons (.int _ _) .nil))
end
/-! ### sorted(range(a, b), key=lambda z: (-y[z], z)) -/
def keyC (cs : List Int) (x : Int) : Int := -(cs[x.toNat]?.getD 0)
def sortKey (cs : List Int) (lo hi : Int) : List Int := (upFrom lo (hi - lo).toNat).mergeSort fun p q => decide (keyC cs p < keyC cs q ∨ (keyC cs p = keyC cs q ∧ p ≤ q))
def sortKeyM (cs : List Int) (lo hi : Int) : M (List Int) := if 0 ≤ lo ∧ lo ≤ 1000000 ∧ 0 ≤ hi ∧ hi ≤ 1000000 ∧ hi ≤ (cs.length : Int) then .ok (sortKey cs lo hi) else .no
/-- what is asked of the lambda's text -/
structure LamF (params : Arguments) (body : Expr) (scope : Scope) (y z : Str) : Prop where
  kd : scope.kind = .function
  co : scope.isCoroutine = false
  gen : scope.isGenerator = false
  nc : ∀ a ∈ scope.names, a.2 ≠ .cell
  sy : scope.names.lookup y = some .free
  sz : scope.names.lookup z = some .local
  fr : ∀ a ∈ scope.names, a.2 = .free → a.1 = y
  hy : (y == ("__debug__" : Str)) = false
  hy2 : (y == ("__classdict__" : Str)) = false
  hz : (z == ("__debug__" : Str)) = false
  bind : ∀ (cl : List (Str × Addr)) (pm cv ctv v : Value), bindArgs (PySem.W.kla_fn "<lambda>" lamQ params body scope cl pm cv ctv) ⟨[v], []⟩ = pure [(z, v)]
theorem upFrom_bd {lo x : Int} {n : Nat} (h : x ∈ upFrom lo n) : lo ≤ x ∧ x < lo + n := by
  induction n generalizing lo with
  | zero => simp [upFrom] at h
  | succ n ih =>
    rw [upFrom, List.mem_cons] at h
    rcases h with rfl | h
    · omega
    · have := ih h; omega
/-- behind the range -/
def SortRest (K : PySem.W.Frag) (P : Addr) (i : Nat) (σ : L2.St) (Q : VK) (vs : List V) (H1 : Hp) : Prop := ∃ r lo hi ca cs H2, vs = [V.ref r] ∧ H2 r = none ∧ H1 = upd H2 r (.rng lo hi) ∧ (0 ≤ lo ∧ lo ≤ 1000000 ∧ 0 ≤ hi ∧ hi ≤ 1000000 ∧ hi ≤ ((cs : List Int).length : Int)) ∧ σ[i]? = some (some (V.ref ca)) ∧ SqL K H2 ca (cs.map V.int) ∧ LamX.TabS H2 P lamQ ∧
  ∀ H3 D, Same H2 H3 → H2 D = none → H3 D = some (.lst ((sortKey cs lo hi).map V.int)) → Q (.ref D) H3
def tSortLam (K : PySem.W.Frag) (P : Addr) (i : Nat) (ta tb : TE) : TE := fun σ H Q => ta σ H fun va H1 => tb σ H1 fun vb H2 => ∃ lo hi, [va, vb] = [V.int lo, V.int hi] ∧ ∀ r, H2 r = none → SortRest K P i σ Q [V.ref r] (upd H2 r (.rng lo hi))
theorem vals_each : ∀ {out : List Value} {L : List Int}, PySem.W.EachIs (fun v x => ∃ t, v = Value.int x t) out L → Vals (L.map V.int) out
  | _, _, .nil => .nil
  | _, _, .cons ⟨t, e⟩ h => .cons ⟨t, e⟩ (vals_each h)
theorem sqL_same {K : PySem.W.Frag} {H H' : Hp} {a : Addr} {xs : List V} (s : Same H H') (h : SqL K H a xs) : SqL K H' a xs := h.imp (fun r => Rd.raw (Rd.same s (Rd.clo r))) id
section
open LamX
variable {X : Cx} {k i : Nat} {a b : Expr} {ta tb : TE} {c P : Addr} {params : Arguments} {scope : Scope} {y z : Str} {p1 p2 p3 p4 lpos kpos q1 q2 q3 q4 q5 q6 : Pos} {x1 : Nat}
theorem pe_sortLam (hroom : Room k X.A) (hc : X.calm = true) (hg : Gl X "sorted") (hm : X.mg "sorted" = none) (hg2 : Gl X "range") (hm2 : X.mg "range" = none) (ha : PE X a ta) (hb : PE X b tb) (TB : TabB X.base X.mg c P) (hcode : X.env.code = .ref c)
    (hq : X.env.qual ++ "<lambda>" = lamQ) (hdef : defaultsOf params X.env = ([], [])) (F : LamF params (lamBody y z q1 q2 q3 q4 q5 q6 x1) scope y z) (hcell : X.env.scope.names.lookup y = some .cell) (hN : X.N[i]? = some y)
    (na : starEach [a, b] X.env = (false, eval a X.env) :: starEach [b] X.env) (nb : starEach [b] X.env = (false, eval b X.env) :: starEach [] X.env)
    (nr : starEach [.Call (.Name "range" p2) [a, b] [] p3] X.env = (false, eval (.Call (.Name "range" p2) [a, b] [] p3) X.env) :: starEach [] X.env := by rfl) :
    PE X (.Call (.Name "sorted" p1) [.Call (.Name "range" p2) [a, b] [] p3] [⟨some "key", .Lambda params (lamBody y z q1 q2 q3 q4 q5 q6 x1) scope lpos, kpos⟩] p4) (tSortLam X.K P i ta tb) := by
  refine ⟨fun pins s σ H Q I h => ?_⟩
  have hfree : ∀ n ∈ scope.names, n.2 = .free → ∃ c, X.env.cells.lookup n.1 = some c := fun n hn e => by
    rw [F.fr n hn e]; exact I.ok.has y (.inl hcell)
  have pr : PE X (.Call (.Name "range" p2) [a, b] [] p3) _ := pe_callTy cr_range2 hg2 hm2 (by decide +kernel) (pa_cons ha (pa_cons hb pa_nil nb) na) (by decide) (by decide) na (by rw [nb]; rfl)
  refine wpAny_Call_Name_kw (ld_blt I hg hm (u := .builtin "sorted") (by decide +kernel) ?_ (by decide) (by decide))
  refine PyProof.Rows.callWith_kw (thn ((pa_cons pr pa_nil nr).run p4 pins s σ H (SortRest X.K P i σ Q) I h) fun us s1 ⟨vs, H1, I1, r1, q1⟩ => ?_) (by rw [nr]; rfl) (by rw [nr]; rfl) (by rfl) (by rfl)
  obtain ⟨r, lo, hi, ca, cs, H2, rfl, nr0, rfl, ⟨b1, b2, b3, b4, b5⟩, hσ, hS, hT, q⟩ := q1
  obtain ⟨u1, rfl, ru1⟩ := vals1 r1
  obtain rfl : u1 = Value.ref r := ru1
  have s0 : Same H2 (upd H2 r (.rng lo hi)) := newSame nr0
  show wpAny _ _ (evalAll ((do let v ← eval (.Lambda params (lamBody y z q1 q2 q3 q4 q5 q6 x1) scope lpos) X.env; standAt p4; pure v) :: [])) _ _ s1
  refine wpAny_evalAll_cons (wpAny_bind (lam_mk I1 TB hcode hq (s0.tab P hT) hdef hfree fun f c' pm ctv H3 s2 I2 sm hf hco => wpAny_bind (wpAny_standAt (wpAny_pure (wpAny_evalAll_nil ?_)))))
  show wpAny _ _ (call (.builtin "sorted") [.ref r] [(Str.ofString "key", .ref f)]) _ _ s2
  have hrng : H3 r = some (.rng lo hi) := sm.keep r _ upd_same rfl
  obtain ⟨t, u, v, hrg⟩ := (show ObjOk X.prog X.w H3 s2.heap r (.rng lo hi) from I2.hok r _ hrng)
  obtain ⟨its, rv, pl, hz⟩ := I2.list (sqL_same (s0.trans sm) hS)
  obtain ⟨oc, vs', tq, hoc, hdc, hvc⟩ := (show ObjOk X.prog X.w H3 s2.heap c' (CodeO c' lamQ) from I2.hok c' _ hco).1
  obtain ⟨cc, hcc⟩ := I2.ok.has y (.inl hcell)
  obtain ⟨m, hns, hlook⟩ := I2.loc
  obtain ⟨u', ru', lk⟩ := hlook i y (.ref ca) hN hσ (.inr (.inl hcell))
  obtain rfl : u' = Value.ref ca := ru'
  have hcl : s2.heap.IsCell cc (some (.ref ca)) := by
    rcases lk with ⟨z', _⟩ | ⟨_, c2, hc2, hcell2⟩
    · have z2 : X.env.scope.names.lookup y = some .local := z'
      rw [hcell] at z2; cases z2
    · rw [hcc] at hc2; cases hc2; exact hcell2
  have hmem : (y, NameKind.free) ∈ scope.names := PySem.mem_of_lookup F.sy
  have hclo := NdefX.clo_has hfree hmem hcc
  have hl : its.length = cs.length := by rw [← rv.length, List.length_map]
  refine sorted_key_range (fun x => .tuple [.int (keyC cs x), .int x]) (I2.ok.hd hc) hrg ⟨by omega, by omega, by omega, by omega, by omega⟩ (PySem.W.AllAlike.of fun _ _ => rfl) (PySem.W.Sortable.tuples fun _ => ⟨_, _, rfl⟩) (fun x _ => by have := hroom.un; show X.A.units + 2 + 1 < cLine; omega) (fun x tx hx h tk kp => ?_) fun h1 tk1 hk1 out c2 h' tk hk hD hE => ?_
  · have hx := upFrom_bd hx
    obtain ⟨w, ew, rw'⟩ := rv.get (i := x.toNat) (x := V.int (cs[x.toNat]?.getD 0)) (by
      rw [List.getElem?_map]
      have : x.toNat < cs.length := by omega
      rw [List.getElem?_eq_getElem this]; rfl)
    obtain ⟨tn, rfl⟩ := rw'
    refine lam_key (ca := ca) (s := { s2 with heap := h, toks := tk }) (its := its.toArray) (tn := tn) hroom.depth (kp _ _ hf) ⟨c', oc, vs', tq, rfl, kp _ _ hoc, hdc, hvc⟩ (I2.nolimit.keeps kp) hclo ?_ ?_ (by omega) (by omega) (by simpa using ew) F.kd F.co F.gen F.nc F.sy F.sz F.hy F.hy2 F.hz (F.bind _ _ _ _ _)
    · obtain ⟨o, ho, hd⟩ := hcl; exact ⟨o, kp _ _ ho, hd⟩
    · obtain ⟨o, ho, hr2⟩ := pl.isList; exact ⟨o, kp _ _ ho, hr2⟩
  · have I3 : Inv X pins σ H3 { s2 with heap := h1, toks := tk1 } := I2.kept (t' := tk1) hk1
    have nD : H3 h1.objs.size = none := I3.hok.fresh (Nat.le_refl _)
    rw [PySem.W.dataLe_ii] at hE
    have ev : Vals ((sortKey cs lo hi).map V.int) out := vals_each hE
    have hsz : ((sortKey cs lo hi).map V.int).length ≤ sizeLine := by
      rw [List.length_map, sortKey, List.length_mergeSort, upFrom_len, sizeLine_eq]
      omega
    refine ⟨.ref h1.objs.size, upd H3 h1.objs.size (.lst ((sortKey cs lo hi).map V.int)), I3.laid (t' := tk) hk (Nat.le_refl _) (show ObjOk X.prog X.w _ _ _ (.lst ((sortKey cs lo hi).map V.int)) from ⟨hsz, out, c2, ev, hD⟩), rfl, ?_⟩
    exact q _ _ ((s0.trans sm).trans (newSame nD)) ((s0.trans sm).free nD) upd_same
end
section
open LamX
variable {p : Pr} {sc : Scope} {NN VV GG : List Str} {k i j j2 : Nat} {g : G} {L : List Slot} {a b : Expr} {md md' : Md} {c P : Addr} {params : Arguments} {scope : Scope} {y z : Str} {p1 p2 p3 p4 lpos kpos q1 q2 q3 q4 q5 q6 : Pos} {x1 : Nat}
theorem evl_sortLam {bb : Bool} {m1 m2 : M Int} {cs : List Int} (ok : OkS p sc NN VV GG k g) (hG : GG[j]? = some "sorted") (hmg : p.mg "sorted" = none) (hG2 : GG[j2]? = some "range") (hmg2 : p.mg "range" = none) (hN : NN[i]? = some y) (hL : L[i]? = some (sV bb (tList tInt) cs)) (ha : EvE g L a md tInt m1) (hb : EvE g L b md tInt m2)
    (hT : p.T = some P) (TB : TabB p.base p.mg c P) (hcode : g.X.env.code = .ref c) (hq : g.X.env.qual ++ "<lambda>" = lamQ) (hdef : defaultsOf params g.X.env = ([], [])) (F : LamF params (lamBody y z q1 q2 q3 q4 q5 q6 x1) scope y z) (hcell : sc.names.lookup y = some .cell)
    (na : starEach [a, b] g.X.env = (false, eval a g.X.env) :: starEach [b] g.X.env := by rfl) (nb : starEach [b] g.X.env = (false, eval b g.X.env) :: starEach [] g.X.env := by rfl)
    (nr : starEach [.Call (.Name "range" p2) [a, b] [] p3] g.X.env = (false, eval (.Call (.Name "range" p2) [a, b] [] p3) g.X.env) :: starEach [] g.X.env := by rfl) :
    EvL g L (.Call (.Name "sorted" p1) [.Call (.Name "range" p2) [a, b] [] p3] [⟨some "key", .Lambda params (lamBody y z q1 q2 q3 q4 q5 q6 x1) scope lpos, kpos⟩] p4) md' tInt (m1.bind fun lo => m2.bind fun hi => sortKeyM cs lo hi) := by
  obtain ⟨hg, ho⟩ := ok.gl hG
  obtain ⟨hg2, ho2⟩ := ok.gl hG2
  refine PE.imp (pe_sortLam ok.room ok.calm hg (by rw [ok.mg]; exact hmg) hg2 (by rw [ok.mg]; exact hmg2) ha hb (by rw [ok.base, ok.mg]; exact TB) hcode hq hdef F (by rw [ok.scp]; exact hcell) (by rw [ok.N]; exact hN) na nb nr) fun σ H W q => ?_
  obtain ⟨kp, own, at_, q⟩ := tL_iff.mp q
  refine tE_iff.mpr ⟨kp, own, at_, ?_⟩
  cases m1 with
  | ok lo =>
    intro v H1 s1 rx
    cases (show v = .int lo from rx)
    refine tE_iff.mpr ⟨kp, own, at_.ext s1, ?_⟩
    cases m2 with
    | ok hi =>
      intro v H2 s2 rx
      cases (show v = .int hi from rx)
      have at2 := (at_.ext s1).ext s2
      obtain ⟨Fs, hA, rfl⟩ := at2.sl
      obtain ⟨v, F', e1, e2, rfl, x, rfl, ca, vs, rfl, hR, hr⟩ := hA.get hL
      have q : FinL g.fm g.W Fs.flatten σ H md' tInt W (sortKeyM cs lo hi) := q
      unfold sortKeyM at q
      split at q
      · rename_i hb'
        refine ⟨lo, hi, rfl, fun r hr0 => ⟨r, lo, hi, ca, cs, H2, rfl, hr0, rfl, hb', e1, ?_, ?_, fun H3 D s3 nD hD => ?_⟩⟩
        · rw [← hr.ints, ok.K, ← ok.fmK]
          have hR : RB g.fm Fs.flatten H2 bb ca (.lst vs) := hR
          exact RX.list (md := if bb then .f0 else .sh) (H := H2) (by unfold RB at hR; exact hR)
        · exact at2.same.tab P (ok.tab P hT)
        · exact q D _ H3 ((s1.trans s2).trans s3) ((s1.trans s2).free nD) hD (reps_ints _)
      · exact q.elim
    | ex c => exact fun H' s => q H' (s1.trans s)
    | no => exact q
  | ex c => exact q
  | no => exact q
/-- a def by its body, the code object known -/
theorem fn_genC {α δ : Type} {S : Ty α} {A : Ar δ} {x qual : Str} {st : Stmt} {f : Addr} {fd : FuncData} {ps : List Str} {L0 : δ → List Slot} {n m : Nat} {bm : Bool} {F : δ → M (List α)} (hF : FunD p.K x qual (defArgs st) (defBody st) (defScope st) [] [] f fd) (hS : Sc st NN VV ps GG) (ha : ArS A n L0) (hn : ps.length = n) (hm : n + m = NN.length)
    (hb : ∀ g, OkS p (defScope st) NN VV GG k g → g.LX = List.replicate NN.length sAny → g.X.env.code = fd.code → g.X.env.qual = qual ++ ".<locals>." → ∀ d, EvB g (L0 d ++ List.replicate m sAny) (defBody st) (fun r => .rtL bm S r) (F d)) :
    FnOk p.P p.w p.K p.mg p.base (L2.CX p.P p.w) (k + 1) f fd ps (spM p A (fun r => .rtL bm S r) F) := by
  obtain ⟨oc, od, dV, kV, doc, pm, an, cdv, ct, osl, rfl, lk, hcd, _, _⟩ := hF.ex
  refine fn_of lk hcd hS.S (fun vs H Q E h => ?_) (fun A' outer s H vs Q E hr h => ?_)
  · obtain ⟨d, z, hz, hrep, _⟩ := h
    exact (ha.all (H := H) (R := fun _ => RD ⟨p.K, H, z⟩ [] H) hrep).1.trans hn.symm
  · obtain ⟨d, z, ⟨hz, htab⟩, hrep, q⟩ := h
    have hlen : vs.length = n := (ha.all (H := H) (R := fun _ => RD ⟨p.K, H, z⟩ [] H) hrep).1
    let X : Cx := cxOf (L2.CX p.P p.w) p.P p.w p.K p.mg p.base NN qual (defScope st) f cdv A' outer s H E
    let g : G := ⟨X, ⟨p.K, H, z⟩, fun c _ H' => E (.ref (p.C c)) none H', List.replicate NN.length sAny⟩
    have hN : ∀ {j : Nat} {y : Str}, VV[j]? = some y → y ∈ VV := fun e => List.mem_of_getElem? e
    have ok : OkS p (defScope st) NN VV GG k g :=
      { prog := rfl, w := rfl, K := rfl, mg := rfl, base := rfl, N := rfl, fmK := rfl, tab := htab, room := hr, nd := hS.S.nd
        vis := fun e => let h := seenB_v (List.all_eq_true.mp hS.vis _ (hN e)); ⟨h.2, h.1⟩
        gl := fun e => let h := glB_v (List.all_eq_true.mp hS.gl _ (List.mem_of_getElem? e)); ⟨h.2, h.1⟩
        tk := Takes.imp (takes_of (X := X) rfl rfl rfl (E := E) rfl) (fun cls d σ H ⟨c, e1, e2, h⟩ => by subst e1; subst e2; exact h)
        calm := rfl
        blk := fun h => blkOk_by h
        loc := fun e => locB_v (List.all_eq_true.mp hS.loc _ (hN e))
        fnT := fun _ => rfl
        psO := passes_of (X := X) rfl
        scp := rfl
        stk := rfl
        frm := rfl
        exn := rfl }
    refine ⟨_, hb g ok rfl rfl rfl d, (fun _ _ => False), [], ?_, ?_⟩
    · refine ⟨Same.refl H, hz, ⟨List.replicate n [] ++ List.replicate m [], ?_, by simp [flat_rep]⟩, List.nodup_nil, (fun _ h => nomatch h), fun _ _ h => h.elim⟩
      have h1 := (ha.all (H := H) (R := RB ⟨p.K, H, z⟩ [] H) hrep).2
      have e : L2.start NN vs = vs.map some ++ List.replicate m none := by
        unfold L2.start
        rw [show NN.length - vs.length = m by omega]
      rw [e]
      exact h1.append (AllS.anys m)
    · cases hF' : F d with
      | ok r =>
        rw [hF'] at q
        exact q
      | ex c =>
        rw [hF'] at q
        exact fun σ' H' own a' => q H' a'.same
      | no => rw [hF'] at q; exact q
end
end Hd

namespace Hd
open PySem PySem.Spec L2
/-! ### the end, where a table of code objects grows -/
theorem code_of {K : PySem.W.Frag} {x qual : Str} {params : Arguments} {body : List Stmt} {scope : Scope} {fd : FuncData} {q : He.Defn} (F : FunD K x qual params body scope [] [] (He.fAd K q) fd) : fd.code = .ref (He.codeOf K q) := by
  obtain ⟨oc, od, dV, kV, doc, pm, an, cdv, ct, osl, rfl, lk, hcd, _, _⟩ := F.ex
  unfold He.codeOf
  rw [lk]
  show cdv = _
  unfold PySem.W.codeIn at hcd
  cases cdv with
  | ref c => rfl
  | _ => simp at hcd
theorem law_endT {l : PySem.W.OpenLaw} {k : Nat} {q : Program} {loose : List Str} {XP : (Str → Option Value) → Heap → Prop} {YP : World → Heap → Prop} {d : DefRec} {cl : List Int × Unit → M Bool}
    (hn : l.most = some 63) (hdf : d.params.defaults = []) (hr : Room k callerA)
    (F : ∀ (w : World) (mg : Str → Option Value) (fa : Addr) (h : Heap), YP w h → h.Ns mainGlobals mg → mg d.name = some (.ref fa) →
      ∃ (K : PySem.W.Frag) (fd : FuncData) (C : Ec → Addr) (c P : Addr), K.In h ∧ h.get? P = some { cls := .none, data := .fields #[] } ∧ K.lookup P = none ∧ PySem.W.CodeHd h c P ∧ (∀ (s : Shared) (u : Value), BindsTo s fd ⟨[u], []⟩ [("script", u)]) ∧
        ∀ base : Heap, LamX.TabB base mg c P → FnOk l.prog w K mg base (L2.CX l.prog w) k fa fd ["script"] (spM ⟨l.prog, w, K, mg, base, C, some P⟩ (aCons (tListK K tInt) aNil) (fun r => .rt false tBool r) cl))
    (math : ∀ ns : List Int, ns.length ≤ 63 → cl (ns, ()) = .ok true) : PySem.W.WalkO q loose XP YP l.row.toRowW d [] (fun f vs => PySem.call f vs) := by
  refine LamX.walk_ofTsE (CX := fun w => L2.CX l.prog w) (x := "script") (k := k) hn (by decide) hdf hr (fun w mg fa h Y G hm => ?_) (fun w H s e s' z => ?_)
  · obtain ⟨K, fd, C, c, P, KX, hP, nP, hC, hb, hF⟩ := F w mg fa h Y G hm
    refine ⟨K, KX, fd, [(c, P)], spM ⟨l.prog, w, K, mg, h, C, some P⟩ (aCons (tListK K tInt) aNil) (fun r => .rt false tBool r) cl, fun p hp => by rw [List.mem_singleton.mp hp]; exact hP, fun p hp => by rw [List.mem_singleton.mp hp]; exact nP, fun p hp => by rw [List.mem_singleton.mp hp]; exact hC, hb, fun H a ns hl _ hT hS => ?_, fun base _ _ hB => hF base (hB (c, P) (List.mem_singleton_self _))⟩
    refine ⟨(ns, ()), fun _ => False, ⟨fun _ z => z.elim, fun P' e => by cases e; exact LamX.TabS.nil (hT (c, P) (List.mem_singleton_self _))⟩, ⟨.ref a, [], rfl, ⟨a, ns.map V.int, rfl, hS.imp (fun r => .inl ⟨Rd.clo r, (fun z => nomatch z), fun z => z⟩) id, reps_ints ns⟩, rfl⟩, ?_⟩
    rw [math ns hl]
    exact fun v H' s r => r
  · obtain ⟨a, B, H', cls, d, _, _, _, _, _, _, _, z⟩ := z
    exact z
end Hd

namespace Hd
open PySem PySem.Spec PyProof.Rows L2
/-! ### sorted(a list of numbers) -/
def sortI (xs : List Int) : List Int := xs.mergeSort fun a b => decide (a ≤ b)
def rSortI (K : PySem.W.Frag) : List V → Hp → VK → Prop := fun vs H Q => ∃ (a : Addr) (ns : List Int), vs = [V.ref a] ∧ SqL K H a (ns.map V.int) ∧ ∀ p, H p = none → Q (.ref p) (upd H p (.lst ((sortI ns).map V.int)))
theorem ints_each : ∀ {its : List Value} {ns : List Int}, IntsAre its ns → PySem.W.EachIs (fun v x => ∃ t, v = Value.int x t) its ns
  | _, _, .nil => .nil
  | _, _, .cons n t h => .cons ⟨t, rfl⟩ (ints_each h)
theorem cr_sortI {X : Cx} {k : Nat} (hr : Room k X.A) : CallR X (.builtin "sorted") (rSortI X.K) := by
  intro pins s σ H vs us Q I r h
  obtain ⟨a, ns, rfl, hs, q⟩ := h
  obtain ⟨its, rv, hl, hz⟩ := I.list hs
  obtain ⟨u, rfl, ru⟩ := vals1 r
  obtain rfl : u = Value.ref a := ru
  have hi := rv.ints
  have hlen := hi.length
  rw [List.length_map] at hz
  have e := ints_each hi
  have e' := (PySem.W.dataLe_int (β := Int) (fun x => x)).symm
  refine PySem.W.sorted_data (R := fun v x => ∃ t, v = Value.int x t) (enc := fun x => .int x) hl.isList e (e.mono fun v x ⟨t, ev⟩ => ⟨[], by rw [ev]; exact .int x t⟩) (PySem.W.AllAlike.of fun _ _ => rfl) (PySem.W.Sortable.others fun _ => ⟨(fun z => nomatch z), fun _ z => nomatch z⟩) (by rw [← e.length, hlen]; exact hz) (fun x _ => by have := hr.un; show X.A.units + 2 + 0 < cLine; omega) fun out ho hE => ?_
  obtain ⟨ep, he'⟩ := PyProof.Rows.sortedAll_at s.heap its out.toArray
  have hE : PySem.W.EachIs (fun v x => ∃ t, v = Value.int x t) out (sortI ns) := by
    have : (PySem.W.dataLe false fun x : Int => PyData.int x) = fun a b => decide (a ≤ b) := PySem.W.dataLe_int (fun x => x)
    rw [this] at hE; exact hE
  have hz2 : ((sortI ns).map V.int).length ≤ sizeLine := by rw [List.length_map, sortI, List.length_mergeSort]; exact hz
  exact ⟨.ref _, upd H (s.heap.objs.size + 1) (.lst ((sortI ns).map V.int)), I.laid (t' := s.toks) (fun _ _ => PyProof.Rows.sortedAll_old) (Nat.le_succ _) ⟨hz2, out, ep, vals_each hE, by simpa using he'⟩, rfl, q _ (I.hok.fresh (Nat.le_succ _))⟩
section
variable {p : Pr} {sc : Scope} {NN VV GG : List Str} {k : Nat} {g : G} {L : List Slot} {α β δ : Type} {S : Ty α} {md md' : Md} {pos pp : Pos} {st : List Stmt} {D : δ → Out} {i j : Nat} {x : Str} {a e : Expr}
theorem evl_sortI {m : M (List Int)} (ok : Ok p sc NN VV GG k g) (hG : GG[j]? = some "sorted") (hmg : p.mg "sorted" = none) (ha : EvE g L a md (tList tInt) m) (hs : starEach [a] g.X.env = (false, eval a g.X.env) :: starEach [] g.X.env := by rfl) :
    EvL g L (.Call (.Name "sorted" pp) [a] [] pos) md' tInt (m.bind fun xs => .ok (sortI xs)) := by
  obtain ⟨hg, ho⟩ := ok.gl hG
  obtain ⟨h1, _, h3⟩ := okName_d ho
  refine PE.imp (pe_callB (cr_sortI ok.room) hg (by rw [ok.mg]; exact hmg) (by decide +kernel) (eva_cons ha eva_nil hs) h3 h1 hs rfl) fun σ H W q => ?_
  obtain ⟨kp, own, at_, q⟩ := tL_iff.mp q
  refine tA_iff.mpr ⟨kp, own, at_, ?_⟩
  cases m with
  | ok d =>
    rintro vs H1 s1 ⟨v, r, rfl, ⟨a', ws, rfl, hR, rr⟩, e3⟩
    cases (show r = [] from e3)
    refine ⟨a', d, rfl, by rw [← rr.ints, ok.K, ← ok.fmK]; exact RX.list hR, fun l hl => q l _ _ (s1.trans (newSame hl)) (s1.free hl) upd_same (reps_ints _)⟩
  | ex c => exact q
  | no => exact q
/-! ### found.remove(x) -/
def removeM (xs : List Int) (x : Int) : M (List Int) := if x ∈ xs then .ok (xs.erase x) else .no
theorem erase_at : ∀ {xs : List Int} {x : Int}, x ∈ xs → ∃ j : Nat, xs[j]? = some x ∧ (∀ m : Nat, m < j → xs[m]? ≠ some x) ∧ xs.eraseIdx j = xs.erase x
  | y :: r, x, h => by
    by_cases e : y = x
    · subst e; exact ⟨0, rfl, fun m hm => absurd hm (Nat.not_lt_zero m), by simp⟩
    · rcases List.mem_cons.mp h with z | z
      · exact absurd z.symm e
      · obtain ⟨j, h1, h2, h3⟩ := erase_at z
        refine ⟨j + 1, by simpa using h1, fun m hm => ?_, by rw [List.eraseIdx_cons_succ, h3, List.erase_cons_tail (by simpa using e)]⟩
        cases m with
        | zero => simpa using e
        | succ m => simpa using h2 m (by omega)
theorem evb_remove {bb : Bool} {ds : List Int} {m : M Int} {f : List Int → M δ} {p1 ap cp : Pos} (ok : OkS p sc NN VV GG k g) (wk : Wk L g.LX) (hN : NN[i]? = some x) (hV : VV[j]? = some x) (hL : L[i]? = some (sOwn bb tInt ds)) (ha : EvE g L a md tInt m)
    (hr : ∀ ds', EvB g (L.set i (sOwn bb tInt ds')) st D (f ds'))
    (hs : swapsWith (.Call (.Attribute (.Name x p1) "remove" ap) [a] [] cp) none pos.line g.X.env = pure false := by rfl)
    (hbase : attributeBase (.Name x p1) "remove" g.X.env (eval (.Name x p1) g.X.env) = eval (.Name x p1) g.X.env := by rfl)
    (hfew : ((backTo cp (starEach [a] g.X.env)).all (fun x => !x.1) && (backToKw cp (keywordEach [] g.X.env)).all (fun x => x.1.isSome)
      && decide (([a] : List Expr).length + ([] : List Keyword).length + (if ([] : List Keyword).isEmpty then 0 else 1) < 30)) = true := by rfl)
    (hline : (ap.endLine == cp.line) = true := by rfl) (hst : starEach [a] g.X.env = (false, eval a g.X.env) :: starEach [] g.X.env := by rfl) (hpl : (backTo cp (starEach [] g.X.env)).any (·.1) = false := by rfl) :
    EvB g L (.Expr (.Call (.Attribute (.Name x p1) "remove" ap) [a] [] cp) pos :: st) D (m.bind fun v => (removeM ds v).bind f) := by
  obtain ⟨hv, ho⟩ := ok.vis hV
  obtain ⟨h1, h2, _⟩ := okName_d ho
  refine PSs.imp (pss_cons (ps_expr (pe_bm PySem.F.plainAttrs_list PySem.F.slot_list_remove PySem.F.type_list_remove mt_remove (pe_var (i := i) (by rw [ok.N]; exact hN) hv h1 h2) (pa_cons ha pa_nil hst) (hbase := hbase) (hfew := hfew) (hline := hline) (hs := hst) (hplain := hpl)) hs) (PSs.ex hr)) fun E σ H ⟨kp, own, at_, q⟩ => ?_
  obtain ⟨p', vs, e1, hp, r, mu⟩ := at_.mut hL
  refine ⟨_, e1, Or.inl ⟨rfl, _, SqL.of hp⟩, tE_iff.mpr ⟨kp, own, at_, ?_⟩⟩
  cases m with
  | ok d =>
    intro v H1 s1 r1
    cases (show v = .int d from r1)
    have a1 := at_.ext s1
    obtain ⟨p2, vs2, e12, hp2, rr2, mu2⟩ := a1.mut hL
    rw [e1] at e12
    cases e12
    have q : BOk g kp E D ((removeM ds d).bind f) := q
    unfold removeM at q
    split at q
    · rename_i hm
      obtain ⟨j', z1, z2, z3⟩ := erase_at hm
      rw [rr2.ints] at hp2
      exact ⟨_, ds, d, j', rfl, rfl, hp2, z1, z2, ds.erase d, kp, own, by rw [z3]; exact mu2 _ _ (reps_ints _), q⟩
    · exact q.elim
  | ex c => exact BOk.exx wk at_ q
  | no => exact q.elim
end
end Hd

namespace Hd
open PySem PySem.Spec PyProof.Rows L2
/-! ### found.insert(at, x) -/
def insM {α : Type} (xs : List α) (i : Int) (d : α) : M (List α) := if 0 ≤ i ∧ i < 2 ^ 63 ∧ xs.length < sizeLine then .ok (xs.take i.toNat ++ [d] ++ xs.drop i.toNat) else .no
section
variable {α δ : Type} {p : Pr} {sc : Scope} {NN VV GG : List Str} {k : Nat} {g : G} {L : List Slot} {md md' : Md} {pos : Pos} {S : Ty α} {st : List Stmt} {D : δ → Out} {i j : Nat} {x : Str} {e ei : Expr}
theorem evb_insert {bb : Bool} {ds : List α} {mi : M Int} {m : M α} {f : List α → M δ} {p1 ap cp : Pos} (ok : OkS p sc NN VV GG k g) (wk : Wk L g.LX) (hN : NN[i]? = some x) (hV : VV[j]? = some x) (hL : L[i]? = some (sOwn bb S ds)) (hb : SlB md bb)
    (hi : EvE g L ei md' tInt mi) (he : EvE g L e md S m) (hr : ∀ ds', EvB g (L.set i (sOwn bb S ds')) st D (f ds'))
    (hs : swapsWith (.Call (.Attribute (.Name x p1) "insert" ap) [ei, e] [] cp) none pos.line g.X.env = pure false := by rfl)
    (hbase : attributeBase (.Name x p1) "insert" g.X.env (eval (.Name x p1) g.X.env) = eval (.Name x p1) g.X.env := by rfl)
    (hfew : ((backTo cp (starEach [ei, e] g.X.env)).all (fun x => !x.1) && (backToKw cp (keywordEach [] g.X.env)).all (fun x => x.1.isSome)
      && decide (([ei, e] : List Expr).length + ([] : List Keyword).length + (if ([] : List Keyword).isEmpty then 0 else 1) < 30)) = true := by rfl)
    (hline : (ap.endLine == cp.line) = true := by rfl) (hst : starEach [ei, e] g.X.env = (false, eval ei g.X.env) :: starEach [e] g.X.env := by rfl) (hst2 : starEach [e] g.X.env = (false, eval e g.X.env) :: starEach [] g.X.env := by rfl) (hpl : (backTo cp (starEach [e] g.X.env)).any (·.1) = false := by rfl) :
    EvB g L (.Expr (.Call (.Attribute (.Name x p1) "insert" ap) [ei, e] [] cp) pos :: st) D (mi.bind fun n => m.bind fun d => (insM ds n d).bind f) := by
  obtain ⟨hv, ho⟩ := ok.vis hV
  obtain ⟨h1, h2, _⟩ := okName_d ho
  refine PSs.imp (pss_cons (ps_expr (pe_bm PySem.F.plainAttrs_list PySem.F.slot_list_insert PySem.F.type_list_insert mt_insert (pe_var (i := i) (by rw [ok.N]; exact hN) hv h1 h2) (pa_cons hi (pa_cons he pa_nil hst2) hst) (hbase := hbase) (hfew := hfew) (hline := hline) (hs := hst) (hplain := hpl)) hs) (PSs.ex hr)) fun E σ H ⟨kp, own, at_, q⟩ => ?_
  obtain ⟨p', vs, e1, hp, r, mu⟩ := at_.mut hL
  refine ⟨_, e1, Or.inl ⟨rfl, _, SqL.of hp⟩, tE_iff.mpr ⟨kp, own, at_, ?_⟩⟩
  cases mi with
  | ok n =>
    intro v H1 s1 r1
    cases (show v = .int n from r1)
    have a1 := at_.ext s1
    refine tE_iff.mpr ⟨kp, own, a1, ?_⟩
    cases m with
    | ok d =>
      intro v H2 s2 r2
      have a2 := a1.ext s2
      obtain ⟨p2, vs2, e12, hp2, rr2, mu2⟩ := a2.mut hL
      rw [e1] at e12
      cases e12
      have q : BOk g kp E D ((insM ds n d).bind f) := q
      unfold insM at q
      split at q
      · rename_i hh
        obtain ⟨h0, h63, hlt⟩ := hh
        refine ⟨_, vs2, n, v, rfl, rfl, hp2, by rw [← rr2.length]; exact hlt, h0, h63, ds.take n.toNat ++ [d] ++ ds.drop n.toNat, kp, own, mu2 _ _ (((rr2.take n.toNat).append (.cons (S.mono r2 hb.rb) .nil)).append (rr2.drop n.toNat)), q⟩
      · exact q.elim
    | ex c => exact BOk.exx wk a1 q
    | no => exact q
  | ex c => exact BOk.exx wk at_ q
  | no => exact q
end
end Hd

namespace Hd
open PySem PySem.Spec PyProof.Rows L2
section
variable {α : Type} {g : G} {L : List Slot} {md md' : Md} {e : Expr} {S : Ty α}
/-- a value of any kind -/
theorem ev_anyR {m : M α} (h : EvE g L e md S m) : EvE g L e md' tAny (m.bind fun x => .ok ((fun _ => ()) x)) := PE.imp h fun σ H Q q => by
  obtain ⟨kp, own, at_, q⟩ := tE_iff.mp q
  refine tE_iff.mpr ⟨kp, own, at_, ?_⟩
  cases m with
  | ok d => exact fun v H' s r => q v H' s trivial
  | ex c => exact q
  | no => exact q
end
theorem call_lenR {X : Cx} : CallR X (.builtin "len") (fun xs H Q => ∃ a kvs, xs = [V.ref a] ∧ Rd H a (.dK kvs) ∧ Q (.int kvs.length) H) := by
  intro pins s σ H xs us Q I r h
  obtain ⟨a, kvs, rfl, hp, q⟩ := h
  obtain ⟨u, rfl, rx⟩ := vals1 r
  obtain rfl : u = .ref a := rx
  exact d_len I hp fun t s' I' => ⟨.int kvs.length, H, I', ⟨_, rfl⟩, q⟩
section
variable {α : Type} {p : Pr} {sc : Scope} {NN VV GG : List Str} {k j : Nat} {g : G} {L : List Slot} {md md' : Md} {pos pp : Pos} {S : Ty α} {e : Expr}
theorem ev_lenD {m : M (List (Key × α))} (ok : Ok p sc NN VV GG k g) (hG : GG[j]? = some "len") (hmg : p.mg "len" = none) (ha : EvE g L e md (tDict S) m) (hs : starEach [e] g.X.env = (false, eval e g.X.env) :: starEach [] g.X.env := by rfl) : EvE g L (.Call (.Name "len" pp) [e] [] pos) md' tInt (m.bind fun xs => .ok (xs.length : Int)) :=
  ev_b1 (S := tDict S) (fr := true) ok call_lenR (fun {d v R H W} rb h q => by
    obtain ⟨a, vs, rfl, hr, r⟩ := h
    exact ⟨a, vs, rfl, (rb _ _ hr).resolve_right fun z => z, q _ _ (Same.refl _) (by show _ = V.int _; rw [r.length])⟩) (fun _ _ h => nomatch h) .fresh hG hmg PySem.boot_len ha hs
end
end Hd

namespace Hd
open PySem PySem.Spec PyProof.Rows L2
/-! ### x[i] += e -/
theorem pget_list {X : Cx} : PGet X (rIxL X.K) := by
  intro pins s σ H x y v u Q I rx ry h
  obtain ⟨p, xs, i, z, rfl, rfl, hq, he, q⟩ := h
  cases rx
  obtain ⟨t, rfl⟩ := ry
  obtain ⟨its, r, pl, hz⟩ := I.list hq
  obtain ⟨j, h1, h2, h3, h4, h5⟩ := atI_get he
  obtain ⟨w, ew, rw'⟩ := r.get h2
  have hl := r.length
  have hn := line63
  have fin : EP X pins σ Q w s := ⟨z, H, I, rw', q⟩
  by_cases h0 : 0 ≤ i
  · have hj : i.toNat = j := by
      rw [seqIndex_of h0 h5] at h1
      exact Option.some.inj h1
    exact wpAny_getItem_list pl.isList h0 (by omega) (by rw [hj]; simpa using ew) fin
  · have hj : (i + (its.toArray.size : Int)).toNat = j := by
      rw [seqIndex_neg (by omega) h4] at h1
      rw [List.size_toArray, ← hl]
      exact Option.some.inj h1
    exact wpAny_getItem_list_neg pl.isList (by omega) (by rw [List.size_toArray] <;> omega) (by omega) (by rw [hj]; simpa using ew) fin
section
variable {δ : Type} {p : Pr} {sc : Scope} {NN VV GG : List Str} {k : Nat} {g : G} {L : List Slot} {md md' : Md} {pos : Pos} {st : List Stmt} {D : δ → Out} {i j : Nat} {x : Str} {e ix a b : Expr} {m1 m2 : M Int} {y : Int}
/-- n & 1 -/
theorem ev_and1 (ok : Ok p sc NN VV GG k g) (ha : EvE g L a md tInt m1) (hb : EvE g L b md tInt (.ok 1)) : EvE g L (.BinOp a .BitAnd b pos) md' tInt (m1.bind fun x => .ok (x % 2)) :=
  ev_op2 (f := fun x _ => .ok (x % 2)) ok op_andM ⟨fun {d e x y R H Q} rb rx ry q => ⟨d, 1, rx, ry, q _ _ (Same.refl _) rfl⟩⟩ (fun _ _ _ h => nomatch h) (.fresh : MdOk true md md') ha (ev_lit hb)
theorem evb_augI {bb : Bool} {ds : List Int} {m : M Int} {mi : M Int} {f : List Int → M δ} {p1 p2 : Pos} (ok : OkS p sc NN VV GG k g) (wk : Wk L g.LX) (hN : NN[i]? = some x) (hV : VV[j]? = some x) (hL : L[i]? = some (sOwn bb tInt ds))
    (hi : EvE g L ix md' tInt mi) (he : EvE g L e md tInt m) (hr : ∀ ds', EvB g (L.set i (sOwn bb tInt ds')) st D (f ds'))
    (ha : ∀ ov iv new, augStore ix ov iv new = (do holding [new, ov, iv] (setItem ov iv new); release [new, ov, iv] []; pure .next) := by intros; rfl) :
    EvB g L (.AugAssign (.Subscript (.Name x p1) ix p2) .Add e pos :: st) D (mi.bind fun n => (getM ds n).bind fun v => m.bind fun d => (setM ds n (v + d)).bind f) := by
  obtain ⟨hv, ho⟩ := ok.vis hV
  obtain ⟨h1, h2, _⟩ := okName_d ho
  refine PSs.imp (pss_cons (ps_augS (pe_var (i := i) (by rw [ok.N]; exact hN) hv h1 h2) hi pget_list he ip_add set_list ha) (PSs.ex hr)) fun E σ H ⟨kp, own, at_, q⟩ => ?_
  obtain ⟨p', vs, e1, hp, r, mu⟩ := at_.mut hL
  refine ⟨_, e1, tE_iff.mpr ⟨kp, own, at_, ?_⟩⟩
  cases mi with
  | ok n =>
    intro v H1 s1 r1
    cases (show v = .int n from r1)
    have a1 := at_.ext s1
    obtain ⟨p2', vs2, e12, hp2, rr2, mu2⟩ := a1.mut hL
    rw [e1] at e12
    cases e12
    have q : BOk g kp E D ((getM ds n).bind fun v => m.bind fun d => (setM ds n (v + d)).bind f) := q
    rw [rr2.ints] at hp2
    unfold getM at q
    cases hat : L2.atI ds n with
    | none => rw [hat] at q; exact q.elim
    | some v0 =>
      rw [hat] at q
      have q : BOk g kp E D (m.bind fun d => (setM ds n (v0 + d)).bind f) := q
      refine ⟨_, ds.map V.int, n, .int v0, rfl, rfl, SqL.of hp2, ?_, tE_iff.mpr ⟨kp, own, a1, ?_⟩⟩
      · obtain ⟨vv, q1, q2⟩ := rr2.at hat
        cases (show vv = .int v0 from q2)
        rw [← rr2.ints]; exact q1
      · cases m with
        | ok d =>
          intro v2 H2 s2 r2
          cases (show v2 = .int d from r2)
          have a2 := a1.ext s2
          obtain ⟨p3, vs3, e13, hp3, rr3, mu3⟩ := a2.mut hL
          rw [e1] at e13
          cases e13
          have q : BOk g kp E D ((setM ds n (v0 + d)).bind f) := q
          unfold setM at q
          split at q
          · rename_i jj hj
            refine ⟨v0, d, rfl, rfl, _, vs3, n, jj, rfl, rfl, hp3, by rw [← rr3.length]; exact hj, ds.set jj (v0 + d), kp, own, mu3 _ _ (rr3.set rfl jj), q⟩
          · exact q.elim
        | ex c => exact BOk.exx wk a1 q
        | no => exact q
  | ex c => exact BOk.exx wk at_ q
  | no => exact q
end
end Hd

namespace Hd
open PySem PySem.Spec PyProof.Rows L2
/-! ### found.pop(i), i not below 0 -/
def popAtM {α : Type} (xs : List α) (i : Int) : M (List α) := if 0 ≤ i ∧ i < (xs.length : Int) ∧ i < 2 ^ 62 then .ok (xs.eraseIdx i.toNat) else .no
section
variable {α δ : Type} {p : Pr} {sc : Scope} {NN VV GG : List Str} {k : Nat} {g : G} {L : List Slot} {md md' : Md} {pos : Pos} {S : Ty α} {st : List Stmt} {D : δ → Out} {i j : Nat} {x : Str} {a : Expr}
theorem evb_popAt {bb : Bool} {ds : List α} {m : M Int} {f : List α → M δ} {p1 ap cp : Pos} (ok : OkS p sc NN VV GG k g) (wk : Wk L g.LX) (hN : NN[i]? = some x) (hV : VV[j]? = some x) (hL : L[i]? = some (sOwn bb S ds)) (ha : EvE g L a md tInt m)
    (hr : ∀ ds', EvB g (L.set i (sOwn bb S ds')) st D (f ds'))
    (hs : swapsWith (.Call (.Attribute (.Name x p1) "pop" ap) [a] [] cp) none pos.line g.X.env = pure false := by rfl)
    (hbase : attributeBase (.Name x p1) "pop" g.X.env (eval (.Name x p1) g.X.env) = eval (.Name x p1) g.X.env := by rfl)
    (hfew : ((backTo cp (starEach [a] g.X.env)).all (fun x => !x.1) && (backToKw cp (keywordEach [] g.X.env)).all (fun x => x.1.isSome)
      && decide (([a] : List Expr).length + ([] : List Keyword).length + (if ([] : List Keyword).isEmpty then 0 else 1) < 30)) = true := by rfl)
    (hline : (ap.endLine == cp.line) = true := by rfl) (hst : starEach [a] g.X.env = (false, eval a g.X.env) :: starEach [] g.X.env := by rfl) (hpl : (backTo cp (starEach [] g.X.env)).any (·.1) = false := by rfl) :
    EvB g L (.Expr (.Call (.Attribute (.Name x p1) "pop" ap) [a] [] cp) pos :: st) D (m.bind fun v => (popAtM ds v).bind f) := by
  obtain ⟨hv, ho⟩ := ok.vis hV
  obtain ⟨h1, h2, _⟩ := okName_d ho
  refine PSs.imp (pss_cons (ps_expr (pe_bm PySem.F.plainAttrs_list PySem.F.slot_list_pop PySem.F.type_list_pop mt_popAt (pe_var (i := i) (by rw [ok.N]; exact hN) hv h1 h2) (pa_cons ha pa_nil hst) (hbase := hbase) (hfew := hfew) (hline := hline) (hs := hst) (hplain := hpl)) hs) (PSs.ex hr)) fun E σ H ⟨kp, own, at_, q⟩ => ?_
  obtain ⟨p', vs, e1, hp, r, mu⟩ := at_.mut hL
  refine ⟨_, e1, Or.inl ⟨rfl, _, SqL.of hp⟩, tE_iff.mpr ⟨kp, own, at_, ?_⟩⟩
  cases m with
  | ok n =>
    intro v H1 s1 r1
    cases (show v = .int n from r1)
    have a1 := at_.ext s1
    obtain ⟨p2, vs2, e12, hp2, rr2, mu2⟩ := a1.mut hL
    rw [e1] at e12
    cases e12
    have q : BOk g kp E D ((popAtM ds n).bind f) := q
    unfold popAtM at q
    split at q
    · rename_i hh
      obtain ⟨h0, hlt, h62⟩ := hh
      have hl2 := rr2.length
      have hk : n.toNat < vs2.length := by omega
      refine ⟨_, vs2, n, n.toNat, vs2[n.toNat], rfl, rfl, hp2, by omega, by omega, seqIndex_of h0 (by omega), List.getElem?_eq_getElem hk, ds.eraseIdx n.toNat, kp, own, mu2 _ _ ?_, q⟩
      rw [List.eraseIdx_eq_take_drop_succ, List.eraseIdx_eq_take_drop_succ]
      exact (rr2.take _).append (rr2.drop _)
    · exact q.elim
  | ex c => exact BOk.exx wk at_ q
  | no => exact q.elim
end
end Hd

namespace Hd
open PySem PySem.Spec PyProof.Rows L2
/-! ### some list, whatever its items -/
def tLs : Ty Unit := ⟨fun _ v R => ∃ a vs, v = .ref a ∧ R a (.lst vs), fun ⟨a, vs, e, r⟩ s => ⟨a, vs, e, s _ _ r⟩⟩
theorem i_ls : IsT tLs "list" := ⟨fun rb ⟨a, vs, e, h⟩ => by subst e; exact RX.tyx rb h⟩
theorem homL {α δ : Type} {S : Ty α} {A : Ar δ} {f : δ → List Unit} (h : HomA A tLs f) : HomA (aCons (tList S) A) tLs (fun d => () :: f d.2) := ⟨fun {d vs R} q => by
  obtain ⟨v, r, e, ⟨a, ws, e1, h1, _⟩, h2⟩ := q
  subst e
  exact .cons ⟨a, ws, e1, h1⟩ (h.r h2)⟩
end Hd

namespace Hd
open PySem PySem.Spec PyProof.Rows L2
/-! ### a written list whose items are of several kinds -/
def tHl {δ : Type} (A : Ar δ) : Ty δ := ⟨fun d v R => ∃ a vs, v = .ref a ∧ R a (.lst vs) ∧ A.rep d vs R, fun ⟨a, vs, e, r, h⟩ s => ⟨a, vs, e, s _ _ r, A.mono h s⟩⟩
section
variable {α δ : Type} {p : Pr} {sc : Scope} {NN VV GG : List Str} {k : Nat} {g : G} {L : List Slot} {md : Md} {pos : Pos} {S : Ty α} {A : Ar δ} {es : List Expr} {a b : Expr}
theorem ev_hl {m : M δ} (hl : ∀ d vs R, A.rep d vs R → vs.length ≤ 1000) (ha : EvA g L es md A m) : EvE g L (.List es pos) md (tHl A) m := by
  refine PE.imp (pe_lst ha) fun σ H Q q => ?_
  obtain ⟨kp, own, at_, q⟩ := tE_iff.mp q
  refine tA_iff.mpr ⟨kp, own, at_, ?_⟩
  cases m with
  | ok d => exact fun vs H1 s1 r1 => ⟨Nat.le_trans (hl _ _ _ r1) (by decide), fun p hp => q _ _ (s1.trans (newSame hp)) ⟨p, vs, rfl, newRX (at_.ext s1) s1 hp, A.mono r1 (RX.same (newSame hp))⟩⟩
  | ex c => exact q
  | no => exact q
theorem ev_hlIx {n : Int} {f : δ → α} {m : M δ} (ok : Ok p sc NN VV GG k g) (hA : ArAt A n S f) (ha : EvE g L a md (tHl A) m) (hb : EvE g L b md tInt (.ok n)) (hs : PlainIx b := by exact fun _ _ => rfl) : EvE g L (.Subscript a b pos) md S (m.bind fun t => .ok (f t)) :=
  ev_ix (S := tHl A) (r := rIxL p.K) (m2 := .ok ()) (f := fun t _ => .ok (f t)) (T := tLit n) (fr := false) ok (by rw [← ok.K]; exact ix_list) ⟨fun {d e x y R H Q} rb ⟨a, vs, ex, h, r⟩ ry q => by
    obtain ⟨v, h1, h2⟩ := hA.get r
    refine ⟨a, vs, n, v, ex, ry, sq_of rb h, ?_, q _ _ (Same.refl _) (S.mono h2 (Nw.old rfl))⟩
    have := atI_nat (xs := vs) (j := n.toNat) h1
    rwa [Int.toNat_of_nonneg hA.nat] at this⟩ (fun _ _ _ h => nomatch h) .same ha (ev_lit hb) hs
def dHl (E : DeepA A) : Deep (tHl A) := ⟨fun d => .list (E.pd d), E.dp + 1, fun {K ds v R H} rb ⟨a, vs, e, h, r⟩ => by
    subst e
    obtain ⟨h1, h2⟩ := E.rep rb r
    exact ⟨.lst (.inl ((rb _ _ h).resolve_right fun z => z)) h1, h2⟩, fun ds => by simp only [PyData.depth]; have := E.dep ds; omega, fun d e => by
    simp only [PyData.eqv]
    exact E.eqv d e⟩
end
end Hd

namespace Hd
open PySem PySem.Spec L2
/-! ### None or a list of one's own; a count in an except -/
section
variable {p : Pr} {sc : Scope} {NN VV GG : List Str} {k : Nat} {g : G} {L : List Slot} {a b c e e' : Expr} {es : List Expr} {md md' : Md} {α β γ δ ρ : Type} {S : Ty α} {T : Ty β} {A : Ar δ} {pos : Pos} {i j : Nat} {x : Str} {pp pos' : Pos}
variable {st : List Stmt} {D : δ → Out} {d : δ}
/-- None, or a list of one's own -/
def sOO {α : Type} (b : Bool) (T : Ty α) : Option (List α) → Slot
  | none => sV b tNone ()
  | some ds => sOwn b T ds
/-- a def that hands back None or a list just made -/
def optL {α : Type} (T : Ty α) : Option (List α) → Out
  | none => .rt false tNone ()
  | some ds => .rtL false T ds
def FinO2 (fm : Fm) (W : Wx) (own : List Addr) (σ : L2.St) (H : Hp) (md : Md) (T : Ty β) (Q : VK) : M (Option (List β)) → Prop
  | .ok none => ∀ H', Same H H' → Q .non H'
  | .ok (some ds) => ∀ p vs H', Same H H' → H p = none → H' p = some (.lst vs) → Reps T (RX fm (p :: own) H H' md) ds vs → Q (.ref p) H'
  | .ex c => ∀ H', Same H H' → W c σ H'
  | .no => False
theorem finO2 {fm : Fm} {W : Wx} {own : List Addr} {σ : L2.St} {H : Hp} {Q : VK} : Fin (β := Option (List β)) W σ H (FinO2 fm W own σ H md T Q) := ⟨fun h => h, fun h => h⟩
def EvO2 (g : G) (L : List Slot) (e : Expr) (md : Md) (T : Ty β) (m : M (Option (List β))) : Prop := PE g.X e (fun σ H Q => ∃ kp own, At g.fm kp L σ H own ∧ FinO2 g.fm g.W own σ H md T Q m)
theorem ev_ofO2 {m : M (Option (List α))} (h : EvO2 g L e md S m) : EvE g L e md (tOpt (tList S)) m :=
  PE.imp h fun σ H Q q => by
    obtain ⟨kp, own, at_, q⟩ := tE_iff.mp q
    refine ⟨kp, own, at_, ?_⟩
    cases m with
    | ok d =>
      cases d with
      | none => exact fun H' s => q _ H' s rfl
      | some d => exact fun p vs H' s n h' r => q _ H' s ⟨⟨p, vs, rfl, newRX' at_ n h', r.mono RX.drop1⟩, fun z => nomatch z⟩
    | ex c => exact q
    | no => exact q
theorem evo2_call {x : Str} {j kf : Nat} {ps : List Str} {F : δ → M (Option (List α))} {m : M δ} {pp : Pos} (ok : Ok p sc NN VV GG k g) (hf : Fn p kf x ps (spM p A (fun r => optL S r) F)) (hk : kf ≤ k) (hG : GG[j]? = some x)
    (ha : EvA g L (e :: es) md A m) (he : starEach (e :: es) g.X.env = (false, eval e g.X.env) :: starEach es g.X.env := by rfl) (hpl : (backTo pos (starEach es g.X.env)).any (·.1) = false := by rfl) :
    EvO2 g L (.Call (.Name x pp) (e :: es) [] pos) .sh S (m.bind F) := by
  obtain ⟨f, fd, hF, hm, hkp, hbd⟩ := hf.ex
  obtain ⟨hg, ho⟩ := ok.gl hG
  rw [← ok.prog, ← ok.w, ← ok.base] at hF
  have hF' : FnOk g.X.prog g.X.w g.X.K g.X.mg g.X.base (L2.CX g.X.prog g.X.w) kf f fd ps (spM p A (fun r => optL S r) F) := by rw [ok.K, ok.mg]; exact hF
  refine PE.imp (pe_callS hF' (ok.room.mono hk) hg (by rw [ok.mg]; exact hm) (by rw [ok.K]; exact hkp) (by rw [ok.K]; exact hbd) (tk_at ok) ha (okName_d ho).1 he hpl) fun σ H Q q => ?_
  obtain ⟨kp, own, at_, q⟩ := q
  refine subA finO2 (Same.refl H) at_ q fun d vs H1 s1 r1 at1 q1 => ⟨d, fun a => a ∈ own ∨ g.fm.z a, ⟨fun a z => ?_, fun P e => at1.same.tab P (ok.tab P e)⟩, ?_, ?_⟩
  · rcases z with z | z
    · exact (at1.new a z).1
    · exact at1.zin a z
  · rw [← ok.fmK]; exact args_in r1
  · rw [← ok.fmK]
    cases hd : F d with
    | ok r =>
      rw [hd] at q1
      cases r with
      | none => exact fun v H' s r => by cases (show v = .non from r); exact q1 H' (s1.trans s)
      | some ds => exact fun p' vs' H' s n1 n2 h' r => q1 p' vs' H' (s1.trans s) (s1.free n2) h' (r.mono (CaMd.sh.rx (q := some p') s1 at_.same))
    | ex c =>
      rw [hd] at q1
      exact fun H' s => ⟨c, rfl, rfl, q1 H' (s1.trans s)⟩
    | no => rw [hd] at q1; exact q1
theorem fn_rtO {x qual : Str} {st : Stmt} {f : Addr} {fd : FuncData} {ps : List Str} {L0 : δ → List Slot} {n m : Nat} {F : δ → M (Option (List α))} (hF : FunD p.K x qual (defArgs st) (defBody st) (defScope st) [] [] f fd) (hS : Sc st NN VV ps GG) (ha : ArS A n L0) (hn : ps.length = n) (hm : n + m = NN.length)
    (hb : Body p st NN VV GG k (fun d => L0 d ++ List.replicate m sAny) (fun r => optL S r) F) : FnOk p.P p.w p.K p.mg p.base (L2.CX p.P p.w) (k + 1) f fd ps (spM p A (fun r => optL S r) F) :=
  fn_gen (D' := fun r => optL S r) hF hS ha hn hm (fun r fm Q h => by cases r with | none => exact h | some d => exact h) hb
theorem evb_setO2 {m : M (Option (List α))} {f : Option (List α) → M δ} (ok : OkS p sc NN VV GG k g) (hN : NN[i]? = some x) (hV : VV[j]? = some x) (wk : Wk L g.LX) (he : EvO2 g L e .sh S m) (hr : ∀ d, EvB g (L.set i (sOO false S d)) st D (f d))
    (hs : swapsWith e (some (.Name x pos')) pos.line g.X.env = pure false := by rfl) : EvB g L (.Assign [.Name x pos'] e pos :: st) D (m.bind f) := by
  refine PSs.imp (pss_cons (ps_set (i := i) (by rw [ok.N]; exact ok.nd) (by rw [ok.N]; exact hN) (ok.loc hV) he hs (okS_fn ok)) (PSs.ex hr)) fun E σ H ⟨kp, own, at_, q⟩ => ?_
  refine ⟨kp, own, at_, ?_⟩
  cases m with
  | ok d =>
    cases d with
    | none =>
      intro H' s
      obtain ⟨own', a'⟩ := (at_.ext s).setV (i := i) (b := false) (T := tNone) (d := ()) (v := .non) rfl
      exact ⟨none, kp, own', a', q⟩
    | some ds =>
      intro v vs H' s n h' r
      obtain ⟨own', a'⟩ := at_.setOwn (i := i) (b := false) s n h' (r.mono (SlB.sh (x := .sh)).rb)
      exact ⟨some ds, kp, own', a', q⟩
  | ex c => exact BOk.exx wk at_ q
  | no => exact q
theorem At.freezeO2 {fm : Fm} {kp : RdR} {σ : L2.St} {H : Hp} {own : List Addr} {bb : Bool} {d : Option (List α)} (h : At fm kp L σ H own) (hL : L[i]? = some (sOO bb S d)) : ∃ own', At fm kp (L.set i (sV false (tOpt (tList S)) d)) σ H own' ∧ ∀ p ∈ own', p ∈ own := by
  cases d with
  | none =>
    have a2 := h.setN (i := i) (s := sV bb tNone ()) (s' := sV false (tOpt (tList S)) none) (v := some .non) hL no_v ⟨rfl, .non, rfl, rfl⟩
    obtain ⟨Fs, h3, _⟩ := h.sl
    obtain ⟨v, F, e1, e2, _, w, rfl, rfl⟩ := h3.get hL
    have e : σ.set i (some .non) = σ := List.ext_getElem? fun n => by
      by_cases z : i = n
      · subst z
        rw [e1, List.getElem?_set_self (List.getElem?_eq_some_iff.mp e1).1]
      · rw [List.getElem?_set_ne z]
    rw [e] at a2
    exact ⟨own, a2, fun p hp => hp⟩
  | some ds =>
    obtain ⟨own', a', sub⟩ := h.freeze (i := i) (ds := ds) hL
    obtain ⟨Fs, h3, _⟩ := a'.sl
    have hL' : (L.set i (sV false (tList S) ds))[i]? = some (sV false (tList S) ds) := by rw [List.getElem?_set_self (List.getElem?_eq_some_iff.mp hL).1]
    obtain ⟨v, F, e1, e2, _, w, rfl, hw⟩ := h3.get hL'
    have a2 := a'.setN (i := i) (s' := sV false (tOpt (tList S)) (some ds)) (v := some w) hL' no_v ⟨rfl, w, rfl, hw, fun z => by obtain ⟨_, _, z2, _⟩ := hw; rw [z2] at z; exact nomatch z⟩
    have e : σ.set i (some w) = σ := List.ext_getElem? fun n => by
      by_cases z : i = n
      · subst z
        rw [e1, List.getElem?_set_self (List.getElem?_eq_some_iff.mp e1).1]
      · rw [List.getElem?_set_ne z]
    rw [e, List.set_set] at a2
    exact ⟨own', a2, sub⟩
theorem evb_freezeO2 {bb : Bool} {d : Option (List α)} {m : M δ} (hL : L[i]? = some (sOO bb S d)) (hr : EvB g (L.set i (sV false (tOpt (tList S)) d)) st D m) : EvB g L st D m := PSs.imp hr fun E σ H ⟨kp, own, at_, q⟩ => by
  obtain ⟨own', a', _⟩ := at_.freezeO2 hL
  exact ⟨kp, own', a', q⟩
theorem ev_borrowO2 {bb : Bool} {d : Option (List α)} {m : M β} (hf : Flat T ∨ md = .fx) (hL : L[i]? = some (sOO bb S d)) (h : EvE g (L.set i (sV false (tOpt (tList S)) d)) e md T m) : EvE g L e md T m := PE.imp h fun σ H Q q => by
  obtain ⟨kp, own, at_, q⟩ := tE_iff.mp q
  obtain ⟨own', a', sub⟩ := at_.freezeO2 hL
  refine tE_iff.mpr ⟨kp, own', a', ?_⟩
  cases m with
  | ok d =>
    refine fun v H' s r => q v H' s ?_
    rcases hf with hf | rfl
    · exact hf r
    · exact T.mono r fun a o z => ⟨z.1, fun y => (at_.new a y).1 z.2.2.2.2, z.2.2⟩
  | ex c => exact q
  | no => exact q
theorem evt_borrowO2 {bb : Bool} {d : Option (List α)} {m : M Bool} (hL : L[i]? = some (sOO bb S d)) (h : EvT g (L.set i (sV false (tOpt (tList S)) d)) e m) : EvT g L e m := PT.imp h fun σ H Q q => by
  obtain ⟨kp, own, at_, q⟩ := tT_iff.mp q
  obtain ⟨own', a', sub⟩ := at_.freezeO2 hL
  refine tT_iff.mpr ⟨kp, own', a', ?_⟩
  cases m <;> exact q
def unO {α : Type} : Option α → M α
  | none => .no
  | some d => .ok d
/-- x.append(e), x None or a list of one's own -/
theorem evb_appendO2 {bb : Bool} {d : Option (List α)} {m : M α} {f : List α → M δ} {p1 ap cp : Pos} (ok : OkS p sc NN VV GG k g) (wk : Wk L g.LX) (hN : NN[i]? = some x) (hV : VV[j]? = some x) (hL : L[i]? = some (sOO bb S d)) (hb : SlB md bb)
    (he : EvE g L e md S m) (hr : ∀ ds' : List α, EvB g (L.set i (sOO bb S (some ds'))) st D (f ds'))
    (hs : swapsWith (.Call (.Attribute (.Name x p1) "append" ap) [e] [] cp) none pos.line g.X.env = pure false := by rfl)
    (hbase : attributeBase (.Name x p1) "append" g.X.env (eval (.Name x p1) g.X.env) = eval (.Name x p1) g.X.env := by rfl)
    (hfew : ((backTo cp (starEach [e] g.X.env)).all (fun x => !x.1) && (backToKw cp (keywordEach [] g.X.env)).all (fun x => x.1.isSome)
      && decide (([e] : List Expr).length + ([] : List Keyword).length + (if ([] : List Keyword).isEmpty then 0 else 1) < 30)) = true := by rfl)
    (hline : (ap.endLine == cp.line) = true := by rfl) (hst : starEach [e] g.X.env = (false, eval e g.X.env) :: starEach [] g.X.env := by rfl) (hpl : (backTo cp (starEach [] g.X.env)).any (·.1) = false := by rfl) :
    EvB g L (.Expr (.Call (.Attribute (.Name x p1) "append" ap) [e] [] cp) pos :: st) D ((unO d).bind fun ds => m.bind fun y => (pushM ds y).bind f) := by
  cases d with
  | some ds => exact evb_append ok wk hN hV hL hb he hr hs hbase hfew hline hst hpl
  | none =>
    exact ⟨fun pins s σ H D I ⟨kp, own, at_, q⟩ => q.elim⟩
/-- try: body / except X: y = y + n -/
theorem evb_tryI {kn : List Ec} {cx : Ec} {mb : M β} {h : β} {f : β → M δ} {LJ : β → List Slot} {body : List Stmt} {y : Str} {iC jC : Nat} {np pos' p2 p3 p4 p5 p6 : Pos} {jn} {nv : Int} {dv : Int} {bb : Bool} (ok : OkS p sc NN VV GG k g) (wk : Wk L g.LX) (hkn : Kn p kn) (hcx : cx ∈ kn) (hx : p.mg x = some (.ref (p.C cx))) (hG : GG[j]? = some x)
    (hNC : NN[iC]? = some y) (hVC : VV[jC]? = some y) (hLC : L[iC]? = some (sV bb tInt dv))
    (hb : ∀ g', OkS p sc NN VV GG k g' → g'.LX = L → EvB g' L body (fun s => .nx (LJ s)) mb)
    (hh : Wk (L.set iC (sV false tInt (dv + nv))) (LJ h)) (hr : ∀ s, EvB g (LJ s) st D (f s)) (hs : ∀ Y : Cx, swapsWith (.BinOp (.Name y p4) .Add (.Constant (.int nv) jn p5) p6) (some (.Name y p2)) p3.line Y.env = pure false := by intro _; rfl) :
    EvB g L (.Try body [.ExceptHandler (some (.Name x np)) none [.Assign [.Name y p2] (.BinOp (.Name y p4) .Add (.Constant (.int nv) jn p5) p6) p3] pos'] [] [] pos :: st) D ((tryM kn cx mb fun _ => h).bind f) := by
  obtain ⟨hg, ho⟩ := ok.gl hG
  obtain ⟨hvC, hoC⟩ := ok.vis hVC
  obtain ⟨n1, n2, _⟩ := okName_d hoC
  refine PSs.imp (pss_cons (ps_try_only (c := .ref (p.C cx)) (tb := fun W D σ H => ∃ q : {W'' : Wx // ∀ c σ H, W'' c σ H → W (.ref (p.C c)) none σ H}, tB ⟨g.X, g.fm, q.1, L⟩ L (fun s => Out.nx (LJ s)) mb D σ H)
    (ts := fun ad cl dd => tAsg (tOp (rI0 fun i j => .int (i + j)) (tVar iC) (tC (.int nv))) (gName iC)) (Wout := fun cls d σ H => ∃ c, cls = .ref (p.C c) ∧ d = none ∧ g.W c σ H) ok.stk ok.frm ⟨hg, (okName_d ho).1, .inl (by rw [ok.mg]; exact hx)⟩ ok.tk
    (fun W pn xe tkW psO => ?_) (fun ad oE cl dd pn _ _ => ?_)) (PSs.ex hr)) fun E σ H ⟨kp, own, at_, q⟩ => ?_
  · refine PSs.ex (t := fun (q : {W'' : Wx // ∀ c σ H, W'' c σ H → W (.ref (p.C c)) none σ H}) => tB ⟨g.X, g.fm, q.1, L⟩ L (fun s => Out.nx (LJ s)) mb) fun q => ?_
    exact hb ⟨g.X.tr pn xe, g.fm, q.1, L⟩
      { prog := ok.prog, w := ok.w, K := ok.K, mg := ok.mg, base := ok.base, N := ok.N, fmK := ok.fmK, tab := ok.tab, room := ok.room, nd := ok.nd, vis := ok.vis, gl := ok.gl
        tk := Takes.imp tkW fun cls d σ H ⟨c, e1, e2, z⟩ => by subst e1; subst e2; exact q.2 c σ H z
        calm := ok.calm, blk := ok.blk, loc := ok.loc, fnT := ok.fnT, psO := psO, scp := ok.scp, stk := ok.stk, frm := ok.frm, exn := ok.exn } rfl
  · exact pss_one (ps_set (i := iC) (by show g.X.N.Nodup; rw [ok.N]; exact ok.nd) (by show g.X.N[iC]? = _; rw [ok.N]; exact hNC) (ok.loc hVC) (pe_op op_add (pe_var (i := iC) (by show g.X.N[iC]? = _; rw [ok.N]; exact hNC) hvC n1 n2) pe_int) (hs _) (.inl (ok.fnT y)))
  · refine ⟨⟨fun c σ' H' => (c ∈ kn → isB c cx = true → σ'[iC]? = some (some (.int dv)) ∧ ∃ d, tB g (LJ d) D (f d) E (σ'.set iC (some (.int (dv + nv)))) H') ∧ (c ∈ kn) ∧ (isB c cx = false → g.W c σ' H'), fun c σ' H' ⟨z1, z2, z3⟩ => ?_⟩, kp, own, at_, ?_⟩
    · refine ⟨isB c cx, by rw [ok.K]; exact hkn.exm c z2 cx hcx, fun hB ad hn => ?_, fun hB => ⟨c, rfl, rfl, z3 hB⟩⟩
      obtain ⟨y1, y2⟩ := z1 z2 hB
      exact ⟨_, y1, dv, nv, rfl, rfl, y2⟩
    · cases mb with
      | ok s => exact fun σ' H' own' a' => ⟨s, kp, own', a', q⟩
      | no => exact q.elim
      | ex c =>
        intro σ' H' own' a'
        have q : BOk g kp E D (((if c ∈ kn then (if isB c cx = true then M.ok h else .ex c) else .no) : M β).bind f) := q
        by_cases hc : c ∈ kn
        · rw [if_pos hc] at q
          refine ⟨fun _ hB => ?_, hc, fun hB => ?_⟩
          · rw [if_pos hB] at q
            obtain ⟨Fs, h3, _⟩ := a'.sl
            obtain ⟨v, F, e1, e2, _, w, rfl, hw⟩ := h3.get hLC
            cases (show w = .int dv from hw)
            obtain ⟨own3, a3⟩ := a'.setV (i := iC) (b := false) (T := tInt) (d := dv + nv) (v := .int (dv + nv)) rfl
            obtain ⟨own5, a5, _⟩ := a3.weak hh
            exact ⟨e1, h, kp, own5, a5, q⟩
          · rw [if_neg (by rw [hB]; exact Bool.false_ne_true)] at q
            obtain ⟨own2, a2, _⟩ := a'.weak wk
            exact q σ' H' own2 a2
        · rw [if_neg hc] at q; exact q.elim
end
end Hd

namespace Hd
open PySem PySem.Spec PyProof.Rows L2
/-! ### < and sorted of tuples of several kinds -/
section
variable {α β δ : Type} {S : Ty α} {T : Ty β} {A : Ar δ}
/-- what < says of data of a kind -/
structure OrdD (D : Deep S) where
  lt : α → α → Bool
  al : ∀ a b, PySem.W.alike (D.pd a) (D.pd b) = true
  nn : ∀ a, D.pd a ≠ .none
  eq : ∀ a b, PySem.W.dataLt (D.pd a) (D.pd b) = lt a b
structure OrdA (E : DeepA A) where
  lt : δ → δ → Bool
  al : ∀ a b, PySem.W.alikeAll (E.pd a) (E.pd b) = true
  eq : ∀ a b, PyProof.Rows.lexLt PyProof.Rows.itemOrd (PySem.W.keyToksAll (E.pd a)) (PySem.W.keyToksAll (E.pd b)) = lt a b
def oInt : OrdD dInt := ⟨fun a b => decide (a < b), fun a b => by show PySem.W.alike (.int a) (.int b) = true; simp only [PySem.W.alike], (fun a e => by cases e), fun a b => PySem.W.dataLt_int a b⟩
def oStr : OrdD dStr := ⟨fun a b => decide (a < b), fun a b => by show PySem.W.alike (.str (toS a)) (.str (toS b)) = true; simp only [PySem.W.alike], (fun a e => by cases e), fun a b => by
  have h := PySem.W.dataLt_str (toS a) (toS b)
  rw [show (toS a).cps.toList = a from tl_toS a, show (toS b).cps.toList = b from tl_toS b] at h
  exact h⟩
def oNil : OrdA dNil := ⟨fun _ _ => false, fun a b => by show PySem.W.alikeAll [] [] = true; simp only [PySem.W.alikeAll], fun a b => lex_irrefl _⟩
def oCons [DecidableEq α] {D : Deep S} {E : DeepA A} (O : OrdD D) (P : OrdA E) : OrdA (dCons D E) := ⟨fun a b => if a.1 = b.1 then P.lt a.2 b.2 else O.lt a.1 b.1, fun a b => by
    show PySem.W.alikeAll (D.pd a.1 :: E.pd a.2) (D.pd b.1 :: E.pd b.2) = true
    rw [PySem.W.alikeAll, O.al, P.al]; rfl, fun a b => by
    show PyProof.Rows.lexLt itemOrd (PySem.W.keyToksAll (D.pd a.1 :: E.pd a.2)) (PySem.W.keyToksAll (D.pd b.1 :: E.pd b.2)) = _
    by_cases h : a.1 = b.1
    · rw [if_pos h, PySem.W.dataLt_all_yes (O.al a.1 b.1) (by rw [D.bq, decide_eq_true_eq]; exact h)]
      exact P.eq a.2 b.2
    · rw [if_neg h, PySem.W.dataLt_all_no (O.al a.1 b.1) (by rw [D.bq, decide_eq_false_iff_not]; exact h)]
      exact O.eq a.1 b.1⟩
def oTup {E : DeepA A} (P : OrdA E) : OrdD (dTup E) := ⟨P.lt, fun a b => by
    show PySem.W.alike (.tuple (E.pd a)) (.tuple (E.pd b)) = true
    simp only [PySem.W.alike]; exact P.al a b, (fun a e => by cases e), fun a b => (PySem.W.dataLt_tuple _ _).trans (P.eq a b)⟩
/-- a tuple with items -/
structure SomeT (D : Deep S) : Prop where
  sm : ∀ a, ∃ x r, D.pd a = .tuple (x :: r)
theorem st_tup {D : Deep S} {E : DeepA A} : SomeT (dTup (dCons D E)) := ⟨fun a => ⟨_, _, rfl⟩⟩
/-- < -/
def rLtD (K : PySem.W.Frag) : R2 := fun x y H Q => ∃ d e, Dp K H x d ∧ Dp K H y e ∧ PySem.W.alike d e = true ∧ d ≠ .none ∧ d.depth ≤ 64 ∧ Q (.bl (PySem.W.dataLt d e)) H
theorem op_ltD {X : Cx} (hu : X.A.units + 65 < cLine) : OpR X (compareOp .Lt) (rLtD X.K) := by
  intro pins s σ H x y v u Q I rx ry h
  obtain ⟨d, e, hd, he, al, nn, dp, q⟩ := h
  obtain ⟨as, r1⟩ := Dp.reads I d x v hd rx
  obtain ⟨bs, r2⟩ := Dp.reads I e y u he ry
  exact PySem.W.lt_data r1 r2 al nn (by omega) ⟨.bl _, H, I, rfl, q⟩
/-- sorted(a list of tuples) -/
def rSortD (K : PySem.W.Frag) (S : Ty α) (pd : α → PyData) : List V → Hp → VK → Prop := fun vs H Q => ∃ (a : Addr) (xs : List V) (R : RdR) (bs : List α), vs = [V.ref a] ∧ SqL K H a xs ∧ Reps S R bs xs ∧ (∀ b v, S.rep b v R → Dp K H v (pd b)) ∧
  (∀ b c, PySem.W.alike (pd b) (pd c) = true) ∧ (∀ b, ∃ x r, pd b = .tuple (x :: r)) ∧ (∀ b, (pd b).depth ≤ 64) ∧ ∀ p xs', H p = none → Reps S R (bs.mergeSort (PySem.W.dataLe false pd)) xs' → Q (.ref p) (upd H p (.lst xs'))
theorem each_of {R : RdR} : ∀ {bs : List α} {xs : List V} {its : List Value}, Reps S R bs xs → Vals xs its → PySem.W.EachIs (fun v x => ∃ y, RelV y v ∧ S.rep x y R) its bs
  | _, _, _, .nil, .nil => .nil
  | _, _, _, .cons r rs, .cons h hs => .cons ⟨_, h, r⟩ (each_of rs hs)
theorem of_each {R : RdR} : ∀ {bs : List α} {its : List Value}, PySem.W.EachIs (fun v x => ∃ y, RelV y v ∧ S.rep x y R) its bs → ∃ xs, Vals xs its ∧ Reps S R bs xs
  | _, _, .nil => ⟨[], .nil, .nil⟩
  | _, _, .cons ⟨y, h, r⟩ hs => by
    obtain ⟨xs, h1, h2⟩ := of_each hs
    exact ⟨y :: xs, .cons h h1, .cons r h2⟩
theorem cr_sortD {X : Cx} {k : Nat} {pd : α → PyData} (hr : Room k X.A) : CallR X (.builtin "sorted") (rSortD X.K S pd) := by
  intro pins s σ H vs us Q I r h
  obtain ⟨a, xs, R, bs, rfl, hs, rp, hD, al, sm, dp, q⟩ := h
  obtain ⟨its, rv, hl, hz⟩ := I.list hs
  obtain ⟨u, rfl, ru⟩ := vals1 r
  obtain rfl : u = Value.ref a := ru
  have e := each_of rp rv
  have er : PySem.W.EachIs (fun v b => ∃ as, Reads s.heap v (pd b) as) its bs := e.mono fun v b ⟨y, hy, hr⟩ => Dp.reads I (pd b) y v (hD b y hr) hy
  have hlen := e.length
  refine PySem.W.sorted_data (R := fun v x => ∃ y, RelV y v ∧ S.rep x y R) (enc := pd) hl.isList e er (fun d hd d' hd' => by
      obtain ⟨b, _, rfl⟩ := List.mem_map.mp hd
      obtain ⟨c, _, rfl⟩ := List.mem_map.mp hd'
      exact al b c) (.inl fun d hd => by
      obtain ⟨b, _, rfl⟩ := List.mem_map.mp hd
      exact sm b) (by rw [rp.length]; exact hz) (fun x _ => by have := hr.un; have := dp x; show X.A.units + 2 + _ < cLine; omega) fun out ho hE => ?_
  obtain ⟨ep, he'⟩ := PyProof.Rows.sortedAll_at s.heap its out.toArray
  obtain ⟨xs', v1, v2⟩ := of_each hE
  have hz2 : xs'.length ≤ sizeLine := by rw [← v2.length, List.length_mergeSort, rp.length]; exact hz
  exact ⟨.ref _, upd H (s.heap.objs.size + 1) (.lst xs'), I.laid (t' := s.toks) (fun _ _ => PyProof.Rows.sortedAll_old) (Nat.le_succ _) ⟨hz2, out, ep, v1, by simpa using he'⟩, rfl, q _ _ (I.hok.fresh (Nat.le_succ _)) v2⟩
end
section
variable {p : Pr} {sc : Scope} {NN VV GG : List Str} {k : Nat} {g : G} {L : List Slot} {α β δ : Type} {S : Ty α} {md md' : Md} {pos pp : Pos} {st : List Stmt} {D : δ → Out} {i j : Nat} {x : Str} {a e : Expr}
theorem c_ltD (ok : Ok p sc NN VV GG k g) {D : Deep S} (O : OrdD D) (hd : D.dp ≤ 64) : CmpOk p g.X .Lt S S (fun x y => O.lt x y) := ⟨rLtD p.K, by rw [← ok.K]; exact op_ltD (by have := ok.room.un; omega), ⟨fun {d e x y R H Q} rb rx ry q => by
  obtain ⟨a1, a2⟩ := D.rep rb rx
  obtain ⟨b1, b2⟩ := D.rep rb ry
  exact ⟨_, _, a1, b1, O.al d e, O.nn d, Nat.le_trans (D.dep d) hd, q _ _ (Same.refl _) (by show _ = V.bl _; rw [O.eq])⟩⟩⟩
/-- .. in rising order -/
def sortD {D : Deep S} (O : OrdD D) (xs : List α) : List α := xs.mergeSort fun a b => !O.lt b a
theorem evl_sortD {D : Deep S} {m : M (List α)} (ok : Ok p sc NN VV GG k g) (O : OrdD D) (hd : D.dp ≤ 64) (hS : SomeT D) (hG : GG[j]? = some "sorted") (hmg : p.mg "sorted" = none) (ha : EvE g L a md (tList S) m) (hs : starEach [a] g.X.env = (false, eval a g.X.env) :: starEach [] g.X.env := by rfl) :
    EvL g L (.Call (.Name "sorted" pp) [a] [] pos) md S (m.bind fun xs => .ok (sortD O xs)) := by
  obtain ⟨hg, ho⟩ := ok.gl hG
  obtain ⟨h1, _, h3⟩ := okName_d ho
  refine PE.imp (pe_callB (cr_sortD (S := S) (pd := D.pd) ok.room) hg (by rw [ok.mg]; exact hmg) (by decide +kernel) (eva_cons ha eva_nil hs) h3 h1 hs rfl) fun σ H W q => ?_
  obtain ⟨kp, own, at_, q⟩ := tL_iff.mp q
  refine tA_iff.mpr ⟨kp, own, at_, ?_⟩
  have ee : PySem.W.dataLe false D.pd = fun a b => !O.lt b a := by
    rw [PySem.W.dataLe_eq]
    funext a b
    show (!PySem.W.dataLt (D.pd b) (D.pd a)) = _
    rw [O.eq]
  cases m with
  | ok d =>
    rintro vs H1 s1 ⟨v, r, rfl, ⟨a', ws, rfl, hR, rr⟩, e3⟩
    cases (show r = [] from e3)
    refine ⟨a', ws, RX g.fm own H H1 md, d, rfl, by rw [ok.K, ← ok.fmK]; exact RX.list hR, rr, fun b v hb => ?_, O.al, hS.sm, fun b => Nat.le_trans (D.dep b) hd, fun l xs' hl rr' => ?_⟩
    · rw [ok.K, ← ok.fmK]; exact (D.rep RX.rdb hb).1
    · rw [ee] at rr'
      exact q l _ _ (s1.trans (newSame hl)) (s1.free hl) upd_same (rr'.mono fun a o z => RX.add (o' := .lst xs') hl a o z)
  | ex c => exact q
  | no => exact q
end
end Hd

namespace Hd
open PySem PySem.Spec L2
/-! ### objects of own classes: made, read, asked -/
/-- a field: its name, its kind, its worth -/
structure FldS : Type 1 where
  n : Str
  α : Type
  T : Ty α
  d : α
inductive FsR (R : RdR) : List FldS → List (Str × V) → Prop where
  | nil : FsR R [] []
  | cons {s : FldS} {l v fs} : s.T.rep s.d v R → FsR R l fs → FsR R (s :: l) ((s.n, v) :: fs)
section
variable {R R' : RdR} {l l' : List FldS} {fs fs' : List (Str × V)}
theorem FsR.mono (h : FsR R l fs) (s : ∀ a o, R a o → R' a o) : FsR R' l fs := by
  induction h with
  | nil => exact .nil
  | cons r _ ih => exact .cons (Ty.mono _ r s) ih
theorem FsR.snoc {s : FldS} {v : V} (h : FsR R l fs) (r : s.T.rep s.d v R) : FsR R (l ++ [s]) (fs ++ [(s.n, v)]) := by
  induction h with
  | nil => exact .cons r .nil
  | cons q _ ih => exact .cons q ih
theorem FsR.length (h : FsR R l fs) : l.length = fs.length := by
  induction h with
  | nil => rfl
  | cons _ _ ih => simp [ih]
theorem FsR.none {f : Str} (h : FsR R l fs) (hn : l.all (fun s => !(f == s.n)) = true) : fs.lookup f = none := by
  induction h with
  | nil => rfl
  | @cons s l v fs _ _ ih =>
    rw [List.all_cons, Bool.and_eq_true] at hn
    rw [List.lookup_cons]
    have : (f == s.n) = false := by simpa using hn.1
    rw [this]
    exact ih hn.2
theorem putF_new {f : Str} {y : V} : ∀ {fs : List (Str × V)}, fs.lookup f = none → putF f y fs = fs ++ [(f, y)]
  | [], _ => rfl
  | (g, x) :: r, h => by
    rw [List.lookup_cons] at h
    by_cases e : g = f
    · subst e; simp at h
    · have e2 : (f == g) = false := by simpa using fun z => e z.symm
      rw [e2] at h
      show (if g = f then _ else (g, x) :: putF f y r) = _
      rw [if_neg e, putF_new h]; rfl
end
/-- the field f is there -/
inductive FAt {β : Type} (f : Str) (T : Ty β) (d : β) : List FldS → Prop where
  | here {l} : FAt f T d (⟨f, β, T, d⟩ :: l)
  | there {s l} {n : Str} : s.n = n → (f == n) = false → FAt f T d l → FAt f T d (s :: l)
theorem FAt.get {β : Type} {f : Str} {T : Ty β} {d : β} {R : RdR} {l : List FldS} (h : FAt f T d l) : ∀ {fs : List (Str × V)}, FsR R l fs → ∃ v, fs.lookup f = some v ∧ T.rep d v R := by
  induction h with
  | here =>
    intro fs r
    cases r with
    | cons q _ => exact ⟨_, by rw [List.lookup_cons]; simp, q⟩
  | there e0 e _ ih =>
    subst e0
    intro fs r
    cases r with
    | cons _ q =>
      obtain ⟨v, h1, h2⟩ := ih q
      exact ⟨v, by rw [List.lookup_cons, e]; exact h1, h2⟩
/-- an object of the class at C -/
def tIns {δ : Type} (C : Addr) (fl : δ → List FldS) : Ty δ := ⟨fun d v R => ∃ a dx fs, v = .ref a ∧ R a (.ins C dx fs) ∧ FsR R (fl d) fs, fun ⟨a, dx, fs, e, r, h⟩ s => ⟨a, dx, fs, e, s _ _ r, h.mono s⟩⟩
theorem nn_ins {δ : Type} {C : Addr} {fl : δ → List FldS} : NotNon (tIns C fl) := ⟨fun ⟨a, dx, fs, e, _⟩ => by subst e; exact fun z => nomatch z⟩
/-- the address of a class -/
abbrev cA (p : Pr) (c : Str) : Addr := He.ga p.K c
/-! reading what may be shared -/
section
variable {X : Cx} {pins : List (Addr × Obj)} {σ : L2.St} {H : Hp} {s : Shared} {a C dx : Addr} {fs : List (Str × V)} {f : Str} {v : V} {A : Around} {E : Value → Shared → Prop}
theorem ins_getR {P : Program} {w : World} {h : Heap} (x : ObjOk P w H h a (.ins C dx fs)) : ∃ mA, ObjM h a dx C mA ∧ (∀ f, RelO (fs.lookup f) (mA f)) := by
  obtain ⟨d, z, ne, ob, mA, n, r, q⟩ := x
  exact ⟨mA, ⟨ob, n, ne⟩, r⟩
theorem getattr_rd {b : Bool} {Q : Value → Shared → Prop} (I : Inv X pins σ H s) (e : Rd H a (.ins C dx fs)) (c : Cls X.K C) (n : NoAttr X.K C f) (l : fs.lookup f = some v)
    (h : ∀ u s', Inv X pins σ H s' → RelV v u → Q u s') : wpAny (model X.prog X.w) A (getAttr (.ref a) f b) Q E s := by
  obtain ⟨mA, O, r⟩ := ins_getR (e.ok I.hok)
  obtain ⟨u, hu, ru⟩ := RelO.some_of (v := v) (o := mA f) (by rw [← l]; exact r f)
  exact get_map I.kIn O (c.get f) c.hd n hu (handed_of ru) (h u _ (I.tok _) ru)
theorem getmeth_rd {m : Str} {g : Addr} {pl : Sem Bool} {Q : Value × List Value → Shared → Prop} (I : Inv X pins σ H s) (e : Rd H a (.ins C dx fs)) (c : Cls X.K C) (k : Meth X.K C m g) (l : fs.lookup m = none)
    (h : Q (.ref g, [.ref a]) s) : wpAny (model X.prog X.w) A (getMethod (.ref a) m pl) Q E s := by
  obtain ⟨mA, O, r⟩ := ins_getR (e.ok I.hok)
  have hn : mA m = none := RelO.none_of (by rw [← l]; exact r m)
  exact get_meth I.kIn O (c.get m) k.at_ k.fn hn h
def tFldR (K : PySem.W.Frag) (ta : TE) (f : Str) : TE := fun σ H Q => ta σ H fun x H1 => ∃ a C dx fs v, x = .ref a ∧ Rd H1 a (.ins C dx fs) ∧ Cls K C ∧ NoAttr K C f ∧ fs.lookup f = some v ∧ Q v H1
theorem pe_fldR {e : Expr} {pos : Pos} {ta : TE} (he : PE X e ta) (hb : attributeBase e f X.env (eval e X.env) = eval e X.env) : PE X (.Attribute e f pos) (tFldR X.K ta f) := by
  refine ⟨fun pins s σ H Q I h => ?_⟩
  refine attr_of hb (thn (he.run pins s σ H _ I h) fun u s1 ⟨x, H1, I1, rx, a, C, dx, fs, v, ex, ea, c, n, l, q⟩ => ?_)
  subst ex
  obtain rfl : u = Value.ref a := rx
  exact getattr_rd I1 ea c n l fun u' s2 I2 ru => ⟨v, H1, I2, ru, q⟩
def tMethR (C : Addr) (m : Str) (sp : Sp) (E : L2.St → XK) (ta : TE) : TE := fun σ H Q => ta σ H fun x H1 => ∃ a dx fs, x = .ref a ∧ Rd H1 a (.ins C dx fs) ∧ fs.lookup m = none ∧ sp [x] H1 Q (E σ)
theorem pe_methR0 {k : Nat} {o : Expr} {m : Str} {apos pos : Pos} {ta : TE} {f : Addr} {fd : FuncData} {ps : List Str} {sp : Sp} {E : L2.St → XK} {pl : Sem Bool} {CX' : CXT} (he : PE X o ta) (c : Cls X.K C) (hm : Meth X.K C m f) (F : FnOk X.prog X.w X.K X.mg X.base CX' k f fd ps sp) (hr : Room k X.A) (hb : Binds X.K fd ps []) (hx : ∀ σ, PassesAt CX' X σ (E σ))
    (ht : eval (.Call (.Attribute o m apos) [] [] pos) X.env = (do
      let ov ← eval o X.env
      standAt apos.atName
      let (f, first) ← holding [ov] (getMethod ov m pl)
      callWith pos f first (backTo pos (starEach [] X.env)) (backToKw pos (keywordEach [] X.env))) := by rfl) :
    PE X (.Call (.Attribute o m apos) [] [] pos) (tMethR C m sp E ta) := by
  refine ⟨fun pins s σ H Q I h => ?_⟩
  refine PySem.W.methodCall_KW (pl := pl) (thn (he.run pins s σ H _ I h) fun u s1 ⟨x, H1, I1, rx, a, dx, fs, ex, ea, l, q⟩ => ?_) ht
  subst ex
  obtain rfl : u = Value.ref a := rx
  refine getmeth_rd I1 ea c hm l ?_
  exact PySem.W.callWith_K0 (first := [.ref a]) I1.kIn hm.kp (run_fnS (us := [.ref a]) (vs := [.ref a]) F hr hb (hx σ) I1 (.cons rfl .nil) q)
theorem run_makeS {k : Nat} {f : Addr} {fd : FuncData} {ps : List Str} {sp : Sp} {E : XK} {CX' : CXT} {Q : VK} {us : List Value} {vs : List V} (M : Mk X.K C f) (F : FnOk X.prog X.w X.K X.mg X.base CX' k f fd ps sp) (hr : Room (k + 1) X.A) (hb : Binds X.K fd ps [])
    (hx : PassesAt CX' X σ E) (I : Inv X pins σ H s) (r : Vals vs us)
    (h : ∀ x dx, H x = none → H dx = none → dx ≠ x → sp (.ref x :: vs) (upd (upd H dx (.own x)) x (.ins C dx [])) (fun v H2 => v = .non ∧ Q (.ref x) H2) E) :
    wpAny (model X.prog X.w) X.A (call (.ref C) us) (EP X pins σ Q) X.xe s := by
  have hq := h (s.heap.objs.size + 1) s.heap.objs.size (I.hok.fresh (Nat.le_succ _)) (I.hok.fresh (Nat.le_refl _)) (Nat.ne_of_lt (Nat.lt_succ_self _))
  have I2 := Inv.made (C := C) I
  have r2 : Vals (V.ref (s.heap.objs.size + 1) :: vs) (Value.ref (s.heap.objs.size + 1) :: us) := .cons rfl r
  have hl : (Value.ref (s.heap.objs.size + 1) :: us).length = ps.length := by
    have e := r2.length
    rw [F.len _ _ _ _ hq] at e
    exact e.symm
  have hbb := hb _ (Value.ref (s.heap.objs.size + 1) :: us) I2.kIn (by rw [List.append_nil]; exact hl)
  rw [List.append_nil] at hbb
  refine wpAny_call (make_map (f := f) I.kIn M.makes M.init (beq_iff_eq.mp M.fn) (codeAny_mono (F.run _ X.stack _ _ ⟨Value.ref (s.heap.objs.size + 1) :: us, []⟩ (Value.ref (s.heap.objs.size + 1) :: us) _ _ E (hr.make C us [])
    (I2.env0.make C us []) hbb r2 hq) fun r s' hq' => ?_))
  cases r with
  | error e => exact hx pins _ _ e s' I2 hq'
  | ok fl =>
    cases fl with
    | ret u =>
      obtain ⟨v, H', I3, rv, ev, q3⟩ := I2.after hq'
      subst ev
      exact ⟨rv, ⟨V.ref (s.heap.objs.size + 1), H', I3, rfl, q3⟩⟩
    | next => exact False.elim hq'
    | brk => exact False.elim hq'
    | cont => exact False.elim hq'
def tMakeS (C : Addr) (sp : Sp) (E : L2.St → XK) (t : TA) : TE := fun σ H Q => t σ H fun vs H1 => ∀ x dx, H1 x = none → H1 dx = none → dx ≠ x →
  sp (.ref x :: vs) (upd (upd H1 dx (.own x)) x (.ins C dx [])) (fun v H2 => v = .non ∧ Q (.ref x) H2) (E σ)
theorem pe_makeS {k : Nat} {e : Expr} {es : List Expr} {x : Str} {pos p : Pos} {t : TA} {f : Addr} {fd : FuncData} {ps : List Str} {sp : Sp} {E : L2.St → XK} {CX' : CXT} (M : Mk X.K C f) (F : FnOk X.prog X.w X.K X.mg X.base CX' k f fd ps sp) (hr : Room (k + 1) X.A) (hg : Gl X x) (hm : X.mg x = some (.ref C)) (hb : Binds X.K fd ps []) (hx : ∀ σ, PassesAt CX' X σ (E σ))
    (ha : PA X (e :: es) t) (hdb : (x == ("__debug__" : Str)) = false := by decide) (he : starEach (e :: es) X.env = (false, eval e X.env) :: starEach es X.env := by rfl) (hpl : (backTo pos (starEach es X.env)).any (·.1) = false := by rfl) :
    PE X (.Call (.Name x p) (e :: es) [] pos) (tMakeS C sp E t) := by
  refine ⟨fun pins s σ H Q I h => ?_⟩
  refine wpAny_Call_Name_kw (ld_glob I hg hm ?_ hdb)
  refine PySem.W.callWith_K (h₀ := X.base) I.ok.mod.kin M.kp (thn (ha.run pos pins s σ H _ I h) fun us s1 ⟨vs, H1, I1, r, q⟩ => ⟨I1.kIn, ?_⟩) he hpl
  exact run_makeS M F hr hb (hx σ) I1 r q
end
/-! the object that is being made -/
def sSelf (x C : Addr) (l : List FldS) : Slot := ⟨fun v H R F => ∃ dx fs, v = some (.ref x) ∧ F = [x] ∧ H x = some (.ins C dx fs) ∧ FsR (R false) l fs,
  fun ⟨dx, fs, e, f, h, r⟩ s k => ⟨dx, fs, e, f, by rw [k x (by simp [f])]; exact h, r.mono (s false)⟩, fun ⟨dx, fs, e, f, h, r⟩ q hq => by subst f; rw [List.mem_singleton.mp hq, cl_of h]; exact fun z => nomatch z⟩
section
variable {p : Pr} {sc : Scope} {NN VV GG : List Str} {k : Nat} {g : G} {L : List Slot} {a b c e e' : Expr} {es : List Expr} {md md' : Md} {α β γ δ ρ : Type} {S : Ty α} {T : Ty β} {U : Ty γ} {A : Ar δ} {pos : Pos} {i j : Nat} {x f : Str} {pp : Pos} {C : Addr}
variable {st : List Stmt} {D : δ → Out} {d : δ}
theorem At.mutS {fm : Fm} {kp : RdR} {σ : L2.St} {H : Hp} {own : List Addr} {q : Addr} {l : List FldS} {i : Nat} (h : At fm kp L σ H own) (hL : L[i]? = some (sSelf q C l)) :
    ∃ dx fs, σ[i]? = some (some (.ref q)) ∧ H q = some (.ins C dx fs) ∧ FsR (RB fm own H false) l fs ∧ ∀ l' fs', FsR (RB fm own H false) l' fs' → At fm kp (L.set i (sSelf q C l')) σ (upd H q (.ins C dx fs')) own := by
  obtain ⟨h1, h2, ⟨Fs, h3, rfl⟩, h4, h5, h6⟩ := h
  obtain ⟨v, F, e1, e2, dx, fs, rfl, rfl, hp, r⟩ := h3.get hL
  have qin : q ∈ Fs.flatten := List.mem_flatten.mpr ⟨[q], List.mem_of_getElem? e2, by simp⟩
  refine ⟨dx, fs, e1, hp, r, fun l' fs' r' => ?_⟩
  have key : ∀ (md : Md) a o, RX fm Fs.flatten H H md a o → RX fm Fs.flatten (upd H q (.ins C dx fs')) (upd H q (.ins C dx fs')) md a o ∨ md = .fx := fun md a o z => by
    cases md with
    | sh =>
      rcases z with z | z
      · have n : a ≠ q := fun e => z.2.1 (by rw [e]; exact qin)
        refine .inl (.inl ⟨?_, z.2⟩)
        unfold Rd
        rw [cl_upd_ne n]
        exact z.1
      · exact .inl (.inr z)
    | f0 =>
      have n : a ≠ q := fun e => z.2.1 (by rw [e]; exact qin)
      exact .inl ⟨by rw [cl_upd_ne n]; exact z.1, z.2⟩
    | fx => exact .inr rfl
  have keyB : ∀ (b : Bool) a o, RB fm Fs.flatten H b a o → RB fm Fs.flatten (upd H q (.ins C dx fs')) b a o := fun b a o z => by
    cases b with
    | false => exact (key .sh a o z).resolve_right (fun e => nomatch e)
    | true => exact (key .f0 a o z).resolve_right (fun e => nomatch e)
  have up : ∀ a, H a ≠ none → upd H q (.ins C dx fs') a ≠ none := fun a n => by
    by_cases e : a = q
    · rw [e, upd_same]; exact fun z => by cases z
    · rw [upd_ne e]; exact n
  refine ⟨h1.wr (h5 q qin).2.1 hp (fun _ z => nomatch z) rfl, fun a z => up a (h2 a z), ⟨Fs, ?_, rfl⟩, h4, fun x hx => ⟨up x (h5 x hx).1, (h5 x hx).2⟩, fun a o z => (key .sh a o (h6 a o z)).resolve_right (fun e => nomatch e)⟩
  · have gen : ∀ {L : List Slot} {σ : L2.St} {Fs' : List (List Addr)}, AllS H (RB fm Fs.flatten H) L σ Fs' → Fs'.flatten.Nodup → ∀ {i : Nat}, Fs'[i]? = some [q] → L[i]? = some (sSelf q C l) → σ[i]? = some (some (V.ref q)) →
        AllS (upd H q (.ins C dx fs')) (RB fm Fs.flatten (upd H q (.ins C dx fs'))) (L.set i (sSelf q C l')) σ Fs' := by
      intro L σ Fs' hA
      induction hA with
      | nil => intro _ i e _ _; simp at e
      | @cons sl L v σ F Fs' r t ih =>
        intro nd i e eL eσ
        rw [List.flatten_cons, List.nodup_append] at nd
        cases i with
        | zero =>
          simp at e eL eσ
          subst e; subst eL; subst eσ
          refine .cons ⟨dx, fs', rfl, rfl, upd_same, r'.mono (keyB false)⟩ (t.st keyB fun x hx => ?_)
          exact upd_ne fun z => nd.2.2 q (by simp) x hx z.symm
        | succ i =>
          have e' : Fs'[i]? = some [q] := by simpa using e
          refine .cons (sl.st r keyB fun x hx => upd_ne fun z => nd.2.2 x hx q (List.mem_flatten.mpr ⟨[q], List.mem_of_getElem? e', by simp⟩) z) (ih nd.2.1 e' (by simpa using eL) (by simpa using eσ))
    exact gen h3 h4 e2 hL e1
/-- self.f = e -/
theorem evb_fld {q : Addr} {l : List FldS} {m : M β} {h : β → M δ} {p1 p2 : Pos} {y : Str} (ok : OkS p sc NN VV GG k g) (wk : Wk L g.LX) (hN : NN[i]? = some y) (hV : VV[j]? = some y) (hL : L[i]? = some (sSelf q C l)) (hc : Cls p.K C) (hn : NoAttr p.K C f) {nm : List Str} (hnm : l.map (·.n) = nm) (hf : nm.all (fun n => !(f == n)) = true) (hl : nm.length ≤ 100)
    (he : EvE g L e md T m) (hr : ∀ d, EvB g (L.set i (sSelf q C (l ++ [⟨f, β, T, d⟩]))) st D (h d)) (hs : swapsWith e (some (.Attribute (.Name y p1) f p2)) pos.line g.X.env = pure false := by rfl) :
    EvB g L (.Assign [.Attribute (.Name y p1) f p2] e pos :: st) D (m.bind h) := by
  have hl : l.length ≤ 100 := by rw [← hnm, List.length_map] at hl; exact hl
  have hf : l.all (fun s => !(f == s.n)) = true := by rw [← hnm, List.all_map] at hf; exact hf
  obtain ⟨hv, ho⟩ := ok.vis hV
  obtain ⟨h1, h2, _⟩ := okName_d ho
  refine PSs.imp (pss_cons (ps_fld (pe_var (i := i) (by rw [ok.N]; exact hN) hv h1 h2) he hs) (PSs.ex hr)) fun E σ H ⟨kp, own, at_, q1⟩ => ?_
  refine tE_iff.mpr ⟨kp, own, at_, ?_⟩
  cases m with
  | ok d =>
    intro v H1 s1 r1
    have a1 := at_.ext s1
    obtain ⟨dx, fs, e1, hp, rr, mu⟩ := a1.mutS hL
    have hfn := rr.none hf
    refine ⟨_, e1, q, C, dx, fs, rfl, hp, by rw [ok.K]; exact hc, by rw [ok.K]; exact hn, by rw [← rr.length]; omega, ?_⟩
    rw [putF_new hfn]
    exact ⟨d, kp, own, mu _ _ (rr.snoc (s := ⟨f, β, T, d⟩) (T.mono r1 fun a o z => (SlB.sh (x := md)).rb a o z)), q1⟩
  | ex c => exact BOk.exx wk at_ q1
  | no => exact q1
/-- self.f, while it is being made -/
theorem ev_selfFld {q : Addr} {l : List FldS} {d : β} {p1 : Pos} {y : Str} (ok : Ok p sc NN VV GG k g) (hN : NN[i]? = some y) (hV : VV[j]? = some y) (hL : L[i]? = some (sSelf q C l)) (hc : Cls p.K C) (hn : NoAttr p.K C f) (hA : FAt f T d l)
    (hb : attributeBase (.Name y p1) f g.X.env (eval (.Name y p1) g.X.env) = eval (.Name y p1) g.X.env := by rfl) : EvE g L (.Attribute (.Name y p1) f pos) .sh T (.ok d) := by
  obtain ⟨hv, ho⟩ := ok.vis hV
  obtain ⟨h1, h2, _⟩ := okName_d ho
  refine PE.imp (pe_fld (pe_var (i := i) (by rw [ok.N]; exact hN) hv h1 h2) hb) fun σ H Q ⟨kp, own, at_, q1⟩ => ?_
  obtain ⟨Fs, h3, e3⟩ := at_.sl
  obtain ⟨v, F, e1, e2, dx, fs, rfl, rfl, hp, r⟩ := h3.get hL
  obtain ⟨w, hw, rw_⟩ := hA.get r
  exact ⟨_, e1, q, C, dx, fs, w, rfl, hp, by rw [ok.K]; exact hc, by rw [ok.K]; exact hn, hw, q1 w H (Same.refl H) rw_⟩
/-- o.f -/
theorem ev_fld {fl : δ → List FldS} {pr : δ → β} {m : M δ} (ok : Ok p sc NN VV GG k g) (hc : Cls p.K C) (hn : NoAttr p.K C f) (hA : ∀ d, FAt f T (pr d) (fl d)) (ha : EvE g L e md (tIns C fl) m)
    (hb : attributeBase e f g.X.env (eval e g.X.env) = eval e g.X.env := by rfl) : EvE g L (.Attribute e f pos) md T (m.bind fun d => .ok (pr d)) := by
  refine PE.imp (pe_fldR ha hb) fun σ H Q q => ?_
  obtain ⟨kp, own, at_, q⟩ := tE_iff.mp q
  refine sub finE (Same.refl H) at_ q fun d v H1 s1 r1 at1 q1 => ?_
  obtain ⟨ad, dx, fs, rfl, hR, rr⟩ := r1
  obtain ⟨w, hw, rw_⟩ := (hA d).get rr
  have hR' : Rd H1 ad (.ins C dx fs) := (RX.rdb (md := md) _ _ hR).resolve_right fun z => z
  exact ⟨ad, C, dx, fs, w, rfl, hR', by rw [ok.K]; exact hc, by rw [ok.K]; exact hn, hw, q1 w H1 s1 rw_⟩
/-- what __init__ promises -/
def spI (p : Pr) {δ ρ : Type} (C : Addr) (A : Ar δ) (fl : ρ → List FldS) (F : δ → M ρ) : Sp := fun vs H Q E => ∃ x dx H1 vs', vs = .ref x :: vs' ∧ H1 x = none ∧ H1 dx = none ∧ dx ≠ x ∧ H = upd (upd H1 dx (.own x)) x (.ins C dx []) ∧
  ∃ d z, ((∀ a, z a → H1 a ≠ none) ∧ ∀ P, p.T = some P → LamX.TabS H1 P lamQ) ∧ A.rep d vs' (RD ⟨p.K, H1, z⟩ [] H1) ∧
  match F d with
  | .ok r => ∀ H' dx' fs, Same H1 H' → H' x = some (.ins C dx' fs) → FsR (RX ⟨p.K, H1, z⟩ [x] H' H' .sh) (fl r) fs → Q .non H'
  | .ex c => ∀ H', Same H1 H' → E (.ref (p.C c)) none H'
  | .no => False
theorem fn_init {qual : Str} {st : Stmt} {f : Addr} {fd : FuncData} {ps : List Str} {L0 : δ → List Slot} {n m : Nat} {LE : List Slot} {fl : ρ → List FldS} {F : δ → M ρ} (hF : FunD p.K "__init__" qual (defArgs st) (defBody st) (defScope st) [] [] f fd) (hS : Sc st NN VV ("self" :: ps) GG) (ha : ArS A n L0) (hn : ps.length = n) (hm : n + 1 + m = NN.length)
    (hb : ∀ x g, OkS p (defScope st) NN VV GG k g → g.LX = List.replicate NN.length sAny → ∀ d, EvB g (sSelf x C [] :: (L0 d ++ List.replicate m sAny)) (defBody st) (fun r => .nx (sSelf x C (fl r) :: LE)) (F d)) :
    FnOk p.P p.w p.K p.mg p.base (L2.CX p.P p.w) (k + 1) f fd ("self" :: ps) (spI p C A fl F) := by
  refine hF.ok hS.S (fun vs H Q E h => ?_) (fun cdv A' outer s H vs Q E hr h => ?_)
  · obtain ⟨x, dx, H1, vs', rfl, _, _, _, _, d, z, _, hrep, _⟩ := h
    have := (ha.all (H := H1) (R := fun _ => RD ⟨p.K, H1, z⟩ [] H1) hrep).1
    simp [this, hn]
  · obtain ⟨x, dx, H1, vs', rfl, nx, ndx, ne, rfl, d, z, ⟨hz, htab⟩, hrep, q⟩ := h
    have hlen : vs'.length = n := (ha.all (H := H1) (R := fun _ => RD ⟨p.K, H1, z⟩ [] H1) hrep).1
    have sm : Same H1 (upd (upd H1 dx (.own x)) x (.ins C dx [])) := (newSame ndx).trans (newSame (by rw [upd_ne (Ne.symm ne)]; exact nx))
    let X : Cx := cxOf (L2.CX p.P p.w) p.P p.w p.K p.mg p.base NN qual (defScope st) f cdv A' outer s (upd (upd H1 dx (.own x)) x (.ins C dx [])) E
    let g : G := ⟨X, ⟨p.K, H1, z⟩, fun c _ H' => E (.ref (p.C c)) none H', List.replicate NN.length sAny⟩
    have hN : ∀ {j : Nat} {y : Str}, VV[j]? = some y → y ∈ VV := fun e => List.mem_of_getElem? e
    have ok : OkS p (defScope st) NN VV GG k g :=
      { prog := rfl, w := rfl, K := rfl, mg := rfl, base := rfl, N := rfl, fmK := rfl, tab := htab, room := hr, nd := hS.S.nd
        vis := fun e => let h := seenB_v (List.all_eq_true.mp hS.vis _ (hN e)); ⟨h.2, h.1⟩
        gl := fun e => let h := glB_v (List.all_eq_true.mp hS.gl _ (List.mem_of_getElem? e)); ⟨h.2, h.1⟩
        tk := Takes.imp (takes_of (X := X) rfl rfl rfl (E := E) rfl) (fun cls d σ H ⟨c, e1, e2, h⟩ => by subst e1; subst e2; exact h)
        calm := rfl
        blk := fun h => blkOk_by h
        loc := fun e => locB_v (List.all_eq_true.mp hS.loc _ (hN e))
        fnT := fun _ => rfl
        psO := passes_of (X := X) rfl
        scp := rfl
        stk := rfl
        frm := rfl
        exn := rfl }
    have nz : ¬ z x := fun h => hz x h nx
    refine ⟨_, hb x g ok rfl d, (fun _ _ => False), [x], ?_, ?_⟩
    · refine ⟨sm, fun a h => fun e => hz a h (sm.free e), ⟨[x] :: (List.replicate n [] ++ List.replicate m []), ?_, by simp [flat_rep]⟩, by simp, fun a h => ?_, fun _ _ h => h.elim⟩
      · have h1 := (ha.all (H := H1) (R := RB ⟨p.K, H1, z⟩ [] H1) hrep).2
        have e : L2.start NN (V.ref x :: vs') = some (V.ref x) :: (vs'.map some ++ List.replicate m none) := by
          unfold L2.start
          rw [show NN.length - (V.ref x :: vs').length = m by simp; omega]
          rfl
        rw [e]
        refine .cons ⟨dx, [], rfl, rfl, upd_same, .nil⟩ (AllS.append (h1.st (fun b a o r => ?_) fun q hq => ?_) (AllS.anys m))
        · have out : ∀ {a : Addr} {o : HO}, cl H1 a = some o → a ∉ [x] := fun h hm => by
            rw [List.mem_singleton.mp hm] at h
            rw [cl_none nx] at h; cases h
          cases b with
          | false =>
            rcases r with ⟨r1, _, r3⟩ | r
            · refine .inl ⟨Rd.same sm r1, ?_, r3⟩
              rcases r1 with r1 | ⟨_, r1⟩ <;> exact out r1
            · exact .inr r
          | true => exact ⟨sm.cl _ _ r.1, out r.1, r.2.2⟩
        · rw [flat_rep] at hq; cases hq
      · rw [List.mem_singleton.mp h]
        exact ⟨by rw [upd_same]; exact (fun z => by cases z), nx, nz⟩
    · cases hF' : F d with
      | ok r =>
        rw [hF'] at q
        intro σ H' own at_
        obtain ⟨Fs, h3, e3⟩ := at_.sl
        obtain ⟨v, F', e1, e2, dx', fs, _, rfl, hp, rr⟩ := h3.get (i := 0) (s := sSelf x C (fl r)) rfl
        have xin : x ∈ own := by rw [e3]; exact List.mem_flatten.mpr ⟨[x], List.mem_of_getElem? e2, by simp⟩
        exact q H' dx' fs at_.same hp (rr.mono fun a o zz => RX.own (own' := [x]) (fun y hy => by rw [List.mem_singleton.mp hy]; exact xin) a o zz)
      | ex c =>
        rw [hF'] at q
        exact fun σ' H' own a' => q H' a'.same
      | no => rw [hF'] at q; exact q
/-- a class that is made by its __init__ -/
structure MkF (p : Pr) (k : Nat) (c : Str) (ps : List Str) (sp : Sp) : Prop where
  ex : ∃ (f : Addr) (fd : FuncData), FnOk p.P p.w p.K p.mg p.base (L2.CX p.P p.w) k f fd ("self" :: ps) sp ∧ Mk p.K (cA p c) f ∧ p.mg c = some (.ref (cA p c)) ∧ Binds p.K fd ("self" :: ps) []
theorem ev_make {kf : Nat} {c : Str} {ps : List Str} {fl : ρ → List FldS} {F : δ → M ρ} {m : M δ} (ok : Ok p sc NN VV GG k g) (hf : MkF p kf c ps (spI p (cA p c) A fl F)) (hk : kf + 1 ≤ k) (hG : GG[j]? = some c)
    (ha : EvA g L (e :: es) md A m) (he : starEach (e :: es) g.X.env = (false, eval e g.X.env) :: starEach es g.X.env := by rfl) (hpl : (backTo pos (starEach es g.X.env)).any (·.1) = false := by rfl) :
    EvE g L (.Call (.Name c pp) (e :: es) [] pos) .sh (tIns (cA p c) fl) (m.bind F) := by
  obtain ⟨f, fd, hF, hmk, hmg, hbd⟩ := hf.ex
  obtain ⟨hg, ho⟩ := ok.gl hG
  rw [← ok.prog, ← ok.w, ← ok.base] at hF
  have hF' : FnOk g.X.prog g.X.w g.X.K g.X.mg g.X.base (L2.CX g.X.prog g.X.w) kf f fd ("self" :: ps) (spI p (cA p c) A fl F) := by rw [ok.K, ok.mg]; exact hF
  refine PE.imp (pe_makeS (C := cA p c) (by rw [ok.K]; exact hmk) hF' (ok.room.mono hk) hg (by rw [ok.mg]; exact hmg) (by rw [ok.K]; exact hbd) (tk_at ok) ha (okName_d ho).1 he hpl) fun σ H Q q => ?_
  obtain ⟨kp, own, at_, q⟩ := tE_iff.mp q
  refine subA finE (Same.refl H) at_ q fun d vs H1 s1 r1 at1 q1 => fun x dx nx ndx ne => ⟨x, dx, H1, vs, rfl, nx, ndx, ne, rfl, d, fun a => a ∈ own ∨ g.fm.z a, ⟨fun a z => ?_, fun P e => at1.same.tab P (ok.tab P e)⟩, ?_, ?_⟩
  · rcases z with z | z
    · exact (at1.new a z).1
    · exact at1.zin a z
  · rw [← ok.fmK]; exact args_in r1
  · rw [← ok.fmK]
    cases hd : F d with
    | ok r =>
      rw [hd] at q1
      refine fun H' dx' fs s hx rr => ⟨rfl, q1 _ H' (s1.trans s) ⟨x, dx', fs, rfl, .inl ⟨.inl (cl_of hx), fun z => (at1.new x z).1 nx, fun z => at1.zin x z nx⟩, rr.mono fun a o z => ?_⟩⟩
      have := CaMd.sh.rx (q := some x) s1 at_.same a o z
      exact RX.own (own' := own) (fun y hy => List.mem_cons_of_mem _ hy) a o this
    | ex c =>
      rw [hd] at q1
      exact fun H' s => ⟨c, rfl, rfl, q1 H' (s1.trans s)⟩
    | no => rw [hd] at q1; exact q1
/-- a method, as its callers know it -/
structure MeF (p : Pr) (k : Nat) (c m : Str) (ps : List Str) (sp : Sp) : Prop where
  ex : ∃ (f : Addr) (fd : FuncData), FnOk p.P p.w p.K p.mg p.base (L2.CX p.P p.w) k f fd ("self" :: ps) sp ∧ Cls p.K (cA p c) ∧ Meth p.K (cA p c) m f ∧ Binds p.K fd ("self" :: ps) []
theorem ev_meth0 {kf : Nat} {c x : Str} {fl : δ → List FldS} {F : δ × Unit → M β} {m : M δ} {apos : Pos} {pl : Sem Bool} (ok : Ok p sc NN VV GG k g) (hf : MeF p kf c x [] (spM p (aCons (tIns (cA p c) fl) aNil) (fun r => .rt false T r) F)) (hk : kf ≤ k) {nm : List Str} (hnm : ∀ d, (fl d).map (·.n) = nm) (hx0 : nm.all (fun n => !(x == n)) = true) (ha : EvE g L e md (tIns (cA p c) fl) m)
    (ht : eval (.Call (.Attribute e x apos) [] [] pos) g.X.env = (do
      let ov ← eval e g.X.env
      standAt apos.atName
      let (f, first) ← holding [ov] (getMethod ov x pl)
      callWith pos f first (backTo pos (starEach [] g.X.env)) (backToKw pos (keywordEach [] g.X.env))) := by rfl) :
    EvE g L (.Call (.Attribute e x apos) [] [] pos) .sh T (m.bind fun d => F (d, ())) := by
  have hx : ∀ d, (fl d).all (fun s => !(x == s.n)) = true := fun d => by have := hx0; rw [← hnm d, List.all_map] at this; exact this
  obtain ⟨f, fd, hF, hc, hm, hbd⟩ := hf.ex
  rw [← ok.prog, ← ok.w, ← ok.base] at hF
  have hF' : FnOk g.X.prog g.X.w g.X.K g.X.mg g.X.base (L2.CX g.X.prog g.X.w) kf f fd ["self"] (spM p (aCons (tIns (cA p c) fl) aNil) (fun r => .rt false T r) F) := by rw [ok.K, ok.mg]; exact hF
  refine PE.imp (pe_methR0 (pl := pl) ha (by rw [ok.K]; exact hc) (by rw [ok.K]; exact hm) hF' (ok.room.mono hk) (by rw [ok.K]; exact hbd) (tk_at ok) ht) fun σ H Q q => ?_
  obtain ⟨kp, own, at_, q⟩ := tE_iff.mp q
  refine sub finE (Same.refl H) at_ q fun d v H1 s1 r1 at1 q1 => ?_
  have r0 := r1
  obtain ⟨ad, dx, fs, rfl, hR, rr⟩ := r1
  have hR' : Rd H1 ad (.ins (cA p c) dx fs) := (RX.rdb (md := md) _ _ hR).resolve_right fun z => z
  refine ⟨ad, dx, fs, rfl, hR', rr.none (hx d), (d, ()), fun a => a ∈ own ∨ g.fm.z a, ⟨fun a z => ?_, fun P e => at1.same.tab P (ok.tab P e)⟩, ?_, ?_⟩
  · rcases z with z | z
    · exact (at1.new a z).1
    · exact at1.zin a z
  · rw [← ok.fmK]; exact args_in (A := aCons (tIns (cA p c) fl) aNil) (md := md) ⟨_, [], rfl, r0, rfl⟩
  · rw [← ok.fmK]
    cases hd : F (d, ()) with
    | ok r =>
      rw [hd] at q1
      exact fun v H' s r => q1 v H' (s1.trans s) (T.mono r (CaMd.sh.rx s1 at_.same))
    | ex c =>
      rw [hd] at q1
      exact fun H' s => ⟨c, rfl, rfl, q1 H' (s1.trans s)⟩
    | no => rw [hd] at q1; exact q1
theorem evl_meth0 {kf : Nat} {c x : Str} {fl : δ → List FldS} {F : δ × Unit → M (List β)} {m : M δ} {apos : Pos} {pl : Sem Bool} (ok : Ok p sc NN VV GG k g) (hf : MeF p kf c x [] (spM p (aCons (tIns (cA p c) fl) aNil) (fun r => .rtL false T r) F)) (hk : kf ≤ k) {nm : List Str} (hnm : ∀ d, (fl d).map (·.n) = nm) (hx0 : nm.all (fun n => !(x == n)) = true) (ha : EvE g L e md (tIns (cA p c) fl) m)
    (ht : eval (.Call (.Attribute e x apos) [] [] pos) g.X.env = (do
      let ov ← eval e g.X.env
      standAt apos.atName
      let (f, first) ← holding [ov] (getMethod ov x pl)
      callWith pos f first (backTo pos (starEach [] g.X.env)) (backToKw pos (keywordEach [] g.X.env))) := by rfl) :
    EvL g L (.Call (.Attribute e x apos) [] [] pos) .sh T (m.bind fun d => F (d, ())) := by
  have hx : ∀ d, (fl d).all (fun s => !(x == s.n)) = true := fun d => by have := hx0; rw [← hnm d, List.all_map] at this; exact this
  obtain ⟨f, fd, hF, hc, hm, hbd⟩ := hf.ex
  rw [← ok.prog, ← ok.w, ← ok.base] at hF
  have hF' : FnOk g.X.prog g.X.w g.X.K g.X.mg g.X.base (L2.CX g.X.prog g.X.w) kf f fd ["self"] (spM p (aCons (tIns (cA p c) fl) aNil) (fun r => .rtL false T r) F) := by rw [ok.K, ok.mg]; exact hF
  refine PE.imp (pe_methR0 (pl := pl) ha (by rw [ok.K]; exact hc) (by rw [ok.K]; exact hm) hF' (ok.room.mono hk) (by rw [ok.K]; exact hbd) (tk_at ok) ht) fun σ H Q q => ?_
  obtain ⟨kp, own, at_, q⟩ := tL_iff.mp q
  refine sub finL (Same.refl H) at_ q fun d v H1 s1 r1 at1 q1 => ?_
  have r0 := r1
  obtain ⟨ad, dx, fs, rfl, hR, rr⟩ := r1
  have hR' : Rd H1 ad (.ins (cA p c) dx fs) := (RX.rdb (md := md) _ _ hR).resolve_right fun z => z
  refine ⟨ad, dx, fs, rfl, hR', rr.none (hx d), (d, ()), fun a => a ∈ own ∨ g.fm.z a, ⟨fun a z => ?_, fun P e => at1.same.tab P (ok.tab P e)⟩, ?_, ?_⟩
  · rcases z with z | z
    · exact (at1.new a z).1
    · exact at1.zin a z
  · rw [← ok.fmK]; exact args_in (A := aCons (tIns (cA p c) fl) aNil) (md := md) ⟨_, [], rfl, r0, rfl⟩
  · rw [← ok.fmK]
    cases hd : F (d, ()) with
    | ok r =>
      rw [hd] at q1
      exact fun p' vs' H' s n1 n2 h' r => q1 p' vs' H' (s1.trans s) (s1.free n2) h' (r.mono (CaMd.sh.rx (q := some p') s1 at_.same))
    | ex c =>
      rw [hd] at q1
      exact fun H' s => ⟨c, rfl, rfl, q1 H' (s1.trans s)⟩
    | no => rw [hd] at q1; exact q1
end
end Hd

namespace Hd
open PySem PySem.Spec PyProof.Rows L2
/-! ### some list, of which the length is known -/
def tLn : Ty Int := ⟨fun n v R => ∃ a vs, v = .ref a ∧ R a (.lst vs) ∧ (vs.length : Int) = n, fun ⟨a, vs, e, r, h⟩ s => ⟨a, vs, e, s _ _ r, h⟩⟩
section
variable {p : Pr} {sc : Scope} {NN VV GG : List Str} {k : Nat} {g : G} {L : List Slot} {α δ : Type} {S : Ty α} {A : Ar δ} {md md' : Md} {pos pp : Pos} {j : Nat} {e tg : Expr}
theorem homN {f : δ → List Int} (h : HomA A tLn f) : HomA (aCons (tList S) A) tLn (fun d => (d.1.length : Int) :: f d.2) := ⟨fun {d vs R} q => by
  obtain ⟨v, r, e, ⟨a, ws, e1, h1, h3⟩, h2⟩ := q
  subst e
  exact .cons ⟨a, ws, e1, h1, by rw [h3.length]⟩ (h.r h2)⟩
theorem evi_hlH {f : δ → List α} {m : M δ} (ok : Ok p sc NN VV GG k g) (hA : HomA A S f) (he : EvE g L e md (tHl A) m) : EvI g L tg e S (m.bind fun d => .ok (f d)) :=
  evi_list (S := S) ok (ev_as (S := tHl A) (T := tList S) (d2 := f) (fun d v R ⟨a, vs, e, h, r⟩ => ⟨a, vs, e, h, hA.r r⟩) he)
theorem ev_lenN {mx : M Int} (ok : Ok p sc NN VV GG k g) (hG : GG[j]? = some "len") (hmg : p.mg "len" = none) (ha : EvE g L e md tLn mx) (hs : starEach [e] g.X.env = (false, eval e g.X.env) :: starEach [] g.X.env := by rfl) : EvE g L (.Call (.Name "len" pp) [e] [] pos) md' tInt (mx.bind fun n => .ok n) := by
  have h := ev_callB (md' := md') (U := tInt) (A := aCons tLn aNil) (f := fun d => .ok d.1) (fr := true) (pos := pos) (pp := pp) ok call_len_seq ⟨fun {d xs R H Q} rb ⟨v, r, e1, ⟨a, vs, e2, h, rr⟩, e3⟩ q => by
    subst e1; cases (show r = [] from e3)
    exact ⟨a, vs, by rw [e2], .inl (by rw [ok.K]; exact sq_of rb h), q _ _ (Same.refl _) (by show _ = V.int _; rw [rr])⟩⟩ (fun _ _ h => nomatch h) .fresh hG hmg PySem.boot_len (eva_cons ha eva_nil hs) hs rfl
  have e : (mx.bind fun d => (M.ok ()).bind fun e => M.ok (d, e)).bind (fun d => M.ok d.1) = mx.bind fun n => .ok n := by cases mx <;> rfl
  rwa [e] at h
end
end Hd

namespace Hd
open PySem PySem.Spec L2
/-! ### xs * n, xs any list that may be read -/
def rRepR : R2 := fun x y H Q => ∃ l k xs, x = .ref l ∧ y = .int k ∧ Rd H l (.lst xs) ∧ -(2 ^ 63) ≤ k ∧ k < 2 ^ 63 ∧ xs.length * k.toNat ≤ sizeLine ∧ ∀ p, H p = none → Q (.ref p) (upd H p (.lst (List.replicate k.toNat xs).flatten))
theorem op_repR {X : Cx} : OpR X (binaryOp .Mult) rRepR := by
  intro pins s σ H x y v u Q I rx ry h
  obtain ⟨l, k, xs, rfl, rfl, hH, h1, h2, hz, q⟩ := h
  cases rx
  obtain ⟨t, rfl⟩ := ry
  obtain ⟨z, its, n, r, hl, e⟩ := lstR I hH
  have hlen : its.toArray.size * k.toNat ≤ sizeLine := by rw [List.size_toArray, ← hl]; exact hz
  have hcap : ¬ its.toArray.size * k.toNat > (2 ^ 63 - 1) / 8 := by
    have : (sizeLine : Nat) ≤ (2 ^ 63 - 1) / 8 := by decide
    omega
  have hfit : ¬ (!Builtin.List.listFitsIndex k) = true := by
    rw [fitsIndex_both h1 h2]
    exact Bool.false_ne_true
  have hlong : ¬ Builtin.List.listTooLong (its.toArray.size * k.toNat) = true := by
    rw [notLongL hlen]
    exact Bool.false_ne_true
  have hnew : List.foldl (fun x1 x2 => x1 ++ x2) #[] (List.replicate (if its.toArray.isEmpty = true then 0 else k.toNat) its.toArray) = (List.replicate k.toNat its).flatten.toArray := by
    have f0 : ∀ m : Nat, List.foldl (fun x1 x2 => x1 ++ x2) #[] (List.replicate m its.toArray) = (List.replicate m its).flatten.toArray := fun m => by
      have := foldl_rep its m []
      rw [List.nil_append] at this
      exact this
    rw [f0]
    cases its with
    | nil => simp
    | cons a r' => rw [if_neg (by simp)]
  refine wpAny_binaryOp_repeat_ref (T := "list") (U := "int") (by decide) ⟨_, e, rfl⟩ (fun s' => typeIs_int s' k t) noFill_list_mul F.fills_int_mul F.slot_int_rmul repeat_list F.slot_int_index.lookup
    (call_meets F.slot_int_rmul (typeIs_int s k t) F.entry_int_rmul (F.args_int_rmul_2 _ _) (int___rmul___int_list k t l its.toArray n)
      ⟨e, rfl, ⟨_, e, rfl⟩, call_meets F.slot_list_mul ⟨_, e, rfl⟩ F.entry_list_mul (F.args_list_mul_2 _ _) (AutoListH.list___mul___list_int_3 l its.toArray n k t hfit hcap hlong) ⟨e, ?_⟩⟩)
  rw [hnew]
  exact ⟨.ref _, _, I.lnew (t' := s.toks) (r.rep k.toNat) (by rw [PyProof.Rows.lm_len_rep_flat, Nat.mul_comm]; exact hz), rfl, q _ I.fresh⟩
section
variable {p : Pr} {sc : Scope} {NN VV GG : List Str} {k : Nat} {g : G} {L : List Slot} {α : Type} {S : Ty α} {md : Md} {pos : Pos} {a b : Expr}
theorem evl_repR {m : M (List α)} {mn : M Int} (ok : Ok p sc NN VV GG k g) (ha : EvE g L a md (tList S) m) (hb : EvE g L b md tInt mn) : EvL g L (.BinOp a .Mult b pos) md S (m.bind fun x => mn.bind fun n => repM x n) := by
  refine PE.imp (pe_op op_repR ha hb) fun σ H Q q => ?_
  obtain ⟨kp, own, at_, q⟩ := tL_iff.mp q
  refine sub finL (Same.refl H) at_ q fun xs x H1 s1 r1 at1 q1 => sub finL s1 at1 q1 fun n y H2 s2 r2 at2 q2 => ?_
  obtain ⟨ad, vs, rfl, h1, rr⟩ := r1
  have q2 : FinL g.fm g.W own σ H md S Q (repM xs n) := q2
  unfold repM at q2
  split at q2
  · rename_i hz
    have h2 : RX g.fm own H H2 md ad (.lst vs) := RX.same s2 _ _ h1
    have hR : Rd H2 ad (.lst vs) := (RX.rdb (md := md) _ _ h2).resolve_right fun z => z
    refine ⟨ad, n, vs, rfl, r2, hR, hz.1, hz.2.1, by rw [← rr.length]; exact hz.2.2, fun z hn => q2 z _ _ ((s1.trans s2).trans (newSame hn)) ((s1.trans s2).free hn) upd_same ?_⟩
    exact ((rr.mono fun a o w => RX.same s2 a o w).rep _).mono (RX.add hn)
  · exact q2.elim
end
end Hd

namespace Hd
open PySem PySem.Spec L2
/-! ### things of one's own that hold other things of one's own -/
/-- an object that may be owned -/
def gd : HO → Bool
  | .lst _ => true
  | .tup _ => true
  | .dK _ => true
  | .dT _ => true
  | .set _ _ => true
  | .ins _ _ _ => true
  | _ => false
theorem gd_nt {o : HO} (h : gd o = true) : nt o = true := by cases o <;> first | rfl | cases h
theorem gd_ext {o : HO} (h : gd o = true) : ∀ φ, o ≠ .ext φ := fun φ e => by subst e; cases h
theorem gd_tbl {o : HO} (h : gd o = true) : ∀ ps, o ≠ .tbl ps := fun φ e => by subst e; cases h
/-- a kind of things of one's own: what is owned of one stands in F; T: as it looks when it is shared -/
structure WTy (α : Type) where
  T : Ty α
  rep : α → V → Hp → RdR → List Addr → Prop
  st : ∀ {d v H H' F} {R R' : RdR}, rep d v H R F → (∀ a o, R a o → R' a o) → (∀ p ∈ F, H' p = H p) → rep d v H' R' F
  tb : ∀ {d v H F} {R : RdR}, rep d v H R F → ∀ p ∈ F, ∃ o, H p = some o ∧ gd o = true
  fz : ∀ {d v H F} {R R' : RdR}, rep d v H R F → (∀ a o, R a o → R' a o) → (∀ p ∈ F, ∀ o, H p = some o → R' p o) → T.rep d v R'
/-- shared things -/
def wV {α : Type} (T : Ty α) : WTy α where
  T := T
  rep := fun d v _ R F => F = [] ∧ T.rep d v R
  st := fun ⟨e, r⟩ s _ => ⟨e, T.mono r s⟩
  tb := fun ⟨e, _⟩ p hp => by subst e; exact nomatch hp
  fz := fun ⟨_, r⟩ s _ => T.mono r s
inductive RepsO {α : Type} (O : WTy α) (H : Hp) (R : RdR) : List α → List V → List (List Addr) → Prop where
  | nil : RepsO O H R [] [] []
  | cons {d v F ds vs Fs} : O.rep d v H R F → RepsO O H R ds vs Fs → RepsO O H R (d :: ds) (v :: vs) (F :: Fs)
section
variable {α : Type} {O : WTy α} {H H' : Hp} {R R' : RdR} {ds es : List α} {vs ws : List V} {Fs Gs : List (List Addr)}
theorem RepsO.st (h : RepsO O H R ds vs Fs) (s : ∀ a o, R a o → R' a o) (k : ∀ p ∈ Fs.flatten, H' p = H p) : RepsO O H' R' ds vs Fs := by
  induction h with
  | nil => exact .nil
  | cons r _ ih => exact .cons (O.st r s fun p hp => k p (by simp [hp])) (ih fun p hp => k p (by simp only [List.flatten_cons, List.mem_append]; exact .inr hp))
theorem RepsO.tb (h : RepsO O H R ds vs Fs) : ∀ p ∈ Fs.flatten, ∃ o, H p = some o ∧ gd o = true := by
  induction h with
  | nil => intro p hp; simp at hp
  | cons r _ ih => intro p hp; rw [List.flatten_cons, List.mem_append] at hp; exact hp.elim (O.tb r p) (ih p)
theorem RepsO.fz (h : RepsO O H R ds vs Fs) (s : ∀ a o, R a o → R' a o) (k : ∀ p ∈ Fs.flatten, ∀ o, H p = some o → R' p o) : Reps O.T R' ds vs := by
  induction h with
  | nil => exact .nil
  | cons r _ ih => exact .cons (O.fz r s fun p hp => k p (by simp [hp])) (ih fun p hp => k p (by simp only [List.flatten_cons, List.mem_append]; exact .inr hp))
theorem RepsO.length (h : RepsO O H R ds vs Fs) : ds.length = vs.length := by
  induction h with
  | nil => rfl
  | cons _ _ ih => simp [ih]
theorem RepsO.lengthF (h : RepsO O H R ds vs Fs) : ds.length = Fs.length := by
  induction h with
  | nil => rfl
  | cons _ _ ih => simp [ih]
theorem RepsO.get (h : RepsO O H R ds vs Fs) : ∀ {i : Nat} {d : α}, ds[i]? = some d → ∃ v F, vs[i]? = some v ∧ Fs[i]? = some F ∧ O.rep d v H R F := by
  induction h with
  | nil => intro i d e; simp at e
  | cons r _ ih =>
    intro i d e
    cases i with
    | zero => simp at e; subst e; exact ⟨_, _, rfl, rfl, r⟩
    | succ i => obtain ⟨v, F, e1, e2, r1⟩ := ih (i := i) (d := d) (by simpa using e); exact ⟨v, F, by simpa using e1, by simpa using e2, r1⟩
theorem RepsO.append (h : RepsO O H R ds vs Fs) (k : RepsO O H R es ws Gs) : RepsO O H R (ds ++ es) (vs ++ ws) (Fs ++ Gs) := by
  induction h with
  | nil => exact k
  | cons r _ ih => exact .cons r ih
theorem RepsO.set {d : α} {v : V} {F : List Addr} (h : RepsO O H R ds vs Fs) (r : O.rep d v H R F) : ∀ (i : Nat), RepsO O H R (ds.set i d) (vs.set i v) (Fs.set i F) := by
  induction h with
  | nil => intro i; exact .nil
  | cons q t ih =>
    intro i
    cases i with
    | zero => exact .cons r t
    | succ i => exact .cons q (ih i)
theorem RepsO.take (h : RepsO O H R ds vs Fs) : ∀ n, RepsO O H R (ds.take n) (vs.take n) (Fs.take n) := by
  induction h with
  | nil => intro n; simp; exact .nil
  | cons r _ ih => intro n; cases n with
    | zero => exact .nil
    | succ n => exact .cons r (ih n)
theorem RepsO.drop (h : RepsO O H R ds vs Fs) : ∀ n, RepsO O H R (ds.drop n) (vs.drop n) (Fs.drop n) := by
  induction h with
  | nil => intro n; simp; exact .nil
  | cons r t ih => intro n; cases n with
    | zero => exact .cons r t
    | succ n => exact ih n
/-- an item changes where it stands -/
theorem RepsO.chg {d' : α} {F F' : List Addr} {v : V} (h : RepsO O H R ds vs Fs) (s : ∀ a o, R a o → R' a o) : ∀ {i : Nat}, Fs.flatten.Nodup → Fs[i]? = some F → vs[i]? = some v → (∀ p ∈ Fs.flatten, p ∉ F → H' p = H p) → O.rep d' v H' R' F' → RepsO O H' R' (ds.set i d') vs (Fs.set i F') := by
  induction h with
  | nil => intro i _ e; simp at e
  | @cons d0 v0 F0 ds vs Fs q t ih =>
    intro i nd e1 e2 k r
    rw [List.flatten_cons, List.nodup_append] at nd
    cases i with
    | zero =>
      simp at e1 e2
      subst e1; subst e2
      exact .cons r (t.st s fun p hp => k p (by simp only [List.flatten_cons, List.mem_append]; exact .inr hp) fun hp' => nd.2.2 p hp' p hp rfl)
    | succ i =>
      have e1' : Fs[i]? = some F := by simpa using e1
      refine .cons (O.st q s fun p hp => k p (by simp [hp]) fun hp' => nd.2.2 p hp p (List.mem_flatten.mpr ⟨F, List.mem_of_getElem? e1', hp'⟩) rfl) ?_
      exact ih nd.2.1 e1' (by simpa using e2) (fun p hp => k p (by simp only [List.flatten_cons, List.mem_append]; exact .inr hp)) r
end
/-- the footprints' lists -/
theorem flat_set_mem {Fs : List (List Addr)} {F F' : List Addr} : ∀ {i : Nat}, Fs.flatten.Nodup → Fs[i]? = some F → ∀ x, x ∈ (Fs.set i F').flatten → x ∈ F' ∨ (x ∈ Fs.flatten ∧ x ∉ F) := by
  induction Fs with
  | nil => intro i _ e; simp at e
  | cons G Fs ih =>
    intro i nd e x hx
    rw [List.flatten_cons, List.nodup_append] at nd
    cases i with
    | zero =>
      simp at e; subst e
      rw [List.set_cons_zero, List.flatten_cons, List.mem_append] at hx
      rcases hx with h | h
      · exact .inl h
      · exact .inr ⟨by rw [List.flatten_cons, List.mem_append]; exact .inr h, fun h' => nd.2.2 x h' x h rfl⟩
    | succ i =>
      have e' : Fs[i]? = some F := by simpa using e
      rw [List.set_cons_succ, List.flatten_cons, List.mem_append] at hx
      rcases hx with h | h
      · exact .inr ⟨by rw [List.flatten_cons, List.mem_append]; exact .inl h, fun h' => nd.2.2 x h x (List.mem_flatten.mpr ⟨F, List.mem_of_getElem? e', h'⟩) rfl⟩
      · rcases ih nd.2.1 e' x h with h | ⟨h, h2⟩
        · exact .inl h
        · exact .inr ⟨by rw [List.flatten_cons, List.mem_append]; exact .inr h, h2⟩
theorem flat_set_nd {Fs : List (List Addr)} {F F' : List Addr} : ∀ {i : Nat}, Fs.flatten.Nodup → Fs[i]? = some F → F'.Nodup → (∀ x ∈ F', x ∈ F ∨ x ∉ Fs.flatten) → (Fs.set i F').flatten.Nodup := by
  induction Fs with
  | nil => intro i _ e; simp at e
  | cons G Fs ih =>
    intro i nd e n' k
    rw [List.flatten_cons, List.nodup_append] at nd
    cases i with
    | zero =>
      simp at e; subst e
      rw [List.set_cons_zero, List.flatten_cons, List.nodup_append]
      refine ⟨n', nd.2.1, fun a ha b hb e => ?_⟩
      subst e
      rcases k a ha with h | h
      · exact nd.2.2 a h a hb rfl
      · exact h (by rw [List.flatten_cons, List.mem_append]; exact .inr hb)
    | succ i =>
      have e' : Fs[i]? = some F := by simpa using e
      rw [List.set_cons_succ, List.flatten_cons, List.nodup_append]
      refine ⟨nd.1, ih nd.2.1 e' n' fun x hx => (k x hx).imp id (fun h h' => h (by rw [List.flatten_cons, List.mem_append]; exact .inr h')), fun a ha b hb e => ?_⟩
      subst e
      rcases flat_set_mem nd.2.1 e' a hb with h | ⟨h, _⟩
      · rcases k a h with h | h
        · exact nd.2.2 a ha a (List.mem_flatten.mpr ⟨F, List.mem_of_getElem? e', h⟩) rfl
        · exact h (by rw [List.flatten_cons, List.mem_append]; exact .inl ha)
      · exact nd.2.2 a ha a h rfl
theorem flat_mem {Fs : List (List Addr)} {F : List Addr} {i : Nat} (e : Fs[i]? = some F) : ∀ x ∈ F, x ∈ Fs.flatten := fun x hx => List.mem_flatten.mpr ⟨F, List.mem_of_getElem? e, hx⟩
theorem flat_nd {Fs : List (List Addr)} {F : List Addr} : ∀ {i : Nat}, Fs.flatten.Nodup → Fs[i]? = some F → F.Nodup := by
  induction Fs with
  | nil => intro i _ e; simp at e
  | cons G Fs ih =>
    intro i nd e
    rw [List.flatten_cons, List.nodup_append] at nd
    cases i with
    | zero => simp at e; subst e; exact nd.1
    | succ i => exact ih nd.2.1 (by simpa using e)
/-- a list of one's own -/
def wL {α : Type} (O : WTy α) : WTy (List α) where
  T := tList O.T
  rep := fun ds v H R F => ∃ p vs Fs, v = .ref p ∧ F = p :: Fs.flatten ∧ H p = some (.lst vs) ∧ RepsO O H R ds vs Fs
  st := by
    rintro d v H H' F R R' ⟨p, vs, Fs, e1, e2, h, r⟩ s k
    exact ⟨p, vs, Fs, e1, e2, by rw [k p (by rw [e2]; exact List.mem_cons_self)]; exact h, r.st s fun q hq => k q (by rw [e2]; exact List.mem_cons_of_mem _ hq)⟩
  tb := by
    rintro d v H F R ⟨p, vs, Fs, e1, e2, h, r⟩ q hq
    rw [e2] at hq
    rcases List.mem_cons.mp hq with e | hq
    · subst e; exact ⟨_, h, rfl⟩
    · exact r.tb q hq
  fz := by
    rintro d v H F R R' ⟨p, vs, Fs, e1, e2, h, r⟩ s k
    exact ⟨p, vs, e1, k p (by rw [e2]; exact List.mem_cons_self) _ h, r.fz s fun q hq => k q (by rw [e2]; exact List.mem_cons_of_mem _ hq)⟩
/-- None, or a thing of one's own -/
def wOpt {α : Type} (O : WTy α) : WTy (Option α) := ⟨tOpt O.T, fun d v H R F => match d with | none => v = .non ∧ F = [] | some d => O.rep d v H R F ∧ v ≠ .non,
  fun {d v H H' F R R'} h s k => by
    cases d with
    | none => exact h
    | some d => exact ⟨O.st h.1 s k, h.2⟩,
  fun {d v H F R} h p hp => by
    cases d with
    | none => rw [h.2] at hp; exact nomatch hp
    | some d => exact O.tb h.1 p hp,
  fun {d v H F R R'} h s k => by
    cases d with
    | none => exact h.1
    | some d => exact ⟨O.fz h.1 s k, h.2⟩⟩
/-- written items of one's own -/
structure WAr (δ : Type) where
  A : Ar δ
  /-- as fields of an object with these names -/
  fl : List Str → δ → List FldS
  rep : δ → List V → Hp → RdR → List Addr → Prop
  st : ∀ {d vs H H' F} {R R' : RdR}, rep d vs H R F → (∀ a o, R a o → R' a o) → (∀ p ∈ F, H' p = H p) → rep d vs H' R' F
  tb : ∀ {d vs H F} {R : RdR}, rep d vs H R F → ∀ p ∈ F, ∃ o, H p = some o ∧ gd o = true
  fz : ∀ {d vs H F} {R R' : RdR}, rep d vs H R F → (∀ a o, R a o → R' a o) → (∀ p ∈ F, ∀ o, H p = some o → R' p o) → A.rep d vs R'
  fzF : ∀ {d vs H F} {R R' : RdR} {ns : List Str}, ns.length = vs.length → rep d vs H R F → (∀ a o, R a o → R' a o) → (∀ p ∈ F, ∀ o, H p = some o → R' p o) → FsR R' (fl ns d) (ns.zip vs)
def waNil : WAr Unit where
  A := aNil
  fl := fun _ _ => []
  rep := fun _ vs _ _ F => vs = [] ∧ F = []
  st := fun h _ _ => h
  tb := by
    rintro d vs H F R ⟨_, e⟩ p hp
    subst e; exact nomatch hp
  fz := fun h _ _ => h.1
  fzF := by
    rintro d vs H F R R' ns hl ⟨e, _⟩ _ _
    subst e
    cases ns with
    | nil => exact .nil
    | cons _ _ => cases hl
def waFl {α β : Type} (T : Ty α) (fl : List Str → β → List FldS) : List Str → α × β → List FldS
  | [], _ => []
  | n :: ns, d => ⟨n, α, T, d.1⟩ :: fl ns d.2
def waCons {α β : Type} (O : WTy α) (A : WAr β) : WAr (α × β) where
  A := aCons O.T A.A
  fl := waFl O.T A.fl
  rep := fun d vs H R F => ∃ v r F1 F2, vs = v :: r ∧ F = F1 ++ F2 ∧ O.rep d.1 v H R F1 ∧ A.rep d.2 r H R F2
  st := by
    rintro d vs H H' F R R' ⟨v, r, F1, F2, e1, e2, h1, h2⟩ s k
    exact ⟨v, r, F1, F2, e1, e2, O.st h1 s fun p hp => k p (by rw [e2]; exact List.mem_append_left _ hp), A.st h2 s fun p hp => k p (by rw [e2]; exact List.mem_append_right _ hp)⟩
  tb := by
    rintro d vs H F R ⟨v, r, F1, F2, e1, e2, h1, h2⟩ p hp
    rw [e2] at hp; exact (List.mem_append.mp hp).elim (O.tb h1 p) (A.tb h2 p)
  fz := by
    rintro d vs H F R R' ⟨v, r, F1, F2, e1, e2, h1, h2⟩ s k
    exact ⟨v, r, e1, O.fz h1 s fun p hp => k p (by rw [e2]; exact List.mem_append_left _ hp), A.fz h2 s fun p hp => k p (by rw [e2]; exact List.mem_append_right _ hp)⟩
  fzF := by
    rintro d vs H F R R' ns hl ⟨v, r, F1, F2, e1, e2, h1, h2⟩ s k
    subst e1
    cases ns with
    | nil => cases hl
    | cons n ns => exact .cons (O.fz h1 s fun p hp => k p (by rw [e2]; exact List.mem_append_left _ hp)) (A.fzF (by simpa using hl) h2 s fun p hp => k p (by rw [e2]; exact List.mem_append_right _ hp))
/-- a tuple of things of one's own -/
def wTup {δ : Type} (A : WAr δ) : WTy δ where
  T := tTup A.A
  rep := fun d v H R F => ∃ p vs G, v = .ref p ∧ F = p :: G ∧ H p = some (.tup vs) ∧ A.rep d vs H R G
  st := by
    rintro d v H H' F R R' ⟨p, vs, Fs, e1, e2, h, r⟩ s k
    exact ⟨p, vs, Fs, e1, e2, by rw [k p (by rw [e2]; exact List.mem_cons_self)]; exact h, A.st r s fun q hq => k q (by rw [e2]; exact List.mem_cons_of_mem _ hq)⟩
  tb := by
    rintro d v H F R ⟨p, vs, Fs, e1, e2, h, r⟩ q hq
    rw [e2] at hq
    rcases List.mem_cons.mp hq with e | hq
    · subst e; exact ⟨_, h, rfl⟩
    · exact A.tb r q hq
  fz := by
    rintro d v H F R R' ⟨p, vs, Fs, e1, e2, h, r⟩ s k
    exact ⟨p, vs, e1, k p (by rw [e2]; exact List.mem_cons_self) _ h, A.fz r s fun q hq => k q (by rw [e2]; exact List.mem_cons_of_mem _ hq)⟩
/-- a list of things of several kinds -/
def wHl {δ : Type} (A : WAr δ) : WTy δ where
  T := tHl A.A
  rep := fun d v H R F => ∃ p vs G, v = .ref p ∧ F = p :: G ∧ H p = some (.lst vs) ∧ A.rep d vs H R G
  st := by
    rintro d v H H' F R R' ⟨p, vs, Fs, e1, e2, h, r⟩ s k
    exact ⟨p, vs, Fs, e1, e2, by rw [k p (by rw [e2]; exact List.mem_cons_self)]; exact h, A.st r s fun q hq => k q (by rw [e2]; exact List.mem_cons_of_mem _ hq)⟩
  tb := by
    rintro d v H F R ⟨p, vs, Fs, e1, e2, h, r⟩ q hq
    rw [e2] at hq
    rcases List.mem_cons.mp hq with e | hq
    · subst e; exact ⟨_, h, rfl⟩
    · exact A.tb r q hq
  fz := by
    rintro d v H F R R' ⟨p, vs, Fs, e1, e2, h, r⟩ s k
    exact ⟨p, vs, e1, k p (by rw [e2]; exact List.mem_cons_self) _ h, A.fz r s fun q hq => k q (by rw [e2]; exact List.mem_cons_of_mem _ hq)⟩
/-- an object of the class at C, its fields of these names -/
def wIns {δ : Type} (C : Addr) (ns : List Str) (A : WAr δ) : WTy δ where
  T := tIns C (A.fl ns)
  rep := fun d v H R F => ∃ p dx vs G, v = .ref p ∧ F = p :: G ∧ H p = some (.ins C dx (ns.zip vs)) ∧ ns.length = vs.length ∧ A.rep d vs H R G
  st := by
    rintro d v H H' F R R' ⟨p, dx, vs, Fs, e1, e2, h, hl, r⟩ s k
    exact ⟨p, dx, vs, Fs, e1, e2, by rw [k p (by rw [e2]; exact List.mem_cons_self)]; exact h, hl, A.st r s fun q hq => k q (by rw [e2]; exact List.mem_cons_of_mem _ hq)⟩
  tb := by
    rintro d v H F R ⟨p, dx, vs, Fs, e1, e2, h, hl, r⟩ q hq
    rw [e2] at hq
    rcases List.mem_cons.mp hq with e | hq
    · subst e; exact ⟨_, h, rfl⟩
    · exact A.tb r q hq
  fz := by
    rintro d v H F R R' ⟨p, dx, vs, Fs, e1, e2, h, hl, r⟩ s k
    exact ⟨p, dx, _, e1, k p (by rw [e2]; exact List.mem_cons_self) _ h, A.fzF hl r s fun q hq => k q (by rw [e2]; exact List.mem_cons_of_mem _ hq)⟩
/-- what holds of all leaves however they are read -/
def FlatW {α : Type} (O : WTy α) : Prop := ∀ {d v H F} {R R' : RdR}, O.rep d v H R F → O.rep d v H R' F
def FlatWA {δ : Type} (A : WAr δ) : Prop := ∀ {d vs H F} {R R' : RdR}, A.rep d vs H R F → A.rep d vs H R' F
section
variable {α β δ : Type} {O : WTy α} {A : WAr δ} {T : Ty α} {C : Addr} {ns : List Str}
theorem fw_v (h : Flat T) : FlatW (wV T) := fun ⟨e, r⟩ => ⟨e, h r⟩
theorem fw_reps (h : FlatW O) {H : Hp} {R R' : RdR} {ds : List α} {vs : List V} {Fs : List (List Addr)} (r : RepsO O H R ds vs Fs) : RepsO O H R' ds vs Fs := by
  induction r with
  | nil => exact .nil
  | cons q _ ih => exact .cons (h q) ih
theorem fw_l (h : FlatW O) : FlatW (wL O) := fun ⟨p, vs, Fs, e1, e2, q, r⟩ => ⟨p, vs, Fs, e1, e2, q, fw_reps h r⟩
theorem fw_opt (h : FlatW O) : FlatW (wOpt O) := fun {d v H F R R'} q => by
  cases d with
  | none => exact q
  | some d => exact ⟨h q.1, q.2⟩
theorem fwa_nil : FlatWA waNil := fun h => h
theorem fwa_cons (h : FlatW O) (k : FlatWA A) : FlatWA (waCons O A) := fun ⟨v, r, F1, F2, e1, e2, h1, h2⟩ => ⟨v, r, F1, F2, e1, e2, h h1, k h2⟩
theorem fw_tup (k : FlatWA A) : FlatW (wTup A) := fun ⟨p, vs, G, e1, e2, h, r⟩ => ⟨p, vs, G, e1, e2, h, k r⟩
theorem fw_hl (k : FlatWA A) : FlatW (wHl A) := fun ⟨p, vs, G, e1, e2, h, r⟩ => ⟨p, vs, G, e1, e2, h, k r⟩
theorem fw_ins (k : FlatWA A) : FlatW (wIns C ns A) := fun ⟨p, dx, vs, G, e1, e2, h, hl, r⟩ => ⟨p, dx, vs, G, e1, e2, h, hl, k r⟩
end
/-- a slot of things of one's own; px: which value it is -/
def sP {α : Type} (px : V → Prop) (O : WTy α) (d : α) : Slot := ⟨fun v H R F => ∃ x, v = some x ∧ px x ∧ O.rep d x H (R false) F, fun ⟨x, e, hx, r⟩ s k => ⟨x, e, hx, O.st r (s false) k⟩,
  fun ⟨x, e, hx, r⟩ p hp => by obtain ⟨o, h, g⟩ := O.tb r p hp; rw [cl_of h (gd_nt g)]; exact fun z => nomatch z⟩
abbrev sO {α : Type} (O : WTy α) (d : α) : Slot := sP (fun _ => True) O d
abbrev sA {α : Type} (x : V) (O : WTy α) (d : α) : Slot := sP (fun v => v = x) O d
/-! ### an expression that makes a thing of one's own -/
def FinN {β : Type} (fm : Fm) (W : Wx) (own : List Addr) (σ : L2.St) (H : Hp) (O : WTy β) (Q : VK) : M β → Prop
  | .ok d => ∀ v F H', Same H H' → F.Nodup → (∀ p ∈ F, H p = none) → O.rep d v H' (RD fm (F ++ own) H') F → Q v H'
  | .ex c => ∀ H', Same H H' → W c σ H'
  | .no => False
theorem finN {β : Type} {O : WTy β} {fm : Fm} {W : Wx} {own : List Addr} {σ : L2.St} {H : Hp} {Q : VK} : Fin W σ H (FinN fm W own σ H O Q) := ⟨fun h => h, fun h => h⟩
def EvN (g : G) (L : List Slot) (e : Expr) {β : Type} (O : WTy β) (m : M β) : Prop := PE g.X e (fun σ H Q => ∃ kp own, At g.fm kp L σ H own ∧ FinN g.fm g.W own σ H O Q m)
def FinNA {δ : Type} (fm : Fm) (W : Wx) (own : List Addr) (σ : L2.St) (H : Hp) (A : WAr δ) (Q : List V → Hp → Prop) : M δ → Prop
  | .ok d => ∀ vs F H', Same H H' → F.Nodup → (∀ p ∈ F, H p = none) → A.rep d vs H' (RD fm (F ++ own) H') F → Q vs H'
  | .ex c => ∀ H', Same H H' → W c σ H'
  | .no => False
def EvNA (g : G) (L : List Slot) (es : List Expr) {δ : Type} (A : WAr δ) (m : M δ) : Prop := PA g.X es (fun σ H Q => ∃ kp own, At g.fm kp L σ H own ∧ FinNA g.fm g.W own σ H A Q m)
theorem RD.drop {fm : Fm} {own own' : List Addr} {H : Hp} (k : ∀ p ∈ own', p ∈ own) : ∀ a o, RD fm own H a o → RD fm own' H a o := RX.own (md := .sh) (H := H) k
/-- read ahead: what was there is none of the new -/
theorem RD.newer {fm : Fm} {own F : List Addr} {H H' : Hp} (s : Same H H') (n : ∀ p ∈ F, H p = none) : ∀ a o, RD fm own H a o → RD fm (F ++ own) H' a o := fun a o r => by
  rcases r with ⟨r1, r2, r3⟩ | r
  · refine .inl ⟨Rd.same s r1, fun h => ?_, r3⟩
    rcases List.mem_append.mp h with h | h
    · have := n a h
      rcases r1 with r1 | ⟨_, r1⟩ <;> rw [cl_none this] at r1 <;> cases r1
    · exact r2 h
  · exact .inr r
section
variable {p : Pr} {sc : Scope} {NN VV GG : List Str} {k : Nat} {g : G} {L L' : List Slot} {a b c e e' : Expr} {es : List Expr} {md md' : Md} {α β γ δ ρ : Type} {S : Ty α} {T : Ty β} {U : Ty γ} {O : WTy α} {A : WAr δ} {pos pp : Pos} {i j : Nat} {x : Str}
/-- .. is shared at once -/
theorem ev_ofN {m : M α} (h : EvN g L e O m) : EvE g L e .sh O.T m := PE.imp h fun σ H Q q => by
  obtain ⟨kp, own, at_, q⟩ := tE_iff.mp q
  refine ⟨kp, own, at_, ?_⟩
  cases m with
  | ok d => exact fun v F H' s nd n r => q v H' s (O.fz r (RD.drop fun p hp => List.mem_append_right _ hp) fun p hp o ho => by
      obtain ⟨o', h', g'⟩ := O.tb r p hp
      rw [ho] at h'; cases h'
      exact .inl ⟨.inl (cl_of ho (gd_nt g')), fun hq => (at_.new p hq).1 (n p hp), fun hz => at_.zin p hz (n p hp)⟩)
  | ex c => exact q
  | no => exact q
theorem evn_v {m : M α} (h : EvE g L e md S m) : EvN g L e (wV S) m := PE.imp h fun σ H Q ⟨kp, own, at_, q⟩ => by
  refine tE_iff.mpr ⟨kp, own, at_, ?_⟩
  cases m with
  | ok d => exact fun v H' s r => q v [] H' s List.nodup_nil (fun _ hp => nomatch hp) ⟨rfl, S.mono r fun a o z => RX.sh a o z⟩
  | ex c => exact q
  | no => exact q
theorem evn_l {m : M (List α)} (h : EvL g L e md S m) : EvN g L e (wL (wV S)) m := PE.imp h fun σ H Q ⟨kp, own, at_, q⟩ => by
  refine tL_iff.mpr ⟨kp, own, at_, ?_⟩
  cases m with
  | ok ds =>
    intro p vs H' s n h' r
    have fl : ∀ {ds : List α} {vs : List V} {R : RdR}, Reps S R ds vs → ∃ Fs, RepsO (wV S) H' R ds vs Fs ∧ Fs.flatten = [] := fun {ds vs R} r => by
      induction r with
      | nil => exact ⟨[], .nil, rfl⟩
      | cons r _ ih => obtain ⟨Fs, h1, h2⟩ := ih; exact ⟨[] :: Fs, .cons ⟨rfl, r⟩ h1, by simpa using h2⟩
    obtain ⟨Fs, r1, e1⟩ := fl (r.mono fun a o z => RX.sh a o z)
    exact q (.ref p) [p] H' s (by simp) (fun q hq => by rw [List.mem_singleton.mp hq]; exact n) ⟨p, vs, Fs, rfl, by rw [e1], h', r1⟩
  | ex c => exact q
  | no => exact q
theorem evn_none {pos : Pos} {jn} : EvN g L (.Constant .none jn pos) (wOpt O) (.ok none) := PE.imp pe_non fun σ H Q ⟨kp, own, at_, q⟩ => q _ [] H (Same.refl H) List.nodup_nil (fun _ h => nomatch h) ⟨rfl, rfl⟩
/-- it is never None -/
structure NnW {α : Type} (O : WTy α) : Prop where
  r : ∀ {d v H R F}, O.rep d v H R F → v ≠ .non
theorem nnw_l : NnW (wL O) := ⟨fun ⟨p, vs, Fs, e, _⟩ => by subst e; exact fun z => nomatch z⟩
theorem nnw_tup : NnW (wTup A) := ⟨fun ⟨p, vs, Fs, e, _⟩ => by subst e; exact fun z => nomatch z⟩
theorem nnw_hl : NnW (wHl A) := ⟨fun ⟨p, vs, Fs, e, _⟩ => by subst e; exact fun z => nomatch z⟩
theorem nnw_ins {C : Addr} {ns : List Str} : NnW (wIns C ns A) := ⟨fun ⟨p, dx, vs, Fs, e, _⟩ => by subst e; exact fun z => nomatch z⟩
theorem nnw_v (h : NotNon S) : NnW (wV S) := ⟨fun ⟨_, r⟩ => h.nn r⟩
theorem evn_some {m : M α} (hn : NnW O) (h : EvN g L e O m) : EvN g L e (wOpt O) (m.bind fun d => .ok (some d)) := PE.imp h fun σ H Q ⟨kp, own, at_, q⟩ => by
  refine ⟨kp, own, at_, ?_⟩
  cases m with
  | ok d => exact fun v F H' s nd n r => q v F H' s nd n ⟨r, hn.r r⟩
  | ex c => exact q
  | no => exact q
theorem evna_nil : EvNA g L [] waNil (.ok ()) := PA.imp pa_nil fun σ H Q ⟨kp, own, at_, q⟩ => q [] [] H (Same.refl H) List.nodup_nil (fun _ h => nomatch h) ⟨rfl, rfl⟩
theorem evna_cons {m1 : M α} {m2 : M δ} (hA : FlatWA A) (ha : EvN g L a O m1) (hb : EvNA g L es A m2) (hs : starEach (a :: es) g.X.env = (false, eval a g.X.env) :: starEach es g.X.env := by rfl) : EvNA g L (a :: es) (waCons O A) (m1.bind fun d => m2.bind fun e => .ok (d, e)) := by
  refine PA.imp (pa_cons ha hb hs) fun σ H Q ⟨kp, own, at_, q⟩ => ?_
  refine ⟨kp, own, at_, ?_⟩
  cases m1 with
  | ok d =>
    intro v F1 H1 s1 nd1 n1 r1
    refine ⟨kp, own, at_.ext s1, ?_⟩
    cases m2 with
    | ok ds =>
      intro vs F2 H2 s2 nd2 n2 r2
      have dj : ∀ x ∈ F1, x ∉ F2 := fun x h1 h2 => by
        obtain ⟨o, ho, _⟩ := O.tb r1 x h1
        rw [n2 x h2] at ho; cases ho
      refine q (v :: vs) (F1 ++ F2) H2 (s1.trans s2) (List.nodup_append.mpr ⟨nd1, nd2, fun a ha b hb e => dj a ha (by rw [e]; exact hb)⟩) (fun x hx => (List.mem_append.mp hx).elim (n1 x) fun h => s1.free (n2 x h)) ⟨v, vs, F1, F2, rfl, rfl, O.st r1 (fun a o z => ?_) fun x hx => ?_, hA r2⟩
      · refine (RD.newer s2 n2 a o z).imp (fun ⟨z1, z2, z3⟩ => ⟨z1, fun h => z2 ?_, z3⟩) id
        simp only [List.mem_append] at h ⊢
        rcases h with (h | h) | h
        · exact .inr (.inl h)
        · exact .inl h
        · exact .inr (.inr h)
      · obtain ⟨o, ho, go⟩ := O.tb r1 x hx
        rw [ho]; exact s2.keep _ _ ho (gd_nt go)
    | ex c => exact fun H' s => q H' (s1.trans s)
    | no => exact q
  | ex c => exact q
  | no => exact q
/-- the first one is shared -/
theorem evna_consV {m1 : M α} {m2 : M δ} (ha : EvE g L a md S m1) (hb : EvNA g L es A m2) (hs : starEach (a :: es) g.X.env = (false, eval a g.X.env) :: starEach es g.X.env := by rfl) : EvNA g L (a :: es) (waCons (wV S) A) (m1.bind fun d => m2.bind fun e => .ok (d, e)) := by
  refine PA.imp (pa_cons ha hb hs) fun σ H Q ⟨kp, own, at_, q⟩ => ?_
  refine tE_iff.mpr ⟨kp, own, at_, ?_⟩
  cases m1 with
  | ok d =>
    intro v H1 s1 r1
    refine ⟨kp, own, at_.ext s1, ?_⟩
    cases m2 with
    | ok ds =>
      intro vs F2 H2 s2 nd2 n2 r2
      exact q (v :: vs) F2 H2 (s1.trans s2) nd2 (fun x hx => s1.free (n2 x hx)) ⟨v, vs, [], F2, rfl, rfl, ⟨rfl, S.mono r1 fun a o z => RD.newer s2 n2 a o (RX.sh a o z)⟩, r2⟩
    | ex c => exact fun H' s => q H' (s1.trans s)
    | no => exact q
  | ex c => exact q
  | no => exact q
end
end Hd

namespace Hd
open PySem PySem.Spec L2
/-! ### a place within a thing of one's own -/
structure Plc (H : Hp) (R : RdR) {α : Type} (O : WTy α) (v : V) (F : List Addr) {β : Type} (O2 : WTy β) (d2 : β) (put : β → α) (v2 : V) (F2 : List Addr) : Prop where
  rep : O2.rep d2 v2 H R F2
  sub : ∀ p ∈ F2, p ∈ F
  nd : F2.Nodup
  up : ∀ {H' : Hp} {R' : RdR} {d2' : β} {F2' : List Addr}, (∀ a o, R a o → R' a o) → (∀ p ∈ F, p ∉ F2 → H' p = H p) → O2.rep d2' v2 H' R' F2' → F2'.Nodup → (∀ p ∈ F2', p ∈ F2 ∨ p ∉ F) →
    ∃ F', O.rep (put d2') v H' R' F' ∧ F'.Nodup ∧ ∀ p ∈ F', p ∈ F2' ∨ (p ∈ F ∧ p ∉ F2)
/-- the item k of written items -/
inductive WAt : {δ : Type} → WAr δ → Nat → {α : Type} → WTy α → (δ → α) → (δ → α → δ) → Prop where
  | z {α δ : Type} {O : WTy α} {A : WAr δ} : WAt (waCons O A) 0 O (fun d => d.1) (fun d y => (y, d.2))
  | s {α β δ : Type} {O : WTy α} {O' : WTy β} {A : WAr δ} {k : Nat} {pr : δ → α} {st : δ → α → δ} : WAt A k O pr st → WAt (waCons O' A) (k + 1) O (fun d => pr d.2) (fun d y => (d.1, st d.2 y))
section
variable {α β γ δ : Type} {O : WTy α} {O2 : WTy β} {O3 : WTy γ} {A : WAr δ} {H H' : Hp} {R R' : RdR} {v v2 : V} {F F2 G : List Addr} {d : α} {d2 : β} {put : β → α}
theorem Plc.root (r : O.rep d v H R F) (nd : F.Nodup) : Plc H R O v F O d (fun y => y) v F := ⟨r, fun _ h => h, nd, fun _ _ r' nd' _ => ⟨_, r', nd', fun _ hp => .inl hp⟩⟩
theorem Plc.ext (h : Plc H R O v F O2 d2 put v2 F2) (s : ∀ a o, R a o → R' a o) (k : ∀ p ∈ F, H' p = H p) : Plc H' R' O v F O2 d2 put v2 F2 :=
  ⟨O2.st h.rep s fun p hp => k p (h.sub p hp), h.sub, h.nd, fun s' k' r' nd' n' => h.up (fun a o z => s' a o (s a o z)) (fun p hp hn => (k' p hp hn).trans (k p hp)) r' nd' n'⟩
theorem Plc.item {ds : List γ} {put : List γ → α} (h : Plc H R O v F (wL O3) ds put v2 F2) {i : Nat} {x : γ} (e : ds[i]? = some x) :
    ∃ p vs v3 F3, v2 = .ref p ∧ p ∈ F2 ∧ H p = some (.lst vs) ∧ vs.length = ds.length ∧ vs[i]? = some v3 ∧ (∀ q ∈ F3, q ∈ F2) ∧ Plc H R O v F O3 x (fun y => put (ds.set i y)) v3 F3 := by
  obtain ⟨p, vs, Fs, e1, e2, hp, rr⟩ := h.rep
  obtain ⟨v3, F3, e3, e4, r3⟩ := rr.get e
  have nd := h.nd
  rw [e2, List.nodup_cons] at nd
  have s3 : ∀ q ∈ F3, q ∈ Fs.flatten := flat_mem e4
  have s32 : ∀ q ∈ F3, q ∈ F2 := fun q hq => by rw [e2]; exact List.mem_cons_of_mem _ (s3 q hq)
  have pF2 : p ∈ F2 := by rw [e2]; exact List.mem_cons_self
  refine ⟨p, vs, v3, F3, e1, pF2, hp, rr.length.symm, e3, s32, r3, fun q hq => h.sub q (s32 q hq), flat_nd nd.2 e4, fun {H' R' d3' F3'} s k r' nd' n' => ?_⟩
  have np3 : p ∉ F3 := fun hq => nd.1 (s3 p hq)
  have n3' : ∀ q ∈ F3', q ∈ F3 ∨ q ∉ Fs.flatten := fun q hq => (n' q hq).imp id fun hn hq' => hn (h.sub q (by rw [e2]; exact List.mem_cons_of_mem _ hq'))
  have np : p ∉ (Fs.set i F3').flatten := fun hq => by
    rcases flat_set_mem nd.2 e4 p hq with hq | ⟨hq, _⟩
    · rcases n' p hq with hq | hq
      · exact np3 hq
      · exact hq (h.sub p pF2)
    · exact nd.1 hq
  obtain ⟨F', r4, nd4, n4⟩ := h.up (d2' := ds.set i d3') (F2' := p :: (Fs.set i F3').flatten) s (fun q hq hn => k q hq fun hq' => hn (s32 q hq'))
    ⟨p, vs, Fs.set i F3', e1, rfl, by rw [k p (h.sub p pF2) np3]; exact hp, rr.chg s nd.2 e4 e3 (fun q hq hn => k q (h.sub q (by rw [e2]; exact List.mem_cons_of_mem _ hq)) hn) r'⟩
    (List.nodup_cons.mpr ⟨np, flat_set_nd nd.2 e4 nd' n3'⟩) (fun q hq => by
      rcases List.mem_cons.mp hq with hq | hq
      · subst hq; exact .inl pF2
      · rcases flat_set_mem nd.2 e4 q hq with hq | ⟨hq, _⟩
        · exact (n' q hq).imp (s32 q) id
        · exact .inl (by rw [e2]; exact List.mem_cons_of_mem _ hq))
  refine ⟨F', r4, nd4, fun q hq => ?_⟩
  rcases n4 q hq with hq | ⟨hq, hn⟩
  · rcases List.mem_cons.mp hq with hq | hq
    · subst hq; exact .inr ⟨h.sub _ pF2, np3⟩
    · rcases flat_set_mem nd.2 e4 q hq with hq | ⟨hq, hn⟩
      · exact .inl hq
      · exact .inr ⟨h.sub q (by rw [e2]; exact List.mem_cons_of_mem _ hq), hn⟩
  · exact .inr ⟨hq, fun hq' => hn (s32 q hq')⟩
theorem WAt.get {k : Nat} {pr : δ → γ} {st : δ → γ → δ} (h : WAt A k O3 pr st) : ∀ {d : δ} {vs : List V} {G : List Addr}, A.rep d vs H R G → G.Nodup → ∃ v3 F3, vs[k]? = some v3 ∧ O3.rep (pr d) v3 H R F3 ∧ (∀ q ∈ F3, q ∈ G) ∧ F3.Nodup ∧
    ∀ {H' R' y F3'}, (∀ a o, R a o → R' a o) → (∀ q ∈ G, q ∉ F3 → H' q = H q) → O3.rep y v3 H' R' F3' → F3'.Nodup → (∀ q ∈ F3', q ∈ F3 ∨ q ∉ G) → ∃ G', A.rep (st d y) vs H' R' G' ∧ G'.Nodup ∧ ∀ q ∈ G', q ∈ F3' ∨ (q ∈ G ∧ q ∉ F3) := by
  induction h with
  | z =>
    rintro d vs G ⟨v, r, F1, F2, e1, e2, h1, h2⟩ nd
    subst e1; subst e2
    rw [List.nodup_append] at nd
    refine ⟨v, F1, rfl, h1, fun q hq => List.mem_append_left _ hq, nd.1, fun {H' R' y F3'} s k r' nd' n' => ?_⟩
    have dj : ∀ q ∈ F2, q ∉ F1 := fun q hq hq' => nd.2.2 q hq' q hq rfl
    refine ⟨F3' ++ F2, ⟨v, r, F3', F2, rfl, rfl, r', WAr.st _ h2 s fun q hq => k q (List.mem_append_right _ hq) (dj q hq)⟩, List.nodup_append.mpr ⟨nd', nd.2.1, fun a ha b hb e => ?_⟩, fun q hq => ?_⟩
    · subst e
      rcases n' a ha with hq | hq
      · exact dj a hb hq
      · exact hq (List.mem_append_right _ hb)
    · rcases List.mem_append.mp hq with hq | hq
      · exact .inl hq
      · exact .inr ⟨List.mem_append_right _ hq, dj q hq⟩
  | s _ ih =>
    rintro d vs G ⟨v, r, F1, F2, e1, e2, h1, h2⟩ nd
    subst e1; subst e2
    rw [List.nodup_append] at nd
    obtain ⟨v3, F3, e3, r3, s3, nd3, up3⟩ := ih h2 nd.2.1
    have dj : ∀ q ∈ F1, q ∉ F2 := fun q hq hq' => nd.2.2 q hq q hq' rfl
    refine ⟨v3, F3, by simpa using e3, r3, fun q hq => List.mem_append_right _ (s3 q hq), nd3, fun {H' R' y F3'} s k r' nd' n' => ?_⟩
    obtain ⟨G', r4, nd4, n4⟩ := up3 s (fun q hq hn => k q (List.mem_append_right _ hq) hn) r' nd' (fun q hq => (n' q hq).imp id fun hn hq' => hn (List.mem_append_right _ hq'))
    refine ⟨F1 ++ G', ⟨v, r, F1, G', rfl, rfl, WTy.st _ h1 s fun q hq => k q (List.mem_append_left _ hq) fun hq' => dj q hq (s3 q hq'), r4⟩, List.nodup_append.mpr ⟨nd.1, nd4, fun a ha b hb e => ?_⟩, fun q hq => ?_⟩
    · subst e
      rcases n4 a hb with hq | ⟨hq, _⟩
      · rcases n' a hq with hq | hq
        · exact dj a ha (s3 a hq)
        · exact hq (List.mem_append_left _ ha)
      · exact dj a ha hq
    · rcases List.mem_append.mp hq with hq | hq
      · exact .inr ⟨List.mem_append_left _ hq, fun hq' => dj q hq (s3 q hq')⟩
      · rcases n4 q hq with hq | ⟨hq, hn⟩
        · exact .inl hq
        · exact .inr ⟨List.mem_append_right _ hq, hn⟩
/-- a part of a thing that stands at one address and holds written items -/
theorem Plc.part {dd : δ} {put : δ → α} {B : WTy δ} {con : List V → HO} (h : Plc H R O v F B dd put v2 F2) {p : Addr} {vs : List V} {G : List Addr}
    (e1 : v2 = .ref p) (e2 : F2 = p :: G) (hp : H p = some (con vs)) (rr : A.rep dd vs H R G) (cl : ∀ H' R' d' G', H' p = some (con vs) → A.rep d' vs H' R' G' → B.rep d' v2 H' R' (p :: G'))
    {k : Nat} {pr : δ → γ} {st : δ → γ → δ} (hA : WAt A k O3 pr st) :
    ∃ v3 F3, vs[k]? = some v3 ∧ (∀ q ∈ F3, q ∈ F2) ∧ Plc H R O v F O3 (pr dd) (fun y => put (st dd y)) v3 F3 := by
  have nd := h.nd
  rw [e2, List.nodup_cons] at nd
  obtain ⟨v3, F3, e3, r3, s3, nd3, up3⟩ := hA.get rr nd.2
  have s32 : ∀ q ∈ F3, q ∈ F2 := fun q hq => by rw [e2]; exact List.mem_cons_of_mem _ (s3 q hq)
  have pF2 : p ∈ F2 := by rw [e2]; exact List.mem_cons_self
  have np3 : p ∉ F3 := fun hq => nd.1 (s3 p hq)
  refine ⟨v3, F3, e3, s32, r3, fun q hq => h.sub q (s32 q hq), nd3, fun {H' R' d3' F3'} s k r' nd' n' => ?_⟩
  obtain ⟨G', r4, nd4, n4⟩ := up3 s (fun q hq hn => k q (h.sub q (by rw [e2]; exact List.mem_cons_of_mem _ hq)) hn) r' nd' (fun q hq => (n' q hq).imp id fun hn hq' => hn (h.sub q (by rw [e2]; exact List.mem_cons_of_mem _ hq')))
  have np : p ∉ G' := fun hq => by
    rcases n4 p hq with hq | ⟨hq, _⟩
    · rcases n' p hq with hq | hq
      · exact np3 hq
      · exact hq (h.sub p pF2)
    · exact nd.1 hq
  obtain ⟨F', r5, nd5, n5⟩ := h.up (d2' := st dd d3') (F2' := p :: G') s (fun q hq hn => k q hq fun hq' => hn (s32 q hq')) (cl _ _ _ _ (by rw [k p (h.sub p pF2) np3]; exact hp) r4) (List.nodup_cons.mpr ⟨np, nd4⟩) (fun q hq => by
      rcases List.mem_cons.mp hq with hq | hq
      · subst hq; exact .inl pF2
      · rcases n4 q hq with hq | ⟨hq, _⟩
        · exact (n' q hq).imp (s32 q) id
        · exact .inl (by rw [e2]; exact List.mem_cons_of_mem _ hq))
  refine ⟨F', r5, nd5, fun q hq => ?_⟩
  rcases n5 q hq with hq | ⟨hq, hn⟩
  · rcases List.mem_cons.mp hq with hq | hq
    · subst hq; exact .inr ⟨h.sub _ pF2, np3⟩
    · rcases n4 q hq with hq | ⟨hq, hn⟩
      · exact .inl hq
      · exact .inr ⟨h.sub q (by rw [e2]; exact List.mem_cons_of_mem _ hq), hn⟩
  · exact .inr ⟨hq, fun hq' => hn (s32 q hq')⟩
end
/-! ### where it stands -/
/-- slot i holds a thing of one's own, of which d2 at v2 is a place -/
def AtP (fm : Fm) (L : List Slot) (σ : L2.St) (own : List Addr) (Fs : List (List Addr)) (i : Nat) (px : V → Prop) {α : Type} (O : WTy α) (d : α) (H : Hp) {β : Type} (O2 : WTy β) (d2 : β) (put : β → α) (v2 : V) (F2 : List Addr) : Prop :=
  ∃ v F, L[i]? = some (sP px O d) ∧ AllS H (RB fm own H) L σ Fs ∧ own = Fs.flatten ∧ σ[i]? = some (some v) ∧ px v ∧ Fs[i]? = some F ∧ Plc H (RD fm own H) O v F O2 d2 put v2 F2
section
variable {fm : Fm} {kp : RdR} {L : List Slot} {σ : L2.St} {H H' : Hp} {own : List Addr} {i : Nat} {px : V → Prop} {α β γ : Type} {O : WTy α} {O2 : WTy β} {d : α} {d2 : β} {put : β → α} {v2 : V} {F2 : List Addr} {Fs : List (List Addr)}
theorem At.gdo (h : At fm kp L σ H own) (hA : AtP fm L σ own Fs i px O d H O2 d2 put v2 F2) : ∀ p ∈ F2, p ∈ own := by
  obtain ⟨v, F, hL, hs, e, e1, hx, e2, pl⟩ := hA
  exact fun p hp => by rw [e]; exact flat_mem e2 p (pl.sub p hp)
theorem AtP.ext (hA : AtP fm L σ own Fs i px O d H O2 d2 put v2 F2) (s : Same H H') : AtP fm L σ own Fs i px O d H' O2 d2 put v2 F2 := by
  obtain ⟨v, F, hL, hs, e, e1, hx, e2, pl⟩ := hA
  have k : ∀ p ∈ Fs.flatten, H' p = H p := fun p hp => by
    cases r : cl H p with
    | none => exact absurd r (hs.tb p hp)
    | some o => rw [cl_raw r]; exact s.keep _ _ (cl_raw r) (cl_nt r)
  exact ⟨v, F, hL, hs.st (RB.same s) k, e, e1, hx, e2, pl.ext (RD.same s) fun p hp => k p (flat_mem e2 p hp)⟩
theorem At.toP (h : At fm kp L σ H own) (hs : AllS H (RB fm own H) L σ Fs) (e : own = Fs.flatten) (hL : L[i]? = some (sP px O d)) : ∃ v F, σ[i]? = some (some v) ∧ AtP fm L σ own Fs i px O d H O d (fun y => y) v F := by
  obtain ⟨v0, F, e1, e2, v, rfl, hx, r⟩ := hs.get hL
  have nd := h.nd
  rw [e] at nd
  exact ⟨v, F, e1, v, F, hL, hs, e, e1, hx, e2, Plc.root r (flat_nd nd e2)⟩
/-- one slot changes -/
theorem AllS.chg {R R' : Bool → RdR} {s' : Slot} : ∀ {L : List Slot} {σ : L2.St} {Fs : List (List Addr)} {i : Nat} {F F' : List Addr} {v : Option V}, AllS H R L σ Fs → Fs.flatten.Nodup → Fs[i]? = some F → σ[i]? = some v → (∀ b a o, R b a o → R' b a o) → (∀ p ∈ Fs.flatten, p ∉ F → H' p = H p) → s'.ok v H' R' F' → AllS H' R' (L.set i s') σ (Fs.set i F') := by
  intro L σ Fs i F F' v h
  induction h generalizing i with
  | nil => intro _ e; simp at e
  | @cons sl L v0 σ F0 Fs r t ih =>
    intro nd e1 e2 s k r'
    rw [List.flatten_cons, List.nodup_append] at nd
    cases i with
    | zero =>
      simp at e1 e2
      subst e1; subst e2
      exact .cons r' (t.st s fun p hp => k p (by simp only [List.flatten_cons, List.mem_append]; exact .inr hp) fun hp' => nd.2.2 p hp' p hp rfl)
    | succ i =>
      have e1' : Fs[i]? = some F := by simpa using e1
      refine .cons (sl.st r s fun p hp => k p (by simp [hp]) fun hp' => nd.2.2 p hp p (flat_mem e1' p hp') rfl) ?_
      exact ih nd.2.1 e1' (by simpa using e2) s (fun p hp => k p (by simp only [List.flatten_cons, List.mem_append]; exact .inr hp)) r'
/-- the heap without some things -/
def hm (H : Hp) (F : List Addr) : Hp := fun a => if a ∈ F then none else H a
theorem hm_in {H : Hp} {F : List Addr} {a : Addr} (h : a ∈ F) : hm H F a = none := by unfold hm; rw [if_pos h]
theorem hm_out {H : Hp} {F : List Addr} {a : Addr} (h : a ∉ F) : hm H F a = H a := by unfold hm; rw [if_neg h]
/-- the place changes, and nothing else that was there -/
theorem At.chg {d2' : β} {F2' : List Addr} (h : At fm kp L σ H own) (hA : AtP fm L σ own Fs i px O d H O2 d2 put v2 F2)
    (sm : Same (hm H F2) H') (nd' : F2'.Nodup) (n1 : ∀ p ∈ F2', p ∈ F2 ∨ H p = none) (n2 : ∀ p ∈ F2', H' p ≠ none)
    (r' : O2.rep d2' v2 H' (RD fm (F2' ++ own) H') F2') : ∃ own', At fm kp (L.set i (sP px O (put d2'))) σ H' own' ∧ ∀ p ∈ own', p ∈ F2' ∨ (p ∈ own ∧ p ∉ F2) := by
  have sub2 := h.gdo hA
  obtain ⟨v, F, hL, hs, e, e1, hx, e2, pl⟩ := hA
  obtain ⟨h1, h2, _, h4, h5, h6⟩ := h
  have nd := h4
  rw [e] at nd
  have keep : ∀ a o, H a = some o → nt o = true → a ∉ F2 → H' a = some o := fun a o ea na hn => sm.keep a o (by rw [hm_out hn]; exact ea) na
  have fr : ∀ a, H' a = none → a ∉ F2 → H a = none := fun a ea hn => by have := sm.fr a ea; rwa [hm_out hn] at this
  have tab : ∀ P, LamX.TabS H P lamQ → LamX.TabS H' P lamQ := fun P t => sm.tab P (by
    obtain ⟨ps, t1, t2, t3⟩ := t
    have ng : ∀ a o, H a = some o → gd o = false → a ∉ F2 := fun a o ea ga q => by
      obtain ⟨o', ho', go'⟩ := O2.tb pl.rep a q
      rw [ea] at ho'; cases ho'
      rw [ga] at go'; cases go'
    refine ⟨ps, by rw [hm_out (ng P _ t1 rfl)]; exact t1, t2, fun pos cv hc => ?_⟩
    obtain ⟨c, c1, c2⟩ := t3 pos cv hc
    exact ⟨c, c1, by rw [hm_out (ng c _ c2 rfl)]; exact c2⟩)
  have kcl : ∀ a o, cl H a = some o → a ∉ F2 → cl H' a = some o := fun a o ea hn => cl_of (keep a o (cl_raw ea) (cl_nt ea) hn) (cl_nt ea)
  have keq : ∀ a, cl H a ≠ none → a ∉ F2 → H' a = H a := fun a ha hn => by
    cases r : cl H a with
    | none => exact absurd r ha
    | some o => rw [cl_raw r]; exact keep a o (cl_raw r) (cl_nt r) hn
  have rdn : ∀ a o, RD fm own H a o → RD fm (F2' ++ own) H' a o := fun a o z => by
    rcases z with ⟨z1, z2, z3⟩ | z
    · have hne : H a ≠ none := fun q => by rcases z1 with z1 | ⟨_, z1⟩ <;> rw [cl_none q] at z1 <;> cases z1
      have n2 : a ∉ F2 := fun q => z2 (sub2 a q)
      refine .inl ⟨z1.imp (fun q => kcl a _ q n2) fun ⟨f, q⟩ => ⟨f, kcl a _ q n2⟩, fun hq => ?_, z3⟩
      rcases List.mem_append.mp hq with hq | hq
      · rcases n1 a hq with hq | hq
        · exact z2 (sub2 a hq)
        · exact hne hq
      · exact z2 hq
    · exact .inr z
  obtain ⟨F', r4, nd4, n4⟩ := pl.up rdn (fun p hp hn => keq p (hs.tb p (flat_mem e2 p hp)) hn) r' nd' (fun p hp => (n1 p hp).imp id fun q hq => (h5 p (by rw [e]; exact flat_mem e2 p hq)).1 q)
  have nF : ∀ p ∈ (Fs.set i F').flatten, p ∈ F2' ∨ (p ∈ own ∧ p ∉ F2) := fun p hp => by
    rcases flat_set_mem nd e2 p hp with hp | ⟨hp, hn⟩
    · rcases n4 p hp with hp | ⟨hp, hn⟩
      · exact .inl hp
      · exact .inr ⟨by rw [e]; exact flat_mem e2 p hp, hn⟩
    · exact .inr ⟨by rw [e]; exact hp, fun q => hn (pl.sub p q)⟩
  have dr : ∀ a o, RD fm (F2' ++ own) H' a o → RD fm (Fs.set i F').flatten H' a o := RD.drop fun p hp => List.mem_append.mpr ((nF p hp).imp id (·.1))
  have keyB : ∀ b a o, RB fm own H b a o → RB fm (Fs.set i F').flatten H' b a o := fun b a o z => by
    cases b with
    | false => exact dr a o (rdn a o z)
    | true =>
      obtain ⟨z1, z2, z3, z4⟩ := z
      have hne : H a ≠ none := fun q => by rw [cl_none q] at z1; cases z1
      refine ⟨kcl a _ z1 fun q => z2 (sub2 a q), fun hq => ?_, z3, z4⟩
      rcases nF a hq with hq | ⟨hq, _⟩
      · rcases n1 a hq with hq | hq
        · exact z2 (sub2 a hq)
        · exact hne hq
      · exact z2 hq
  have sH : Same fm.H0 H' := by
    refine ⟨fun a o ea na => keep a o (h1.keep a o ea na) na (fun q => by have := (h5 a (sub2 a q)).2.1; rw [this] at ea; cases ea), fun a ea => ?_, fun P t => tab P (h1.tab P t)⟩
    by_cases q2 : a ∈ F2
    · exact (h5 a (sub2 a q2)).2.1
    · exact h1.fr a (fr a ea q2)
  refine ⟨_, ⟨sH, fun a z ea => ?_, ⟨Fs.set i F', hs.chg nd e2 e1 keyB (fun p hp hn => keq p (hs.tb p hp) fun q => hn (pl.sub p q)) (s' := sP px O (put d2')) ⟨v, rfl, hx, O.st r4 dr fun _ _ => rfl⟩, rfl⟩, flat_set_nd nd e2 nd4 (fun p hp => ?_), fun p hp => ?_, fun a o z => dr a o (rdn a o (h6 a o z))⟩, nF⟩
  · exact h2 a z (fr a ea fun q => (h5 a (sub2 a q)).2.2 z)
  · rcases n4 p hp with hp | ⟨hp, _⟩
    · rcases n1 p hp with hp | hp
      · exact .inl (pl.sub p hp)
      · exact .inr fun q => (h5 p (by rw [e]; exact q)).1 hp
    · exact .inl hp
  · rcases nF p hp with hp | ⟨hp, hn⟩
    · refine ⟨n2 p hp, ?_, ?_⟩
      · rcases n1 p hp with hq | hq
        · exact (h5 p (sub2 p hq)).2.1
        · exact h1.free hq
      · rcases n1 p hp with hq | hq
        · exact (h5 p (sub2 p hq)).2.2
        · exact fun z => h2 p z hq
    · have q := h5 p hp
      exact ⟨fun z => q.1 (fr p z hn), q.2⟩
end
end Hd

namespace Hd
open PySem PySem.Spec L2
/-! ### expressions that tell a place -/
def FinP (fm : Fm) (W : Wx) (L : List Slot) (own : List Addr) (Fs : List (List Addr)) (σ : L2.St) (H : Hp) (i : Nat) (px : V → Prop) {α : Type} (O : WTy α) (d : α) {β : Type} (O2 : WTy β) (Q : VK) : M (β × (β → α)) → Prop
  | .ok q => ∀ v2 F2 H', Same H H' → AtP fm L σ own Fs i px O d H' O2 q.1 q.2 v2 F2 → Q v2 H'
  | .ex c => ∀ H', Same H H' → W c σ H'
  | .no => False
def EvP (g : G) (L : List Slot) (e : Expr) (i : Nat) (px : V → Prop) {α : Type} (O : WTy α) (d : α) {β : Type} (O2 : WTy β) (m : M (β × (β → α))) : Prop := PE g.X e (fun σ H Q => ∃ kp own Fs, At g.fm kp L σ H own ∧ AllS H (RB g.fm own H) L σ Fs ∧ own = Fs.flatten ∧ FinP g.fm g.W L own Fs σ H i px O d O2 Q m)
/-- the item n of a place that is a list -/
def atP {α γ : Type} (q : List γ × (List γ → α)) (n : Int) : M (γ × (γ → α)) :=
  match L2.ixN q.1.length n with
  | some j => match q.1[j]? with
    | some x => .ok (x, fun y => q.2 (q.1.set j y))
    | none => .no
  | none => .no
/-- which field it is -/
def fldIx : List Str → Str → Option Nat
  | [], _ => none
  | n :: ns, f => if f == n then some 0 else (fldIx ns f).map (· + 1)
theorem fld_lookup {f : Str} : ∀ {ns : List Str} {vs : List V} {k : Nat} {v : V}, fldIx ns f = some k → ns.length = vs.length → vs[k]? = some v → (ns.zip vs).lookup f = some v
  | [], vs, k, v, h, _, _ => by cases h
  | n :: ns, [], k, v, h, hl, _ => by cases hl
  | n :: ns, w :: vs, k, v, h, hl, hv => by
    unfold fldIx at h
    rw [List.zip_cons_cons, List.lookup_cons]
    cases e : f == n with
    | true =>
      rw [e, if_pos rfl] at h
      cases h
      simp at hv
      rw [hv]
    | false =>
      rw [e, if_neg (by simp)] at h
      obtain ⟨k', h1, rfl⟩ := Option.map_eq_some_iff.mp h
      exact fld_lookup h1 (by simpa using hl) (by simpa using hv)
theorem fld_put {f : Str} {y : V} : ∀ {ns : List Str} {vs : List V} {k : Nat}, fldIx ns f = some k → ns.length = vs.length → putF f y (ns.zip vs) = ns.zip (vs.set k y)
  | [], vs, k, h, _ => by cases h
  | n :: ns, [], k, h, hl => by cases hl
  | n :: ns, w :: vs, k, h, hl => by
    unfold fldIx at h
    rw [List.zip_cons_cons]
    show (if n = f then (n, y) :: ns.zip vs else (n, w) :: putF f y (ns.zip vs)) = _
    cases e : f == n with
    | true =>
      rw [e, if_pos rfl] at h
      cases h
      have e' : f = n := by simpa using e
      rw [if_pos e'.symm]
      rfl
    | false =>
      rw [e, if_neg (by simp)] at h
      obtain ⟨k', h1, rfl⟩ := Option.map_eq_some_iff.mp h
      rw [if_neg (by intro z; subst z; simp at e), fld_put h1 (by simpa using hl)]
      rfl
theorem fld_lt {f : Str} : ∀ {ns : List Str} {k : Nat}, fldIx ns f = some k → k < ns.length
  | [], k, h => by cases h
  | n :: ns, k, h => by
    unfold fldIx at h
    cases e : f == n with
    | true => rw [e, if_pos rfl] at h; cases h; exact Nat.succ_pos _
    | false =>
      rw [e, if_neg (by simp)] at h
      obtain ⟨k', h1, rfl⟩ := Option.map_eq_some_iff.mp h
      exact Nat.succ_lt_succ (fld_lt h1)
def NoEx {α : Type} (m : M α) : Prop := ∀ c, m ≠ .ex c
theorem nx_ok {α : Type} {a : α} : NoEx (.ok a) := fun c h => nomatch h
section
variable {p : Pr} {sc : Scope} {NN VV GG : List Str} {k : Nat} {g : G} {L L' : List Slot} {a b c e e' ix : Expr} {es : List Expr} {md md' : Md} {α β γ δ ρ : Type} {S : Ty α} {T : Ty β} {O : WTy α} {O2 : WTy β} {O3 : WTy γ} {A : WAr ρ} {pos pp : Pos} {i j : Nat} {x f : Str} {px : V → Prop} {d : α}
theorem evp_name (ok : Ok p sc NN VV GG k g) (hN : NN[i]? = some x) (hV : VV[j]? = some x) (hL : L[i]? = some (sP px O d)) : EvP g L (.Name x pos) i px O d O (.ok (d, fun y => y)) := by
  obtain ⟨hv, ho⟩ := ok.vis hV
  obtain ⟨h1, h2, _⟩ := okName_d ho
  refine PE.imp (pe_var (i := i) (by rw [ok.N]; exact hN) hv h1 h2) fun σ H Q ⟨kp, own, Fs, at_, hsl, heo, q⟩ => ?_
  obtain ⟨v, F, e1, hA⟩ := at_.toP hsl heo hL
  exact ⟨v, e1, q v F H (Same.refl H) hA⟩
theorem atP_ok {q : List γ × (List γ → α)} {n : Int} {r : γ × (γ → α)} (h : atP q n = .ok r) : ∃ j, L2.ixN q.1.length n = some j ∧ q.1[j]? = some r.1 ∧ r.2 = fun y => q.2 (q.1.set j y) := by
  unfold atP at h
  split at h
  · rename_i j hj
    split at h
    · rename_i x hx; cases h; exact ⟨j, hj, hx, rfl⟩
    · cases h
  · cases h
theorem atP_ne {q : List γ × (List γ → α)} {n : Int} : NoEx (atP q n) := fun c h => by
  unfold atP at h
  split at h
  · split at h <;> cases h
  · cases h
theorem evp_ix {m : M (List γ × (List γ → α))} {mi : M Int} (ok : Ok p sc NN VV GG k g) (he : EvP g L e i px O d (wL O3) m) (hi : EvE g L ix md tInt mi) (hs : PlainIx ix := by exact fun _ _ => rfl) : EvP g L (.Subscript e ix pos) i px O d O3 (m.bind fun q => mi.bind fun n => atP q n) := by
  refine PE.imp (pe_ix (r := rIxL g.X.K) ix_list he hi hs) fun σ H Q ⟨kp, own, Fs, at_, hsl, heo, q⟩ => ?_
  refine ⟨kp, own, Fs, at_, hsl, heo, ?_⟩
  cases m with
  | ok q0 =>
    intro v2 F2 H1 s1 A1
    refine tE_iff.mpr ⟨kp, own, at_.ext s1, ?_⟩
    cases mi with
    | ok n =>
      intro y H2 s2 r2
      cases (show y = .int n from r2)
      have A2 := A1.ext s2
      have q : FinP g.fm g.W L own Fs σ H i px O d O3 Q (atP q0 n) := q
      cases hr : atP q0 n with
      | ok r =>
        rw [hr] at q
        obtain ⟨j, h1, h2, h3⟩ := atP_ok hr
        obtain ⟨v, F, hL, hs, e, e1, hx, e2, pl⟩ := A2
        obtain ⟨p', vs, v3, F3, e3, _, hp, hl, e4, _, pl3⟩ := pl.item h2
        refine ⟨p', vs, n, v3, e3, rfl, SqL.of hp, ?_, q v3 F3 H2 (s1.trans s2) ⟨v, F, hL, hs, e, e1, hx, e2, ?_⟩⟩
        · unfold L2.atI; rw [hl, h1]; exact e4
        · rw [h3]; exact pl3
      | ex c => exact absurd hr (atP_ne c)
      | no => rw [hr] at q; exact q.elim
    | ex c => exact fun H' s => q H' (s1.trans s)
    | no => exact q
  | ex c => exact q
  | no => exact q
/-- a field of a place that is an object -/
theorem evp_fld {C : Addr} {ns : List Str} {m : M (ρ × (ρ → α))} {kk : Nat} {pr : ρ → γ} {st : ρ → γ → ρ} (ok : Ok p sc NN VV GG k g) (hc : Cls p.K C) (hn : NoAttr p.K C f) (hA : WAt A kk O3 pr st) (hk : fldIx ns f = some kk) (he : EvP g L e i px O d (wIns C ns A) m)
    (hb : attributeBase e f g.X.env (eval e g.X.env) = eval e g.X.env := by rfl) : EvP g L (.Attribute e f pos) i px O d O3 (m.bind fun q => .ok (pr q.1, fun y => q.2 (st q.1 y))) := by
  refine PE.imp (pe_fld he hb) fun σ H Q ⟨kp, own, Fs, at_, hsl, heo, q⟩ => ?_
  refine ⟨kp, own, Fs, at_, hsl, heo, ?_⟩
  cases m with
  | ok q0 =>
    intro v2 F2 H1 s1 A1
    obtain ⟨v, F, hL, hs, e, e1, hx, e2, pl⟩ := A1
    obtain ⟨p', dx, vs, G, r1, r2, hp, hl, rr⟩ := pl.rep
    obtain ⟨v3, F3, e4, _, pl3⟩ := pl.part (con := fun vs => .ins C dx (ns.zip vs)) r1 r2 hp rr (fun H' R' d' G' h' r' => ⟨p', dx, vs, G', r1, rfl, h', hl, r'⟩) hA
    exact ⟨p', C, dx, _, v3, r1, hp, by rw [ok.K]; exact hc, by rw [ok.K]; exact hn, fld_lookup hk hl e4, q v3 F3 H1 s1 ⟨v, F, hL, hs, e, e1, hx, e2, pl3⟩⟩
  | ex c => exact q
  | no => exact q
theorem evp_tup {m : M (ρ × (ρ → α))} {kk : Nat} {pr : ρ → γ} {st : ρ → γ → ρ} (ok : Ok p sc NN VV GG k g) (hA : WAt A kk O3 pr st) (he : EvP g L e i px O d (wTup A) m) (hi : EvE g L ix md tInt (.ok (kk : Int))) (hs : PlainIx ix := by exact fun _ _ => rfl) : EvP g L (.Subscript e ix pos) i px O d O3 (m.bind fun q => .ok (pr q.1, fun y => q.2 (st q.1 y))) := by
  refine PE.imp (pe_ix (r := rIxT g.X.K) ix_tup he hi hs) fun σ H Q ⟨kp, own, Fs, at_, hsl, heo, q⟩ => ?_
  refine ⟨kp, own, Fs, at_, hsl, heo, ?_⟩
  cases m with
  | ok q0 =>
    intro v2 F2 H1 s1 A1
    refine tE_iff.mpr ⟨kp, own, at_.ext s1, ?_⟩
    intro y H2 s2 r2
    cases (show y = .int kk from r2)
    obtain ⟨v, F, hL, hs, e, e1, hx, e2, pl⟩ := A1.ext s2
    obtain ⟨p', vs, G, r1, r2, hp, rr⟩ := pl.rep
    obtain ⟨v3, F3, e4, _, pl3⟩ := pl.part (con := .tup) r1 r2 hp rr (fun H' R' d' G' h' r' => ⟨p', vs, G', r1, rfl, h', r'⟩) hA
    exact ⟨p', vs, kk, v3, r1, rfl, .inl (.inl hp), atI_nat e4, q v3 F3 H2 (s1.trans s2) ⟨v, F, hL, hs, e, e1, hx, e2, pl3⟩⟩
  | ex c => exact q
  | no => exact q
theorem evp_hl {m : M (ρ × (ρ → α))} {kk : Nat} {pr : ρ → γ} {st : ρ → γ → ρ} (ok : Ok p sc NN VV GG k g) (hA : WAt A kk O3 pr st) (he : EvP g L e i px O d (wHl A) m) (hi : EvE g L ix md tInt (.ok (kk : Int))) (hs : PlainIx ix := by exact fun _ _ => rfl) : EvP g L (.Subscript e ix pos) i px O d O3 (m.bind fun q => .ok (pr q.1, fun y => q.2 (st q.1 y))) := by
  refine PE.imp (pe_ix (r := rIxL g.X.K) ix_list he hi hs) fun σ H Q ⟨kp, own, Fs, at_, hsl, heo, q⟩ => ?_
  refine ⟨kp, own, Fs, at_, hsl, heo, ?_⟩
  cases m with
  | ok q0 =>
    intro v2 F2 H1 s1 A1
    refine tE_iff.mpr ⟨kp, own, at_.ext s1, ?_⟩
    intro y H2 s2 r2
    cases (show y = .int kk from r2)
    obtain ⟨v, F, hL, hs, e, e1, hx, e2, pl⟩ := A1.ext s2
    obtain ⟨p', vs, G, r1, r2, hp, rr⟩ := pl.rep
    obtain ⟨v3, F3, e4, _, pl3⟩ := pl.part (con := .lst) r1 r2 hp rr (fun H' R' d' G' h' r' => ⟨p', vs, G', r1, rfl, h', r'⟩) hA
    exact ⟨p', vs, kk, v3, r1, rfl, .inl (.inl hp), atI_nat e4, q v3 F3 H2 (s1.trans s2) ⟨v, F, hL, hs, e, e1, hx, e2, pl3⟩⟩
  | ex c => exact q
  | no => exact q
/-! ### a place changes -/
variable {st : List Stmt} {D : δ → Out}
/-- exceptions: the slots ahead of them are told, or there are none -/
def Wkx (g : G) (L : List Slot) (n : Prop) : Prop := Wk L g.LX ∨ n
theorem BOk.exx' {kp : RdR} {E : Ends} {c : Ec} {σ : L2.St} {H : Hp} {own : List Addr} {n : Prop} (wk : Wkx g L n) (hn : n → False) (at_ : At g.fm kp L σ H own) (q : BOk g kp E D (.ex c)) : ∀ H', Same H H' → g.W c σ H' := by
  rcases wk with wk | z
  · exact BOk.exx wk at_ q
  · exact (hn z).elim
/-- one own thing is written -/
theorem hm_wr {H H1 : Hp} {F : List Addr} {q : Addr} {u o : HO} (s : Same H H1) (hq : q ∈ F) (h1 : H1 q = some u) (gu : gd u = true) (hg : ∀ a ∈ F, ∃ o, H a = some o ∧ gd o = true) : Same (hm H F) (upd H1 q o) := by
  have s0 : Same (hm H F) H := by
    refine ⟨fun a o e n => ?_, fun a e => ?_, fun P t => ?_⟩
    · by_cases z : a ∈ F
      · rw [hm_in z] at e; cases e
      · rwa [hm_out z] at e
    · unfold hm; split
      · rfl
      · exact e
    · obtain ⟨ps, t1, t2, t3⟩ := t
      have up : ∀ {a : Addr} {o : HO}, hm H F a = some o → H a = some o := fun {a o} e => by
        by_cases z : a ∈ F
        · rw [hm_in z] at e; cases e
        · rwa [hm_out z] at e
      exact ⟨ps, up t1, t2, fun pos cv hc => let ⟨c, c1, c2⟩ := t3 pos cv hc; ⟨c, c1, up c2⟩⟩
  exact (s0.trans s).wr (hm_in hq) h1 (gd_ext gu) (gd_nt gu)
/-- a list at a place changes -/
theorem At.chgL {fm : Fm} {kp : RdR} {σ : L2.St} {H1 H2 : Hp} {own : List Addr} {ds : List γ} {put : List γ → α} {v2 : V} {F1 F2 : List Addr} {Fs : List (List Addr)} (at1 : At fm kp L σ H1 own) (A1 : AtP fm L σ own Fs i px O d H1 (wL O3) ds put v2 F2) (s2 : Same H1 H2) (nF1 : ∀ q ∈ F1, H1 q = none) (tF1 : ∀ q ∈ F1, H2 q ≠ none) :
    ∃ p vs Gs, v2 = .ref p ∧ p ∈ own ∧ H1 p = some (.lst vs) ∧ H2 p = some (.lst vs) ∧ RepsO O3 H2 (RD fm (F1 ++ own) H2) ds vs Gs ∧ Gs.flatten.Nodup ∧ (∀ q ∈ Gs.flatten, H1 q ≠ none) ∧ (∀ q ∈ F1, q ∉ Gs.flatten) ∧
      ∀ ds' vs' Gs', RepsO O3 H2 (RD fm (F1 ++ own) H2) ds' vs' Gs' → Gs'.flatten.Nodup → (∀ q ∈ Gs'.flatten, q ∈ Gs.flatten ∨ q ∈ F1) → ∃ own', At fm kp (L.set i (sP px O (put ds'))) σ (upd H2 p (.lst vs')) own' ∧ ∀ q ∈ own', q ∈ own ∨ q ∈ F1 := by
  have sub2 := at1.gdo A1
  have A1' := A1
  obtain ⟨v, F, hL, hs, eo, e1, hx, e2, pl⟩ := A1
  obtain ⟨p, vs, Gs, r1, r2, hp, rr⟩ := pl.rep
  have nd := pl.nd
  rw [r2, List.nodup_cons] at nd
  have gH : ∀ q ∈ Gs.flatten, H1 q ≠ none := fun q hq => by obtain ⟨o, ho, _⟩ := rr.tb q hq; rw [ho]; exact fun z => nomatch z
  have h2p : H2 p = some (.lst vs) := s2.keep _ _ hp rfl
  have pF2 : p ∈ F2 := by rw [r2]; exact List.mem_cons_self
  have pown : p ∈ own := sub2 p pF2
  have dj : ∀ q ∈ F1, q ∉ Gs.flatten := fun q h1 h2 => gH q h2 (nF1 q h1)
  have np1 : p ∉ F1 := fun q => by rw [nF1 p q] at hp; cases hp
  have k2 : ∀ q ∈ Gs.flatten, H2 q = H1 q := fun q hq => by obtain ⟨o, ho, go⟩ := rr.tb q hq; rw [ho]; exact s2.keep _ _ ho (gd_nt go)
  refine ⟨p, vs, Gs, r1, pown, hp, h2p, rr.st (RD.newer s2 nF1) k2, nd.2, gH, dj, fun ds' vs' Gs' rr' nd' n' => ?_⟩
  have np : p ∉ Gs'.flatten := fun q => (n' p q).elim nd.1 np1
  have gdF2 : ∀ a ∈ F2, ∃ o, H1 a = some o ∧ gd o = true := fun a ha => by
    rw [r2] at ha
    rcases List.mem_cons.mp ha with e | ha
    · subst e; exact ⟨_, hp, rfl⟩
    · exact rr.tb a ha
  have rd : ∀ a o, RD fm (F1 ++ own) H2 a o → RD fm ((p :: Gs'.flatten) ++ own) (upd H2 p (.lst vs')) a o := fun a o z => by
    rcases z with ⟨z1, z2, z3⟩ | z
    · have ne : a ≠ p := fun e => z2 (by rw [e]; exact List.mem_append_right _ pown)
      refine .inl ⟨?_, fun hq => z2 ?_, z3⟩
      · unfold Rd at z1 ⊢; rw [cl_upd_ne ne]; exact z1
      · rcases List.mem_append.mp hq with hq | hq
        · rcases List.mem_cons.mp hq with e | hq
          · exact absurd e ne
          · rcases n' a hq with h | h
            · exact List.mem_append_right _ (sub2 a (by rw [r2]; exact List.mem_cons_of_mem _ h))
            · exact List.mem_append_left _ h
        · exact List.mem_append_right _ hq
    · exact .inr z
  have n1' : ∀ q ∈ p :: Gs'.flatten, q ∈ F2 ∨ H1 q = none := fun q hq => by
    rcases List.mem_cons.mp hq with e | hq
    · subst e; exact .inl pF2
    · exact (n' q hq).imp (fun h => by rw [r2]; exact List.mem_cons_of_mem _ h) (nF1 q)
  have n2' : ∀ q ∈ p :: Gs'.flatten, upd H2 p (.lst vs') q ≠ none := fun q hq => by
    rcases List.mem_cons.mp hq with e | hq
    · subst e; rw [upd_same]; exact fun z => nomatch z
    · rw [upd_ne fun e => np (by rw [← e]; exact hq)]
      rcases n' q hq with h | h
      · rw [k2 q h]; exact gH q h
      · exact tF1 q h
  obtain ⟨own', a', n3⟩ := at1.chg (d2' := ds') (F2' := p :: Gs'.flatten) A1' (hm_wr (o := .lst vs') s2 pF2 h2p rfl gdF2) (List.nodup_cons.mpr ⟨np, nd'⟩) n1' n2' ⟨p, vs', Gs', r1, rfl, upd_same, rr'.st rd fun q hq => upd_ne fun e => np (by rw [← e]; exact hq)⟩
  refine ⟨own', a', fun q hq => ?_⟩
  rcases n3 q hq with h | h
  · rcases List.mem_cons.mp h with e | h
    · subst e; exact .inl pown
    · rcases n' q h with h | h
      · exact .inl (sub2 q (by rw [r2]; exact List.mem_cons_of_mem _ h))
      · exact .inr h
  · exact .inl h.1
theorem flat_take {Gs : List (List Addr)} {n : Nat} : (Gs.take n).flatten.Sublist Gs.flatten := by
  conv => rhs; rw [← List.take_append_drop n Gs, List.flatten_append]
  exact List.sublist_append_left _ _
theorem flat_snoc {Gs : List (List Addr)} {F : List Addr} : (Gs ++ [F]).flatten = Gs.flatten ++ F := by simp
/-- place.append(e) -/
theorem evb_pAppend {mp : M (List γ × (List γ → α))} {m : M γ} {h : α → M δ} {ap cp : Pos} (ok : OkS p sc NN VV GG k g) (wk : Wkx g L (NoEx mp ∧ NoEx m)) (hp : EvP g L a i px O d (wL O3) mp) (he : EvN g L e O3 m) (hr : ∀ d', EvB g (L.set i (sP px O d')) st D (h d'))
    (hs : swapsWith (.Call (.Attribute a "append" ap) [e] [] cp) none pos.line g.X.env = pure false := by rfl)
    (hbase : attributeBase a "append" g.X.env (eval a g.X.env) = eval a g.X.env := by rfl)
    (hfew : ((backTo cp (starEach [e] g.X.env)).all (fun x => !x.1) && (backToKw cp (keywordEach [] g.X.env)).all (fun x => x.1.isSome)
      && decide (([e] : List Expr).length + ([] : List Keyword).length + (if ([] : List Keyword).isEmpty then 0 else 1) < 30)) = true := by rfl)
    (hline : (ap.endLine == cp.line) = true := by rfl) (hst : starEach [e] g.X.env = (false, eval e g.X.env) :: starEach [] g.X.env := by rfl) (hpl : (backTo cp (starEach [] g.X.env)).any (·.1) = false := by rfl) :
    EvB g L (.Expr (.Call (.Attribute a "append" ap) [e] [] cp) pos :: st) D (mp.bind fun q => m.bind fun x => (pushM q.1 x).bind fun l => h (q.2 l)) := by
  refine PSs.imp (pss_cons (ps_expr (pe_bm PySem.F.plainAttrs_list PySem.F.slot_list_append PySem.F.type_list_append mt_append hp (pa_cons he pa_nil hst) (hbase := hbase) (hfew := hfew) (hline := hline) (hs := hst) (hplain := hpl)) hs) (PSs.ex hr)) fun E σ H ⟨kp, own, at_, q⟩ => ?_
  obtain ⟨Fs, hsl, heo⟩ := at_.sl
  refine ⟨kp, own, Fs, at_, hsl, heo, ?_⟩
  cases mp with
  | ok q0 =>
    intro v2 F2 H1 s1 A1
    have at1 := at_.ext s1
    obtain ⟨p', vs, Gs, r1, _, hp', _⟩ := at1.chgL (F1 := []) A1 (Same.refl H1) (fun _ h => nomatch h) (fun _ h => nomatch h)
    subst r1
    refine ⟨Or.inl ⟨rfl, _, SqL.of hp'⟩, kp, own, at1, ?_⟩
    cases m with
    | ok x =>
      intro w F1 H2 s2 nd1 n1 rw_
      have q : BOk g kp E D ((pushM q0.1 x).bind fun l => h (q0.2 l)) := q
      obtain ⟨p2, vs, Gs, r1, _, _, hp2, rr, nd, gH, dj, up⟩ := at1.chgL A1 s2 n1 (fun q hq => by obtain ⟨o, ho, _⟩ := O3.tb rw_ q hq; rw [ho]; exact fun z => nomatch z)
      cases r1
      unfold pushM at q
      split at q
      · rename_i hlt
        obtain ⟨own', a', _⟩ := up (q0.1 ++ [x]) (vs ++ [w]) (Gs ++ [F1]) (rr.append (.cons rw_ .nil)) (by rw [flat_snoc]; exact List.nodup_append.mpr ⟨nd, nd1, fun a ha b hb e => dj b hb (by rw [← e]; exact ha)⟩) (fun q hq => by rw [flat_snoc] at hq; exact (List.mem_append.mp hq))
        exact ⟨_, vs, w, rfl, rfl, hp2, by rw [← rr.length]; exact hlt, q0.2 (q0.1 ++ [x]), kp, own', a', q⟩
      · exact q.elim
    | ex c => exact BOk.exx' wk (fun n => n.2 c rfl) at1 q
    | no => exact q
  | ex c => exact BOk.exx' wk (fun n => n.1 c rfl) at_ q
  | no => exact q
/-- place.pop() -/
theorem evb_pPop {mp : M (List γ × (List γ → α))} {h : α → M δ} {ap cp : Pos} (ok : OkS p sc NN VV GG k g) (wk : Wkx g L (NoEx mp)) (hp : EvP g L a i px O d (wL O3) mp) (hr : ∀ d', EvB g (L.set i (sP px O d')) st D (h d'))
    (hs : swapsWith (.Call (.Attribute a "pop" ap) [] [] cp) none pos.line g.X.env = pure false := by rfl)
    (hbase : attributeBase a "pop" g.X.env (eval a g.X.env) = eval a g.X.env := by rfl)
    (hline : (ap.endLine == cp.line) = true := by rfl) :
    EvB g L (.Expr (.Call (.Attribute a "pop" ap) [] [] cp) pos :: st) D (mp.bind fun q => (popM q.1).bind fun l => h (q.2 l)) := by
  refine PSs.imp (pss_cons (ps_expr (pe_bm0 PySem.F.plainAttrs_list PySem.F.slot_list_pop PySem.F.type_list_pop mt_pop hp (hbase := hbase) (hline := hline)) hs) (PSs.ex hr)) fun E σ H ⟨kp, own, at_, q⟩ => ?_
  obtain ⟨Fs, hsl, heo⟩ := at_.sl
  refine ⟨kp, own, Fs, at_, hsl, heo, ?_⟩
  cases mp with
  | ok q0 =>
    intro v2 F2 H1 s1 A1
    have at1 := at_.ext s1
    have q : BOk g kp E D ((popM q0.1).bind fun l => h (q0.2 l)) := q
    obtain ⟨p', vs, Gs, r1, _, hp', _, rr, nd, _, _, up⟩ := at1.chgL (F1 := []) A1 (Same.refl H1) (fun _ h => nomatch h) (fun _ h => nomatch h)
    subst r1
    unfold popM at q
    split at q
    · rename_i hlt
      have hl := rr.length
      have hy : vs[vs.length - 1]? = some (vs[vs.length - 1]'(by omega)) := by simp
      have rr2 := rr.take (q0.1.length - 1)
      have e1 : vs.take (q0.1.length - 1) = vs.dropLast := by rw [List.dropLast_eq_take, hl]
      rw [e1, ← List.dropLast_eq_take] at rr2
      have sl : (Gs.take (q0.1.length - 1)).flatten.Sublist Gs.flatten := flat_take
      obtain ⟨own', a', _⟩ := up _ _ _ rr2 (nd.sublist sl) (fun q hq => .inl (sl.subset hq))
      exact ⟨Or.inl ⟨rfl, _, SqL.of hp'⟩, _, vs, _, rfl, rfl, hp', hy, q0.2 q0.1.dropLast, kp, own', a', q⟩
    · exact q.elim
  | ex c => exact BOk.exx' wk (fun n => n c rfl) at_ q
  | no => exact q
/-- place[n] = e, the items shared things -/
theorem evb_pSet {mp : M (List β × (List β → α))} {m : M β} {mi : M Int} {h : α → M δ} {p2 : Pos} (ok : OkS p sc NN VV GG k g) (wk : Wkx g L (NoEx m ∧ NoEx mp ∧ NoEx mi)) (he : EvE g L e md T m) (hp : EvP g L a i px O d (wL (wV T)) mp) (hi : EvE g L ix md' tInt mi) (hr : ∀ d', EvB g (L.set i (sP px O d')) st D (h d'))
    (hs : swapsWith e (some (.Subscript a ix p2)) pos.line g.X.env = pure false := by rfl)
    (hsub : ∀ v, assign (.Subscript a ix p2) g.X.env v = (do
      let ov ← holding [v] (eval a g.X.env)
      let iv ← holding [v, ov] (eval ix g.X.env)
      standAt p2
      holding [v, ov, iv] (setItem ov iv v)
      release [v, ov, iv] []) := by intro _; rfl)
    (hs' : swapsWithSole [.Subscript a ix p2] e pos.line g.X.env = pure false := by rfl) (hw : swappedStores [.Subscript a ix p2] e g.X.env = pure none := by rfl) (ha1 : (assignEach [.Subscript a ix p2] g.X.env).map (·.2) = [assign (.Subscript a ix p2) g.X.env] := by rfl) :
    EvB g L (.Assign [.Subscript a ix p2] e pos :: st) D (m.bind fun x => mp.bind fun q => mi.bind fun n => (setM q.1 n x).bind fun l => h (q.2 l)) := by
  refine PSs.imp (pss_cons (ps_asg he (pg_sub hp hi set_list hsub) hs' hw ha1) (PSs.ex hr)) fun E σ H ⟨kp, own, at_, q⟩ => ?_
  refine tE_iff.mpr ⟨kp, own, at_, ?_⟩
  cases m with
  | ok x =>
    intro w H0 s0 r0
    have at0 := at_.ext s0
    obtain ⟨Fs, hsl, heo⟩ := at0.sl
    refine ⟨kp, own, Fs, at0, hsl, heo, ?_⟩
    cases mp with
    | ok q0 =>
      intro v2 F2 H1 s1 A1
      have at1 := at0.ext s1
      refine tE_iff.mpr ⟨kp, own, at1, ?_⟩
      cases mi with
      | ok n =>
        intro y H2 s2 r2
        cases (show y = .int n from r2)
        have at2 := at1.ext s2
        have q : BOk g kp E D ((setM q0.1 n x).bind fun l => h (q0.2 l)) := q
        obtain ⟨p', vs, Gs, r1, _, hp', _, rr, nd, _, _, up⟩ := at2.chgL (F1 := []) (A1.ext s2) (Same.refl H2) (fun _ h => nomatch h) (fun _ h => nomatch h)
        subst r1
        unfold setM at q
        split at q
        · rename_i j hj
          have rx : (wV T).rep x w H2 (RD g.fm ([] ++ own) H2) [] := ⟨rfl, T.mono r0 fun a o z => RD.same s2 a o (RD.same s1 a o (RX.sh a o z))⟩
          have hj' := ixN_seq hj
          have nd2 : (Gs.set j []).flatten.Sublist Gs.flatten := set_sub
          obtain ⟨own', a', _⟩ := up _ _ _ (rr.set rx j) (nd.sublist nd2) (fun q hq => .inl (nd2.subset hq))
          exact ⟨_, vs, n, j, rfl, rfl, hp', by rw [← rr.length]; exact hj, q0.2 (q0.1.set j x), kp, own', a', q⟩
        · exact q.elim
      | ex c => exact BOk.exx' wk (fun n => n.2.2 c rfl) at1 q
      | no => exact q
    | ex c => exact BOk.exx' wk (fun n => n.2.1 c rfl) at0 q
    | no => exact q
  | ex c => exact BOk.exx' wk (fun n => n.1 c rfl) at_ q
  | no => exact q
end
end Hd

namespace Hd
open PySem PySem.Spec L2
/-! ### slots of one's own: set, looked at, shared, handed back -/
/-- a thing of one's own is handed back -/
def oOut {ρ : Type} (O : WTy ρ) (r : ρ) : Out := .gen fun fm rt => ∀ v H' F, Same fm.H0 H' → F.Nodup → (∀ a ∈ F, fm.H0 a = none ∧ ¬ fm.z a) → O.rep r v H' (RD fm F H') F → rt v H'
section
variable {p : Pr} {sc : Scope} {NN VV GG : List Str} {k : Nat} {g : G} {L L' : List Slot} {a b c e e' ix : Expr} {es : List Expr} {md md' : Md} {α β γ δ ρ : Type} {S : Ty α} {T : Ty β} {O : WTy α} {O2 : WTy β} {O3 : WTy γ} {A : WAr ρ} {pos pp pos' : Pos} {i j : Nat} {x f : Str} {px : V → Prop} {d : α}
variable {st : List Stmt} {D : δ → Out}
theorem AllS.lenF {H : Hp} {R : Bool → RdR} {L : List Slot} {σ : L2.St} {Fs : List (List Addr)} (h : AllS H R L σ Fs) : Fs.length = L.length := by
  induction h with
  | nil => rfl
  | cons _ _ ih => rw [List.length_cons, List.length_cons, ih]
theorem At.setW {fm : Fm} {kp : RdR} {σ : L2.St} {H H' : Hp} {own F1 : List Addr} {v : V} (h : At fm kp L σ H own) (s : Same H H') (nd1 : F1.Nodup) (n1 : ∀ q ∈ F1, H q = none) (r : O.rep d v H' (RD fm (F1 ++ own) H') F1) : ∃ own', At fm kp (L.set i (sO O d)) (σ.set i (some v)) H' own' := by
  obtain ⟨h1, h2, ⟨Fs, h3, e⟩, h4, h5, h6⟩ := h
  have nd := h4
  rw [e] at nd
  have hk : ∀ q ∈ Fs.flatten, H' q = H q := fun q hq => by
    cases r : cl H q with
    | none => exact absurd r (h3.tb q hq)
    | some o => rw [cl_raw r]; exact s.keep _ _ (cl_raw r) (cl_nt r)
  by_cases hi : i < Fs.length
  · have ei : Fs[i]? = some Fs[i] := List.getElem?_eq_getElem hi
    have nF : ∀ q ∈ (Fs.set i F1).flatten, q ∈ F1 ∨ q ∈ own := fun q hq => by
      rcases flat_set_mem nd ei q hq with hq | ⟨hq, _⟩
      · exact .inl hq
      · exact .inr (by rw [e]; exact hq)
    have dr : ∀ a o, RD fm (F1 ++ own) H' a o → RD fm (Fs.set i F1).flatten H' a o := RD.drop fun q hq => List.mem_append.mpr (nF q hq)
    have keyB : ∀ b a o, RB fm own H b a o → RB fm (Fs.set i F1).flatten H' b a o := fun b a o z => by
      cases b with
      | false => exact dr a o (RD.newer s n1 a o z)
      | true =>
        obtain ⟨z1, z2, z3, z4⟩ := z
        refine ⟨s.cl _ _ z1, fun hq => ?_, z3, z4⟩
        rcases nF a hq with hq | hq
        · rw [cl_none (n1 a hq)] at z1; cases z1
        · exact z2 hq
    refine ⟨_, h1.trans s, fun a z ea => h2 a z (s.free ea), ⟨Fs.set i F1, (h3.st keyB hk).set (s := sO O d) ⟨v, rfl, trivial, O.st r dr fun _ _ => rfl⟩ i, rfl⟩, flat_set_nd nd ei nd1 fun q hq => .inr fun hq' => (h5 q (by rw [e]; exact hq')).1 (n1 q hq), fun q hq => ?_, fun a o z => dr a o (RD.newer s n1 a o (h6 a o z))⟩
    rcases nF q hq with hq | hq
    · exact ⟨(fun z => by obtain ⟨o, ho, _⟩ := O.tb r q hq; rw [ho] at z; cases z), h1.free (n1 q hq), fun z => h2 q z (n1 q hq)⟩
    · exact ⟨fun z => (h5 q hq).1 (s.free z), (h5 q hq).2⟩
  · have hl := h3.len
    have hl2 : Fs.length = L.length := h3.lenF
    have e1 : L.set i (sO O d) = L := List.set_eq_of_length_le (by omega)
    have e2 : σ.set i (some v) = σ := List.set_eq_of_length_le (by omega)
    rw [e1, e2]
    exact ⟨own, At.ext ⟨h1, h2, ⟨Fs, h3, e⟩, h4, h5, h6⟩ s⟩
/-- x = e -/
theorem evb_setN {m : M α} {h : α → M δ} (ok : OkS p sc NN VV GG k g) (hN : NN[i]? = some x) (hV : VV[j]? = some x) (wk : Wkx g L (NoEx m)) (he : EvN g L e O m) (hr : ∀ d, EvB g (L.set i (sO O d)) st D (h d))
    (hs : swapsWith e (some (.Name x pos')) pos.line g.X.env = pure false := by rfl) : EvB g L (.Assign [.Name x pos'] e pos :: st) D (m.bind h) := by
  refine PSs.imp (pss_cons (ps_set (i := i) (by rw [ok.N]; exact ok.nd) (by rw [ok.N]; exact hN) (ok.loc hV) he hs (okS_fn ok)) (PSs.ex hr)) fun E σ H ⟨kp, own, at_, q⟩ => ?_
  refine ⟨kp, own, at_, ?_⟩
  cases m with
  | ok d =>
    intro v F H' s nd n r
    obtain ⟨own', a'⟩ := at_.setW (i := i) s nd n r
    exact ⟨d, kp, own', a', q⟩
  | ex c => exact BOk.exx' wk (fun n => n c rfl) at_ q
  | no => exact q
/-- looked at, as if it were shared -/
theorem At.freezeP {fm : Fm} {kp : RdR} {σ : L2.St} {H : Hp} {own : List Addr} (h : At fm kp L σ H own) (hL : L[i]? = some (sP px O d)) : ∃ own', At fm kp (L.set i (sV false O.T d)) σ H own' ∧ ∀ p ∈ own', p ∈ own := by
  obtain ⟨h1, h2, ⟨Fs, h3, e⟩, h4, h5, h6⟩ := h
  obtain ⟨v0, F, e1, e2, v, rfl, hx, r⟩ := h3.get hL
  have nd := h4
  rw [e] at nd
  have nF : ∀ q ∈ (Fs.set i []).flatten, q ∈ Fs.flatten ∧ q ∉ F := fun q hq => by
    rcases flat_set_mem nd e2 q hq with hq | hq
    · exact nomatch hq
    · exact hq
  have kk : ∀ q ∈ (Fs.set i []).flatten, q ∈ own := fun q hq => by rw [e]; exact (nF q hq).1
  have hk : ∀ q ∈ Fs.flatten, q ∉ F → H q = H q := fun _ _ _ => rfl
  refine ⟨_, ⟨h1, h2, ⟨Fs.set i [], h3.chg nd e2 e1 (RB.own kk) hk (s' := sV false O.T d) ⟨rfl, v, rfl, O.fz r (RB.own kk false) fun q hq o ho => ?_⟩, rfl⟩, flat_set_nd nd e2 List.nodup_nil (fun _ h => nomatch h), fun q hq => h5 q (kk q hq), fun a o z => RX.own (md := .sh) (H := H) kk a o (h6 a o z)⟩, kk⟩
  obtain ⟨o', ho', go⟩ := O.tb r q hq
  rw [ho] at ho'; cases ho'
  exact .inl ⟨.inl (cl_of ho (gd_nt go)), fun hq' => (nF q hq').2 hq, (h5 q (by rw [e]; exact flat_mem e2 q hq)).2.2⟩
theorem evb_freezeP {m : M δ} (hL : L[i]? = some (sP px O d)) (hr : EvB g (L.set i (sV false O.T d)) st D m) : EvB g L st D m := PSs.imp hr fun E σ H ⟨kp, own, at_, q⟩ => by
  obtain ⟨own', a', _⟩ := at_.freezeP hL
  exact ⟨kp, own', a', q⟩
theorem ev_borrowP {m : M β} (hf : Flat T ∨ md = .fx) (hL : L[i]? = some (sP px O d)) (h : EvE g (L.set i (sV false O.T d)) e md T m) : EvE g L e md T m := PE.imp h fun σ H Q q => by
  obtain ⟨kp, own, at_, q⟩ := tE_iff.mp q
  obtain ⟨own', a', sub⟩ := at_.freezeP hL
  refine tE_iff.mpr ⟨kp, own', a', ?_⟩
  cases m with
  | ok d =>
    refine fun v H' s r => q v H' s ?_
    rcases hf with hf | rfl
    · exact hf r
    · exact T.mono r fun a o z => ⟨z.1, fun y => (at_.new a y).1 z.2.2.2.2, z.2.2⟩
  | ex c => exact q
  | no => exact q
theorem evt_borrowP {m : M Bool} (hL : L[i]? = some (sP px O d)) (h : EvT g (L.set i (sV false O.T d)) e m) : EvT g L e m := PT.imp h fun σ H Q q => by
  obtain ⟨kp, own, at_, q⟩ := tT_iff.mp q
  obtain ⟨own', a', sub⟩ := at_.freezeP hL
  refine tT_iff.mpr ⟨kp, own', a', ?_⟩
  cases m <;> exact q
theorem evn_borrowP {m : M β} (hf : FlatW O2) (hL : L[i]? = some (sP px O d)) (h : EvN g (L.set i (sV false O.T d)) e O2 m) : EvN g L e O2 m := PE.imp h fun σ H Q ⟨kp, own, at_, q⟩ => by
  obtain ⟨own', a', sub⟩ := at_.freezeP hL
  refine ⟨kp, own', a', ?_⟩
  cases m with
  | ok d => exact fun v F H' s nd n r => q v F H' s nd n (hf r)
  | ex c => exact q
  | no => exact q
theorem evl_borrowP {m : M (List β)} (hf : Flat T) (hL : L[i]? = some (sP px O d)) (h : EvL g (L.set i (sV false O.T d)) e md T m) : EvL g L e md T m := PE.imp h fun σ H Q q => by
  obtain ⟨kp, own, at_, q⟩ := tL_iff.mp q
  obtain ⟨own', a', sub⟩ := at_.freezeP hL
  refine tL_iff.mpr ⟨kp, own', a', ?_⟩
  cases m with
  | ok d => exact fun p vs H' s n h' r => q p vs H' s n h' (r.flat hf)
  | ex c => exact q
  | no => exact q
/-- return e -/
theorem evb_retW {m : M α} {mk : α → δ} (wk : Wkx g L (NoEx m)) (hD : ∀ d, D (mk d) = oOut O d) (he : EvN g L e O m) : EvB g L (.Return (some e) pos :: st) D (m.bind fun d => .ok (mk d)) := by
  refine PSs.imp (PSs.head (ps_ret he)) fun E σ H ⟨kp, own, at_, q⟩ => ?_
  refine ⟨kp, own, at_, ?_⟩
  cases m with
  | ok d =>
    have q : OutOk g.fm kp E (D (mk d)) := q
    rw [hD] at q
    exact fun v F H' s nd n r => q v H' F (at_.same.trans s) nd (fun a ha => ⟨at_.same.free (n a ha), fun z => at_.zin a z (n a ha)⟩) (O.st r (RD.drop fun p hp => List.mem_append_left _ hp) fun _ _ => rfl)
  | ex c => exact BOk.exx' wk (fun n => n c rfl) at_ q
  | no => exact q
/-- return x, which is one's own -/
theorem evb_retWn {D : δ → Out} {d' : δ} {npos : Pos} (ok : Ok p sc NN VV GG k g) (hN : NN[i]? = some x) (hV : VV[j]? = some x) (hL : L[i]? = some (sP px O d)) (hD : D d' = oOut O d) :
    EvB g L (.Return (some (.Name x npos)) pos :: st) D (.ok d') := by
  obtain ⟨hv, ho⟩ := ok.vis hV
  obtain ⟨h1, h2, _⟩ := okName_d ho
  refine PSs.imp (PSs.head (ps_ret (pe_var (i := i) (by rw [ok.N]; exact hN) hv h1 h2))) fun E σ H ⟨kp, own, at_, q⟩ => ?_
  have q : OutOk g.fm kp E (D d') := q
  rw [hD] at q
  obtain ⟨Fs, hs, e⟩ := at_.sl
  obtain ⟨v0, F, e1, e2, v, rfl, hx, r⟩ := hs.get hL
  have nd := at_.nd
  rw [e] at nd
  have sub : ∀ q ∈ F, q ∈ own := fun q hq => by rw [e]; exact flat_mem e2 q hq
  exact ⟨v, e1, q v H F at_.same (flat_nd nd e2) (fun a ha => ⟨(at_.new a (sub a ha)).2.1, (at_.new a (sub a ha)).2.2⟩) (O.st r (fun a o z => RD.drop sub a o z) fun _ _ => rfl)⟩
theorem fn_rtN {x qual : Str} {st : Stmt} {f : Addr} {fd : FuncData} {ps : List Str} {δ ρ : Type} {A : Ar δ} {O : WTy ρ} {L0 : δ → List Slot} {n m : Nat} {F : δ → M ρ} (hF : FunD p.K x qual (defArgs st) (defBody st) (defScope st) [] [] f fd) (hS : Sc st NN VV ps GG) (ha : ArS A n L0) (hn : ps.length = n) (hm : n + m = NN.length)
    (hb : Body p st NN VV GG k (fun d => L0 d ++ List.replicate m sAny) (fun r => oOut O r) F) : FnOk p.P p.w p.K p.mg p.base (L2.CX p.P p.w) (k + 1) f fd ps (spM p A (fun r => oOut O r) F) :=
  fn_gen (D' := fun r => oOut O r) hF hS ha hn hm (fun r fm Q h => h) hb
theorem evn_call {x : Str} {j kf : Nat} {ps : List Str} {δ ρ : Type} {A : Ar δ} {O : WTy ρ} {F : δ → M ρ} {m : M δ} {pp : Pos} (ok : Ok p sc NN VV GG k g) (hf : Fn p kf x ps (spM p A (fun r => oOut O r) F)) (hk : kf ≤ k) (hG : GG[j]? = some x)
    (ha : EvA g L (e :: es) md A m) (he : starEach (e :: es) g.X.env = (false, eval e g.X.env) :: starEach es g.X.env := by rfl) (hpl : (backTo pos (starEach es g.X.env)).any (·.1) = false := by rfl) :
    EvN g L (.Call (.Name x pp) (e :: es) [] pos) O (m.bind F) := by
  obtain ⟨f, fd, hF, hm, hkp, hbd⟩ := hf.ex
  obtain ⟨hg, ho⟩ := ok.gl hG
  rw [← ok.prog, ← ok.w, ← ok.base] at hF
  have hF' : FnOk g.X.prog g.X.w g.X.K g.X.mg g.X.base (L2.CX g.X.prog g.X.w) kf f fd ps (spM p A (fun r => oOut O r) F) := by rw [ok.K, ok.mg]; exact hF
  refine PE.imp (pe_callS hF' (ok.room.mono hk) hg (by rw [ok.mg]; exact hm) (by rw [ok.K]; exact hkp) (by rw [ok.K]; exact hbd) (tk_at ok) ha (okName_d ho).1 he hpl) fun σ H Q ⟨kp, own, at_, q⟩ => ?_
  refine subA finN (Same.refl H) at_ q fun d vs H1 s1 r1 at1 q1 => ⟨d, fun a => a ∈ own ∨ g.fm.z a, ⟨fun a z => ?_, fun P e => at1.same.tab P (ok.tab P e)⟩, ?_, ?_⟩
  · rcases z with z | z
    · exact (at1.new a z).1
    · exact at1.zin a z
  · rw [← ok.fmK]; exact args_in r1
  · rw [← ok.fmK]
    cases hd : F d with
    | ok r =>
      rw [hd] at q1
      refine fun v H' F1 s nd n r => q1 v F1 H' (s1.trans s) nd (fun a ha => s1.free (n a ha).1) (O.st r (fun a o z => ?_) fun _ _ => rfl)
      exact z.imp (fun ⟨z1, z2, z3⟩ => ⟨z1, fun hq => (List.mem_append.mp hq).elim z2 fun hq => z3 (.inl hq), fun hq => z3 (.inr hq)⟩) id
    | ex c =>
      rw [hd] at q1
      exact fun H' s => ⟨c, rfl, rfl, q1 H' (s1.trans s)⟩
    | no => rw [hd] at q1; exact q1
end
end Hd

namespace Hd
open PySem PySem.Spec L2
/-! ### defs that change their arguments -/
/-- arguments: f: the slots they begin with; fo: the slots they end with; pj: what is owned of them; up: what they have become -/
inductive ArX : {δ ω : Type} → WAr δ → Nat → (δ → List V → List Slot) → (ω → List V → List Slot) → (δ → ω) → (δ → ω → δ) → Prop where
  | nil : ArX (ω := Unit) waNil 0 (fun _ _ => []) (fun _ _ => []) (fun _ => ()) (fun d _ => d)
  | sh {α δ ω : Type} {T : Ty α} {A : WAr δ} {n : Nat} {f : δ → List V → List Slot} {fo : ω → List V → List Slot} {pj : δ → ω} {up : δ → ω → δ} : ArX A n f fo pj up →
      ArX (ω := ω) (waCons (wV T) A) (n + 1) (fun d vs => sV false T d.1 :: f d.2 vs.tail) (fun w vs => sAny :: fo w vs.tail) (fun d => pj d.2) (fun d w => (d.1, up d.2 w))
  | ow {α δ ω : Type} {O : WTy α} {A : WAr δ} {n : Nat} {f : δ → List V → List Slot} {fo : ω → List V → List Slot} {pj : δ → ω} {up : δ → ω → δ} : ArX A n f fo pj up →
      ArX (ω := α × ω) (waCons O A) (n + 1) (fun d vs => sA (vs.headD .non) O d.1 :: f d.2 vs.tail) (fun w vs => sA (vs.headD .non) O w.1 :: fo w.2 vs.tail) (fun d => (d.1, pj d.2)) (fun d w => (w.1, up d.2 w.2))
section
variable {δ ω : Type} {A : WAr δ} {n : Nat} {f : δ → List V → List Slot} {fo : ω → List V → List Slot} {pj : δ → ω} {up : δ → ω → δ} {H H1 : Hp} {R : Bool → RdR} {R1 : RdR}
theorem ArX.all (h : ArX A n f fo pj up) : ∀ {d : δ} {vs : List V} {F : List Addr}, A.rep d vs H (R false) F → vs.length = n ∧ ∃ Fs, AllS H R (f d vs) (vs.map some) Fs ∧ Fs.flatten = F := by
  induction h with
  | nil => rintro d vs F ⟨e1, e2⟩; subst e1; subst e2; exact ⟨rfl, [], .nil, rfl⟩
  | sh _ ih =>
    rintro d vs F ⟨v, r, F1, F2, e1, e2, ⟨e3, h1⟩, h2⟩
    subst e1; subst e2; subst e3
    obtain ⟨hl, Fs, h3, h4⟩ := ih h2
    exact ⟨by simp [hl], [] :: Fs, .cons ⟨rfl, v, rfl, h1⟩ h3, by simp [h4]⟩
  | ow _ ih =>
    rintro d vs F ⟨v, r, F1, F2, e1, e2, h1, h2⟩
    subst e1; subst e2
    obtain ⟨hl, Fs, h3, h4⟩ := ih h2
    exact ⟨by simp [hl], F1 :: Fs, .cons ⟨v, rfl, rfl, h1⟩ h3, by simp [h4]⟩
theorem ArX.back (h : ArX A n f fo pj up) (s : ∀ a o, R1 a o → R false a o) {L : List Slot} (hL : ∀ {σ : L2.St} {Fs : List (List Addr)}, AllS H R L σ Fs → Fs.flatten = []) : ∀ {d : δ} {w : ω} {vs : List V} {F1 : List Addr} {σ : L2.St} {Fs : List (List Addr)}, A.rep d vs H1 R1 F1 → AllS H R (fo w vs ++ L) σ Fs → A.rep (up d w) vs H (R false) Fs.flatten := by
  induction h with
  | nil => rintro d w vs F1 σ Fs ⟨e1, e2⟩ ha; subst e1; exact ⟨rfl, hL ha⟩
  | sh _ ih =>
    rintro d w vs F1 σ Fs ⟨v, r, G1, G2, e1, e2, ⟨e3, h1⟩, h2⟩ ha
    subst e1
    cases ha with
    | @cons _ _ _ _ _ Fs' q t =>
      cases (show _ = [] from q)
      exact ⟨v, r, [], Fs'.flatten, rfl, by simp, ⟨rfl, Ty.mono _ h1 s⟩, ih h2 t⟩
  | ow _ ih =>
    rintro d w vs F1 σ Fs ⟨v, r, G1, G2, e1, e2, h1, h2⟩ ha
    subst e1
    cases ha with
    | @cons _ _ _ _ F0 Fs' q t =>
      obtain ⟨x, _, e6, r5⟩ := q
      have e6 : x = v := e6
      subst e6
      exact ⟨x, r, F0, Fs'.flatten, rfl, by simp, r5, ih h2 t⟩
theorem anys_flat : ∀ {m : Nat} {H : Hp} {R : Bool → RdR} {σ : L2.St} {Fs : List (List Addr)}, AllS H R (List.replicate m sAny) σ Fs → Fs.flatten = []
  | 0, _, _, _, _, h => by cases h; rfl
  | m + 1, _, _, _, _, h => by
    rw [List.replicate_succ] at h
    cases h with
    | cons q t => cases (show _ = [] from q); simpa using anys_flat t
theorem ArX.pu (h : ArX A n f fo pj up) : ∀ d, up d (pj d) = d := by
  induction h with
  | nil => exact fun _ => rfl
  | sh _ ih => intro d; show (d.1, _) = d; rw [ih]
  | ow _ ih => intro d; show (d.1, _) = d; rw [ih]
end
/-- what such a def promises: its answer, and what has become of what it may change -/
def spX (p : Pr) {δ ω ρ : Type} (A : WAr δ) (up : δ → ω → δ) (O : WTy ρ) (kx : Bool) (F : δ → M (ρ × ω)) : Sp := fun vs H Q E => ∃ d z Fa, ((∀ a, z a → H a ≠ none) ∧ ∀ P, p.T = some P → LamX.TabS H P lamQ) ∧ Fa.Nodup ∧ (∀ a ∈ Fa, ¬ z a) ∧ A.rep d vs H (RD ⟨p.K, hm H Fa, z⟩ Fa H) Fa ∧
  match F d with
  | .ok r => ∀ v H' Fr Fa', Same (hm H Fa) H' → (Fr ++ Fa').Nodup → (∀ a ∈ Fr ++ Fa', (a ∈ Fa ∨ H a = none) ∧ H' a ≠ none ∧ ¬ z a) → O.rep r.1 v H' (RD ⟨p.K, hm H Fa, z⟩ (Fr ++ Fa') H') Fr → A.rep (up d r.2) vs H' (RD ⟨p.K, hm H Fa, z⟩ (Fr ++ Fa') H') Fa' → Q v H'
  | .ex c => ∀ H', Same (hm H Fa) H' → (kx = true → ∃ Fa', Fa'.Nodup ∧ (∀ a ∈ Fa', (a ∈ Fa ∨ H a = none) ∧ H' a ≠ none ∧ ¬ z a) ∧ A.rep d vs H' (RD ⟨p.K, hm H Fa, z⟩ Fa' H') Fa') → E (.ref (p.C c)) none H'
  | .no => False
theorem hm_same {H : Hp} {F : List Addr} : Same (hm H F) H := by
  refine ⟨fun a o e n => ?_, fun a e => ?_, fun P t => ?_⟩
  · by_cases z : a ∈ F
    · rw [hm_in z] at e; cases e
    · rwa [hm_out z] at e
  · unfold hm; split
    · rfl
    · exact e
  · obtain ⟨ps, t1, t2, t3⟩ := t
    have up : ∀ {a : Addr} {o : HO}, hm H F a = some o → H a = some o := fun {a o} e => by
      by_cases z : a ∈ F
      · rw [hm_in z] at e; cases e
      · rwa [hm_out z] at e
    exact ⟨ps, up t1, t2, fun pos cv hc => let ⟨c, c1, c2⟩ := t3 pos cv hc; ⟨c, c1, up c2⟩⟩
theorem hm_tab {H : Hp} {F : List Addr} (hg : ∀ a ∈ F, ∃ o, H a = some o ∧ gd o = true) {P : Addr} {q : Str} (t : LamX.TabS H P q) : LamX.TabS (hm H F) P q := by
  obtain ⟨ps, t1, t2, t3⟩ := t
  have ng : ∀ a o, H a = some o → gd o = false → a ∉ F := fun a o ea ga q => by
    obtain ⟨o', ho', go'⟩ := hg a q
    rw [ea] at ho'; cases ho'
    rw [ga] at go'; cases go'
  refine ⟨ps, by rw [hm_out (ng P _ t1 rfl)]; exact t1, t2, fun pos cv hc => ?_⟩
  obtain ⟨c, c1, c2⟩ := t3 pos cv hc
  exact ⟨c, c1, by rw [hm_out (ng c _ c2 rfl)]; exact c2⟩
/-- how such a def's body ends -/
def xOut {ω ρ : Type} (fo : ω → List Slot) (O : WTy ρ) (r : ρ × ω) : Out := .gen fun fm rt => ∀ v σ H H' own Fr, At fm (fun _ _ => False) (fo r.2) σ H own → Same H H' → Fr.Nodup → (∀ a ∈ Fr, H a = none) → O.rep r.1 v H' (RD fm (Fr ++ own) H') Fr → rt v H'
section
variable {p : Pr} {sc : Scope} {NN VV GG : List Str} {k : Nat} {g : G} {L L' : List Slot} {a b c e e' ix : Expr} {es : List Expr} {md md' : Md} {α β γ δ ρ ω τ : Type} {S : Ty α} {T : Ty β} {O : WTy α} {O2 : WTy β} {O3 : WTy γ} {A : WAr δ} {pos pp pos' : Pos} {i j : Nat} {x : Str} {px : V → Prop} {d : α}
theorem fn_X {x qual : Str} {st : Stmt} {f : Addr} {fd : FuncData} {ps : List Str} {L0 : δ → List V → List Slot} {fo : ω → List V → List Slot} {pj : δ → ω} {up : δ → ω → δ} {n m : Nat} {O : WTy ρ} {F : δ → M (ρ × ω)} {kx : Bool} {D' : List V → ρ × ω → Out} (hF : FunD p.K x qual (defArgs st) (defBody st) (defScope st) [] [] f fd) (hS : Sc st NN VV ps GG) (ha : ArX A n L0 fo pj up) (hn : ps.length = n) (hm' : n + m = NN.length)
    (hD : ∀ (r : ρ × ω) (vs : List V) (fm : Fm) (Q : VK), OutOk fm (fun _ _ => False) { nx := fun _ H' => Q .non H', rt := Q } (xOut (fun w => fo w vs ++ List.replicate m sAny) O r) → OutOk fm (fun _ _ => False) { nx := fun _ H' => Q .non H', rt := Q } (D' vs r))
    (hb : ∀ vs g, OkS p (defScope st) NN VV GG k g → ∀ d, g.LX = (if kx = true then fo (pj d) vs ++ List.replicate m sAny else List.replicate NN.length sAny) → EvB g (L0 d vs ++ List.replicate m sAny) (defBody st) (D' vs) (F d)) :
    FnOk p.P p.w p.K p.mg p.base (L2.CX p.P p.w) (k + 1) f fd ps (spX p A up O kx F) := by
  refine hF.ok hS.S (fun vs H Q E h => ?_) (fun cdv A' outer s H vs Q E hr h => ?_)
  · obtain ⟨d, z, Fa, _, _, _, hrep, _⟩ := h
    exact (ha.all (R := fun _ => RD ⟨p.K, hm H Fa, z⟩ Fa H) hrep).1.trans hn.symm
  · obtain ⟨d, z, Fa, ⟨hz, htab⟩, hnd, hnz, hrep, q⟩ := h
    obtain ⟨hlen, Fs, hall, hfl⟩ := ha.all (R := RB ⟨p.K, hm H Fa, z⟩ Fa H) hrep
    have hg := A.tb hrep
    let X : Cx := cxOf (L2.CX p.P p.w) p.P p.w p.K p.mg p.base NN qual (defScope st) f cdv A' outer s H E
    let g : G := ⟨X, ⟨p.K, hm H Fa, z⟩, fun c _ H' => E (.ref (p.C c)) none H', if kx = true then fo (pj d) vs ++ List.replicate m sAny else List.replicate NN.length sAny⟩
    have hN : ∀ {j : Nat} {y : Str}, VV[j]? = some y → y ∈ VV := fun e => List.mem_of_getElem? e
    have ok : OkS p (defScope st) NN VV GG k g :=
      { prog := rfl, w := rfl, K := rfl, mg := rfl, base := rfl, N := rfl, fmK := rfl, tab := fun P e => hm_tab hg (htab P e), room := hr, nd := hS.S.nd
        vis := fun e => let h := seenB_v (List.all_eq_true.mp hS.vis _ (hN e)); ⟨h.2, h.1⟩
        gl := fun e => let h := glB_v (List.all_eq_true.mp hS.gl _ (List.mem_of_getElem? e)); ⟨h.2, h.1⟩
        tk := by
          refine Takes.imp (takes_of (X := X) rfl rfl rfl (E := E) rfl) ?_
          intro cls d' σ2 H2 h2
          obtain ⟨c, e1, e2, h3⟩ := h2
          rw [e1, e2]; exact h3
        calm := rfl
        blk := fun h => blkOk_by h
        loc := fun e => locB_v (List.all_eq_true.mp hS.loc _ (hN e))
        fnT := fun _ => rfl
        psO := passes_of (X := X) rfl
        scp := rfl
        stk := rfl
        frm := rfl
        exn := rfl }
    have fin : ∀ (w : ω) (σ' : L2.St) (H2 H' : Hp) (own : List Addr), At ⟨p.K, hm H Fa, z⟩ (fun _ _ => False) (fo w vs ++ List.replicate m sAny) σ' H2 own → Same H2 H' → ∀ Fr : List Addr, Fr.Nodup → (∀ a ∈ Fr, H2 a = none ∧ H' a ≠ none) → (Fr ++ own).Nodup ∧ (∀ a ∈ Fr ++ own, (a ∈ Fa ∨ H a = none) ∧ H' a ≠ none ∧ ¬ z a) ∧ A.rep (up d w) vs H' (RD ⟨p.K, hm H Fa, z⟩ (Fr ++ own) H') own := by
      intro w σ' H2 H' own at_ s2 Fr nd hFr
      obtain ⟨Fs', h3, e3⟩ := at_.sl
      have rd1 : ∀ a o, RD ⟨p.K, hm H Fa, z⟩ Fa H a o → RD ⟨p.K, hm H Fa, z⟩ own H2 a o := fun a o y => by
        rcases y with ⟨y1, y2, y3⟩ | y
        · have h1 : Rd (cl (hm H Fa)) a o := by
            have key : ∀ o', cl H a = some o' → cl (hm H Fa) a = some o' := fun o' ho => by
              unfold cl at ho ⊢; rw [hm_out y2]; exact ho
            exact y1.imp (key _) fun ⟨f, h⟩ => ⟨f, key _ h⟩
          have ne : hm H Fa a ≠ none := fun q => by rcases h1 with h1 | ⟨_, h1⟩ <;> rw [cl_none q] at h1 <;> cases h1
          exact .inl ⟨Rd.same at_.same h1, fun hq => ne (at_.new a hq).2.1, y3⟩
        · exact .inr y
      have r4 := ha.back (R := RB ⟨p.K, hm H Fa, z⟩ own H2) rd1 (fun h => anys_flat h) hrep h3
      rw [← e3] at r4
      have tb2 := A.tb r4
      refine ⟨List.nodup_append.mpr ⟨nd, at_.nd, fun a ha' b hb' e => ?_⟩, fun a ha' => ?_, A.st r4 (RD.newer s2 fun q hq => (hFr q hq).1) fun q hq => ?_⟩
      · subst e
        exact (at_.new a hb').1 (hFr a ha').1
      · have h0 : hm H Fa a = none ∧ H' a ≠ none ∧ ¬ z a := by
          rcases List.mem_append.mp ha' with ha' | ha'
          · exact ⟨at_.same.free (hFr a ha').1, (hFr a ha').2, fun y => at_.zin a y (hFr a ha').1⟩
          · exact ⟨(at_.new a ha').2.1, fun y => (at_.new a ha').1 (s2.free y), (at_.new a ha').2.2⟩
        refine ⟨?_, h0.2⟩
        by_cases y : a ∈ Fa
        · exact .inl y
        · exact .inr (by have := h0.1; rwa [hm_out y] at this)
      · obtain ⟨o, ho, go⟩ := tb2 q hq
        rw [ho]; exact s2.keep _ _ ho (gd_nt go)
    refine ⟨_, hb vs g ok d rfl, (fun _ _ => False), Fa, ?_, ?_⟩
    · refine ⟨hm_same, hz, ⟨Fs ++ List.replicate m [], ?_, by simp [flat_rep, hfl]⟩, hnd, fun a ha' => ⟨fun e => ?_, hm_in ha', hnz a ha'⟩, fun _ _ h => h.elim⟩
      · have e : L2.start NN vs = vs.map some ++ List.replicate m none := by
          unfold L2.start
          rw [show NN.length - vs.length = m by omega]
        rw [e]
        exact hall.append (AllS.anys m)
      · obtain ⟨o, ho, _⟩ := hg a ha'
        rw [ho] at e; cases e
    · cases hF' : F d with
      | ok r =>
        rw [hF'] at q
        refine hD r vs _ Q ?_
        intro v σ' H2 H' own Fr at_ s2 nd hFr r1
        obtain ⟨h1, h2, h3⟩ := fin r.2 σ' H2 H' own at_ s2 Fr nd (fun a ha' => ⟨hFr a ha', by obtain ⟨o, ho, _⟩ := O.tb r1 a ha'; rw [ho]; exact fun z => nomatch z⟩)
        exact q v H' Fr own (at_.same.trans s2) h1 h2 r1 h3
      | ex c =>
        rw [hF'] at q
        intro σ' H' own a'
        refine q H' a'.same fun hk => ?_
        have a2 : At ⟨p.K, hm H Fa, z⟩ (fun _ _ => False) (fo (pj d) vs ++ List.replicate m sAny) σ' H' own := by
          have : g.LX = fo (pj d) vs ++ List.replicate m sAny := if_pos hk
          rw [← this]; exact a'
        obtain ⟨h1, h2, h3⟩ := fin (pj d) σ' H' H' own a2 (Same.refl _) [] List.nodup_nil (fun _ h => nomatch h)
        rw [ha.pu] at h3
        exact ⟨own, h1, h2, h3⟩
      | no => rw [hF'] at q; exact q
end
end Hd

namespace Hd
open PySem PySem.Spec L2
/-! ### their callers -/
/-- the slots, some of them set -/
def setAll (L : List Slot) : List (Nat × Slot) → List Slot
  | [] => L
  | c :: cs => (setAll L cs).set c.1 c.2
/-- pointwise, but for some places -/
structure Pw (H : Hp) (R : Bool → RdR) (L : List Slot) (σ : L2.St) (Fs : List (List Addr)) (out : Nat → Prop) : Prop where
  l1 : σ.length = L.length
  l2 : Fs.length = L.length
  ok : ∀ j, ¬ out j → ∀ s v F, L[j]? = some s → σ[j]? = some v → Fs[j]? = some F → s.ok v H R F
theorem AllS.pw {H : Hp} {R : Bool → RdR} {L : List Slot} {σ : L2.St} {Fs : List (List Addr)} (h : AllS H R L σ Fs) : Pw H R L σ Fs (fun _ => False) := by
  refine ⟨h.len, h.lenF, fun j _ s v F e1 e2 e3 => ?_⟩
  obtain ⟨v', F', e4, e5, r⟩ := h.get e1
  rw [e2] at e4; cases e4
  rw [e3] at e5; cases e5
  exact r
theorem Pw.all {H : Hp} {R : Bool → RdR} : ∀ {L : List Slot} {σ : L2.St} {Fs : List (List Addr)}, Pw H R L σ Fs (fun _ => False) → AllS H R L σ Fs
  | [], σ, Fs, h => by
    have e1 : σ = [] := List.length_eq_zero_iff.mp h.l1
    have e2 : Fs = [] := List.length_eq_zero_iff.mp h.l2
    subst e1; subst e2; exact .nil
  | s :: L, [], Fs, h => by have := h.l1; simp at this
  | s :: L, v :: σ, [], h => by have := h.l2; simp at this
  | s :: L, v :: σ, F :: Fs, h => .cons (h.ok 0 (fun z => z) s v F rfl rfl rfl) (Pw.all ⟨by have := h.l1; simpa using this, by have := h.l2; simpa using this, fun j _ s' v' F' e1 e2 e3 => h.ok (j + 1) (fun z => z) s' v' F' (by simpa using e1) (by simpa using e2) (by simpa using e3)⟩)
/-- arguments, some of them places in slots of their own -/
inductive ArgsAt (L : List Slot) (σ : L2.St) (Fs : List (List Addr)) (H : Hp) (R : RdR) : {δ ω τ : Type} → WAr δ → (δ → ω → δ) → δ → List V → List Addr → List Nat → (ω → τ) → (τ → List (Nat × Slot)) → Prop where
  | nil : ArgsAt L σ Fs H R (ω := Unit) (τ := Unit) waNil (fun d _ => d) () [] [] [] (fun _ => ()) (fun _ => [])
  | sh {α δ ω τ : Type} {T : Ty α} {A : WAr δ} {up : δ → ω → δ} {d : α} {ds : δ} {v : V} {vs : List V} {Fa : List Addr} {is : List Nat} {pu : ω → τ} {mk : τ → List (Nat × Slot)} : T.rep d v R → ArgsAt L σ Fs H R A up ds vs Fa is pu mk →
      ArgsAt L σ Fs H R (waCons (wV T) A) (fun d w => (d.1, up d.2 w)) (d, ds) (v :: vs) Fa is pu mk
  | ow {α β δ ω τ : Type} {O : WTy α} {O2 : WTy β} {A : WAr δ} {up : δ → ω → δ} {d : α} {d2 : β} {ds : δ} {v v2 : V} {vs : List V} {F F2 Fa : List Addr} {is : List Nat} {i : Nat} {put : β → α} {px : V → Prop} {pu : ω → τ} {mk : τ → List (Nat × Slot)} :
      L[i]? = some (sP px O d) → σ[i]? = some (some v) → px v → Fs[i]? = some F → Plc H R O v F O2 d2 put v2 F2 → i ∉ is → ArgsAt L σ Fs H R A up ds vs Fa is pu mk →
      ArgsAt L σ Fs H R (ω := β × ω) (τ := α × τ) (waCons O2 A) (fun d w => (w.1, up d.2 w.2)) (d2, ds) (v2 :: vs) (F2 ++ Fa) (i :: is) (fun w => (put w.1, pu w.2)) (fun t => (i, sP px O t.1) :: mk t.2)
section
variable {L : List Slot} {σ : L2.St} {Fs : List (List Addr)} {H H' : Hp} {R R' : RdR} {δ ω τ : Type} {A : WAr δ} {up : δ → ω → δ} {ds : δ} {vs : List V} {Fa : List Addr} {is : List Nat} {pu : ω → τ} {mk : τ → List (Nat × Slot)}
theorem ArgsAt.ext (h : ArgsAt L σ Fs H R A up ds vs Fa is pu mk) (s : ∀ a o, R a o → R' a o) (k : ∀ p ∈ Fs.flatten, H' p = H p) : ArgsAt L σ Fs H' R' A up ds vs Fa is pu mk := by
  induction h with
  | nil => exact .nil
  | sh r _ ih => exact .sh (Ty.mono _ r s) ih
  | ow h1 h2 h3 h4 pl hn _ ih => exact .ow h1 h2 h3 h4 (pl.ext s fun p hp => k p (flat_mem h4 p hp)) hn ih
/-- the roots: what they hold of the arguments -/
theorem ArgsAt.sub (h : ArgsAt L σ Fs H R A up ds vs Fa is pu mk) : ∀ q ∈ Fa, ∃ i ∈ is, ∃ F, Fs[i]? = some F ∧ q ∈ F := by
  induction h with
  | nil => exact fun q hq => nomatch hq
  | sh _ _ ih => exact ih
  | ow h1 h2 h3 h4 pl hn _ ih =>
    intro q hq
    rcases List.mem_append.mp hq with hq | hq
    · exact ⟨_, List.mem_cons_self, _, h4, pl.sub q hq⟩
    · obtain ⟨i, hi, F, e, hF⟩ := ih q hq
      exact ⟨i, List.mem_cons_of_mem _ hi, F, e, hF⟩
theorem ArgsAt.subF (h : ArgsAt L σ Fs H R A up ds vs Fa is pu mk) : ∀ q ∈ Fa, q ∈ Fs.flatten := fun q hq => by
  obtain ⟨i, _, F, e, hF⟩ := h.sub q hq
  exact flat_mem e q hF
theorem flat_two {i j : Nat} {F G : List Addr} (nd : Fs.flatten.Nodup) (h1 : Fs[i]? = some F) (h2 : Fs[j]? = some G) {q : Addr} (hF : q ∈ F) (hG : q ∈ G) : i = j := by
  induction Fs generalizing i j with
  | nil => simp at h1
  | cons E Fs ih =>
    rw [List.flatten_cons, List.nodup_append] at nd
    cases i with
    | zero =>
      cases j with
      | zero => rfl
      | succ j =>
        simp at h1; subst h1
        exact absurd rfl (nd.2.2 q hF q (flat_mem (by simpa using h2) q hG))
    | succ i =>
      cases j with
      | zero =>
        simp at h2; subst h2
        exact absurd rfl (nd.2.2 q hG q (flat_mem (by simpa using h1) q hF))
      | succ j =>
        have := ih nd.2.1 (i := i) (j := j) (by simpa using h1) (by simpa using h2)
        rw [this]
theorem ArgsAt.rep (h : ArgsAt L σ Fs H R A up ds vs Fa is pu mk) (nd : Fs.flatten.Nodup) : A.rep ds vs H R Fa ∧ Fa.Nodup := by
  induction h with
  | nil => exact ⟨⟨rfl, rfl⟩, List.nodup_nil⟩
  | sh r _ ih => exact ⟨⟨_, _, [], _, rfl, rfl, ⟨rfl, r⟩, ih.1⟩, ih.2⟩
  | ow h1 h2 h3 h4 pl hn t ih =>
    refine ⟨⟨_, _, _, _, rfl, rfl, pl.rep, ih.1⟩, List.nodup_append.mpr ⟨pl.nd, ih.2, fun a ha b hb e => ?_⟩⟩
    subst e
    obtain ⟨i', hi', F', e', hF'⟩ := t.sub a hb
    have := flat_two nd h4 e' (pl.sub a ha) hF'
    subst this
    exact hn hi'
/-- the roots hold again -/
theorem ArgsAt.done (h : ArgsAt L σ Fs H R A up ds vs Fa is pu mk) {FA : List Addr} {RR : Bool → RdR} (hFA : ∀ q ∈ Fa, q ∈ FA) (hR : ∀ a o, R a o → RR false a o) (hk : ∀ p ∈ Fs.flatten, p ∉ FA → H' p = H p) (nd : Fs.flatten.Nodup) {Gs : List (List Addr)} (eG : Gs = Fs.map (List.filter fun q => decide (q ∉ FA))) (ndG : Gs.flatten.Nodup)
    (hroot : ∀ i ∈ is, ∀ F, Fs[i]? = some F → ∀ q ∈ F, q ∈ FA → q ∈ Fa) {w : ω} : ∀ {Fa' : List Addr}, A.rep (up ds w) vs H' (RR false) Fa' → Fa'.Nodup → (∀ q ∈ Fa', q ∈ FA ∨ q ∉ Fs.flatten) →
    ∃ Fs' : List (List Addr), Fs'.length = Gs.length ∧ (∀ j, j ∉ is → Fs'[j]? = Gs[j]?) ∧ (∀ j ∈ is, ∀ s v F, (setAll L (mk (pu w)))[j]? = some s → σ[j]? = some v → Fs'[j]? = some F → s.ok v H' RR F) ∧ (∀ j, j ∉ is → (setAll L (mk (pu w)))[j]? = L[j]?) ∧ (setAll L (mk (pu w))).length = L.length ∧ Fs'.flatten.Nodup ∧ ∀ q ∈ Fs'.flatten, q ∈ Fa' ∨ q ∈ Gs.flatten := by
  have memG : ∀ {i : Nat} {F : List Addr}, Fs[i]? = some F → Gs[i]? = some (F.filter fun q => decide (q ∉ FA)) := fun {i F} e => by rw [eG, List.getElem?_map, e]; rfl
  have subG : ∀ q ∈ Gs.flatten, q ∈ Fs.flatten ∧ q ∉ FA := fun q hq => by
    rw [eG] at hq
    obtain ⟨G, hG, hq⟩ := List.mem_flatten.mp hq
    obtain ⟨F, hF, rfl⟩ := List.mem_map.mp hG
    rw [List.mem_filter, decide_eq_true_eq] at hq
    exact ⟨List.mem_flatten.mpr ⟨F, hF, hq.1⟩, hq.2⟩
  induction h with
  | nil => intro Fa' _ _ _; exact ⟨Gs, rfl, fun _ _ => rfl, (fun _ h => nomatch h), fun _ _ => rfl, rfl, ndG, fun q hq => .inr hq⟩
  | sh r t ih =>
    rintro Fa' ⟨v', r', G1, G2, e1, e2, ⟨e3, h1⟩, h2⟩ ndF nF
    cases e1
    subst e3; subst e2
    exact ih hFA hroot h2 ndF nF
  | @ow α β δ ω τ O O2 A up d d2 ds v v2 vs F F2 Fa is i put px pu mk h1 h2 h3 h4 pl hn t ih =>
    rintro Fa' ⟨v', r', G1, G2, e1, e2, r1, r2⟩ ndF nF
    cases e1
    subst e2
    rw [List.nodup_append] at ndF
    have hroot2 : ∀ i ∈ is, ∀ F, Fs[i]? = some F → ∀ q ∈ F, q ∈ FA → q ∈ Fa := fun j hj F' e' q hq hA => by
      rcases List.mem_append.mp (hroot j (List.mem_cons_of_mem _ hj) F' e' q hq hA) with z | z
      · have := flat_two nd h4 e' (pl.sub q z) hq
        subst this
        exact absurd hj hn
      · exact z
    obtain ⟨Fs1, l1, n1, k1, m1, ml, nd1, q1⟩ := ih (fun q hq => hFA q (List.mem_append_right _ hq)) hroot2 r2 ndF.2.1 (fun q hq => nF q (List.mem_append_right _ hq))
    have hF2 : ∀ q ∈ F, q ∈ FA → q ∈ F2 := fun q hq hA => by
      rcases List.mem_append.mp (hroot i List.mem_cons_self F h4 q hq hA) with z | z
      · exact z
      · obtain ⟨j, hj, F', e', hq'⟩ := t.sub q z
        have := flat_two nd h4 e' hq hq'
        subst this
        exact absurd hj hn
    obtain ⟨F', r3, nd3, n3⟩ := pl.up hR (fun p hp hpn => hk p (flat_mem h4 p hp) fun hA => hpn (hF2 p hp hA)) r1 ndF.1 (fun q hq => (nF q (List.mem_append_left _ hq)).elim (fun z => by
      by_cases y : q ∈ F
      · exact .inl (hF2 q y z)
      · exact .inr y) fun z => .inr fun y => z (flat_mem h4 q y))
    have ei : Fs1[i]? = some (F.filter fun q => decide (q ∉ FA)) := by rw [n1 i hn]; exact memG h4
    have hi : i < Fs1.length := (List.getElem?_eq_some_iff.mp ei).1
    have nF' : ∀ x ∈ F', x ∈ F.filter (fun q => decide (q ∉ FA)) ∨ x ∉ Fs1.flatten := fun x hx => by
      rcases n3 x hx with hx | ⟨hx, hx2⟩
      · refine .inr fun y => ?_
        rcases q1 x y with y | y
        · exact ndF.2.2 x hx x y rfl
        · obtain ⟨y1, y2⟩ := subG x y
          exact (nF x (List.mem_append_left _ hx)).elim y2 fun z => z y1
      · exact .inl (by rw [List.mem_filter, decide_eq_true_eq]; exact ⟨hx, fun hA => hx2 (hF2 x hx hA)⟩)
    refine ⟨Fs1.set i F', by rw [List.length_set, l1], fun j hj => ?_, fun j hj s v' F'' e1 e2 e3 => ?_, fun j hj => ?_, by show ((setAll L (mk (pu w.2))).set i _).length = _; rw [List.length_set, ml], flat_set_nd nd1 ei nd3 nF', fun q hq => ?_⟩
    · rw [List.getElem?_set_ne fun e => hj (by rw [e]; exact List.mem_cons_self)]
      exact n1 j fun z => hj (List.mem_cons_of_mem _ z)
    · have e1 : ((setAll L (mk (pu w.2))).set i (sP px O (put w.1)))[j]? = some s := e1
      by_cases hij : j = i
      · subst hij
        rw [List.getElem?_set_self hi] at e3
        have hj' : j < (setAll L (mk (pu w.2))).length := by rw [ml]; exact (List.getElem?_eq_some_iff.mp h1).1
        rw [List.getElem?_set_self hj'] at e1
        rw [h2] at e2
        cases e1; cases e2; cases e3
        exact ⟨v, rfl, h3, r3⟩
      · rw [List.getElem?_set_ne fun e => hij e.symm] at e1 e3
        exact k1 j ((List.mem_cons.mp hj).resolve_left hij) s v' F'' e1 e2 e3
    · show ((setAll L (mk (pu w.2))).set i _)[j]? = _
      rw [List.getElem?_set_ne fun e => hj (by rw [e]; exact List.mem_cons_self)]
      exact m1 j fun z => hj (List.mem_cons_of_mem _ z)
    · rcases flat_set_mem nd1 ei q hq with hq | ⟨hq, _⟩
      · rcases n3 q hq with hq | ⟨hq, hq2⟩
        · exact .inl (List.mem_append_left _ hq)
        · refine .inr (flat_mem (memG h4) q ?_)
          rw [List.mem_filter, decide_eq_true_eq]
          exact ⟨hq, fun hA => hq2 (hF2 q hq hA)⟩
      · exact (q1 q hq).imp (List.mem_append_right _) id
theorem flat_filter {f : Addr → Bool} : ∀ {Fs : List (List Addr)}, (Fs.map (List.filter f)).flatten.Sublist Fs.flatten
  | [] => List.Sublist.refl _
  | F :: Fs => by rw [List.map_cons, List.flatten_cons, List.flatten_cons]; exact List.Sublist.append List.filter_sublist flat_filter
/-- behind the call -/
theorem At.chgX {fm : Fm} {kp : RdR} {own Fr Fa' : List Addr} {w : ω} (h : At fm kp L σ H own) (hs : AllS H (RB fm own H) L σ Fs) (eo : own = Fs.flatten) (hA : ArgsAt L σ Fs H (RD fm own H) A up ds vs Fa is pu mk) (sm : Same (hm H Fa) H')
    (nd' : (Fr ++ Fa').Nodup) (n1 : ∀ a ∈ Fr ++ Fa', (a ∈ Fa ∨ H a = none) ∧ H' a ≠ none) (r : A.rep (up ds w) vs H' (RD fm (Fr ++ Fa' ++ own.filter fun q => decide (q ∉ Fa)) H') Fa') :
    ∃ own', At fm kp (setAll L (mk (pu w))) σ H' own' ∧ (∀ q ∈ own', q ∈ Fa' ∨ (q ∈ own ∧ q ∉ Fa)) ∧ (∀ a o, kp a o → RD fm (Fr ++ Fa' ++ own.filter fun q => decide (q ∉ Fa)) H' a o) ∧ ∃ Fs', AllS H' (RB fm (Fr ++ Fa' ++ own.filter fun q => decide (q ∉ Fa)) H') (setAll L (mk (pu w))) σ Fs' ∧ own' = Fs'.flatten := by
  obtain ⟨h1, h2, _, h4, h5, h6⟩ := h
  have nd := h4
  rw [eo] at nd
  have sub : ∀ q ∈ Fa, q ∈ own := fun q hq => by rw [eo]; exact hA.subF q hq
  obtain ⟨hrep, hFnd⟩ := hA.rep nd
  have hg := A.tb hrep
  have keep : ∀ a o, H a = some o → nt o = true → a ∉ Fa → H' a = some o := fun a o ea na hn => sm.keep a o (by rw [hm_out hn]; exact ea) na
  have fr : ∀ a, H' a = none → a ∉ Fa → H a = none := fun a ea hn => by have := sm.fr a ea; rwa [hm_out hn] at this
  have tab : ∀ P, LamX.TabS H P lamQ → LamX.TabS H' P lamQ := fun P t => sm.tab P (hm_tab hg t)
  have kcl : ∀ a o, cl H a = some o → a ∉ Fa → cl H' a = some o := fun a o ea hn => cl_of (keep a o (cl_raw ea) (cl_nt ea) hn) (cl_nt ea)
  have keq : ∀ a, cl H a ≠ none → a ∉ Fa → H' a = H a := fun a ha hn => by
    cases r : cl H a with
    | none => exact absurd r ha
    | some o => rw [cl_raw r]; exact keep a o (cl_raw r) (cl_nt r) hn
  have nA : ∀ a ∈ Fr ++ Fa', H a ≠ none → a ∈ Fa := fun a ha hne => (n1 a ha).1.resolve_right hne
  have rdB : ∀ b a o, RB fm own H b a o → RB fm (Fr ++ Fa' ++ own.filter fun q => decide (q ∉ Fa)) H' b a o := fun b a o z => by
    have out : cl H a ≠ none → a ∉ own → a ∉ Fr ++ Fa' ++ own.filter fun q => decide (q ∉ Fa) := fun hc hn hq => by
      rcases List.mem_append.mp hq with hq | hq
      · exact hn (sub a (nA a hq fun e => hc (cl_none e)))
      · exact hn (List.mem_filter.mp hq).1
    cases b with
    | false =>
      rcases z with ⟨z1, z2, z3⟩ | z
      · have hne : cl H a ≠ none := fun q => by rcases z1 with z1 | ⟨_, z1⟩ <;> rw [q] at z1 <;> cases z1
        have n2 : a ∉ Fa := fun q => z2 (sub a q)
        exact .inl ⟨z1.imp (fun q => kcl a _ q n2) fun ⟨f, q⟩ => ⟨f, kcl a _ q n2⟩, out hne z2, z3⟩
      · exact .inr z
    | true =>
      obtain ⟨z1, z2, z3, z4⟩ := z
      exact ⟨kcl a _ z1 fun q => z2 (sub a q), out (by rw [z1]; exact fun q => nomatch q) z2, z3, z4⟩
  have memF : ∀ {i : Nat} {F : List Addr}, Fs[i]? = some F → (Fs.map (List.filter fun q => decide (q ∉ Fa)))[i]? = some (F.filter fun q => decide (q ∉ Fa)) := fun {i F} e => by rw [List.getElem?_map, e]; rfl
  have flG : (Fs.map (List.filter fun q => decide (q ∉ Fa))).flatten.Sublist Fs.flatten := flat_filter
  have nG : ∀ q ∈ (Fs.map (List.filter fun q => decide (q ∉ Fa))).flatten, q ∉ Fa := fun q hq => by
    obtain ⟨G, hG, hq⟩ := List.mem_flatten.mp hq
    obtain ⟨F, hF, rfl⟩ := List.mem_map.mp hG
    rw [List.mem_filter, decide_eq_true_eq] at hq
    exact hq.2
  obtain ⟨Fs', l1, k0, k1, m1, ml, ndF, q1⟩ := hA.done (FA := Fa) (RR := RB fm (Fr ++ Fa' ++ own.filter fun q => decide (q ∉ Fa)) H') (H' := H') (w := w) (fun _ h => h) (fun a o z => rdB false a o z) (fun q hq hn => keq q (hs.tb q hq) hn) nd rfl (nd.sublist flG) (fun i hi F e q hq hF => hF) r (List.nodup_append.mp nd').2.1
    (fun q hq => by
      by_cases y : q ∈ Fs.flatten
      · exact .inl (nA q (List.mem_append_right _ hq) (h5 q (by rw [eo]; exact y)).1)
      · exact .inr y)
  have nF : ∀ q ∈ Fs'.flatten, q ∈ Fa' ∨ (q ∈ own ∧ q ∉ Fa) := fun q hq => (q1 q hq).imp id fun z => ⟨by rw [eo]; exact flG.subset z, nG q z⟩
  have dr : ∀ b a o, RB fm (Fr ++ Fa' ++ own.filter fun q => decide (q ∉ Fa)) H' b a o → RB fm Fs'.flatten H' b a o := RB.own fun q hq => by
    rcases nF q hq with hq | hq
    · exact List.mem_append_left _ (List.mem_append_right _ hq)
    · exact List.mem_append_right _ (List.mem_filter.mpr ⟨hq.1, by rw [decide_eq_true_eq]; exact hq.2⟩)
  have hpw := hs.pw
  have sl : AllS H' (RB fm (Fr ++ Fa' ++ own.filter fun q => decide (q ∉ Fa)) H') (setAll L (mk (pu w))) σ Fs' := by
    refine Pw.all ⟨by rw [ml]; exact hpw.l1, by rw [ml, l1, List.length_map]; exact hpw.l2, fun j _ s v F e1 e2 e3 => ?_⟩
    by_cases hj : j ∈ is
    · exact k1 j hj s v F e1 e2 e3
    · rw [m1 j hj] at e1
      have hlt : j < Fs.length := by rw [hpw.l2]; exact (List.getElem?_eq_some_iff.mp e1).1
      have e4 : Fs[j]? = some Fs[j] := List.getElem?_eq_getElem hlt
      have e5 : Fs[j].filter (fun q => decide (q ∉ Fa)) = Fs[j] := List.filter_eq_self.mpr fun q hq => by
        rw [decide_eq_true_eq]
        intro hF
        obtain ⟨i, hi, F0, e6, hF0⟩ := hA.sub q hF
        have := flat_two nd e4 e6 hq hF0
        subst this
        exact hj hi
      rw [k0 j hj, memF e4, e5] at e3
      cases e3
      refine s.st (hpw.ok j (fun z => z) s v _ e1 e2 e4) rdB fun q hq => keq q (hs.tb q (flat_mem e4 q hq)) fun hF => ?_
      rw [← e5, List.mem_filter, decide_eq_true_eq] at hq
      exact hq.2 hF
  have sH : Same fm.H0 H' := by
    refine ⟨fun a o ea na => keep a o (h1.keep a o ea na) na (fun q => by have := (h5 a (sub a q)).2.1; rw [this] at ea; cases ea), fun a ea => ?_, fun P t => tab P (h1.tab P t)⟩
    by_cases q2 : a ∈ Fa
    · exact (h5 a (sub a q2)).2.1
    · exact h1.fr a (fr a ea q2)
  refine ⟨Fs'.flatten, ⟨sH, fun a z ea => h2 a z (fr a ea fun q => (h5 a (sub a q)).2.2 z), ⟨Fs', sl.st dr fun _ _ => rfl, rfl⟩, ndF, fun q hq => ?_, fun a o z => dr false a o (rdB false a o (h6 a o z))⟩, nF, fun a o z => rdB false a o (h6 a o z), Fs', sl, rfl⟩
  rcases nF q hq with hq | ⟨hq, hn⟩
  · have hq' := n1 q (List.mem_append_right _ hq)
    refine ⟨hq'.2, ?_, ?_⟩
    · rcases hq'.1 with z | z
      · exact (h5 q (sub q z)).2.1
      · exact h1.free z
    · rcases hq'.1 with z | z
      · exact (h5 q (sub q z)).2.2
      · exact fun y => h2 q y z
  · have z := h5 q hq
    exact ⟨fun y => z.1 (fr q y hn), z.2⟩
end
end Hd

namespace Hd
open PySem PySem.Spec L2
/-! ### calls that change what is owned -/
def FinXA {δ ω τ : Type} (fm : Fm) (W : Wx) (L : List Slot) (own : List Addr) (Fs : List (List Addr)) (σ : L2.St) (H : Hp) (A : WAr δ) (up : δ → ω → δ) (is : List Nat) (mk : τ → List (Nat × Slot)) (Q : List V → Hp → Prop) : M (δ × (ω → τ)) → Prop
  | .ok q => ∀ vs Fa H', Same H H' → ArgsAt L σ Fs H' (RD fm own H') A up q.1 vs Fa is q.2 mk → Q vs H'
  | .ex c => ∀ H', Same H H' → W c σ H'
  | .no => False
def EvXA (g : G) (L : List Slot) (es : List Expr) {δ ω τ : Type} (A : WAr δ) (up : δ → ω → δ) (is : List Nat) (mk : τ → List (Nat × Slot)) (m : M (δ × (ω → τ))) : Prop :=
  PA g.X es (fun σ H Q => ∃ kp own Fs, At g.fm kp L σ H own ∧ AllS H (RB g.fm own H) L σ Fs ∧ own = Fs.flatten ∧ FinXA g.fm g.W L own Fs σ H A up is mk Q m)
/-- the end of an expression that changes the slots -/
def FinX {β τ : Type} (fm : Fm) (W : Wx) (kp : RdR) (σ : L2.St) (LX : List Slot) (L' : τ → List Slot) (O : WTy β) (Q : VK) : M (β × τ) → Prop
  | .ok r => ∀ v F H' own', At fm kp (L' r.2) σ H' own' → (F ++ own').Nodup → (∀ q ∈ F, H' q ≠ none ∧ fm.H0 q = none ∧ ¬ fm.z q) → (∀ a o, kp a o → RD fm (F ++ own') H' a o) → (∃ Fs, AllS H' (RB fm (F ++ own') H') (L' r.2) σ Fs ∧ own' = Fs.flatten) → O.rep r.1 v H' (RD fm (F ++ own') H') F → Q v H'
  | .ex c => ∀ H' own', At fm kp LX σ H' own' → W c σ H'
  | .no => False
def EvX (g : G) (L : List Slot) (e : Expr) {β τ : Type} (O : WTy β) (L' : τ → List Slot) (m : M (β × τ)) : Prop :=
  PE g.X e (fun σ H Q => ∃ kp own, At g.fm kp L σ H own ∧ FinX g.fm g.W kp σ g.LX L' O Q m)
section
variable {p : Pr} {sc : Scope} {NN VV GG : List Str} {k : Nat} {g : G} {L L' : List Slot} {a b c e e' ix : Expr} {es : List Expr} {md md' : Md} {α β γ δ ρ ω τ : Type} {S : Ty α} {T : Ty β} {O : WTy α} {O2 : WTy β} {O3 : WTy γ} {A : WAr δ} {pos pp pos' : Pos} {i j : Nat} {x f : Str} {px : V → Prop} {d : α}
theorem AllS.hk {fm : Fm} {own : List Addr} {L : List Slot} {σ : L2.St} {H H' : Hp} {Fs : List (List Addr)} {R : Bool → RdR} (hs : AllS H R L σ Fs) (s : Same H H') : ∀ q ∈ Fs.flatten, H' q = H q := fun q hq => by
  cases r : cl H q with
  | none => exact absurd r (hs.tb q hq)
  | some o => rw [cl_raw r]; exact s.keep _ _ (cl_raw r) (cl_nt r)
theorem evxa_nil : EvXA g L [] (ω := Unit) (τ := Unit) waNil (fun d _ => d) [] (fun _ => []) (.ok ((), fun _ => ())) :=
  PA.imp pa_nil fun σ H Q ⟨kp, own, Fs, at_, hsl, heo, q⟩ => q [] [] H (Same.refl H) .nil
theorem evxa_sh {up : δ → ω → δ} {is : List Nat} {mk : τ → List (Nat × Slot)} {m1 : M β} {m2 : M (δ × (ω → τ))} (ha : EvE g L a md T m1) (hb : EvXA g L es A up is mk m2) (hs : starEach (a :: es) g.X.env = (false, eval a g.X.env) :: starEach es g.X.env := by rfl) :
    EvXA g L (a :: es) (waCons (wV T) A) (fun d w => (d.1, up d.2 w)) is mk (m1.bind fun d => m2.bind fun r => .ok ((d, r.1), r.2)) := by
  refine PA.imp (pa_cons ha hb hs) fun σ H Q ⟨kp, own, Fs, at_, hsl, heo, q⟩ => ?_
  refine tE_iff.mpr ⟨kp, own, at_, ?_⟩
  cases m1 with
  | ok d =>
    intro v H1 s1 r1
    refine ⟨kp, own, Fs, at_.ext s1, hsl.st (RB.same s1) (hsl.hk (fm := g.fm) (own := own) s1), heo, ?_⟩
    cases m2 with
    | ok r =>
      intro vs Fa H2 s2 hA
      exact q (v :: vs) Fa H2 (s1.trans s2) (.sh (T.mono r1 fun a o z => RD.same s2 a o (RX.sh a o z)) hA)
    | ex c => exact fun H' s => q H' (s1.trans s)
    | no => exact q
  | ex c => exact q
  | no => exact q
theorem evxa_ow {up : δ → ω → δ} {is : List Nat} {mk : τ → List (Nat × Slot)} {m1 : M (β × (β → α))} {m2 : M (δ × (ω → τ))} (ha : EvP g L a i px O d O2 m1) (hb : EvXA g L es A up is mk m2) (hi : i ∉ is) (hs : starEach (a :: es) g.X.env = (false, eval a g.X.env) :: starEach es g.X.env := by rfl) :
    EvXA g L (a :: es) (ω := β × ω) (τ := α × τ) (waCons O2 A) (fun d w => (w.1, up d.2 w.2)) (i :: is) (fun t => (i, sP px O t.1) :: mk t.2) (m1.bind fun q => m2.bind fun r => .ok ((q.1, r.1), fun w => (q.2 w.1, r.2 w.2))) := by
  refine PA.imp (pa_cons ha hb hs) fun σ H Q ⟨kp, own, Fs, at_, hsl, heo, q⟩ => ?_
  refine ⟨kp, own, Fs, at_, hsl, heo, ?_⟩
  cases m1 with
  | ok q0 =>
    intro v2 F2 H1 s1 A1
    refine ⟨kp, own, Fs, at_.ext s1, hsl.st (RB.same s1) (hsl.hk (fm := g.fm) (own := own) s1), heo, ?_⟩
    cases m2 with
    | ok r =>
      intro vs Fa H2 s2 hA
      obtain ⟨v, F, hL, hs2, eo, e1, hx, e2, pl⟩ := A1.ext s2
      exact q (v2 :: vs) (F2 ++ Fa) H2 (s1.trans s2) (.ow hL e1 hx e2 pl hi hA)
    | ex c => exact fun H' s => q H' (s1.trans s)
    | no => exact q
  | ex c => exact q
  | no => exact q
/-- what is known where such a call refuses -/
inductive WkC {δ ω τ ρ : Type} (g : G) (L : List Slot) (up : δ → ω → δ) (mk : τ → List (Nat × Slot)) (m : M (δ × (ω → τ))) (F : δ → M (ρ × ω)) (kx : Bool) : Prop where
  | any : g.LX = List.replicate L.length sAny → WkC g L up mk m F kx
  | keep {pj : δ → ω} : kx = true → Wk L g.LX → (∀ d, up d (pj d) = d) → (∀ q, m = .ok q → setAll L (mk (q.2 (pj q.1))) = L) → WkC g L up mk m F kx
  | nx : NoEx m → (∀ q, m = .ok q → NoEx (F q.1)) → WkC g L up mk m F kx
theorem At.anys {fm : Fm} {kp : RdR} {σ : L2.St} {H H' : Hp} {own Fa : List Addr} {n : Nat} (h : At fm kp L σ H own) (sub : ∀ q ∈ Fa, q ∈ own) (sm : Same (hm H Fa) H') (hg : ∀ a ∈ Fa, ∃ o, H a = some o ∧ gd o = true) (hn : n = L.length) : At fm kp (List.replicate n sAny) σ H' [] := by
  have hl := h.len
  obtain ⟨h1, h2, ⟨Fs, h3, e⟩, h4, h5, h6⟩ := h
  have keep : ∀ a o, H a = some o → nt o = true → a ∉ Fa → H' a = some o := fun a o ea na hn => sm.keep a o (by rw [hm_out hn]; exact ea) na
  have fr : ∀ a, H' a = none → a ∉ Fa → H a = none := fun a ea hn => by have := sm.fr a ea; rwa [hm_out hn] at this
  have kcl : ∀ a o, cl H a = some o → a ∉ Fa → cl H' a = some o := fun a o ea hn => cl_of (keep a o (cl_raw ea) (cl_nt ea) hn) (cl_nt ea)
  refine ⟨⟨fun a o ea na => keep a o (h1.keep a o ea na) na (fun q => by have := (h5 a (sub a q)).2.1; rw [this] at ea; cases ea), fun a ea => ?_, fun P t => sm.tab P (hm_tab hg (h1.tab P t))⟩, fun a z ea => h2 a z (fr a ea fun q => (h5 a (sub a q)).2.2 z), ⟨List.replicate n [], ?_, by rw [flat_rep]⟩, List.nodup_nil, (fun _ h => nomatch h), fun a o z => ?_⟩
  · by_cases q2 : a ∈ Fa
    · exact (h5 a (sub a q2)).2.1
    · exact h1.fr a (fr a ea q2)
  · have : ∀ {H : Hp} {R : Bool → RdR} (n : Nat) (σ : L2.St), σ.length = n → AllS H R (List.replicate n sAny) σ (List.replicate n []) := by
      intro H R n
      induction n with
      | zero => intro σ hl; rw [List.length_eq_zero_iff.mp hl]; exact .nil
      | succ n ih =>
        intro σ hl
        cases σ with
        | nil => simp at hl
        | cons v σ => exact .cons rfl (ih σ (by simpa using hl))
    exact this n σ (by rw [hl, hn])
  · rcases h6 a o z with ⟨z1, z2, z3⟩ | z
    · have n2 : a ∉ Fa := fun q => z2 (sub a q)
      exact .inl ⟨z1.imp (fun q => kcl a _ q n2) fun ⟨f, q⟩ => ⟨f, kcl a _ q n2⟩, (fun q => nomatch q), z3⟩
    · exact .inr z
/-- exceptions ahead of the call -/
theorem WkC.pre {up : δ → ω → δ} {mk : τ → List (Nat × Slot)} {m : M (δ × (ω → τ))} {F : δ → M (ρ × ω)} {kx : Bool} {kp : RdR} {σ : L2.St} {H H' : Hp} {own : List Addr} {c : Ec} (wk : WkC g L up mk m F kx) (hn : m = .ex c) (at_ : At g.fm kp L σ H own) (s : Same H H') (q : ∀ H' own', At g.fm kp g.LX σ H' own' → g.W c σ H') : g.W c σ H' := by
  cases wk with
  | any h =>
    refine q H' [] (h ▸ At.anys (Fa := []) at_ (fun _ h => nomatch h) ?_ (fun _ h => nomatch h) rfl)
    have : hm H [] = H := funext fun a => hm_out (fun h => nomatch h)
    rw [this]; exact s
  | keep h1 h2 _ _ =>
    obtain ⟨own', a', _⟩ := (at_.ext s).weak h2
    exact q H' own' a'
  | nx h _ => exact absurd hn (h c)
theorem spX_of {up : δ → ω → δ} {is : List Nat} {mk : τ → List (Nat × Slot)} {m : M (δ × (ω → τ))} {q0 : δ × (ω → τ)} {F : δ → M (ρ × ω)} {O : WTy ρ} {kx : Bool} {kp : RdR} {σ : L2.St} {H : Hp} {own : List Addr} {Fs : List (List Addr)} {vs : List V} {Fa : List Addr} {Q : VK} (ok : Ok p sc NN VV GG k g) (wk : WkC g L up mk m F kx) (hm0 : m = .ok q0)
    (at_ : At g.fm kp L σ H own) (hs : AllS H (RB g.fm own H) L σ Fs) (eo : own = Fs.flatten) (hA : ArgsAt L σ Fs H (RD g.fm own H) A up q0.1 vs Fa is q0.2 mk)
    (q : FinX g.fm g.W kp σ g.LX (fun t => setAll L (mk t)) O Q ((F q0.1).bind fun r => .ok (r.1, q0.2 r.2))) :
    spX p A up O kx F vs H Q (fun cls d H => ∃ c, cls = .ref (p.C c) ∧ d = none ∧ g.W c σ H) := by
  have nd := at_.nd
  rw [eo] at nd
  obtain ⟨hrep, hFnd⟩ := hA.rep nd
  have hg := A.tb hrep
  have sub : ∀ q ∈ Fa, q ∈ own := fun q hq => by rw [eo]; exact hA.subF q hq
  let z : Addr → Prop := fun a => (a ∈ own ∧ a ∉ Fa) ∨ g.fm.z a
  -- what the callee may read at the end
  have rdO : ∀ {F1 Fa' : List Addr} {H' : Hp} {X : List Addr}, (∀ q ∈ X, q ∈ F1 ++ Fa' ∨ (q ∈ own ∧ q ∉ Fa)) → ∀ a o, RD ⟨p.K, hm H Fa, z⟩ (F1 ++ Fa') H' a o → RD g.fm X H' a o := fun {F1 Fa' H' X} hX a o y => by
    rcases y with ⟨y1, y2, y3⟩ | y
    · exact .inl ⟨y1, fun hq => (hX a hq).elim y2 fun h => y3 (.inl h), fun h => y3 (.inr h)⟩
    · rw [← ok.fmK] at y; exact .inr y
  refine ⟨q0.1, z, Fa, ⟨fun a y => ?_, fun P e => at_.same.tab P (ok.tab P e)⟩, hFnd, fun a ha y => ?_, A.st hrep (fun a o y => ?_) fun _ _ => rfl, ?_⟩
  · rcases y with y | y
    · exact (at_.new a y.1).1
    · exact at_.zin a y
  · rcases y with y | y
    · exact y.2 ha
    · exact (at_.new a (sub a ha)).2.2 y
  · rcases y with ⟨y1, y2, y3⟩ | y
    · exact .inl ⟨y1, fun h => y2 (sub a h), fun h => h.elim (fun h => y2 h.1) y3⟩
    · rw [ok.fmK] at y; exact .inr y
  cases hF : F q0.1 with
  | ok r =>
    rw [hF] at q
    intro v H' Fr Fa' sm ndf n1 rO rA
    obtain ⟨own', a', sub', kpt, Fs2, al2, eo2⟩ := at_.chgX (Fr := Fr) (w := r.2) hs eo hA sm ndf (fun a ha => ⟨(n1 a ha).1, (n1 a ha).2.1⟩) (A.st rA (rdO fun q hq => by
      rcases List.mem_append.mp hq with hq | hq
      · exact .inl hq
      · rw [List.mem_filter, decide_eq_true_eq] at hq; exact .inr hq) fun _ _ => rfl)
    have ndf2 := List.nodup_append.mp ndf
    have inc : ∀ q ∈ Fr ++ own', q ∈ Fr ++ Fa' ++ own.filter fun q => decide (q ∉ Fa) := fun q hq => by
      rcases List.mem_append.mp hq with hq | hq
      · exact List.mem_append_left _ (List.mem_append_left _ hq)
      · rcases sub' q hq with z | z
        · exact List.mem_append_left _ (List.mem_append_right _ z)
        · exact List.mem_append_right _ (List.mem_filter.mpr ⟨z.1, by rw [decide_eq_true_eq]; exact z.2⟩)
    refine q v Fr H' own' a' (List.nodup_append.mpr ⟨ndf2.1, a'.nd, fun a ha b hb e => ?_⟩) (fun a ha => ?_) (fun a o z => RD.drop (inc) a o (kpt a o z)) ⟨Fs2, al2.st (RB.own inc) (fun _ _ => rfl), eo2⟩ (O.st rO (rdO fun q hq => ?_) fun _ _ => rfl)
    · subst e
      rcases sub' a hb with h | h
      · exact ndf2.2.2 a ha a h rfl
      · rcases (n1 a (List.mem_append_left _ ha)).1 with y | y
        · exact h.2 y
        · exact (at_.new a h.1).1 y
    · have h := n1 a (List.mem_append_left _ ha)
      refine ⟨h.2.1, ?_, fun y => h.2.2 (.inr y)⟩
      rcases h.1 with y | y
      · exact (at_.new a (sub a y)).2.1
      · exact at_.same.free y
    · rcases List.mem_append.mp hq with hq | hq
      · exact .inl (List.mem_append_left _ hq)
      · exact (sub' q hq).imp (List.mem_append_right _) id
  | ex c =>
    rw [hF] at q
    intro H' sm hk
    refine ⟨c, rfl, rfl, ?_⟩
    cases wk with
    | any h => exact q H' [] (h ▸ At.anys at_ sub sm hg rfl)
    | nx _ h => exact absurd hF (h q0 hm0 c)
    | keep h1 h2 h3 h4 =>
      obtain ⟨Fa', nd', n1, rA⟩ := hk h1
      obtain ⟨own', a', _, _, _⟩ := at_.chgX (Fr := []) (Fa' := Fa') (H' := H') hs eo hA sm (by simpa using nd') (fun a ha => ⟨(n1 a (by simpa using ha)).1, (n1 a (by simpa using ha)).2.1⟩) (w := _) (by
        rw [h3]
        refine A.st rA (fun a o y => ?_) fun _ _ => rfl
        have := rdO (F1 := []) (Fa' := Fa') (H' := H') (X := [] ++ Fa' ++ own.filter fun q => decide (q ∉ Fa)) (fun q hq => by
          rcases List.mem_append.mp hq with hq | hq
          · exact .inl hq
          · rw [List.mem_filter, decide_eq_true_eq] at hq; exact .inr hq) a o
        exact this y)
      rw [h4 q0 hm0] at a'
      obtain ⟨own2, a2, _⟩ := a'.weak h2
      exact q H' own2 a2
  | no => rw [hF] at q; exact q
/-- a call of a def -/
theorem ex_call {up : δ → ω → δ} {is : List Nat} {mk : τ → List (Nat × Slot)} {m : M (δ × (ω → τ))} {F : δ → M (ρ × ω)} {O : WTy ρ} {kx : Bool} {kf : Nat} {ps : List Str} (ok : Ok p sc NN VV GG k g) (hf : Fn p kf x ps (spX p A up O kx F)) (hk : kf ≤ k) (hG : GG[j]? = some x) (wk : WkC g L up mk m F kx)
    (ha : EvXA g L (e :: es) A up is mk m) (he : starEach (e :: es) g.X.env = (false, eval e g.X.env) :: starEach es g.X.env := by rfl) (hpl : (backTo pos (starEach es g.X.env)).any (·.1) = false := by rfl) :
    EvX g L (.Call (.Name x pp) (e :: es) [] pos) O (fun t => setAll L (mk t)) (m.bind fun q => (F q.1).bind fun r => .ok (r.1, q.2 r.2)) := by
  obtain ⟨f, fd, hF, hm, hkp, hbd⟩ := hf.ex
  obtain ⟨hg, ho⟩ := ok.gl hG
  rw [← ok.prog, ← ok.w, ← ok.base] at hF
  have hF' : FnOk g.X.prog g.X.w g.X.K g.X.mg g.X.base (L2.CX g.X.prog g.X.w) kf f fd ps (spX p A up O kx F) := by rw [ok.K, ok.mg]; exact hF
  refine PE.imp (pe_callS hF' (ok.room.mono hk) hg (by rw [ok.mg]; exact hm) (by rw [ok.K]; exact hkp) (by rw [ok.K]; exact hbd) (tk_at ok) ha (okName_d ho).1 he hpl) fun σ H Q ⟨kp, own, at_, q⟩ => ?_
  obtain ⟨Fs, hsl, heo⟩ := at_.sl
  refine ⟨kp, own, Fs, at_, hsl, heo, ?_⟩
  cases hm0 : m with
  | ok q0 =>
    rw [hm0] at q
    intro vs Fa H1 s1 hA
    exact spX_of ok wk hm0 (at_.ext s1) (hsl.st (RB.same s1) (hsl.hk (fm := g.fm) (own := own) s1)) heo hA q
  | ex c =>
    rw [hm0] at q
    exact fun H' s => wk.pre hm0 at_ s q
  | no => rw [hm0] at q; exact q
end
/-! ### methods -/
def tMethS (C : Addr) (m : Str) (sp : Sp) (E : L2.St → XK) (ta : TE) (t : TA) : TE := fun σ H Q => ta σ H fun x H1 => ∃ a dx fs, x = .ref a ∧ Rd H1 a (.ins C dx fs) ∧ fs.lookup m = none ∧ t σ H1 fun vs H2 => sp (x :: vs) H2 Q (E σ)
section
variable {X : Cx} {C : Addr}
theorem pe_methS {k : Nat} {o e : Expr} {es : List Expr} {m : Str} {apos pos : Pos} {ta : TE} {t : TA} {f : Addr} {fd : FuncData} {ps : List Str} {sp : Sp} {E : L2.St → XK} {pl : Sem Bool} {CX' : CXT} (he : PE X o ta) (c : Cls X.K C) (hm : Meth X.K C m f) (F : FnOk X.prog X.w X.K X.mg X.base CX' k f fd ps sp) (hr : Room k X.A) (hb : Binds X.K fd ps []) (hx : ∀ σ, PassesAt CX' X σ (E σ)) (ha : PA X (e :: es) t)
    (hst : starEach (e :: es) X.env = (false, eval e X.env) :: starEach es X.env := by rfl) (hpl : (backTo pos (starEach es X.env)).any (·.1) = false := by rfl)
    (ht : eval (.Call (.Attribute o m apos) (e :: es) [] pos) X.env = (do
      let ov ← eval o X.env
      standAt apos.atName
      let (f, first) ← holding [ov] (getMethod ov m pl)
      callWith pos f first (backTo pos (starEach (e :: es) X.env)) (backToKw pos (keywordEach [] X.env))) := by rfl) :
    PE X (.Call (.Attribute o m apos) (e :: es) [] pos) (tMethS C m sp E ta t) := by
  refine ⟨fun pins s σ H Q I h => ?_⟩
  refine PySem.W.methodCall_KW (pl := pl) (thn (he.run pins s σ H _ I h) fun u s1 ⟨x, H1, I1, rx, a, dx, fs, ex, ea, l, q⟩ => ?_) ht
  subst ex
  obtain rfl : u = Value.ref a := rx
  refine getmeth_rd I1 ea c hm l ?_
  refine PySem.W.callWith_K (first := [.ref a]) (h₀ := X.base) I.ok.mod.kin hm.kp (thn (ha.run pos pins s1 σ H1 _ I1 q) fun us s2 ⟨vs, H2, I2, r, q2⟩ => ⟨I2.kIn, ?_⟩) hst hpl
  exact run_fnS (us := .ref a :: us) (vs := .ref a :: vs) F hr hb (hx σ) I2 (.cons rfl r) q2
end
section
variable {p : Pr} {sc : Scope} {NN VV GG : List Str} {k : Nat} {g : G} {L L' : List Slot} {a b c e e' ix : Expr} {es : List Expr} {md md' : Md} {α β γ δ ρ ω τ ζ : Type} {S : Ty α} {T : Ty β} {O : WTy α} {O2 : WTy β} {O3 : WTy γ} {A : WAr δ} {pos pp pos' : Pos} {i j : Nat} {x f : Str} {px : V → Prop} {d : α}
theorem fld_none {f : Str} : ∀ {ns : List Str} {vs : List V}, fldIx ns f = none → (ns.zip vs).lookup f = none
  | [], vs, _ => rfl
  | n :: ns, [], _ => rfl
  | n :: ns, w :: vs, h => by
    unfold fldIx at h
    rw [List.zip_cons_cons, List.lookup_cons]
    cases e : f == n with
    | true => rw [e, if_pos rfl] at h; cases h
    | false =>
      rw [e, if_neg (by simp)] at h
      exact fld_none (Option.map_eq_none_iff.mp h)
/-- o.x(..), which may change o and its arguments -/
theorem ex_meth {B : WAr ζ} {ns : List Str} {cn : Str} {up : δ → ω → δ} {is : List Nat} {mk : τ → List (Nat × Slot)} {m1 : M (ζ × (ζ → α))} {m2 : M (δ × (ω → τ))} {F : ζ × δ → M (ρ × (ζ × ω))} {O' : WTy ρ} {kx : Bool} {kf : Nat} {ps : List Str} {apos : Pos} {pl : Sem Bool} (ok : Ok p sc NN VV GG k g)
    (hf : MeF p kf cn x ps (spX p (waCons (wIns (cA p cn) ns B) A) (fun d w => (w.1, up d.2 w.2)) O' kx F)) (hk : kf ≤ k) (hns : fldIx ns x = none) (hi : i ∉ is)
    (wk : WkC g L (fun (d : ζ × δ) (w : ζ × ω) => (w.1, up d.2 w.2)) (fun (t : α × τ) => (i, sP px O t.1) :: mk t.2) (m1.bind fun q => m2.bind fun r => .ok ((q.1, r.1), fun (w : ζ × ω) => (q.2 w.1, r.2 w.2))) F kx)
    (ho : EvP g L a i px O d (wIns (cA p cn) ns B) m1) (ha : EvXA g L (e :: es) A up is mk m2) (hst : starEach (e :: es) g.X.env = (false, eval e g.X.env) :: starEach es g.X.env := by rfl) (hpl : (backTo pos (starEach es g.X.env)).any (·.1) = false := by rfl)
    (ht : eval (.Call (.Attribute a x apos) (e :: es) [] pos) g.X.env = (do
      let ov ← eval a g.X.env
      standAt apos.atName
      let (f, first) ← holding [ov] (getMethod ov x pl)
      callWith pos f first (backTo pos (starEach (e :: es) g.X.env)) (backToKw pos (keywordEach [] g.X.env))) := by rfl) :
    EvX g L (.Call (.Attribute a x apos) (e :: es) [] pos) O' (fun (t : α × τ) => setAll L ((i, sP px O t.1) :: mk t.2)) ((m1.bind fun q => m2.bind fun r => .ok ((q.1, r.1), fun (w : ζ × ω) => (q.2 w.1, r.2 w.2))).bind fun q => (F q.1).bind fun r => .ok (r.1, q.2 r.2)) := by
  obtain ⟨f, fd, hF, hc, hm, hbd⟩ := hf.ex
  rw [← ok.prog, ← ok.w, ← ok.base] at hF
  have hF' : FnOk g.X.prog g.X.w g.X.K g.X.mg g.X.base (L2.CX g.X.prog g.X.w) kf f fd ("self" :: ps) (spX p (waCons (wIns (cA p cn) ns B) A) (fun d w => (w.1, up d.2 w.2)) O' kx F) := by rw [ok.K, ok.mg]; exact hF
  refine PE.imp (pe_methS (pl := pl) ho (by rw [ok.K]; exact hc) (by rw [ok.K]; exact hm) hF' (ok.room.mono hk) (by rw [ok.K]; exact hbd) (tk_at ok) ha hst hpl ht) fun σ H Q ⟨kp, own, at_, q⟩ => ?_
  obtain ⟨Fs, hsl, heo⟩ := at_.sl
  refine ⟨kp, own, Fs, at_, hsl, heo, ?_⟩
  cases h1 : m1 with
  | ok q0 =>
    intro v2 F2 H1 s1 A1
    have hs1 := hsl.st (RB.same s1) (hsl.hk (fm := g.fm) (own := own) s1)
    obtain ⟨v, F0, hL, hs2, eo, e1, hx, e2, pl2⟩ := A1
    obtain ⟨p', dx, vs0, G, r1, r2, hp, hl, rr⟩ := pl2.rep
    subst r1
    refine ⟨p', dx, _, rfl, .inl hp, fld_none hns, kp, own, Fs, at_.ext s1, hs1, heo, ?_⟩
    cases h2 : m2 with
    | ok r0 =>
      rw [h1, h2] at q
      intro vs Fa H2 s2 hA
      obtain ⟨v', F0', hL', hs2', eo', e1', hx', e2', pl3⟩ := AtP.ext (fm := g.fm) (own := own) (Fs := Fs) ⟨v, F0, hL, hs2, eo, e1, hx, e2, pl2⟩ s2
      exact spX_of ok wk (by rw [h1, h2]; rfl) ((at_.ext s1).ext s2) (hs1.st (RB.same s2) (hs1.hk (fm := g.fm) (own := own) s2)) heo (.ow hL' e1' hx' e2' pl3 hi hA) q
    | ex c =>
      rw [h1, h2] at q
      exact fun H' s => wk.pre (c := c) (by rw [h1, h2]; rfl) (at_.ext s1) s q
    | no => rw [h1, h2] at q; exact q
  | ex c =>
    rw [h1] at q
    exact fun H' s => wk.pre (c := c) (by rw [h1]; rfl) at_ s q
  | no => rw [h1] at q; exact q
/-- o.x() -/
theorem ex_meth0 {B : WAr ζ} {ns : List Str} {cn : Str} {m1 : M (ζ × (ζ → α))} {F : ζ × Unit → M (ρ × (ζ × Unit))} {O' : WTy ρ} {kx : Bool} {kf : Nat} {apos : Pos} {pl : Sem Bool} (ok : Ok p sc NN VV GG k g)
    (hf : MeF p kf cn x [] (spX p (waCons (wIns (cA p cn) ns B) waNil) (fun d w => (w.1, d.2)) O' kx F)) (hk : kf ≤ k) (hns : fldIx ns x = none)
    (wk : WkC g L (fun (d : ζ × Unit) (w : ζ × Unit) => (w.1, d.2)) (fun (t : α × Unit) => [(i, sP px O t.1)]) (m1.bind fun q => .ok ((q.1, ()), fun (w : ζ × Unit) => (q.2 w.1, ()))) F kx)
    (ho : EvP g L a i px O d (wIns (cA p cn) ns B) m1)
    (ht : eval (.Call (.Attribute a x apos) [] [] pos) g.X.env = (do
      let ov ← eval a g.X.env
      standAt apos.atName
      let (f, first) ← holding [ov] (getMethod ov x pl)
      callWith pos f first (backTo pos (starEach [] g.X.env)) (backToKw pos (keywordEach [] g.X.env))) := by rfl) :
    EvX g L (.Call (.Attribute a x apos) [] [] pos) O' (fun (t : α × Unit) => setAll L [(i, sP px O t.1)]) ((m1.bind fun q => .ok ((q.1, ()), fun (w : ζ × Unit) => (q.2 w.1, ()))).bind fun q => (F q.1).bind fun r => .ok (r.1, q.2 r.2)) := by
  obtain ⟨f, fd, hF, hc, hm, hbd⟩ := hf.ex
  rw [← ok.prog, ← ok.w, ← ok.base] at hF
  have hF' : FnOk g.X.prog g.X.w g.X.K g.X.mg g.X.base (L2.CX g.X.prog g.X.w) kf f fd ["self"] (spX p (waCons (wIns (cA p cn) ns B) waNil) (fun d w => (w.1, d.2)) O' kx F) := by rw [ok.K, ok.mg]; exact hF
  refine PE.imp (pe_methR0 (pl := pl) ho (by rw [ok.K]; exact hc) (by rw [ok.K]; exact hm) hF' (ok.room.mono hk) (by rw [ok.K]; exact hbd) (tk_at ok) ht) fun σ H Q ⟨kp, own, at_, q⟩ => ?_
  obtain ⟨Fs, hsl, heo⟩ := at_.sl
  refine ⟨kp, own, Fs, at_, hsl, heo, ?_⟩
  cases h1 : m1 with
  | ok q0 =>
    rw [h1] at q
    intro v2 F2 H1 s1 A1
    have hs1 := hsl.st (RB.same s1) (hsl.hk (fm := g.fm) (own := own) s1)
    obtain ⟨v, F0, hL, hs2, eo, e1, hx, e2, pl2⟩ := A1
    obtain ⟨p', dx, vs0, G, r1, r2, hp, hl, rr⟩ := pl2.rep
    subst r1
    refine ⟨p', dx, _, rfl, .inl hp, fld_none hns, ?_⟩
    exact spX_of ok wk (by rw [h1]; rfl) (at_.ext s1) hs1 heo (.ow hL e1 hx e2 pl2 List.not_mem_nil .nil) q
  | ex c =>
    rw [h1] at q
    exact fun H' s => wk.pre (c := c) (by rw [h1]; rfl) at_ s q
  | no => rw [h1] at q; exact q
end
end Hd

namespace Hd
open PySem PySem.Spec L2
section
variable {p : Pr} {sc : Scope} {NN VV GG VV' GG' : List Str} {k : Nat} {g : G} {L L' : List Slot} {a b c e e' : Expr} {es : List Expr} {md md' : Md} {α β γ δ ρ : Type} {S : Ty α} {O : WTy β} {U : Ty γ} {A : Ar δ} {pos : Pos} {K : PySem.W.Frag} {tg : Expr} {st : List Stmt} {D : δ → Out} {i j : Nat} {x : Str}
def tN (fm : Fm) (W : Wx) (L : List Slot) {β : Type} (O : WTy β) (m : M β) : TE := fun σ H Q => ∃ kp own, At fm kp L σ H own ∧ FinN fm W own σ H O Q m
/-- [elt for x in it if c] -/
theorem evn_lc2 {scope : Scope} {it elt : Expr} {m : M (List α)} {cm : α → M Bool} {f : α → M β} {tp : Pos} {ifs : List Expr} {s₀ : Slot} (ok : Ok p sc NN VV GG k g) (hI : EvI g L (.Name x tp) it S m) (hN : NN[i]? = some x) (hLi : L[i]? = some s₀) (hs₀ : NoOwn s₀) (hb : blkC NN sc scope [(x, i)] = true)
    (hv : VV'.all (seenB scope) = true) (hg : GG'.all (glB scope) = true) (hx : locB scope x = true)
    (hc : ∀ g', Ok p scope NN VV' GG' k g' → ∀ d, PTs g'.X ifs (tT g'.fm g'.W (L.set i (sV false S d)) (cm d)))
    (hO : FlatW O) (he : ∀ g', Ok p scope NN VV' GG' k g' → ∀ d, EvN g' (L.set i (sV false S d)) elt O (f d)) (hs : ∀ x, foldedSetIterable it g.X.env x = pure x := by intro _; rfl) :
    (EvN g L (.ListComp elt [⟨.Name x tp, it, ifs, 0⟩] scope pos) (wL O) (m.bind fun xs => compM (fun d => (cm d).bind fun c => if c = true then (f d).bind fun y => .ok (some y) else .ok none) xs)) ∧
    (∀ {y : Str} {i2 : Nat} {py spos : Pos}, NN[i2]? = some y → g.X.env.scope.names.lookup y = some .local → swapsWith (.ListComp elt [⟨.Name x tp, it, ifs, 0⟩] scope pos) (some (.Name y py)) spos.line g.X.env = pure true →
      PS g.X (.Assign [.Name y py] (.ListComp elt [⟨.Name x tp, it, ifs, 0⟩] scope pos) spos) (tAsg (tN g.fm g.W L (wL O) (m.bind fun xs => compM (fun d => (cm d).bind fun c => if c = true then (f d).bind fun y => .ok (some y) else .ok none) xs)) (gName i2))) := by
  have loc : ∀ (s : Shared) (H : Hp) (C : Addr) (cl : List (Str × Addr)) (fp : List Addr), L2.Loc (g.X.blk s H scope (compEnvC scope cl C g.X.env) fp).env.scope x ∧ ((g.X.blk s H scope (compEnvC scope cl C g.X.env) fp).fn x = true ∨ (g.X.blk s H scope (compEnvC scope cl C g.X.env) fp).env.scope.names.lookup x = some .local) := by
    intro s H C cl fp
    rcases locB_v hx with h | h
    · have q : (relabel scope g.X.env).names.lookup x = some .local := by
        rcases lookup_rl (env := g.X.env) h with q | ⟨q, _⟩
        · exact q
        · cases q
      exact ⟨.inl q, .inr q⟩
    · have q : (relabel scope g.X.env).names.lookup x = some .cell := by
        rcases lookup_rl (env := g.X.env) h with q | ⟨q, _⟩
        · exact q
        · cases q
      refine ⟨.inr q, .inl ?_⟩
      show (scope.names.lookup x == some .cell) = true
      rw [h]; rfl
  have BODY : ∀ σ H Q, tN g.fm g.W L (wL O) (m.bind fun xs => compM (fun d => (cm d).bind fun c => if c = true then (f d).bind fun y => .ok (some y) else .ok none) xs) σ H Q →
      tLc (tI g.fm g.W L S m) (gName i) (fun σ H Q => ∃ z : {fm' : Fm // fm'.K = p.K ∧ ∀ P, p.T = some P → LamX.TabS fm'.H0 P lamQ} × α, tT z.1.1 (fun _ _ _ => False) (L.set i (sV false S z.2)) (cm z.2) σ H Q)
        (fun σ H Q => ∃ z : {fm' : Fm // fm'.K = p.K ∧ ∀ P, p.T = some P → LamX.TabS fm'.H0 P lamQ} × α, tN z.1.1 (fun _ _ _ => False) (L.set i (sV false S z.2)) O (f z.2) σ H Q) ([(x, i)].map (·.2)) σ H Q := by
    intro σ H Q q
    obtain ⟨kp, own, at_, q⟩ := q
    cases m with
    | ex c => exact ⟨kp, own, at_, q⟩
    | no => exact q.elim
    | ok xs =>
    refine ⟨kp, own, at_, fun J H1 s1 hJ D hD => ?_⟩
    have at1 := at_.ext s1
    have hHD : H D = none := s1.free hD
    -- the inner frame
    let fm' : Fm := ⟨g.fm.K, g.fm.H0, fun a => a = D ∨ g.fm.z a⟩
    let hh : α → M (Option β) := fun d => (cm d).bind fun c => if c = true then (f d).bind fun y => .ok (some y) else .ok none
    have q : FinN g.fm g.W own σ H (wL O) Q (compM hh xs) := q
    unfold compM at q
    split at q
    case isFalse => exact q.elim
    rename_i hlen
    have aw : At g.fm kp (L.set i sAny) (σ.set i none) H1 own := at1.setN hLi hs₀ rfl
    have rdD : ∀ (md : Md) (H0 : Hp) a o, RX g.fm own H0 H1 md a o → RX fm' own H0 (upd H1 D (.lst [])) md a o := fun md H0 a o z => by
      have z2 := RX.add (o' := .lst []) hD a o z
      cases md with
      | sh => exact z2.imp (fun ⟨a1, a2, a3⟩ => ⟨a1, fun y => a2 (List.mem_cons_of_mem _ y), fun y => y.elim (fun e => a2 (by rw [e]; exact List.mem_cons_self)) a3⟩) id
      | f0 => exact ⟨z2.1, fun y => z2.2.1 (List.mem_cons_of_mem _ y), fun y => y.elim (fun e => z2.2.1 (by rw [e]; exact List.mem_cons_self)) z2.2.2.1, z2.2.2.2⟩
      | fx => exact ⟨z2.1, fun y => z2.2.1 (List.mem_cons_of_mem _ y), fun y => y.elim (fun e => z2.2.1 (by rw [e]; exact List.mem_cons_self)) z2.2.2.1, z2.2.2.2⟩
    have a0 : At fm' (RD g.fm own H1) (L.set i sAny) (wipe σ [i]) (upd H1 D (.lst [])) own := by
      obtain ⟨h1, h2, ⟨Fs, h3, e⟩, h4, h5, h6⟩ := aw
      refine ⟨h1.trans (newSame hD), fun a z => ?_, ⟨Fs, h3.st (fun b a o z => ?_) fun y hy => ?_, e⟩, h4, fun y hy => ⟨fun n => (h5 y hy).1 ((newSame hD).free n), (h5 y hy).2.1, fun z => z.elim (fun e => (h5 y hy).1 (by rw [e]; exact hD)) (h5 y hy).2.2⟩, fun a o z => rdD .sh H1 a o z⟩
      · rcases z with z | z
        · rw [z, upd_same]; exact fun n => by cases n
        · exact fun n => h2 a z ((newSame hD).free n)
      · cases b with
        | false => exact rdD .sh H1 a o z
        | true => exact rdD .f0 H1 a o z
      · exact upd_ne fun e' => (h5 y (by rw [e]; exact hy)).1 (by rw [e']; exact hD)
    refine ⟨fun n mm H' => mm = xs.length - n ∧ n ≤ xs.length ∧ ∃ vs ds Gs, H' D = some (.lst vs) ∧ vs.length ≤ n ∧ Same H H' ∧ RepsO O H' (fun _ _ => False) ds vs Gs ∧ Gs.flatten.Nodup ∧ (∀ q ∈ Gs.flatten, H q = none ∧ q ≠ D) ∧ At fm' (RD g.fm own H1) (L.set i sAny) (wipe σ [i]) H' own ∧
      FinN g.fm g.W own σ H (wL O) Q ((compG hh (xs.drop n)).bind fun l => .ok (ds ++ l)), ⟨_, rfl, Nat.zero_le _, [], [], [], upd_same, Nat.zero_le _, s1.trans (newSame hD), .nil, List.nodup_nil, (fun _ h => nomatch h), a0, ?_⟩, ?_⟩
    · rw [List.drop_zero]
      have e : ((compG hh xs).bind fun l => M.ok ([] ++ l)) = compG hh xs := by cases compG hh xs <;> rfl
      rw [e]; exact q
    rintro n mm H' ⟨rfl, hn, vs, ds, Gs, hDv, hvl, sH, rr, gnd, gn, a', q'⟩
    have rb : Rdb g.fm.K (RD g.fm own H1) H' := fun a o z => (a'.kept a o z).imp (fun h => Rd.raw h.1) id
    obtain ⟨hgo, hst⟩ := hJ H' rb n
    have rk : ∀ {H5 : Hp}, Same H' H5 → ∀ q ∈ Gs.flatten, H5 q = H' q := fun {H5} s q hq => by obtain ⟨o, ho, go⟩ := rr.tb q hq; rw [ho]; exact s.keep _ _ ho (gd_nt go)
    by_cases hlt : n < xs.length
    · have hx' : xs[n]? = some xs[n] := by simp [hlt]
      obtain ⟨go, yl⟩ := hgo _ hx'
      refine .inr ⟨go, fun H6 => ∃ vs ds Gs, H6 D = some (.lst vs) ∧ vs.length ≤ n + 1 ∧ Same H H6 ∧ RepsO O H6 (fun _ _ => False) ds vs Gs ∧ Gs.flatten.Nodup ∧ (∀ q ∈ Gs.flatten, H q = none ∧ q ≠ D) ∧ At fm' (RD g.fm own H1) (L.set i sAny) (wipe σ [i]) H6 own ∧
        FinN g.fm g.W own σ H (wL O) Q ((compG hh (xs.drop (n + 1))).bind fun l => .ok (ds ++ l)), fun H6 z => ⟨xs.length - (n + 1), by omega, rfl, hlt, z⟩, fun y H3 hy => ?_⟩
      obtain ⟨s3, r3⟩ := yl y H3 hy
      have a3 := a'.ext s3
      have ry : S.rep xs[n] y (RD fm' own H3) := S.mono r3 (Nw.rd a' a'.kept s3)
      have hLw : (L.set i sAny)[i]? = some sAny := by
        have hlt' := (List.getElem?_eq_some_iff.mp hLi).1
        rw [List.getElem?_set_self hlt']
      have a4 : At fm' (RD g.fm own H1) (L.set i (sV false S xs[n])) ((wipe σ [i]).set i (some y)) H3 own := by
        have := a3.setN (s' := sV false S xs[n]) (v := some y) hLw no_any ⟨rfl, y, rfl, ry⟩
        rwa [List.set_set] at this
      rw [List.drop_eq_getElem_cons hlt] at q'
      refine ⟨wipe1, ⟨⟨fm', ok.fmK, ok.tab⟩, xs[n]⟩, _, own, a4, ?_⟩
      have q2 : FinN g.fm g.W own σ H (wL O) Q (((hh xs[n]).nox.bind fun o => (compG hh (xs.drop (n + 1))).bind fun l => .ok (o.toList ++ l)).bind fun l => .ok (ds ++ l)) := q'
      cases hcm : cm xs[n] with
      | ex c => rw [show hh xs[n] = .ex c from by show (cm xs[n]).bind _ = _; rw [hcm]; rfl] at q2; exact q2.elim
      | no => rw [show hh xs[n] = .no from by show (cm xs[n]).bind _ = _; rw [hcm]; rfl] at q2; exact q2.elim
      | ok c =>
        intro H4 s4
        cases c with
        | false =>
          rw [show hh xs[n] = .ok none from by show (cm xs[n]).bind _ = _; rw [hcm]; rfl] at q2
          refine (if_neg (by decide)).mpr ?_
          have a5 : At fm' (RD g.fm own H1) (L.set i sAny) (wipe σ [i]) H4 own := a3.ext s4
          refine ⟨vs, ds, Gs, s4.keep _ _ (s3.keep _ _ hDv rfl) rfl, Nat.le_succ_of_le hvl, (sH.trans s3).trans s4, rr.st (fun _ _ h => h) (rk (s3.trans s4)), gnd, gn, a5, ?_⟩
          have e : (((M.ok (none : Option β)).nox.bind fun o => (compG hh (xs.drop (n + 1))).bind fun l => M.ok (o.toList ++ l)).bind fun l => M.ok (ds ++ l)) = (compG hh (xs.drop (n + 1))).bind fun l => M.ok (ds ++ l) := by
            cases compG hh (xs.drop (n + 1)) <;> rfl
          rw [e] at q2; exact q2
        | true =>
          refine (if_pos rfl).mpr ⟨⟨⟨fm', ok.fmK, ok.tab⟩, xs[n]⟩, _, own, a4.ext s4, ?_⟩
          cases hf : f xs[n] with
          | ex c => rw [show hh xs[n] = .ex c from by show (cm xs[n]).bind _ = _; rw [hcm]; show (f xs[n]).bind _ = _; rw [hf]; rfl] at q2; exact q2.elim
          | no => rw [show hh xs[n] = .no from by show (cm xs[n]).bind _ = _; rw [hcm]; show (f xs[n]).bind _ = _; rw [hf]; rfl] at q2; exact q2.elim
          | ok w =>
            rw [show hh xs[n] = .ok (some w) from by show (cm xs[n]).bind _ = _; rw [hcm]; show (f xs[n]).bind _ = _; rw [hf]; rfl] at q2
            intro v F5 H5 s5 nd5 n5 r5
            have s35 : Same H' H5 := (s3.trans s4).trans s5
            have sHH5 : Same H H5 := sH.trans s35
            have r6 := hO (R' := fun _ _ => False) r5
            have tb5 := O.tb r5
            have n5H' : ∀ q ∈ F5, H' q = none := fun q hq => (s3.trans s4).free (n5 q hq)
            have n5D : ∀ q ∈ F5, q ≠ D := fun q hq e => by have := n5H' q hq; rw [e, hDv] at this; cases this
            have dj : ∀ q ∈ Gs.flatten, q ∉ F5 := fun q h1 h2 => by obtain ⟨o, ho, _⟩ := rr.tb q h1; rw [n5H' q h2] at ho; cases ho
            have gn' : ∀ q ∈ (Gs ++ [F5]).flatten, H q = none ∧ q ≠ D := fun q hq => by
              rw [flat_snoc] at hq
              rcases List.mem_append.mp hq with hq | hq
              · exact gn q hq
              · exact ⟨sH.free (n5H' q hq), n5D q hq⟩
            refine ⟨vs, s35.keep _ _ hDv rfl, by omega, vs ++ [v], ds ++ [w], Gs ++ [F5], upd_same, by rw [List.length_append, List.length_singleton]; omega, sHH5.wr hHD (s35.keep _ _ hDv rfl) (fun _ z => nomatch z) rfl, ?_, ?_, gn', ?_, ?_⟩
            · exact ((rr.st (fun _ _ h => h) (rk s35)).append (.cons r6 .nil)).st (fun _ _ h => h) fun q hq => upd_ne (gn' q hq).2
            · rw [flat_snoc]; exact List.nodup_append.mpr ⟨gnd, nd5, fun a ha b hb e => dj a ha (by rw [e]; exact hb)⟩
            · -- the slots at the changed heap
              have a5 : At fm' (RD g.fm own H1) (L.set i sAny) (wipe σ [i]) H5 own := a'.ext s35
              obtain ⟨h1, h2, ⟨Fs, h3, e⟩, h4, h5, h6⟩ := a5
              have ne : ∀ {a : Addr}, ¬ fm'.z a → a ≠ D := fun h e => h (.inl e)
              have k0 : ∀ (md : Md) a o, RX fm' own H5 H5 md a o → md = .fx ∨ RX fm' own (upd H5 D (.lst (vs ++ [v]))) (upd H5 D (.lst (vs ++ [v]))) md a o := fun md a o z => by
                cases md with
                | sh =>
                  refine .inr (z.imp (fun ⟨a1, a2, a3⟩ => ⟨?_, a2, a3⟩) id)
                  unfold Rd
                  rw [cl_upd_ne (ne a3)]
                  exact a1
                | f0 => exact .inr ⟨by rw [cl_upd_ne (ne z.2.2.1)]; exact z.1, z.2⟩
                | fx => exact .inl rfl
              have up : ∀ a, H5 a ≠ none → upd H5 D (.lst (vs ++ [v])) a ≠ none := fun a hne => by
                by_cases e : a = D
                · rw [e, upd_same]; exact fun z => by cases z
                · rw [upd_ne e]; exact hne
              refine ⟨h1.wr (at_.same.free hHD) (s35.keep _ _ hDv rfl) (fun _ z => nomatch z) rfl, fun a z => up a (h2 a z), ⟨Fs, h3.st (fun b a o z => ?_) fun y hy => ?_, e⟩, h4, fun y hy => ⟨up y (h5 y hy).1, (h5 y hy).2⟩, fun a o z => (k0 .sh a o (h6 a o z)).resolve_left fun e => nomatch e⟩
              · cases b with
                | false => exact (k0 .sh a o z).resolve_left fun e => nomatch e
                | true => exact (k0 .f0 a o z).resolve_left fun e => nomatch e
              · exact upd_ne (ne (h5 y (by rw [e]; exact hy)).2.2)
            · have e : (((M.ok (some w)).nox.bind fun o => (compG hh (xs.drop (n + 1))).bind fun l => M.ok (o.toList ++ l)).bind fun l => M.ok (ds ++ l)) = (compG hh (xs.drop (n + 1))).bind fun l => M.ok ((ds ++ [w]) ++ l) := by
                cases compG hh (xs.drop (n + 1)) <;> simp [M.nox, M.bind]
              rw [e] at q2; exact q2
    · have e : n = xs.length := by omega
      subst e
      rw [List.drop_length] at q'
      refine .inl ⟨hst (by simp), ?_⟩
      have q2 : FinN g.fm g.W own σ H (wL O) Q (.ok (ds ++ [])) := q'
      rw [List.append_nil] at q2
      exact q2 (.ref D) (D :: Gs.flatten) H' sH (List.nodup_cons.mpr ⟨fun h => (gn D h).2 rfl, gnd⟩) (fun q hq => by
        rcases List.mem_cons.mp hq with e | hq
        · rw [e]; exact hHD
        · exact (gn q hq).1) ⟨D, vs, Gs, rfl, rfl, hDv, fw_reps hO rr⟩
  refine ⟨PE.imp (pe_lc (own := [(x, i)]) ok.calm (by rw [ok.N]; exact ok.nd) hI (by rw [ok.N]; exact ok.blk hb) (fun s H C cl fp => pg_name (i := i) (by show g.X.N.Nodup; rw [ok.N]; exact ok.nd) (by show g.X.N[i]? = _; rw [ok.N]; exact hN) (loc s H C cl fp).1 (loc s H C cl fp).2)
    (fun s H C cl fp => PTs.ex (t := fun (z : {fm' : Fm // fm'.K = p.K ∧ ∀ P, p.T = some P → LamX.TabS fm'.H0 P lamQ} × α) => tT z.1.1 (fun _ _ _ => False) (L.set i (sV false S z.2)) (cm z.2)) fun z => hc ⟨g.X.blk s H scope (compEnvC scope cl C g.X.env) fp, z.1.1, fun _ _ _ => False, []⟩ (blk_ok ok z.1.2 hv hg) z.2) (fun s H C cl fp => PE.ex (t := fun (z : {fm' : Fm // fm'.K = p.K ∧ ∀ P, p.T = some P → LamX.TabS fm'.H0 P lamQ} × α) => tN z.1.1 (fun _ _ _ => False) (L.set i (sV false S z.2)) O (f z.2)) fun z => he ⟨g.X.blk s H scope (compEnvC scope cl C g.X.env) fp, z.1.1, fun _ _ _ => False, []⟩ (blk_ok ok z.1.2 hv hg) z.2) hs) BODY, fun {y i2 py spos} hy hyl hsw => ?_⟩
  exact PS.imp (ps_setLc (own := [(x, i)]) ok.calm (by rw [ok.N]; exact ok.nd) (by rw [ok.N]; exact hy) hyl hsw hI (by rw [ok.N]; exact ok.blk hb) (fun s H C cl fp => pg_name (i := i) (by show g.X.N.Nodup; rw [ok.N]; exact ok.nd) (by show g.X.N[i]? = _; rw [ok.N]; exact hN) (loc s H C cl fp).1 (loc s H C cl fp).2)
    (fun s H C cl fp => PTs.ex (t := fun (z : {fm' : Fm // fm'.K = p.K ∧ ∀ P, p.T = some P → LamX.TabS fm'.H0 P lamQ} × α) => tT z.1.1 (fun _ _ _ => False) (L.set i (sV false S z.2)) (cm z.2)) fun z => hc ⟨g.X.blk s H scope (compEnvC scope cl C g.X.env) fp, z.1.1, fun _ _ _ => False, []⟩ (blk_ok ok z.1.2 hv hg) z.2) (fun s H C cl fp => PE.ex (t := fun (z : {fm' : Fm // fm'.K = p.K ∧ ∀ P, p.T = some P → LamX.TabS fm'.H0 P lamQ} × α) => tN z.1.1 (fun _ _ _ => False) (L.set i (sV false S z.2)) O (f z.2)) fun z => he ⟨g.X.blk s H scope (compEnvC scope cl C g.X.env) fp, z.1.1, fun _ _ _ => False, []⟩ (blk_ok ok z.1.2 hv hg) z.2) hs) fun E σ H q => BODY σ H _ q
end
end Hd

namespace Hd
open PySem PySem.Spec L2
/-! ### one of several kinds -/
def tSum {α β : Type} (S : Ty α) (T : Ty β) : Ty (α ⊕ β) := ⟨fun d v R => match d with | .inl a => S.rep a v R | .inr b => T.rep b v R, fun {d v R R'} h s => by
  cases d with
  | inl a => exact S.mono h s
  | inr b => exact T.mono h s⟩
def unl {α β : Type} : α ⊕ β → M α
  | .inl a => .ok a
  | .inr _ => .no
def unr {α β : Type} : α ⊕ β → M β
  | .inl _ => .no
  | .inr b => .ok b
/-! ### the items of a written row -/
inductive It where
  | path (ns : List Int)
  | times (n : Int) (l : List It)
def itP : V := .str (Str.ofString "path")
def itT : V := .str (Str.ofString "times")
inductive ItR (R : RdR) : It → V → Prop where
  | path {ns : List Int} {a b : Addr} : R a (.tup [itP, .ref b]) → R b (.lst (ns.map V.int)) → ItR R (.path ns) (.ref a)
  | times {n : Int} {l : List It} {a b : Addr} {vs : List V} : R a (.tup [itT, .int n, .ref b]) → R b (.lst vs) → l.length = vs.length → (∀ (i : Nat) x v, l[i]? = some x → vs[i]? = some v → ItR R x v) → ItR R (.times n l) (.ref a)
theorem ItR.mono {R R' : RdR} (s : ∀ a o, R a o → R' a o) {x : It} {v : V} (h : ItR R x v) : ItR R' x v := by
  induction h with
  | path h1 h2 => exact .path (s _ _ h1) (s _ _ h2)
  | times h1 h2 h3 _ ih => exact .times (s _ _ h1) (s _ _ h2) h3 ih
def tIt : Ty It := ⟨fun x v R => ItR R x v, fun h s => h.mono s⟩
theorem ints_reps {R : RdR} : ∀ ns : List Int, Reps tInt R ns (ns.map V.int)
  | [] => .nil
  | _ :: ns => .cons rfl (ints_reps ns)
theorem reps_of {α : Type} {T : Ty α} {R : RdR} : ∀ {l : List α} {vs : List V}, l.length = vs.length → (∀ (i : Nat) x v, l[i]? = some x → vs[i]? = some v → T.rep x v R) → Reps T R l vs
  | [], [], _, _ => .nil
  | [], _ :: _, h, _ => by simp at h
  | _ :: _, [], h, _ => by simp at h
  | x :: l, v :: vs, h, k => .cons (k 0 x v rfl rfl) (reps_of (by simpa using h) fun i x v e1 e2 => k (i + 1) x v (by simpa using e1) (by simpa using e2))
theorem reps_at {α : Type} {T : Ty α} {R : RdR} {l : List α} {vs : List V} (h : Reps T R l vs) : ∀ (i : Nat) x v, l[i]? = some x → vs[i]? = some v → T.rep x v R := fun i x v e1 e2 => by
  obtain ⟨v', e3, r⟩ := h.get e1
  rw [e2] at e3; cases e3; exact r
abbrev ItPa : Type := Tx × List Int × Unit
abbrev ItTi : Type := Tx × Int × List It × Unit
/-- a written pair or triple as an item, an item as one of these -/
def mkPath (d : ItPa) : M It := if d.1 = tx "path" then .ok (.path d.2.1) else .no
def mkTimes (d : ItTi) : M It := if d.1 = tx "times" then .ok (.times d.2.1 d.2.2.1) else .no
def unPath : It → M ItPa
  | .path ns => .ok (tx "path", ns, ())
  | .times _ _ => .no
def unTimes : It → M ItTi
  | .path _ => .no
  | .times n l => .ok (tx "times", n, l, ())
def itTag : It → Tx
  | .path _ => tx "path"
  | .times _ _ => tx "times"
abbrev tPa : Ty ItPa := tTup (aCons tStr (aCons (tList tInt) aNil))
abbrev tTi : Ty ItTi := tTup (aCons tStr (aCons tInt (aCons (tList tIt) aNil)))
theorem r_path {R : RdR} : tStr.rep (tx "path") itP R := ⟨by unfold itP; rw [toS_tx], okTx_of (by decide +kernel)⟩
theorem r_times {R : RdR} : tStr.rep (tx "times") itT R := ⟨by unfold itT; rw [toS_tx], okTx_of (by decide +kernel)⟩
theorem mkPath_r {d : ItPa} {v : V} {R : RdR} {y : It} (h : tPa.rep d v R) (e : mkPath d = .ok y) : tIt.rep y v R := by
  unfold mkPath at e
  split at e
  · rename_i hd
    cases e
    obtain ⟨a, vs, e1, h1, w1, r1, e2, h2, w2, r2, e3, ⟨b, ws, e4, h4, h5⟩, h6⟩ := h
    cases (show r2 = [] from h6)
    subst e1; subst e2; subst e3; subst e4
    have : w1 = itP := by rw [h2.1, hd, toS_tx]; rfl
    subst this
    exact .path h1 (by rw [← h5.ints]; exact h4)
  · cases e
theorem mkTimes_r {d : ItTi} {v : V} {R : RdR} {y : It} (h : tTi.rep d v R) (e : mkTimes d = .ok y) : tIt.rep y v R := by
  unfold mkTimes at e
  split at e
  · rename_i hd
    cases e
    obtain ⟨a, vs, e1, h1, w1, r1, e2, h2, w2, r2, e3, h3, w3, r3, e4, ⟨b, ws, e5, h4, h5⟩, h6⟩ := h
    cases (show r3 = [] from h6)
    subst e1; subst e2; subst e3; subst e4; subst e5
    have : w1 = itT := by rw [h2.1, hd, toS_tx]; rfl
    subst this
    cases (show w2 = V.int d.2.1 from h3)
    exact .times h1 h4 h5.length (reps_at h5)
  · cases e
theorem unPath_r {d : It} {v : V} {R : RdR} {y : ItPa} (h : tIt.rep d v R) (e : unPath d = .ok y) : tPa.rep y v R := by
  cases h with
  | path h1 h2 => cases e; exact ⟨_, _, rfl, h1, _, _, rfl, r_path, _, _, rfl, ⟨_, _, rfl, h2, ints_reps _⟩, rfl⟩
  | times _ _ _ _ => cases e
theorem unTimes_r {d : It} {v : V} {R : RdR} {y : ItTi} (h : tIt.rep d v R) (e : unTimes d = .ok y) : tTi.rep y v R := by
  cases h with
  | path h1 h2 => cases e
  | times h1 h2 h3 h4 => cases e; exact ⟨_, _, rfl, h1, _, _, rfl, r_times, _, _, rfl, rfl, _, _, rfl, ⟨_, _, rfl, h2, reps_of h3 h4⟩, rfl⟩
theorem mkPath_ne {d : ItPa} : ∀ c, mkPath d ≠ .ex c := fun c => by unfold mkPath; split <;> exact fun h => nomatch h
theorem mkTimes_ne {d : ItTi} : ∀ c, mkTimes d ≠ .ex c := fun c => by unfold mkTimes; split <;> exact fun h => nomatch h
theorem unPath_ne {d : It} : ∀ c, unPath d ≠ .ex c := fun c => by cases d <;> exact fun h => nomatch h
theorem unTimes_ne {d : It} : ∀ c, unTimes d ≠ .ex c := fun c => by cases d <;> exact fun h => nomatch h
theorem unl_ne {α β : Type} {d : α ⊕ β} : ∀ c, unl d ≠ .ex c := fun c => by cases d <;> exact fun h => nomatch h
theorem unr_ne {α β : Type} {d : α ⊕ β} : ∀ c, unr d ≠ .ex c := fun c => by cases d <;> exact fun h => nomatch h
/-- int(text) -/
def intS (x : Tx) : M Int := match PySem.intText? (toS x) with | some n => if x.length ≤ 640 then .ok n else .no | none => .no
theorem intS_ne {x : Tx} : ∀ c, intS x ≠ .ex c := fun c => by
  unfold intS
  split
  · split <;> exact fun h => nomatch h
  · exact fun h => nomatch h
section
variable {p : Pr} {sc : Scope} {NN VV GG : List Str} {k : Nat} {g : G} {L L' : List Slot} {a b c e e' : Expr} {es : List Expr} {md md' : Md} {α β γ δ ρ : Type} {S : Ty α} {T : Ty β} {U : Ty γ} {A : Ar δ} {pos pp : Pos} {j : Nat}
/-- seen as another kind -/
theorem ev_asM {m : M α} {f : α → M β} (hr : ∀ {d v R y}, S.rep d v R → f d = .ok y → T.rep y v R) (hne : ∀ {d} c, f d ≠ .ex c) (h : EvE g L e md S m) : EvE g L e md T (m.bind f) := PE.imp h fun σ H Q q => by
  obtain ⟨kp, own, at_, q⟩ := tE_iff.mp q
  refine tE_iff.mpr ⟨kp, own, at_, ?_⟩
  cases m with
  | ok d =>
    intro v H' s r
    have q : FinE g.fm g.W own σ H md T Q (f d) := q
    cases hf : f d with
    | ok y => rw [hf] at q; exact q v H' s (hr r hf)
    | ex c => exact absurd hf (hne c)
    | no => rw [hf] at q; exact q.elim
  | ex c => exact q
  | no => exact q
theorem ev_inl {m : M α} (h : EvE g L e md S m) : EvE g L e md (tSum S T) (m.bind fun d => .ok (.inl d)) := ev_as (fun d v R r => r) h
theorem ev_inr {m : M β} (h : EvE g L e md T m) : EvE g L e md (tSum S T) (m.bind fun d => .ok (.inr d)) := ev_as (fun d v R r => r) h
theorem unl_r {d : α ⊕ β} {v : V} {R : RdR} {y : α} (h : (tSum S T).rep d v R) (e : unl d = .ok y) : S.rep y v R := by
  cases d with
  | inl a => cases e; exact h
  | inr b => cases e
theorem unr_r {d : α ⊕ β} {v : V} {R : RdR} {y : β} (h : (tSum S T).rep d v R) (e : unr d = .ok y) : T.rep y v R := by
  cases d with
  | inl a => cases e
  | inr b => cases e; exact h
theorem ev_unl {m : M (α ⊕ β)} (h : EvE g L e md (tSum S T) m) : EvE g L e md S (m.bind unl) := ev_asM unl_r unl_ne h
theorem ev_unr {m : M (α ⊕ β)} (h : EvE g L e md (tSum S T) m) : EvE g L e md T (m.bind unr) := ev_asM unr_r unr_ne h
theorem ev_mkPath {m : M ItPa} (h : EvE g L e md tPa m) : EvE g L e md tIt (m.bind mkPath) := ev_asM mkPath_r mkPath_ne h
theorem ev_mkTimes {m : M ItTi} (h : EvE g L e md tTi m) : EvE g L e md tIt (m.bind mkTimes) := ev_asM mkTimes_r mkTimes_ne h
theorem ev_unPath {m : M It} (h : EvE g L e md tIt m) : EvE g L e md tPa (m.bind unPath) := ev_asM unPath_r unPath_ne h
theorem ev_unTimes {m : M It} (h : EvE g L e md tIt m) : EvE g L e md tTi (m.bind unTimes) := ev_asM unTimes_r unTimes_ne h
/-- an item of a tuple, told by the tuple's kind -/
structure TupAt (S : Ty α) (n : Nat) (T : Ty β) (f : α → β) : Prop where
  r : ∀ {d v R}, S.rep d v R → ∃ a vs w, v = .ref a ∧ R a (.tup vs) ∧ vs[n]? = some w ∧ T.rep (f d) w R
/-- .. how long it is -/
structure TupLen (S : Ty α) (f : α → Int) : Prop where
  r : ∀ {d v R}, S.rep d v R → ∃ a vs, v = .ref a ∧ R a (.tup vs) ∧ (vs.length : Int) = f d
theorem ta_sum {n : Nat} {f : α → γ} {h : β → γ} (h1 : TupAt S n U f) (h2 : TupAt T n U h) : TupAt (tSum S T) n U (fun d => match d with | .inl a => f a | .inr b => h b) := ⟨fun {d v R} r => by
  cases d with
  | inl a => exact h1.r r
  | inr b => exact h2.r r⟩
theorem ta_tup {n : Int} {f : δ → α} (hA : ArAt A n S f) : TupAt (tTup A) n.toNat S f := ⟨fun {d v R} ⟨a, vs, e, h, r⟩ => by
  obtain ⟨w, h1, h2⟩ := hA.get r
  exact ⟨a, vs, w, e, h, h1, h2⟩⟩
theorem ta_it : TupAt tIt 0 tStr itTag := ⟨fun {d v R} h => by
  cases h with
  | path h1 _ => exact ⟨_, _, _, rfl, h1, rfl, r_path⟩
  | times h1 _ _ _ => exact ⟨_, _, _, rfl, h1, rfl, r_times⟩⟩
theorem tl_sum {f : α → Int} {h : β → Int} (h1 : TupLen S f) (h2 : TupLen T h) : TupLen (tSum S T) (fun d => match d with | .inl a => f a | .inr b => h b) := ⟨fun {d v R} r => by
  cases d with
  | inl a => exact h1.r r
  | inr b => exact h2.r r⟩
theorem tl_tup {n : Nat} (hA : ∀ {d vs R}, A.rep d vs R → vs.length = n) : TupLen (tTup A) (fun _ => (n : Int)) := ⟨fun {d v R} ⟨a, vs, e, h, r⟩ => ⟨a, vs, e, h, by rw [hA r]⟩⟩
theorem ev_ixG {n : Nat} {f : α → β} {m : M α} (ok : Ok p sc NN VV GG k g) (hA : TupAt S n T f) (ha : EvE g L a md S m) (hb : EvE g L b md tInt (.ok (n : Int))) (hs : PlainIx b := by exact fun _ _ => rfl) : EvE g L (.Subscript a b pos) md T (m.bind fun t => .ok (f t)) :=
  ev_ix (S := S) (r := rIxT p.K) (m2 := .ok ()) (f := fun t _ => .ok (f t)) (T := tLit n) (fr := false) ok (by rw [← ok.K]; exact ix_tup) ⟨fun {d e x y R H Q} rb rx ry q => by
    obtain ⟨a, vs, w, e1, h, h1, h2⟩ := hA.r rx
    exact ⟨a, vs, n, w, e1, ry, st_of rb h, atI_nat h1, q _ _ (Same.refl _) (T.mono h2 (Nw.old rfl))⟩⟩ (fun _ _ _ h => nomatch h) .same ha (ev_lit hb) hs
theorem ev_lenG {f : α → Int} {m : M α} (ok : Ok p sc NN VV GG k g) (hA : TupLen S f) (hG : GG[j]? = some "len") (hmg : p.mg "len" = none) (ha : EvE g L e md S m) (hs : starEach [e] g.X.env = (false, eval e g.X.env) :: starEach [] g.X.env := by rfl) : EvE g L (.Call (.Name "len" pp) [e] [] pos) md' tInt (m.bind fun x => .ok (f x)) := by
  have h := ev_callB (md' := md') (U := tInt) (A := aCons S aNil) (f := fun d => .ok (f d.1)) (fr := true) (pos := pos) (pp := pp) ok call_len_seq ⟨fun {d xs R H Q} rb ⟨v, r, e1, h1, e3⟩ q => by
    subst e1; cases (show r = [] from e3)
    obtain ⟨a, vs, e4, h4, h5⟩ := hA.r h1
    exact ⟨a, vs, by rw [e4], .inr (by rw [ok.K]; exact st_of rb h4), q _ _ (Same.refl _) (by show _ = V.int _; rw [← h5])⟩⟩ (fun _ _ h => nomatch h) .fresh hG hmg PySem.boot_len (eva_cons ha eva_nil hs) hs rfl
  have e : (m.bind fun d => (M.ok ()).bind fun e => M.ok (d, e)).bind (fun d => M.ok (f d.1)) = m.bind fun x => .ok (f x) := by cases m <;> rfl
  rwa [e] at h
theorem i_sum {ty : String} (h1 : IsT S ty) (h2 : IsT T ty) : IsT (tSum S T) ty := ⟨fun {K d v R H} rb h => by
  cases d with
  | inl a => exact h1.t rb h
  | inr b => exact h2.t rb h⟩
theorem ev_intS {m : M Tx} (ok : Ok p sc NN VV GG k g) (hG : GG[j]? = some "int") (hmg : p.mg "int" = none) (ha : EvE g L a md tStr m) (hs : starEach [a] g.X.env = (false, eval a g.X.env) :: starEach [] g.X.env := by rfl) : EvE g L (.Call (.Name "int" pp) [a] [] pos) md' tInt (m.bind intS) :=
  ev_t1 (fr := true) ok call_int_str (fun {d v R H Q} rb h q => by
    unfold intS at q
    split at q
    · rename_i n hn
      split at q
      · rename_i hl
        exact ⟨toS d, n, by rw [h.1], hn, by rw [toS_len]; exact hl, q _ _ (Same.refl _) rfl⟩
      · exact q.elim
    · exact q.elim) (fun _ => intS_ne) .fresh hG hmg (by decide +kernel) ha hs
/-- a def that is not promised anything -/
theorem body_no {st : Stmt} {L0 : δ → List Slot} {D : ρ → Out} : Body p st NN VV GG k L0 D (fun _ => .no) := fun g ok hX d => ⟨fun pins s σ H D I ⟨kp, own, at_, q⟩ => q.elim⟩
end
end Hd

namespace Hd
open PySem PySem.Spec L2
/-! ### texts: split, strip, startswith -/
theorem spl_ok {S : List Nat} : ∀ (l acc : List Nat) (k : Nat), (∀ p ∈ TL.spl S k acc l, p.length ≤ acc.length + l.length) ∧ (∀ p ∈ TL.spl S k acc l, ∀ c ∈ p, c ∈ acc ∨ c ∈ l) ∧ (TL.spl S k acc l).length ≤ l.length + 1
  | [], acc, k => by
    rw [TL.spl_nil]
    exact ⟨fun p hp => by rw [List.mem_singleton.mp hp]; simp, fun p hp c hc => by rw [List.mem_singleton.mp hp] at hc; exact .inl hc, by simp⟩
  | c :: r, acc, 0 => by
    cases h : TL.pre S (c :: r) with
    | true =>
      rw [TL.spl_hit h]
      obtain ⟨h1, h2, h3⟩ := spl_ok (S := S) r [] (S.length - 1)
      refine ⟨fun p hp => ?_, fun p hp d hd => ?_, by simp only [List.length_cons]; omega⟩
      · rcases List.mem_cons.mp hp with e | hp
        · subst e; simp only [List.length_cons]; omega
        · have := h1 p hp; simp only [List.length_cons, List.length_nil] at this ⊢; omega
      · rcases List.mem_cons.mp hp with e | hp
        · subst e; exact .inl hd
        · rcases h2 p hp d hd with z | z
          · exact nomatch z
          · exact .inr (List.mem_cons_of_mem _ z)
    | false =>
      rw [TL.spl_miss h]
      obtain ⟨h1, h2, h3⟩ := spl_ok (S := S) r (acc ++ [c]) 0
      refine ⟨fun p hp => ?_, fun p hp d hd => ?_, by simp only [List.length_cons]; omega⟩
      · have := h1 p hp; simp only [List.length_append, List.length_cons, List.length_nil] at this ⊢; omega
      · rcases h2 p hp d hd with z | z
        · rcases List.mem_append.mp z with z | z
          · exact .inl z
          · exact .inr (by rw [List.mem_singleton.mp z]; exact List.mem_cons_self)
        · exact .inr (List.mem_cons_of_mem _ z)
  | c :: r, acc, k + 1 => by
    obtain ⟨h1, h2, h3⟩ := spl_ok (S := S) r acc k
    show (∀ p ∈ TL.spl S k acc r, _) ∧ (∀ p ∈ TL.spl S k acc r, _) ∧ (TL.spl S k acc r).length ≤ _
    refine ⟨fun p hp => ?_, fun p hp d hd => ?_, by simp only [List.length_cons]; omega⟩
    · have := h1 p hp; simp only [List.length_cons]; omega
    · exact (h2 p hp d hd).imp id (List.mem_cons_of_mem _)
def splitM (x y : Tx) : M (List Tx) := if y ≠ [] ∧ y.all (· < 256) = true ∧ x.length + 2 ≤ sizeLine then .ok (TL.spl y 0 [] x) else .no
section
variable {p : Pr} {sc : Scope} {NN VV GG : List Str} {k : Nat} {g : G} {L L' : List Slot} {a b c e e' : Expr} {es : List Expr} {md md' : Md} {α β γ δ ρ : Type} {S : Ty α} {T : Ty β} {U : Ty γ} {A : Ar δ} {pos pp apos : Pos} {j : Nat}
theorem reps_strs {R : RdR} : ∀ {ps : List Tx}, (∀ p ∈ ps, OkTx p) → Reps tStr R ps ((ps.map toS).map V.str)
  | [], _ => .nil
  | x :: ps, h => .cons ⟨rfl, h x List.mem_cons_self⟩ (reps_strs fun p hp => h p (List.mem_cons_of_mem _ hp))
theorem evl_split {ma mb : M Tx} (ok : Ok p sc NN VV GG k g) (ha : EvE g L a md' tStr ma) (hb : EvE g L b md' tStr mb) (hs : starEach [b] g.X.env = [(false, eval b g.X.env)] := by rfl) (hbase : attributeBase a "split" g.X.env (eval a g.X.env) = eval a g.X.env := by rfl) (hline : (apos.endLine == pos.line) = true := by rfl) :
    EvL g L (.Call (.Attribute a "split" apos) [b] [] pos) md tStr (ma.bind fun x => mb.bind fun y => splitM x y) := by
  refine PE.imp (pe_split ha hb hs hbase hline) fun σ H Q q => ?_
  obtain ⟨kp, own, at_, q⟩ := tL_iff.mp q
  refine tE_iff.mpr ⟨kp, own, at_, ?_⟩
  cases ma with
  | ok x =>
    intro v H1 s1 r1
    obtain ⟨e1, o1⟩ := r1
    subst e1
    refine ⟨⟨_, rfl⟩, tE_iff.mpr ⟨kp, own, at_.ext s1, ?_⟩⟩
    cases mb with
    | ok y =>
      intro w H2 s2 r2
      obtain ⟨e2, o2⟩ := r2
      subst e2
      have q : FinL g.fm g.W own σ H md tStr Q (splitM x y) := q
      unfold splitM at q
      split at q
      · rename_i h
        obtain ⟨h1, h2, h3⟩ := h
        have e : Txt.split (toS x) (toS y) = (TL.spl y 0 [] x).map toS := SX.split_S h1 h2
        refine ⟨toS x, toS y, rfl, rfl, ?_, by rw [toS_len]; exact h3, fun z hz => ?_⟩
        · rw [toS_len]
          cases y with
          | nil => exact absurd rfl h1
          | cons _ _ => rfl
        · obtain ⟨g1, g2, g3⟩ := spl_ok (S := y) x [] 0
          have okp : ∀ t ∈ TL.spl y 0 [] x, OkTx t := fun t ht => ⟨by have := g1 t ht; have := o1.1; simp at *; omega, fun c hc => (g2 t ht c hc).elim (fun h => nomatch h) (o1.2 c)⟩
          refine q z _ _ ((s1.trans s2).trans (newSame hz)) ((s1.trans s2).free hz) upd_same ?_
          rw [e]
          exact reps_strs okp
      · exact q.elim
    | ex c => exact fun H' s => q H' (s1.trans s)
    | no => exact q
  | ex c => exact q
  | no => exact q
end
end Hd

namespace Hd
open PySem PySem.Spec L2
/-! ### isinstance of an own class that holds no refusals -/
def insCB (K : PySem.W.Frag) (D : Addr) : Bool :=
  He.eqO (PySem.W.findIn K (.ref D) "__class__") (some (some (.builtin "object.__class__"))) && (He.eqO (PySem.W.specialIn K (.builtin "object.__class__") "__get__") (some (some (.builtin "getset_descriptor.__get__"))) && (decide (PySem.W.takesIn K (.builtin "object.__class__") = some true) && (decide (PySem.W.mroIn K D (.type "object") = some true) && decide (PySem.W.kitOne K (.ref D) (.ref D) = some true))))
theorem insC_ok {K : PySem.W.Frag} {D : Addr} (c : Cls K D) (h : insCB K D = true) : C8.InsC K D := by
  obtain ⟨h1, h⟩ := He.ba h
  obtain ⟨h2, h⟩ := He.ba h
  obtain ⟨h3, h⟩ := He.ba h
  obtain ⟨h4, h5⟩ := He.ba h
  exact ⟨c, He.eqO_ok h1, He.eqO_ok h2, of_decide_eq_true h3, of_decide_eq_true h4, of_decide_eq_true h5⟩
def rIsC (K : PySem.W.Frag) : List V → Hp → VK → Prop := fun xs H Q => ∃ (a C dx : Addr) (fs : List (Str × V)), xs = [.ref a, .ref C] ∧ C8.InsC K C ∧ Rd H a (.ins C dx fs) ∧ Q (.bl true) H
theorem call_isCR {X : Cx} : CallR X (.builtin "isinstance") (rIsC X.K) := by
  intro pins s σ H xs us Q I r h
  obtain ⟨a, C, dx, fs, rfl, c, hR, q⟩ := h
  cases r with
  | cons r1 rr =>
    cases rr with
    | @cons _ u2 _ _ r2 rr =>
      cases rr
      cases (show u2 = Value.ref C from r2)
      cases (show _ = Value.ref a from r1)
      obtain ⟨mA, O, _⟩ := ins_getR (hR.ok I.hok)
      obtain ⟨od, J, _⟩ := O.look
      exact PySem.W.kia_one (PySem.W.kitx_own (c.cl.get _) c.cl.hd c.ha c.hn c.htk c.hm) I.kIn J c.me (fun z => nomatch z) fun tk => ⟨.bl true, H, I.tok tk, rfl, q⟩
/-- a class, as a value -/
def tClV (C : Addr) : Ty Unit := ⟨fun _ v _ => v = .ref C, fun h _ => h⟩
section
variable {p : Pr} {sc : Scope} {NN VV GG : List Str} {k : Nat} {g : G} {L L' : List Slot} {a b c e e' : Expr} {es : List Expr} {md md' : Md} {α β γ δ ρ : Type} {S : Ty α} {T : Ty β} {U : Ty γ} {A : Ar δ} {pos pp apos : Pos} {j : Nat} {x : Str}
theorem ev_clsV {C : Addr} (ok : Ok p sc NN VV GG k g) (hG : GG[j]? = some x) (hx : p.mg x = some (.ref C)) : EvE g L (.Name x pos) md (tClV C) (.ok ()) := ev_glob (v := .ref C) ok hG hx rfl (fun _ => rfl)
theorem ev_isC {C : Addr} {fl : α → List FldS} {m : M α} (ok : Ok p sc NN VV GG k g) (hC : C8.InsC p.K C) (hG : GG[j]? = some "isinstance") (hmg : p.mg "isinstance" = none) (ha : EvE g L a md (tIns C fl) m) (hb : EvE g L b md (tClV C) (.ok ()))
    (hs1 : starEach [a, b] g.X.env = (false, eval a g.X.env) :: starEach [b] g.X.env := by rfl) (hs2 : starEach [b] g.X.env = (false, eval b g.X.env) :: starEach [] g.X.env := by rfl)
    (hpl : (backTo pos (starEach [b] g.X.env)).any (·.1) = false := by rfl) : EvE g L (.Call (.Name "isinstance" pp) [a, b] [] pos) md' tBool (m.bind fun _ => .ok true) := by
  have h := ev_b2 (S := tIns C fl) (T := tClV C) (md' := md') (U := tBool) (f := fun _ _ => .ok true) (m2 := .ok ()) (fr := true) (pp := pp) (pos := pos) ok call_isCR (fun {d e v w R H W} rb h1 h2 q => by
    obtain ⟨ad, dx, fs, rfl, hR, _⟩ := h1
    cases (show w = .ref C from h2)
    exact ⟨ad, C, dx, fs, rfl, by rw [ok.K]; exact hC, (rb _ _ hR).resolve_right fun z => z, q _ _ (Same.refl _) rfl⟩) (fun _ _ _ h => nomatch h) .fresh hG hmg (by decide +kernel) ha hb hs1 hs2 hpl
  have e : (m.bind fun d => (M.ok ()).bind fun _ => M.ok true) = m.bind fun _ => .ok true := by cases m <;> rfl
  rwa [e] at h
end
end Hd

namespace Hd
open PySem PySem.Spec L2
/-! ### None, or one of several kinds -/
section
variable {g : G} {L : List Slot} {e : Expr} {md : Md} {α β : Type} {S : Ty α} {T : Ty β}
theorem nn_sum (h1 : NotNon S) (h2 : NotNon T) : NotNon (tSum S T) := ⟨fun {d v R} h => by
  cases d with
  | inl a => exact h1.nn h
  | inr b => exact h2.nn h⟩
def unlO : Option (α ⊕ β) → M (Option α)
  | none => .ok none
  | some (.inl a) => .ok (some a)
  | some (.inr _) => .no
def unrO : Option (α ⊕ β) → M (Option β)
  | none => .ok none
  | some (.inr a) => .ok (some a)
  | some (.inl _) => .no
theorem unlO_ne {d : Option (α ⊕ β)} {c : Ec} : unlO d ≠ .ex c := by unfold unlO; split <;> exact fun h => nomatch h
theorem unrO_ne {d : Option (α ⊕ β)} {c : Ec} : unrO d ≠ .ex c := by unfold unrO; split <;> exact fun h => nomatch h
theorem unlO_r {d : Option (α ⊕ β)} {v : V} {R : RdR} {y : Option α} (h : (tOpt (tSum S T)).rep d v R) (e : unlO d = .ok y) : (tOpt S).rep y v R := by
  cases d with
  | none => cases e; exact h
  | some x =>
    cases x with
    | inl a => cases e; exact h
    | inr b => cases e
theorem unrO_r {d : Option (α ⊕ β)} {v : V} {R : RdR} {y : Option β} (h : (tOpt (tSum S T)).rep d v R) (e : unrO d = .ok y) : (tOpt T).rep y v R := by
  cases d with
  | none => cases e; exact h
  | some x =>
    cases x with
    | inl a => cases e
    | inr b => cases e; exact h
theorem ev_unlO {m : M (Option (α ⊕ β))} (h : EvE g L e md (tOpt (tSum S T)) m) : EvE g L e md (tOpt S) (m.bind unlO) := ev_asM unlO_r (fun _ => unlO_ne) h
theorem ev_unrO {m : M (Option (α ⊕ β))} (h : EvE g L e md (tOpt (tSum S T)) m) : EvE g L e md (tOpt T) (m.bind unrO) := ev_asM unrO_r (fun _ => unrO_ne) h
end
end Hd

namespace Hd
open PySem PySem.Spec L2
/-! ### statements with calls that change what is owned -/
section
variable {p : Pr} {sc : Scope} {NN VV GG : List Str} {k : Nat} {g : G} {L : List Slot} {e : Expr} {α β γ δ τ : Type} {S : Ty α} {T : Ty β} {O : WTy α} {pos pos' : Pos} {i j : Nat} {x : Str} {d : α} {st : List Stmt} {D : δ → Out} {L' : τ → List Slot}
/-- f(a, b) -/
theorem evb_exprX {m : M (α × τ)} {f : α × τ → M δ} (he : EvX g L e O L' m) (hr : ∀ r, EvB g (L' r.2) st D (f r)) (hs : swapsWith e none pos.line g.X.env = pure false := by rfl) : EvB g L (.Expr e pos :: st) D (m.bind f) := by
  refine PSs.imp (pss_cons (ps_expr he hs) (PSs.ex hr)) fun E σ H ⟨kp, own, at_, q⟩ => ?_
  refine ⟨kp, own, at_, ?_⟩
  cases m with
  | ok r => exact fun v F H' own' a' nd n kpt al r1 => ⟨r, kp, own', a', q⟩
  | ex c => exact fun H' own' a' => q σ H' own' a'
  | no => exact q
/-- what is handed back goes into a slot -/
theorem At.setX {fm : Fm} {kp : RdR} {σ : L2.St} {H : Hp} {own F1 : List Addr} {v : V} {L : List Slot} (h : At fm kp L σ H own) (nd1 : (F1 ++ own).Nodup) (n1 : ∀ q ∈ F1, H q ≠ none ∧ fm.H0 q = none ∧ ¬ fm.z q) (kpt : ∀ a o, kp a o → RD fm (F1 ++ own) H a o) (al : ∃ Fs, AllS H (RB fm (F1 ++ own) H) L σ Fs ∧ own = Fs.flatten) (r : O.rep d v H (RD fm (F1 ++ own) H) F1) : ∃ own', At fm kp (L.set i (sO O d)) (σ.set i (some v)) H own' := by
  obtain ⟨Fs, h3, e⟩ := al
  obtain ⟨h1, h2, _, h4, h5, h6⟩ := h
  have nd := h4
  rw [e] at nd
  have nda := List.nodup_append.mp nd1
  by_cases hi : i < Fs.length
  · have ei : Fs[i]? = some Fs[i] := List.getElem?_eq_getElem hi
    have nF : ∀ q ∈ (Fs.set i F1).flatten, q ∈ F1 ++ own := fun q hq => by
      rcases flat_set_mem nd ei q hq with hq | ⟨hq, _⟩
      · exact List.mem_append_left _ hq
      · exact List.mem_append_right _ (by rw [e]; exact hq)
    refine ⟨_, h1, h2, ⟨Fs.set i F1, (h3.st (RB.own nF) fun _ _ => rfl).set (s := sO O d) ⟨v, rfl, trivial, O.st r (RD.drop nF) fun _ _ => rfl⟩ i, rfl⟩, flat_set_nd nd ei nda.1 fun q hq => .inr fun hq' => nda.2.2 q hq q (by rw [e]; exact hq') rfl, fun q hq => ?_, fun a o z => RD.drop nF a o (kpt a o z)⟩
    rcases List.mem_append.mp (nF q hq) with hq | hq
    · exact n1 q hq
    · exact h5 q hq
  · have hl := h3.len
    have hl2 : Fs.length = L.length := h3.lenF
    have e1 : L.set i (sO O d) = L := List.set_eq_of_length_le (by omega)
    have e2 : σ.set i (some v) = σ := List.set_eq_of_length_le (by omega)
    rw [e1, e2]
    refine ⟨own, h1, h2, ⟨Fs, h3.st (RB.own fun q hq => List.mem_append_right _ hq) fun _ _ => rfl, e⟩, h4, h5, h6⟩
/-- x = f(a, b) -/
theorem evb_setX {m : M (α × τ)} {h : α × τ → M δ} (ok : OkS p sc NN VV GG k g) (hN : NN[i]? = some x) (hV : VV[j]? = some x) (he : EvX g L e O L' m) (hr : ∀ r, EvB g ((L' r.2).set i (sO O r.1)) st D (h r))
    (hs : swapsWith e (some (.Name x pos')) pos.line g.X.env = pure false := by rfl) : EvB g L (.Assign [.Name x pos'] e pos :: st) D (m.bind h) := by
  refine PSs.imp (pss_cons (ps_set (i := i) (by rw [ok.N]; exact ok.nd) (by rw [ok.N]; exact hN) (ok.loc hV) he hs (okS_fn ok)) (PSs.ex hr)) fun E σ H ⟨kp, own, at_, q⟩ => ?_
  refine ⟨kp, own, at_, ?_⟩
  cases m with
  | ok r =>
    intro v F H' own' a' nd n kpt al r1
    obtain ⟨own2, a2⟩ := a'.setX (i := i) nd n kpt al r1
    exact ⟨r, kp, own2, a2, q⟩
  | ex c => exact fun H' own' a' => q σ H' own' a'
  | no => exact q
/-- a slot whose thing owns nothing is one that is shared -/
theorem sO_sh {T : Ty β} {d : β} {v : Option V} {H : Hp} {R : Bool → RdR} {F : List Addr} (h : (sO (wV T) d).ok v H R F) : (sV false T d).ok v H R F := by
  obtain ⟨x, e, _, e2, r⟩ := h
  exact ⟨e2, x, e, r⟩
theorem At.setXV {fm : Fm} {kp : RdR} {σ : L2.St} {H : Hp} {own : List Addr} {T : Ty β} {d : β} {L : List Slot} (h : At fm kp (L.set i (sO (wV T) d)) σ H own) : At fm kp (L.set i (sV false T d)) σ H own := by
  obtain ⟨h1, h2, ⟨Fs, h3, e⟩, h4, h5, h6⟩ := h
  refine ⟨h1, h2, ⟨Fs, ?_, e⟩, h4, h5, h6⟩
  have hpw := h3.pw
  refine Pw.all ⟨by rw [List.length_set]; have := hpw.l1; rwa [List.length_set] at this, by rw [List.length_set]; have := hpw.l2; rwa [List.length_set] at this, fun j _ s v F e1 e2 e3 => ?_⟩
  by_cases hij : i = j
  · subst hij
    have hlt : i < L.length := by
      have := (List.getElem?_eq_some_iff.mp e1).1
      rwa [List.length_set] at this
    rw [List.getElem?_set_self hlt] at e1
    cases e1
    exact sO_sh (hpw.ok i (fun z => z) _ v F (List.getElem?_set_self hlt) e2 e3)
  · rw [List.getElem?_set_ne hij] at e1
    exact hpw.ok j (fun z => z) s v F (by rw [List.getElem?_set_ne hij]; exact e1) e2 e3
/-- x = f(a, b), what is handed back is shared -/
theorem evb_setXV {m : M (β × τ)} {h : β × τ → M δ} (ok : OkS p sc NN VV GG k g) (hN : NN[i]? = some x) (hV : VV[j]? = some x) (he : EvX g L e (wV T) L' m) (hr : ∀ r, EvB g ((L' r.2).set i (sV false T r.1)) st D (h r))
    (hs : swapsWith e (some (.Name x pos')) pos.line g.X.env = pure false := by rfl) : EvB g L (.Assign [.Name x pos'] e pos :: st) D (m.bind h) :=
  evb_setX ok hN hV he (fun r => PSs.imp (hr r) fun E σ H ⟨kp, own, at_, q⟩ => ⟨kp, own, at_.setXV, q⟩) hs
end
end Hd

namespace Hd
open PySem PySem.Spec L2
/-! ### slots taken otherwise; how defs that change arguments end -/
section
variable {p : Pr} {sc : Scope} {NN VV GG : List Str} {k : Nat} {g : G} {L : List Slot} {e : Expr} {α β γ δ ω ρ τ : Type} {S : Ty α} {T : Ty β} {O : WTy α} {pos pos' : Pos} {i j : Nat} {x : Str} {d : α} {st : List Stmt} {D : δ → Out}
theorem At.conv {fm : Fm} {kp : RdR} {σ : L2.St} {H : Hp} {own : List Addr} {s s' : Slot} (hL : L[i]? = some s) (c : ∀ v H R F, s.ok v H R F → s'.ok v H R F) (h : At fm kp L σ H own) : At fm kp (L.set i s') σ H own := by
  obtain ⟨h1, h2, ⟨Fs, h3, e⟩, h4, h5, h6⟩ := h
  refine ⟨h1, h2, ⟨Fs, ?_, e⟩, h4, h5, h6⟩
  have hpw := h3.pw
  refine Pw.all ⟨by rw [List.length_set]; exact hpw.l1, by rw [List.length_set]; exact hpw.l2, fun j _ s2 v F e1 e2 e3 => ?_⟩
  by_cases hij : i = j
  · subst hij
    rw [List.getElem?_set_self (List.getElem?_eq_some_iff.mp hL).1] at e1
    cases e1
    exact c _ _ _ _ (hpw.ok i (fun z => z) _ v F hL e2 e3)
  · rw [List.getElem?_set_ne hij] at e1
    exact hpw.ok j (fun z => z) s2 v F e1 e2 e3
theorem evb_conv {m : M δ} {s s' : Slot} (hL : L[i]? = some s) (c : ∀ v H R F, s.ok v H R F → s'.ok v H R F) (hr : EvB g (L.set i s') st D m) : EvB g L st D m := PSs.imp hr fun E σ H ⟨kp, own, at_, q⟩ => ⟨kp, own, at_.conv hL c, q⟩
theorem repsV_of {H : Hp} {R : RdR} {ds : List α} {vs : List V} {Fs : List (List Addr)} (h : RepsO (wV S) H R ds vs Fs) : Fs.flatten = [] ∧ Reps S R ds vs := by
  induction h with
  | nil => exact ⟨rfl, .nil⟩
  | cons r _ ih =>
    obtain ⟨e, r⟩ := r
    subst e
    exact ⟨by rw [List.flatten_cons, ih.1]; rfl, .cons r ih.2⟩
theorem repsV_to {H : Hp} {R : RdR} {ds : List α} {vs : List V} (h : Reps S R ds vs) : ∃ Fs, RepsO (wV S) H R ds vs Fs ∧ Fs.flatten = [] := by
  induction h with
  | nil => exact ⟨[], .nil, rfl⟩
  | cons r _ ih =>
    obtain ⟨Fs, h1, h2⟩ := ih
    exact ⟨[] :: Fs, .cons ⟨rfl, r⟩ h1, by rw [List.flatten_cons, h2]; rfl⟩
theorem own_to {ds : List α} (v : Option V) (H : Hp) (R : Bool → RdR) (F : List Addr) (h : (sOwn false S ds).ok v H R F) : (sO (wL (wV S)) ds).ok v H R F := by
  obtain ⟨q, xs, e1, e2, h1, h2⟩ := h
  obtain ⟨Fs, h3, h4⟩ := repsV_to (H := H) h2
  exact ⟨.ref q, e1, trivial, q, xs, Fs, rfl, by rw [h4, e2], h1, h3⟩
theorem own_of {ds : List α} (v : Option V) (H : Hp) (R : Bool → RdR) (F : List Addr) (h : (sO (wL (wV S)) ds).ok v H R F) : (sOwn false S ds).ok v H R F := by
  obtain ⟨y, e1, _, q, xs, Fs, e3, e4, h1, h2⟩ := h
  obtain ⟨h3, h4⟩ := repsV_of h2
  exact ⟨q, xs, by rw [e1, e3], by rw [e4, h3], h1, h4⟩
/-- a list of one's own, as a tree; and back -/
theorem evb_asO {m : M δ} {ds : List α} (hL : L[i]? = some (sOwn false S ds)) (hr : EvB g (L.set i (sO (wL (wV S)) ds)) st D m) : EvB g L st D m := evb_conv hL own_to hr
theorem evb_asOwn {m : M δ} {ds : List α} (hL : L[i]? = some (sO (wL (wV S)) ds)) (hr : EvB g (L.set i (sOwn false S ds)) st D m) : EvB g L st D m := evb_conv hL own_of hr
/-- its end is reached -/
theorem x_nx {fo : ω → List Slot} {r : Unit × ω} {fm : Fm} {Q : VK} (h : OutOk fm (fun _ _ => False) { nx := fun _ H' => Q .non H', rt := Q } (xOut fo (wV tNone) r)) : OutOk fm (fun _ _ => False) { nx := fun _ H' => Q .non H', rt := Q } (.nx (fo r.2)) :=
  fun σ H own a => h .non σ H H own [] a (Same.refl H) List.nodup_nil (fun _ z => nomatch z) ⟨rfl, rfl⟩
/-- return e -/
theorem evb_retXo {fo : ω → List Slot} {w : ω} {m : M α} {mk : α → δ} (wk : Wkx g L (NoEx m)) (hD : ∀ d, D (mk d) = xOut fo O (d, w)) (hw : Wk L (fo w)) (he : EvN g L e O m) : EvB g L (.Return (some e) pos :: st) D (m.bind fun d => .ok (mk d)) := by
  refine PSs.imp (PSs.head (ps_ret he)) fun E σ H ⟨kp, own, at_, q⟩ => ?_
  refine ⟨kp, own, at_, ?_⟩
  cases m with
  | ok d =>
    have q : OutOk g.fm kp E (D (mk d)) := q
    rw [hD] at q
    obtain ⟨own2, a2, sub⟩ := at_.weak hw
    obtain ⟨b1, b2, b3, b4, b5, _⟩ := a2
    refine fun v F H' s nd n r => q v σ H H' own2 F ⟨b1, b2, b3, b4, b5, fun _ _ z => z.elim⟩ s nd n (O.st r (RD.drop fun y hy => ?_) fun _ _ => rfl)
    rcases List.mem_append.mp hy with z | z
    · exact List.mem_append_left _ z
    · exact List.mem_append_right _ (sub y z)
  | ex c => exact BOk.exx' wk (fun n => n c rfl) at_ q
  | no => exact q
end
end Hd

namespace Hd
open PySem PySem.Spec L2
/-! ### places that are names -/
section
variable {p : Pr} {sc : Scope} {NN VV GG : List Str} {k : Nat} {g : G} {L : List Slot} {e : Expr} {α β γ δ : Type} {O3 : WTy γ} {pos pos' np : Pos} {i j : Nat} {x : Str} {px : V → Prop} {ds : List γ} {st : List Stmt} {D : δ → Out}
theorem evb_nAppend {m : M γ} {h : List γ → M δ} {ap cp : Pos} (ok : OkS p sc NN VV GG k g) (hN : NN[i]? = some x) (hV : VV[j]? = some x) (hL : L[i]? = some (sP px (wL O3) ds)) (wk : Wk L g.LX) (he : EvN g L e O3 m) (hr : ∀ d', EvB g (L.set i (sP px (wL O3) d')) st D (h d'))
    (hs : swapsWith (.Call (.Attribute (.Name x np) "append" ap) [e] [] cp) none pos.line g.X.env = pure false := by rfl)
    (hbase : attributeBase (.Name x np) "append" g.X.env (eval (.Name x np) g.X.env) = eval (.Name x np) g.X.env := by rfl)
    (hfew : ((backTo cp (starEach [e] g.X.env)).all (fun x => !x.1) && (backToKw cp (keywordEach [] g.X.env)).all (fun x => x.1.isSome)
      && decide (([e] : List Expr).length + ([] : List Keyword).length + (if ([] : List Keyword).isEmpty then 0 else 1) < 30)) = true := by rfl)
    (hline : (ap.endLine == cp.line) = true := by rfl) (hst : starEach [e] g.X.env = (false, eval e g.X.env) :: starEach [] g.X.env := by rfl) (hpl : (backTo cp (starEach [] g.X.env)).any (·.1) = false := by rfl) :
    EvB g L (.Expr (.Call (.Attribute (.Name x np) "append" ap) [e] [] cp) pos :: st) D (m.bind fun y => (pushM ds y).bind h) :=
  evb_pAppend (mp := .ok (ds, fun y => y)) ok (.inl wk) (evp_name ok.toOk hN hV hL) he hr hs hbase hfew hline hst hpl
end
end Hd

namespace Hd
open PySem PySem.Spec L2
/-! ### an own item is taken out of an own list -/
def popX {γ : Type} (xs : List γ) : M (γ × List γ) := match xs.getLast? with
  | some x => .ok (x, xs.dropLast)
  | none => .no
section
variable {p : Pr} {sc : Scope} {NN VV GG : List Str} {k : Nat} {g : G} {L : List Slot} {a e : Expr} {α β γ δ : Type} {O : WTy α} {O3 : WTy γ} {i j : Nat} {px : V → Prop} {d : α} {ap cp : Pos}
theorem ex_pop {mp : M (List γ × (List γ → α))} (ok : Ok p sc NN VV GG k g) (wk : Wkx g L (NoEx mp)) (hp : EvP g L a i px O d (wL O3) mp)
    (hbase : attributeBase a "pop" g.X.env (eval a g.X.env) = eval a g.X.env := by rfl)
    (hline : (ap.endLine == cp.line) = true := by rfl) :
    EvX g L (.Call (.Attribute a "pop" ap) [] [] cp) O3 (fun t => L.set i (sP px O t)) (mp.bind fun q => (popX q.1).bind fun r => .ok (r.1, q.2 r.2)) := by
  refine PE.imp (pe_bm0 PySem.F.plainAttrs_list PySem.F.slot_list_pop PySem.F.type_list_pop mt_pop hp (hbase := hbase) (hline := hline)) fun σ H Q ⟨kp, own, at_, q⟩ => ?_
  obtain ⟨Fs, hsl, heo⟩ := at_.sl
  refine ⟨kp, own, Fs, at_, hsl, heo, ?_⟩
  cases mp with
  | no => exact q
  | ex c =>
    intro H' s
    rcases wk with wk | n
    · obtain ⟨own', a', _⟩ := (at_.ext s).weak wk
      exact q H' own' a'
    · exact absurd rfl (n c)
  | ok q0 =>
    intro v2 F2 H1 s1 A1
    have at1 := at_.ext s1
    have sub2 := at1.gdo A1
    have q : FinX g.fm g.W kp σ g.LX (fun t => L.set i (sP px O t)) O3 Q ((popX q0.1).bind fun r => .ok (r.1, q0.2 r.2)) := q
    unfold popX at q
    cases hx0 : q0.1.getLast? with
    | none => rw [hx0] at q; exact q.elim
    | some x =>
      rw [hx0] at q
      obtain ⟨v, F, hL, hs, eo, e1, hx, e2, pl⟩ := A1
      obtain ⟨p', vs, Gs, r1, r2, hp', rr⟩ := pl.rep
      have ndF := pl.nd
      subst r1
      have hl := rr.length
      have hlF := rr.lengthF
      have hne : 0 < q0.1.length := by
        cases h : q0.1 with
        | nil => rw [h] at hx0; cases hx0
        | cons _ _ => simp
      have hxi : q0.1[q0.1.length - 1]? = some x := by rw [← List.getLast?_eq_getElem?]; exact hx0
      obtain ⟨y, G, hy, hG, ry⟩ := rr.get hxi
      have rr2 := rr.take (q0.1.length - 1)
      have eV : vs.take (q0.1.length - 1) = vs.dropLast := by rw [List.dropLast_eq_take, hl]
      rw [eV, ← List.dropLast_eq_take] at rr2
      have eG : Gs = Gs.take (q0.1.length - 1) ++ [G] := by
        have h1 : q0.1.length - 1 < Gs.length := by omega
        have h2 : Gs.drop (q0.1.length - 1) = [G] := by
          rw [List.drop_eq_getElem_cons h1, List.drop_eq_nil_of_le (by omega)]
          rw [List.getElem?_eq_getElem h1] at hG
          rw [Option.some.inj hG]
        rw [← h2, List.take_append_drop]
      generalize hT : Gs.take (q0.1.length - 1) = T at rr2 eG
      have eF : F2 = p' :: (T.flatten ++ G) := by rw [r2, eG, List.flatten_append]; simp
      have nd0 := ndF
      rw [eF, List.nodup_cons, List.nodup_append] at nd0
      obtain ⟨np, ndT, ndG, dis⟩ := nd0
      have inF : ∀ z, z ∈ G ++ (p' :: T.flatten) → z ∈ F2 := fun z hz => by
        rw [eF]
        rcases List.mem_append.mp hz with hz | hz
        · exact List.mem_cons_of_mem _ (List.mem_append_right _ hz)
        · rcases List.mem_cons.mp hz with hz | hz
          · rw [hz]; exact List.mem_cons_self
          · exact List.mem_cons_of_mem _ (List.mem_append_left _ hz)
      have nd' : (G ++ (p' :: T.flatten)).Nodup := by
        refine List.nodup_append.mpr ⟨ndG, List.nodup_cons.mpr ⟨fun h => np (List.mem_append_left _ h), ndT⟩, fun z hz w hw e => ?_⟩
        subst e
        rcases List.mem_cons.mp hw with hw | hw
        · exact np (by rw [← hw]; exact List.mem_append_right _ hz)
        · exact dis z hw z hz rfl
      let H' : Hp := upd H1 p' (.lst vs.dropLast)
      have hA : ArgsAt L σ Fs H1 (RD g.fm own H1) (waCons (wL O3) waNil) (fun (d : List γ × Unit) (w : List γ × Unit) => (w.1, d.2)) (q0.1, ()) [V.ref p'] (F2 ++ []) [i] (fun (w : List γ × Unit) => (q0.2 w.1, ())) (fun (t : α × Unit) => [(i, sP px O t.1)]) := .ow hL e1 hx e2 pl List.not_mem_nil .nil
      have tbF : ∀ z ∈ F2, ∃ o, H1 z = some o ∧ gd o = true := (wL O3).tb pl.rep
      have sm : Same (hm H1 (F2 ++ [])) H' := hm_wr (Same.refl H1) (by rw [List.append_nil, eF]; exact List.mem_cons_self) hp' rfl (by rw [List.append_nil]; exact tbF)
      have nz : ∀ z ∈ F2, H' z ≠ none := fun z hz => by
        by_cases ez : z = p'
        · rw [ez]; show upd H1 p' _ p' ≠ none; rw [upd_same]; exact fun h => nomatch h
        · show upd H1 p' _ z ≠ none
          rw [upd_ne ez]
          obtain ⟨o, ho, _⟩ := tbF z hz
          rw [ho]; exact fun h => nomatch h
      have mono : ∀ X : List Addr, (∀ z ∈ X, z ∈ own) → ∀ b o, RD g.fm own H1 b o → RD g.fm X H' b o := fun X hX b o z => by
        rcases z with ⟨z1, z2, z3⟩ | z
        · have ne : b ≠ p' := fun h => z2 (by rw [h]; exact sub2 p' (by rw [eF]; exact List.mem_cons_self))
          refine .inl ⟨?_, fun h => z2 (hX b h), z3⟩
          unfold Rd
          show _ ∨ _
          rw [cl_upd_ne ne]
          exact z1
        · exact .inr z
      have inO : ∀ z ∈ G ++ (p' :: T.flatten) ++ own.filter (fun z => decide (z ∉ F2 ++ [])), z ∈ own := fun z hz => by
        rcases List.mem_append.mp hz with hz | hz
        · exact sub2 z (inF z hz)
        · exact (List.mem_filter.mp hz).1
      have ne' : ∀ z ∈ T.flatten ++ G, H' z = H1 z := fun z hz => upd_ne fun h => np (by rw [← h]; exact hz)
      obtain ⟨own', a', sub', kpt, Fs2, al2, eo2⟩ := at1.chgX (Fr := G) (Fa' := p' :: T.flatten) (w := (q0.1.dropLast, ())) hs eo hA sm nd' (fun z hz => ⟨.inl (by rw [List.append_nil]; exact inF z hz), nz z (inF z hz)⟩)
        ⟨V.ref p', [], p' :: T.flatten, [], rfl, by simp, ⟨p', vs.dropLast, T, rfl, rfl, upd_same, rr2.st (mono _ inO) fun z hz => ne' z (List.mem_append_left _ hz)⟩, rfl, rfl⟩
      have inc : ∀ z ∈ G ++ own', z ∈ G ++ (p' :: T.flatten) ++ own.filter (fun z => decide (z ∉ F2 ++ [])) := fun z hz => by
        rcases List.mem_append.mp hz with hz | hz
        · exact List.mem_append_left _ (List.mem_append_left _ hz)
        · rcases sub' z hz with h | h
          · exact List.mem_append_left _ (List.mem_append_right _ h)
          · exact List.mem_append_right _ (List.mem_filter.mpr ⟨h.1, by rw [decide_eq_true_eq]; exact h.2⟩)
      have fin : Q y H' := by
        refine q y G H' own' a' (List.nodup_append.mpr ⟨ndG, a'.nd, fun z hz w hw e => ?_⟩) (fun z hz => ?_) (fun b o z => RD.drop inc b o (kpt b o z)) ⟨Fs2, al2.st (RB.own inc) (fun _ _ => rfl), eo2⟩ (O3.st ry (mono _ fun z hz => inO z (inc z hz)) fun z hz => ne' z (List.mem_append_right _ hz))
        · subst e
          have zF := inF z (List.mem_append_left _ hz)
          rcases sub' z hw with h | h
          · exact (List.nodup_append.mp nd').2.2 z hz z h rfl
          · exact h.2 (by rw [List.append_nil]; exact zF)
        · have zF := inF z (List.mem_append_left _ hz)
          have := at1.new z (sub2 z zF)
          exact ⟨nz z zF, this.2⟩
      have hyl : vs[vs.length - 1]? = some y := by rw [← hl]; exact hy
      exact ⟨Or.inl ⟨rfl, _, SqL.of hp'⟩, _, vs, _, rfl, rfl, hp', hyl, fin⟩
end
end Hd

namespace Hd
open PySem PySem.Spec L2
/-! ### place[k] = e, the place a written list of several kinds -/
theorem WAt.set {δ : Type} {A : WAr δ} {kk : Nat} {α : Type} {O : WTy α} {pr : δ → α} {stt : δ → α → δ} (hA : WAt A kk O pr stt) : ∀ {d : δ} {vs : List V} {H : Hp} {R : RdR} {G F1 : List Addr} {x : α} {w : V}, A.rep d vs H R G → G.Nodup → O.rep x w H R F1 → F1.Nodup → (∀ q ∈ F1, q ∉ G) → ∃ G', A.rep (stt d x) (vs.set kk w) H R G' ∧ G'.Nodup ∧ (∀ q ∈ G', q ∈ F1 ∨ q ∈ G) ∧ kk < vs.length := by
  induction hA with
  | z =>
    rintro d vs H R G F1 x w ⟨v, r, Fa, Fb, e1, e2, h1, h2⟩ nd rx nd1 dis
    subst e1; subst e2
    have nd' := List.nodup_append.mp nd
    refine ⟨F1 ++ Fb, ⟨w, r, F1, Fb, rfl, rfl, rx, h2⟩, List.nodup_append.mpr ⟨nd1, nd'.2.1, fun q hq z hz e => dis q hq (by rw [e]; exact List.mem_append_right _ hz)⟩, fun q hq => ?_, by simp⟩
    rcases List.mem_append.mp hq with h | h
    · exact .inl h
    · exact .inr (List.mem_append_right _ h)
  | s _ ih =>
    rintro d vs H R G F1 x w ⟨v, r, Fa, Fb, e1, e2, h1, h2⟩ nd rx nd1 dis
    subst e1; subst e2
    have nd' := List.nodup_append.mp nd
    obtain ⟨G', g1, g2, g3, g4⟩ := ih h2 nd'.2.1 rx nd1 fun q hq hz => dis q hq (List.mem_append_right _ hz)
    refine ⟨Fa ++ G', ⟨v, _, Fa, G', rfl, rfl, h1, g1⟩, List.nodup_append.mpr ⟨nd'.1, g2, fun q hq z hz e => ?_⟩, fun q hq => ?_, by simp; omega⟩
    · subst e
      rcases g3 q hz with h | h
      · exact dis q h (List.mem_append_left _ hq)
      · exact nd'.2.2 q hq q h rfl
    · rcases List.mem_append.mp hq with h | h
      · exact .inr (List.mem_append_left _ h)
      · exact (g3 q h).imp id (List.mem_append_right _)
section
variable {p : Pr} {sc : Scope} {NN VV GG : List Str} {k : Nat} {g : G} {L L' : List Slot} {a e ix : Expr} {md md' : Md} {α β γ δ ρ : Type} {T : Ty β} {O : WTy α} {A : WAr ρ} {pos : Pos} {i : Nat} {px : V → Prop} {d : α} {st : List Stmt} {D : δ → Out}
theorem evb_pSetH {mp : M (ρ × (ρ → α))} {m : M β} {h : α → M δ} {p2 : Pos} {kk : Nat} {pr : ρ → β} {stt : ρ → β → ρ} (ok : OkS p sc NN VV GG k g) (hA : WAt A kk (wV T) pr stt) (wk : Wkx g L (NoEx m ∧ NoEx mp)) (he : EvE g L e md T m) (hp : EvP g L a i px O d (wHl A) mp) (hi : EvE g L ix md' tInt (.ok (kk : Int))) (hr : ∀ d', EvB g (L.set i (sP px O d')) st D (h d'))
    (hs : swapsWith e (some (.Subscript a ix p2)) pos.line g.X.env = pure false := by rfl)
    (hsub : ∀ v, assign (.Subscript a ix p2) g.X.env v = (do
      let ov ← holding [v] (eval a g.X.env)
      let iv ← holding [v, ov] (eval ix g.X.env)
      standAt p2
      holding [v, ov, iv] (setItem ov iv v)
      release [v, ov, iv] []) := by intro _; rfl)
    (hs' : swapsWithSole [.Subscript a ix p2] e pos.line g.X.env = pure false := by rfl) (hw : swappedStores [.Subscript a ix p2] e g.X.env = pure none := by rfl) (ha1 : (assignEach [.Subscript a ix p2] g.X.env).map (·.2) = [assign (.Subscript a ix p2) g.X.env] := by rfl) :
    EvB g L (.Assign [.Subscript a ix p2] e pos :: st) D (m.bind fun x => mp.bind fun q => h (q.2 (stt q.1 x))) := by
  refine PSs.imp (pss_cons (ps_asg he (pg_sub hp hi set_list hsub) hs' hw ha1) (PSs.ex hr)) fun E σ H ⟨kp, own, at_, q⟩ => ?_
  refine tE_iff.mpr ⟨kp, own, at_, ?_⟩
  cases m with
  | ok x =>
    intro w H0 s0 r0
    have at0 := at_.ext s0
    obtain ⟨Fs, hsl, heo⟩ := at0.sl
    refine ⟨kp, own, Fs, at0, hsl, heo, ?_⟩
    cases mp with
    | ok q0 =>
      intro v2 F2 H1 s1 A1
      have at1 := at0.ext s1
      refine tE_iff.mpr ⟨kp, own, at1, ?_⟩
      intro y H2 s2 r2
      cases (show y = .int kk from r2)
      have at2 := at1.ext s2
      have q : BOk g kp E D (h (q0.2 (stt q0.1 x))) := q
      have A2 := A1.ext s2
      have sub2 := at2.gdo A2
      obtain ⟨v, F, hL, hs2, eo, e1, hx, e2, pl⟩ := id A2
      obtain ⟨p', vs, G, r1, r3, hp', rr⟩ := pl.rep
      have ndF := pl.nd
      subst r1
      rw [r3, List.nodup_cons] at ndF
      have rx : (wV T).rep x w H2 (RD g.fm own H2) [] := ⟨rfl, T.mono r0 fun a o z => RD.same s2 a o (RD.same s1 a o (RX.sh a o z))⟩
      obtain ⟨G', g1, g2, g3, g4⟩ := hA.set rr ndF.2 rx List.nodup_nil fun _ h => nomatch h
      have g3 : ∀ q ∈ G', q ∈ G := fun q hq => (g3 q hq).resolve_left fun h => nomatch h
      have inF : ∀ z ∈ p' :: G', z ∈ F2 := fun z hz => by
        rw [r3]
        rcases List.mem_cons.mp hz with h | h
        · rw [h]; exact List.mem_cons_self
        · exact List.mem_cons_of_mem _ (g3 z h)
      have tbF : ∀ z ∈ F2, ∃ o, H2 z = some o ∧ gd o = true := (wHl A).tb pl.rep
      have sm : Same (hm H2 F2) (upd H2 p' (.lst (vs.set kk w))) := hm_wr (Same.refl H2) (by rw [r3]; exact List.mem_cons_self) hp' rfl tbF
      have ne' : ∀ z ∈ G', upd H2 p' (.lst (vs.set kk w)) z = H2 z := fun z hz => upd_ne fun h => ndF.1 (by rw [← h]; exact g3 z hz)
      have mono : ∀ X : List Addr, (∀ z ∈ X, z ∈ own) → ∀ b o, RD g.fm own H2 b o → RD g.fm X (upd H2 p' (.lst (vs.set kk w))) b o := fun X hX b o z => by
        rcases z with ⟨z1, z2, z3⟩ | z
        · have ne : b ≠ p' := fun h => z2 (by rw [h]; exact sub2 p' (by rw [r3]; exact List.mem_cons_self))
          refine .inl ⟨?_, fun h => z2 (hX b h), z3⟩
          unfold Rd
          show _ ∨ _
          rw [cl_upd_ne ne]
          exact z1
        · exact .inr z
      obtain ⟨own', a', _⟩ := at2.chg (F2' := p' :: G') (d2' := stt q0.1 x) A2 sm (List.nodup_cons.mpr ⟨fun h => ndF.1 (g3 _ h), g2⟩) (fun z hz => .inl (inF z hz)) (fun z hz => by
        by_cases ez : z = p'
        · rw [ez, upd_same]; exact fun h => nomatch h
        · rw [upd_ne ez]
          obtain ⟨o, ho, _⟩ := tbF z (inF z hz)
          rw [ho]; exact fun h => nomatch h) ⟨p', vs.set kk w, G', rfl, rfl, upd_same, A.st g1 (mono _ fun z hz => by
            rcases List.mem_append.mp hz with h | h
            · exact sub2 z (inF z h)
            · exact h) ne'⟩
      have hix : L2.ixN vs.length (kk : Int) = some kk := by
        unfold L2.ixN
        rw [if_pos (by omega), if_pos (by omega), Int.toNat_natCast]
      exact ⟨_, vs, (kk : Int), kk, rfl, rfl, hp', hix, q0.2 (stt q0.1 x), kp, own', a', q⟩
    | ex c => exact BOk.exx' wk (fun n => n.2 c rfl) at0 q
    | no => exact q
  | ex c => exact BOk.exx' wk (fun n => n.1 c rfl) at_ q
  | no => exact q
end
end Hd

namespace Hd
open PySem PySem.Spec PyProof.Rows L2
/-! ### places, as the generator prints them -/
section
variable {p : Pr} {sc : Scope} {NN VV GG VV' GG' : List Str} {k : Nat} {g : G} {L L' : List Slot} {a b c e e' ix : Expr} {es : List Expr} {md md' : Md} {α β γ δ ρ : Type} {S : Ty α} {T : Ty β} {O : WTy α} {O2 : WTy β} {O3 : WTy γ} {A : WAr ρ} {pos pp pos' : Pos} {i j i2 : Nat} {x y f : Str} {px : V → Prop} {d : α} {st : List Stmt} {D : δ → Out} {py spos cpos tp : Pos} {elt it : Expr} {ifs : List Expr} {scope : Scope} {s₀ : Slot}
/-- y = [elt for x in it if c], items of one's own -/
theorem evn_lc {m : M (List α)} {cm : α → M Bool} {f : α → M β} (ok : Ok p sc NN VV GG k g) (hI : EvI g L (.Name x tp) it S m) (hN : NN[i]? = some x) (hLi : L[i]? = some s₀) (hs₀ : NoOwn s₀) (hb : blkC NN sc scope [(x, i)] = true)
    (hv : VV'.all (seenB scope) = true) (hg : GG'.all (glB scope) = true) (hx : locB scope x = true)
    (hc : ∀ g', Ok p scope NN VV' GG' k g' → ∀ d, PTs g'.X ifs (tT g'.fm g'.W (L.set i (sV false S d)) (cm d)))
    (hO : FlatW O2) (he : ∀ g', Ok p scope NN VV' GG' k g' → ∀ d, EvN g' (L.set i (sV false S d)) elt O2 (f d)) (hs : ∀ x, foldedSetIterable it g.X.env x = pure x := by intro _; rfl) :
    EvN g L (.ListComp elt [⟨.Name x tp, it, ifs, 0⟩] scope pos) (wL O2) (m.bind fun xs => compM (fun d => (cm d).bind fun c => if c = true then (f d).bind fun y => .ok (some y) else .ok none) xs) := (evn_lc2 ok hI hN hLi hs₀ hb hv hg hx hc hO he hs).1
theorem evb_setNC {m : M (List α)} {cm : α → M Bool} {f : α → M β} {h : List β → M δ} (ok : OkS p sc NN VV GG k g) (hN2 : NN[i2]? = some y) (wk : Wk L g.LX) (hO : FlatW O2) (hy : isLoc sc y = true) (hl : (py.line == cpos.line) = true) (ha : (scope.names.any fun (n, k) => n == y && (k == .local || k == .cell)) = false)
    (hI : EvI g L (.Name x tp) it S m) (hN : NN[i]? = some x) (hLi : L[i]? = some s₀) (hs₀ : NoOwn s₀) (hb : blkC NN sc scope [(x, i)] = true) (hv : VV'.all (seenB scope) = true) (hg : GG'.all (glB scope) = true) (hx : locB scope x = true)
    (hc : ∀ g', Ok p scope NN VV' GG' k g' → ∀ d, PTs g'.X ifs (tT g'.fm g'.W (L.set i (sV false S d)) (cm d))) (he : ∀ g', Ok p scope NN VV' GG' k g' → ∀ d, EvN g' (L.set i (sV false S d)) elt O2 (f d))
    (hr : ∀ d, EvB g (L.set i2 (sO (wL O2) d)) st D (h d)) (hs : ∀ x, foldedSetIterable it g.X.env x = pure x := by intro _; rfl) :
    EvB g L (.Assign [.Name y py] (.ListComp elt [⟨.Name x tp, it, ifs, 0⟩] scope cpos) spos :: st) D ((m.bind fun xs => compM (fun d => (cm d).bind fun c => if c = true then (f d).bind fun y => .ok (some y) else .ok none) xs).bind h) := by
  obtain ⟨e1, e2⟩ := sw_loc (elt := elt) (spos := spos) (gs := [⟨.Name x tp, it, ifs, 0⟩]) ok hy hl ha
  refine PSs.imp (pss_cons ((evn_lc2 ok.toOk hI hN hLi hs₀ hb hv hg hx hc hO he hs).2 hN2 e1 e2) (PSs.ex hr)) fun E σ H ⟨kp, own, at_, q⟩ => ?_
  unfold tSeq tAsg
  refine ⟨kp, own, at_, ?_⟩
  generalize (m.bind fun xs => compM (fun d => (cm d).bind fun c => if c = true then (f d).bind fun y => .ok (some y) else .ok none) xs) = mm at q ⊢
  cases mm with
  | ok d =>
    intro v F H' s nd n r
    obtain ⟨own', a'⟩ := at_.setW (i := i2) s nd n r
    exact ⟨d, kp, own', a', q⟩
  | ex c => exact BOk.exx wk at_ q
  | no => exact q
/-- the statements over places, the rest behind a bind -/
theorem evb_qAppend {mp : M (List γ × (List γ → α))} {m : M γ} {h : α → M δ} {ap cp : Pos} (ok : OkS p sc NN VV GG k g) (wk : Wk L g.LX) (hp : EvP g L a i px O d (wL O3) mp) (he : EvN g L e O3 m) (hr : ∀ d', EvB g (L.set i (sP px O d')) st D (h d'))
    (hs : swapsWith (.Call (.Attribute a "append" ap) [e] [] cp) none pos.line g.X.env = pure false := by rfl)
    (hbase : attributeBase a "append" g.X.env (eval a g.X.env) = eval a g.X.env := by rfl)
    (hfew : ((backTo cp (starEach [e] g.X.env)).all (fun x => !x.1) && (backToKw cp (keywordEach [] g.X.env)).all (fun x => x.1.isSome)
      && decide (([e] : List Expr).length + ([] : List Keyword).length + (if ([] : List Keyword).isEmpty then 0 else 1) < 30)) = true := by rfl)
    (hline : (ap.endLine == cp.line) = true := by rfl) (hst : starEach [e] g.X.env = (false, eval e g.X.env) :: starEach [] g.X.env := by rfl) (hpl : (backTo cp (starEach [] g.X.env)).any (·.1) = false := by rfl) :
    EvB g L (.Expr (.Call (.Attribute a "append" ap) [e] [] cp) pos :: st) D (mp.bind fun q => m.bind fun x => (pushM q.1 x).bind fun l => M.bind (.ok (q.2 l)) h) :=
  evb_pAppend ok (.inl wk) hp he hr hs hbase hfew hline hst hpl
theorem evb_qPop {mp : M (List γ × (List γ → α))} {h : α → M δ} {ap cp : Pos} (ok : OkS p sc NN VV GG k g) (wk : Wk L g.LX) (hp : EvP g L a i px O d (wL O3) mp) (hr : ∀ d', EvB g (L.set i (sP px O d')) st D (h d'))
    (hs : swapsWith (.Call (.Attribute a "pop" ap) [] [] cp) none pos.line g.X.env = pure false := by rfl)
    (hbase : attributeBase a "pop" g.X.env (eval a g.X.env) = eval a g.X.env := by rfl)
    (hline : (ap.endLine == cp.line) = true := by rfl) :
    EvB g L (.Expr (.Call (.Attribute a "pop" ap) [] [] cp) pos :: st) D (mp.bind fun q => (popM q.1).bind fun l => M.bind (.ok (q.2 l)) h) :=
  evb_pPop ok (.inl wk) hp hr hs hbase hline
theorem evb_qSet {mp : M (List β × (List β → α))} {m : M β} {mi : M Int} {h : α → M δ} {p2 : Pos} (ok : OkS p sc NN VV GG k g) (wk : Wk L g.LX) (he : EvE g L e md T m) (hp : EvP g L a i px O d (wL (wV T)) mp) (hi : EvE g L ix md' tInt mi) (hr : ∀ d', EvB g (L.set i (sP px O d')) st D (h d'))
    (hs : swapsWith e (some (.Subscript a ix p2)) pos.line g.X.env = pure false := by rfl)
    (hsub : ∀ v, assign (.Subscript a ix p2) g.X.env v = (do
      let ov ← holding [v] (eval a g.X.env)
      let iv ← holding [v, ov] (eval ix g.X.env)
      standAt p2
      holding [v, ov, iv] (setItem ov iv v)
      release [v, ov, iv] []) := by intro _; rfl)
    (hs' : swapsWithSole [.Subscript a ix p2] e pos.line g.X.env = pure false := by rfl) (hw : swappedStores [.Subscript a ix p2] e g.X.env = pure none := by rfl) (ha1 : (assignEach [.Subscript a ix p2] g.X.env).map (·.2) = [assign (.Subscript a ix p2) g.X.env] := by rfl) :
    EvB g L (.Assign [.Subscript a ix p2] e pos :: st) D (m.bind fun x => mp.bind fun q => mi.bind fun n => (setM q.1 n x).bind fun l => M.bind (.ok (q.2 l)) h) :=
  evb_pSet ok (.inl wk) he hp hi hr hs hsub hs' hw ha1
theorem evb_qSetH {mp : M (ρ × (ρ → α))} {m : M β} {h : α → M δ} {p2 : Pos} {kk : Nat} {pr : ρ → β} {stt : ρ → β → ρ} (ok : OkS p sc NN VV GG k g) (hA : WAt A kk (wV T) pr stt) (wk : Wk L g.LX) (he : EvE g L e md T m) (hp : EvP g L a i px O d (wHl A) mp) (hi : EvE g L ix md' tInt (.ok (kk : Int))) (hr : ∀ d', EvB g (L.set i (sP px O d')) st D (h d'))
    (hs : swapsWith e (some (.Subscript a ix p2)) pos.line g.X.env = pure false := by rfl)
    (hsub : ∀ v, assign (.Subscript a ix p2) g.X.env v = (do
      let ov ← holding [v] (eval a g.X.env)
      let iv ← holding [v, ov] (eval ix g.X.env)
      standAt p2
      holding [v, ov, iv] (setItem ov iv v)
      release [v, ov, iv] []) := by intro _; rfl)
    (hs' : swapsWithSole [.Subscript a ix p2] e pos.line g.X.env = pure false := by rfl) (hw : swappedStores [.Subscript a ix p2] e g.X.env = pure none := by rfl) (ha1 : (assignEach [.Subscript a ix p2] g.X.env).map (·.2) = [assign (.Subscript a ix p2) g.X.env] := by rfl) :
    EvB g L (.Assign [.Subscript a ix p2] e pos :: st) D (m.bind fun x => mp.bind fun q => M.bind (.ok (q.2 (stt q.1 x))) h) :=
  evb_pSetH ok hA (.inl wk) he hp hi hr hs hsub hs' hw ha1
/-- place.pop(n), n not below 0 -/
theorem evb_qPopAt {mp : M (List γ × (List γ → α))} {m : M Int} {h : α → M δ} {ap cp : Pos} (ok : OkS p sc NN VV GG k g) (wk : Wk L g.LX) (hp : EvP g L a i px O d (wL O3) mp) (he : EvE g L e md tInt m) (hr : ∀ d', EvB g (L.set i (sP px O d')) st D (h d'))
    (hs : swapsWith (.Call (.Attribute a "pop" ap) [e] [] cp) none pos.line g.X.env = pure false := by rfl)
    (hbase : attributeBase a "pop" g.X.env (eval a g.X.env) = eval a g.X.env := by rfl)
    (hfew : ((backTo cp (starEach [e] g.X.env)).all (fun x => !x.1) && (backToKw cp (keywordEach [] g.X.env)).all (fun x => x.1.isSome)
      && decide (([e] : List Expr).length + ([] : List Keyword).length + (if ([] : List Keyword).isEmpty then 0 else 1) < 30)) = true := by rfl)
    (hline : (ap.endLine == cp.line) = true := by rfl) (hst : starEach [e] g.X.env = (false, eval e g.X.env) :: starEach [] g.X.env := by rfl) (hpl : (backTo cp (starEach [] g.X.env)).any (·.1) = false := by rfl) :
    EvB g L (.Expr (.Call (.Attribute a "pop" ap) [e] [] cp) pos :: st) D (mp.bind fun q => m.bind fun n => (popAtM q.1 n).bind fun l => M.bind (.ok (q.2 l)) h) := by
  refine PSs.imp (pss_cons (ps_expr (pe_bm PySem.F.plainAttrs_list PySem.F.slot_list_pop PySem.F.type_list_pop mt_popAt hp (pa_cons he pa_nil hst) (hbase := hbase) (hfew := hfew) (hline := hline) (hs := hst) (hplain := hpl)) hs) (PSs.ex hr)) fun E σ H ⟨kp, own, at_, q⟩ => ?_
  obtain ⟨Fs, hsl, heo⟩ := at_.sl
  refine ⟨kp, own, Fs, at_, hsl, heo, ?_⟩
  cases mp with
  | ok q0 =>
    intro v2 F2 H1 s1 A1
    have at1 := at_.ext s1
    obtain ⟨p', vs, Gs, r1, _, hp', _⟩ := at1.chgL (F1 := []) A1 (Same.refl H1) (fun _ h => nomatch h) (fun _ h => nomatch h)
    subst r1
    refine ⟨Or.inl ⟨rfl, _, SqL.of hp'⟩, tE_iff.mpr ⟨kp, own, at1, ?_⟩⟩
    cases m with
    | ok n =>
      intro w H2 s2 rw_
      cases (show w = .int n from rw_)
      have q : BOk g kp E D ((popAtM q0.1 n).bind fun l => h (q0.2 l)) := q
      obtain ⟨p2, vs, Gs, r1, _, _, hp2, rr, nd, gH, dj, up⟩ := at1.chgL (F1 := []) A1 s2 (fun _ h => nomatch h) (fun _ h => nomatch h)
      cases r1
      unfold popAtM at q
      split at q
      · rename_i hh
        obtain ⟨h0, hlt, h62⟩ := hh
        have hl2 := rr.length
        have hk : n.toNat < vs.length := by omega
        have rr2 := (rr.take n.toNat).append (rr.drop (n.toNat + 1))
        rw [← List.eraseIdx_eq_take_drop_succ, ← List.eraseIdx_eq_take_drop_succ, ← List.eraseIdx_eq_take_drop_succ] at rr2
        have sl : (Gs.eraseIdx n.toNat).flatten.Sublist Gs.flatten := by
          rw [List.eraseIdx_eq_take_drop_succ, List.flatten_append]
          conv => rhs; rw [← List.take_append_drop n.toNat Gs, List.flatten_append]
          refine List.Sublist.append (List.Sublist.refl _) ?_
          by_cases hg : n.toNat < Gs.length
          · rw [List.drop_eq_getElem_cons hg, List.flatten_cons]; exact List.sublist_append_right _ _
          · rw [List.drop_eq_nil_of_le (by omega)]; exact List.nil_sublist _
        obtain ⟨own', a', _⟩ := up _ _ _ rr2 (nd.sublist sl) (fun q hq => .inl (sl.subset hq))
        exact ⟨_, vs, n, n.toNat, vs[n.toNat], rfl, rfl, hp2, by omega, by omega, seqIndex_of h0 (by omega), List.getElem?_eq_getElem hk, q0.2 (q0.1.eraseIdx n.toNat), kp, own', a', q⟩
      · exact q.elim
    | ex c => exact BOk.exx wk at1 q
    | no => exact q
  | ex c => exact BOk.exx wk at_ q
  | no => exact q
end
end Hd

namespace Hd
open PySem PySem.Spec PyProof.Rows L2
/-! ### a part of a tuple whose first parts are of one kind, the place a number -/
def getP {α : Type} (xs : List α) (i : Int) : M α := if 0 ≤ i then getM xs i else .no
theorem getP_ne {α : Type} {xs : List α} {i : Int} {c : Ec} : getP xs i ≠ .ex c := by
  unfold getP; split
  · exact getM_ne
  · exact fun h => nomatch h
/-- a tuple that begins with these -/
def tTupP {α : Type} (T : Ty α) : Ty (List α) := ⟨fun ds v R => ∃ a vs ws, v = .ref a ∧ R a (.tup (vs ++ ws)) ∧ Reps T R ds vs, fun ⟨a, vs, ws, e, r, h⟩ s => ⟨a, vs, ws, e, s _ _ r, h.mono s⟩⟩
section
variable {p : Pr} {sc : Scope} {NN VV GG : List Str} {k : Nat} {g : G} {L : List Slot} {a b e tg : Expr} {md md' : Md} {pos pp : Pos} {j : Nat} {α β δ : Type} {S : Ty α} {T : Ty β} {A : Ar δ} {K : PySem.W.Frag}
structure HomP (A : Ar δ) (S : Ty α) (f : δ → List α) : Prop where
  r : ∀ {d vs R}, A.rep d vs R → ∃ us ws, vs = us ++ ws ∧ Reps S R (f d) us
theorem homP0 : HomP A S (fun _ => []) := ⟨fun {d vs R} _ => ⟨[], vs, rfl, .nil⟩⟩
theorem homPS {f : δ → List α} (h : HomP A S f) : HomP (aCons S A) S (fun d => d.1 :: f d.2) := ⟨fun {d vs R} q => by
  obtain ⟨v, r, e, h1, h2⟩ := q
  obtain ⟨us, ws, e2, h3⟩ := h.r h2
  subst e; subst e2
  exact ⟨v :: us, ws, rfl, .cons h1 h3⟩⟩
theorem o_ixP : Op2 K (rIxT K) (tTupP S) tInt S getP false := ⟨fun {d e x y R H Q} rb ⟨a, vs, ws, ex, h, r⟩ ry q => by
  unfold getP at q
  split at q
  case isFalse => exact q.elim
  rename_i h0
  unfold getM at q
  cases hj : L2.atI d e with
  | none => rw [hj] at q; exact q.elim
  | some u =>
    rw [hj] at q
    obtain ⟨v, h1, h2⟩ := r.at hj
    have h1' : L2.atI (vs ++ ws) e = some v := by
      unfold L2.atI at h1 ⊢
      cases hx : L2.ixN vs.length e with
      | none => rw [hx] at h1; cases h1
      | some i =>
        rw [hx] at h1
        have hx2 : L2.ixN (vs ++ ws).length e = some i := by
          unfold L2.ixN at hx ⊢
          rw [if_pos h0] at hx ⊢
          split at hx
          · rename_i hlt
            rw [if_pos (by rw [List.length_append]; omega)]
            exact hx
          · cases hx
        rw [hx2]
        have hlt := (List.getElem?_eq_some_iff.mp h1).1
        show (vs ++ ws)[i]? = some v
        rw [List.getElem?_append_left hlt]
        exact h1
    exact ⟨a, vs ++ ws, e, v, ex, ry, st_of rb h, h1', q _ _ (Same.refl _) (S.mono h2 (Nw.old rfl))⟩⟩
theorem ev_ixP {f : δ → List α} {m : M δ} {mi : M Int} (ok : Ok p sc NN VV GG k g) (hA : HomP A S f) (ha : EvE g L a md (tTup A) m) (hb : EvE g L b md tInt mi) (hs : PlainIx b := by exact fun _ _ => rfl) : EvE g L (.Subscript a b pos) md S (m.bind fun d => mi.bind fun i => getP (f d) i) := by
  have h := ev_ix (pos := pos) (S := tTupP S) (T := tInt) (U := S) (r := rIxT p.K) (f := getP) (fr := false) ok (by rw [← ok.K]; exact ix_tup) o_ixP (fun _ _ _ => getP_ne) .same (ev_as (S := tTup A) (T := tTupP S) (d2 := f) (fun d v R ⟨a, vs, e, h, r⟩ => by obtain ⟨us, ws, e2, r2⟩ := hA.r r; exact ⟨a, us, ws, e, e2 ▸ h, r2⟩) ha) hb hs
  have e : ((m.bind fun d => .ok (f d)).bind fun x => mi.bind fun i => getP x i) = m.bind fun d => mi.bind fun i => getP (f d) i := by cases m <;> rfl
  rwa [e] at h
end
end Hd

namespace Hd
open PySem PySem.Spec PyProof.Rows L2
/-! ### values of two kinds, by a name -/
def selm {α β γ : Type} (f : α → γ) (h : β → γ) : α ⊕ β → γ
  | .inl a => f a
  | .inr b => h b
@[simp] theorem selm_l {α β γ : Type} (f : α → γ) (h : β → γ) (a : α) : selm f h (.inl a) = f a := rfl
@[simp] theorem selm_r {α β γ : Type} (f : α → γ) (h : β → γ) (b : β) : selm f h (.inr b) = h b := rfl
section
variable {p : Pr} {sc : Scope} {NN VV GG : List Str} {k : Nat} {g : G} {L : List Slot} {a b e tg : Expr} {md md' : Md} {pos pp : Pos} {j : Nat} {α β γ δ : Type} {S : Ty α} {T : Ty β} {U : Ty γ} {A : Ar δ} {K : PySem.W.Frag} {O : WTy α}
theorem tl_sumE {f : α → Int} {h : β → Int} (h1 : TupLen S f) (h2 : TupLen T h) : TupLen (tSum S T) (selm f h) := ⟨fun {d v R} r => by
  cases d with
  | inl a => exact h1.r r
  | inr b => exact h2.r r⟩
theorem ta_sumE {n : Nat} {f : α → γ} {h : β → γ} (h1 : TupAt S n U f) (h2 : TupAt T n U h) : TupAt (tSum S T) n U (selm f h) := ⟨fun {d v R} r => by
  cases d with
  | inl a => exact h1.r r
  | inr b => exact h2.r r⟩
/-- an own list of nothing -/
theorem evn_lnil : EvN g L (.List [] pos) (wL O) (.ok []) := PE.imp (evl_nil (S := tNone) (md := .sh)) fun σ H Q ⟨kp, own, at_, q⟩ => by
  refine tL_iff.mpr ⟨kp, own, at_, ?_⟩
  intro p vs H' s n h' r
  have e : vs = [] := by cases r; rfl
  subst e
  exact q (.ref p) [p] H' s (by simp) (fun q hq => by rw [List.mem_singleton.mp hq]; exact n) ⟨p, [], [], rfl, rfl, h', .nil⟩
end
end Hd

namespace Hd
open PySem PySem.Spec L2
/-! ### own trees whose leaves are new; objects made as own trees -/
def FinM {β : Type} (fm : Fm) (W : Wx) (own : List Addr) (σ : L2.St) (H : Hp) (md : Md) (O : WTy β) (Q : VK) : M β → Prop
  | .ok d => ∀ v F H', Same H H' → F.Nodup → (∀ p ∈ F, H p = none) → O.rep d v H' (RX fm (F ++ own) H H' md) F → Q v H'
  | .ex c => ∀ H', Same H H' → W c σ H'
  | .no => False
theorem finM {β : Type} {O : WTy β} {fm : Fm} {W : Wx} {own : List Addr} {σ : L2.St} {H : Hp} {md : Md} {Q : VK} : Fin W σ H (FinM fm W own σ H md O Q) := ⟨fun h => h, fun h => h⟩
def EvM (g : G) (L : List Slot) (e : Expr) (md : Md) {β : Type} (O : WTy β) (m : M β) : Prop := PE g.X e (fun σ H Q => ∃ kp own, At g.fm kp L σ H own ∧ FinM g.fm g.W own σ H md O Q m)
section
variable {p : Pr} {sc : Scope} {NN VV GG : List Str} {k : Nat} {g : G} {L L' : List Slot} {a b c e e' : Expr} {es : List Expr} {md md' : Md} {α β γ δ ρ : Type} {S : Ty α} {T : Ty β} {U : Ty γ} {O : WTy α} {O2 : WTy β} {pos pp : Pos} {i j : Nat} {x f : Str} {px : V → Prop} {d : α}
theorem evm_n {m : M α} (h : EvM g L e md O m) : EvN g L e O m := PE.imp h fun σ H Q ⟨kp, own, at_, q⟩ => by
  refine ⟨kp, own, at_, ?_⟩
  cases m with
  | ok d => exact fun v F H' s nd n r => q v F H' s nd n (O.st r (fun a o z => RX.sh a o z) fun _ _ => rfl)
  | ex c => exact q
  | no => exact q
theorem evm_v {m : M α} (h : EvE g L e md S m) : EvM g L e md (wV S) m := PE.imp h fun σ H Q ⟨kp, own, at_, q⟩ => by
  refine tE_iff.mpr ⟨kp, own, at_, ?_⟩
  cases m with
  | ok d => exact fun v H' s r => q v [] H' s List.nodup_nil (fun _ hp => nomatch hp) ⟨rfl, r⟩
  | ex c => exact q
  | no => exact q
theorem evm_l {m : M (List α)} (h : EvL g L e md S m) : EvM g L e md (wL (wV S)) m := PE.imp h fun σ H Q ⟨kp, own, at_, q⟩ => by
  refine tL_iff.mpr ⟨kp, own, at_, ?_⟩
  cases m with
  | ok ds =>
    intro p vs H' s n h' r
    obtain ⟨Fs, r1, e1⟩ := repsV_to (H := H') r
    exact q (.ref p) [p] H' s (by simp) (fun q hq => by rw [List.mem_singleton.mp hq]; exact n) ⟨p, vs, Fs, rfl, by rw [e1], h', r1⟩
  | ex c => exact q
  | no => exact q
theorem evm_flat {m : M α} (hf : FlatW O) (h : EvN g L e O m) : EvM g L e md O m := PE.imp h fun σ H Q ⟨kp, own, at_, q⟩ => by
  refine ⟨kp, own, at_, ?_⟩
  cases m with
  | ok d => exact fun v F H' s nd n r => q v F H' s nd n (hf r)
  | ex c => exact q
  | no => exact q
theorem evm_lnil : EvM g L (.List [] pos) md (wL O) (.ok []) := PE.imp (evl_nil (S := tNone) (md := .sh)) fun σ H Q ⟨kp, own, at_, q⟩ => by
  refine tL_iff.mpr ⟨kp, own, at_, ?_⟩
  intro p vs H' s n h' r
  have e : vs = [] := by cases r; rfl
  subst e
  exact q (.ref p) [p] H' s (by simp) (fun q hq => by rw [List.mem_singleton.mp hq]; exact n) ⟨p, [], [], rfl, rfl, h', .nil⟩
theorem evm_borrowP {m : M α} {d : β} (hL : L[i]? = some (sP px O2 d)) (h : EvM g (L.set i (sV false O2.T d)) e .fx O m) : EvM g L e .fx O m := PE.imp h fun σ H Q ⟨kp, own, at_, q⟩ => by
  obtain ⟨own', a', sub⟩ := at_.freezeP hL
  refine ⟨kp, own', a', ?_⟩
  cases m with
  | ok d =>
    intro v F H' s nd n r
    refine q v F H' s nd n (O.st r (fun a o z => ?_) fun _ _ => rfl)
    refine ⟨z.1, fun y => ?_, z.2.2⟩
    rcases List.mem_append.mp y with y | y
    · exact z.2.1 (List.mem_append_left _ y)
    · exact (at_.new a y).1 z.2.2.2.2
  | ex c => exact q
  | no => exact q
theorem evm_borrow {m : M α} {T : Ty β} {bb : Bool} {ds : List β} (hL : L[i]? = some (sOwn bb T ds)) (h : EvM g (L.set i (sV false (tList T) ds)) e .fx O m) : EvM g L e .fx O m := PE.imp h fun σ H Q ⟨kp, own, at_, q⟩ => by
  obtain ⟨own', a', sub⟩ := at_.freeze hL
  refine ⟨kp, own', a', ?_⟩
  cases m with
  | ok d =>
    intro v F H' s nd n r
    refine q v F H' s nd n (O.st r (fun a o z => ?_) fun _ _ => rfl)
    refine ⟨z.1, fun y => ?_, z.2.2⟩
    rcases List.mem_append.mp y with y | y
    · exact z.2.1 (List.mem_append_left _ y)
    · exact (at_.new a y).1 z.2.2.2.2
  | ex c => exact q
  | no => exact q
theorem ev_ofM {m : M α} (h : EvM g L e md O m) : EvE g L e md O.T m := PE.imp h fun σ H Q q => by
  obtain ⟨kp, own, at_, q⟩ := tE_iff.mp q
  refine ⟨kp, own, at_, ?_⟩
  cases m with
  | ok d => exact fun v F H' s nd n r => q v H' s (O.fz r (RX.own fun p hp => List.mem_append_right _ hp) fun p hp o ho => by
      obtain ⟨o', h', g'⟩ := O.tb r p hp
      rw [ho] at h'; cases h'
      exact RX.fx md p o ⟨cl_of ho (gd_nt g'), fun hq => (at_.new p hq).1 (n p hp), fun hz => at_.zin p hz (n p hp), at_.same.free (n p hp), n p hp⟩)
  | ex c => exact q
  | no => exact q
end
/-! the object that is being made -/
structure WRp (δ : Type) where
  rep : δ → List V → Hp → RdR → List Addr → Prop
  st : ∀ {d vs H H' F} {R R' : RdR}, rep d vs H R F → (∀ a o, R a o → R' a o) → (∀ p ∈ F, H' p = H p) → rep d vs H' R' F
  tb : ∀ {d vs H F} {R : RdR}, rep d vs H R F → ∀ p ∈ F, ∃ o, H p = some o ∧ gd o = true
def WAr.rp {δ : Type} (A : WAr δ) : WRp δ := ⟨A.rep, A.st, A.tb⟩
def rpNil : WRp Unit := waNil.rp
def rpSnoc {δ α : Type} (P : WRp δ) (O : WTy α) : WRp (δ × α) where
  rep := fun d vs H R F => ∃ us v F1 F2, vs = us ++ [v] ∧ F = F1 ++ F2 ∧ P.rep d.1 us H R F1 ∧ O.rep d.2 v H R F2
  st := by
    rintro d vs H H' F R R' ⟨us, v, F1, F2, e1, e2, h1, h2⟩ s k
    exact ⟨us, v, F1, F2, e1, e2, P.st h1 s fun p hp => k p (by rw [e2]; exact List.mem_append_left _ hp), O.st h2 s fun p hp => k p (by rw [e2]; exact List.mem_append_right _ hp)⟩
  tb := by
    rintro d vs H F R ⟨us, v, F1, F2, e1, e2, h1, h2⟩ p hp
    rw [e2] at hp; exact (List.mem_append.mp hp).elim (P.tb h1 p) (O.tb h2 p)
/-- fields so far, then the others -/
structure Cat {δ ρ τ : Type} (P : WRp δ) (A : WAr ρ) (B : WAr τ) (f : δ → ρ → τ) : Prop where
  r : ∀ {d r us ws H R F1 F2}, P.rep d us H R F1 → A.rep r ws H R F2 → B.rep (f d r) (us ++ ws) H R (F1 ++ F2)
theorem cat_0 {ρ : Type} {A : WAr ρ} : Cat rpNil A A (fun _ r => r) := ⟨fun {d r us ws H R F1 F2} h1 h2 => by
  obtain ⟨e1, e2⟩ : us = [] ∧ F1 = [] := h1
  subst e1; subst e2
  exact h2⟩
theorem cat_s {δ α ρ τ : Type} {P : WRp δ} {O : WTy α} {A : WAr ρ} {B : WAr τ} {f : δ → α × ρ → τ} (h : Cat P (waCons O A) B f) : Cat (rpSnoc P O) A B (fun d r => f d.1 (d.2, r)) := ⟨fun {d r us ws H R F1 F2} h1 h2 => by
  obtain ⟨us', v, G1, G2, e1, e2, k1, k2⟩ := h1
  subst e1; subst e2
  have := h.r (d := d.1) (r := (d.2, r)) k1 (ws := v :: ws) (F2 := G2 ++ F2) ⟨v, ws, G2, F2, rfl, rfl, k2, h2⟩
  rw [show us' ++ v :: ws = (us' ++ [v]) ++ ws by simp, ← List.append_assoc] at this
  exact this⟩
/-- the slot of self -/
def sNew {δ : Type} (b : Bool) (x C : Addr) (ns : List Str) (P : WRp δ) (d : δ) : Slot := ⟨fun v H R F => ∃ dx vs G, v = some (.ref x) ∧ F = x :: G ∧ H x = some (.ins C dx (ns.zip vs)) ∧ ns.length = vs.length ∧ P.rep d vs H (R b) G,
  fun ⟨dx, vs, G, e, f, h, hl, r⟩ s k => ⟨dx, vs, G, e, f, by rw [k x (by simp [f])]; exact h, hl, P.st r (s b) fun q hq => k q (by rw [f]; exact List.mem_cons_of_mem _ hq)⟩,
  fun ⟨dx, vs, G, e, f, h, hl, r⟩ q hq => by
    rw [f] at hq
    rcases List.mem_cons.mp hq with e | hq
    · rw [e, cl_of h]; exact fun z => nomatch z
    · obtain ⟨o, ho, go⟩ := P.tb r q hq
      rw [cl_of ho (gd_nt go)]; exact fun z => nomatch z⟩
theorem new_conv {δ τ : Type} {b : Bool} {x C : Addr} {ns : List Str} {P : WRp δ} {B : WAr τ} {f : δ → Unit → τ} {d : δ} (h : Cat P waNil B f) (v : Option V) (H : Hp) (R : Bool → RdR) (F : List Addr) (q : (sNew b x C ns P d).ok v H R F) : (sNew b x C ns B.rp (f d ())).ok v H R F := by
  obtain ⟨dx, vs, G, e1, e2, e3, e4, r⟩ := q
  refine ⟨dx, vs, G, e1, e2, e3, e4, ?_⟩
  have := h.r (r := ()) (ws := []) (F2 := []) r ⟨rfl, rfl⟩
  rwa [List.append_nil, List.append_nil] at this
section
variable {p : Pr} {sc : Scope} {NN VV GG : List Str} {k : Nat} {g : G} {L : List Slot} {a c e e' : Expr} {es : List Expr} {md md' : Md} {α β γ δ ρ τ : Type} {O : WTy β} {pos pp : Pos} {i j : Nat} {x f : Str} {C : Addr} {st : List Stmt} {D : α → Out}
/-- self.f = e -/
theorem evb_fldN {b : Bool} {q : Addr} {ns : List Str} {P : WRp δ} {d : δ} {m : M β} {h : β → M α} {p1 p2 : Pos} {y : Str} (ok : OkS p sc NN VV GG k g) (wk : Wk L g.LX) (hN : NN[i]? = some y) (hV : VV[j]? = some y) (hL : L[i]? = some (sNew b q C ns P d)) (hc : Cls p.K C) (hn : NoAttr p.K C f) (hf : fldIx ns f = none) (hl : ns.length ≤ 100)
    (hb : SlB md b) (he : EvM g L e md O m) (hr : ∀ z, EvB g (L.set i (sNew b q C (ns ++ [f]) (rpSnoc P O) (d, z))) st D (h z)) (hs : swapsWith e (some (.Attribute (.Name y p1) f p2)) pos.line g.X.env = pure false := by rfl) :
    EvB g L (.Assign [.Attribute (.Name y p1) f p2] e pos :: st) D (m.bind h) := by
  obtain ⟨hv, ho⟩ := ok.vis hV
  obtain ⟨h1, h2, _⟩ := okName_d ho
  refine PSs.imp (pss_cons (ps_fld (pe_var (i := i) (by rw [ok.N]; exact hN) hv h1 h2) he hs) (PSs.ex hr)) fun E σ H ⟨kp, own, at_, q1⟩ => ?_
  refine ⟨kp, own, at_, ?_⟩
  cases m with
  | ok z =>
    intro v F1 H1 s1 nd1 n1 r1
    obtain ⟨h1, h2, ⟨Fs, h3, eo⟩, h4, h5, h6⟩ := at_
    obtain ⟨v0, F, e1, e2, dx, vs, G, rfl, rfl, hp, hlen, rr⟩ := h3.get hL
    have nd := h4
    rw [eo] at nd
    have qin : q ∈ own := by rw [eo]; exact flat_mem e2 q List.mem_cons_self
    have hp1 : H1 q = some (.ins C dx (ns.zip vs)) := s1.keep _ _ hp rfl
    have fn : (ns.zip vs).lookup f = none := fld_none hf
    refine ⟨_, e1, q, C, dx, ns.zip vs, rfl, hp1, by rw [ok.K]; exact hc, by rw [ok.K]; exact hn, by rw [List.length_zip]; omega, ?_⟩
    rw [putF_new fn]
    have ez : ns.zip vs ++ [(f, v)] = (ns ++ [f]).zip (vs ++ [v]) := by rw [List.zip_append hlen]; rfl
    rw [ez]
    have ne1 : ∀ y ∈ F1, y ≠ q := fun y hy e => (h5 q qin).1 (by rw [← e]; exact n1 y hy)
    have nG : q ∉ G := by have := flat_nd nd e2; exact (List.nodup_cons.mp this).1
    have nF : ∀ y ∈ (Fs.set i (q :: (G ++ F1))).flatten, y ∈ F1 ++ own := fun y hy => by
      rcases flat_set_mem nd e2 y hy with hy | ⟨hy, _⟩
      · rcases List.mem_cons.mp hy with e | hy
        · rw [e]; exact List.mem_append_right _ qin
        · rcases List.mem_append.mp hy with hy | hy
          · exact List.mem_append_right _ (by rw [eo]; exact flat_mem e2 y (List.mem_cons_of_mem _ hy))
          · exact List.mem_append_left _ hy
      · exact List.mem_append_right _ (by rw [eo]; exact hy)
    -- what is read at the changed heap
    have rdx : ∀ (md : Md) (Hx : Hp) a o, RX g.fm (F1 ++ own) Hx H1 md a o → RX g.fm (Fs.set i (q :: (G ++ F1))).flatten Hx (upd H1 q (.ins C dx ((ns ++ [f]).zip (vs ++ [v])))) md a o := fun md Hx a o z => by
      have out : a ∉ F1 ++ own → a ∉ (Fs.set i (q :: (G ++ F1))).flatten := fun h hy => h (nF a hy)
      have ne : a ∉ F1 ++ own → a ≠ q := fun h e => h (by rw [e]; exact List.mem_append_right _ qin)
      cases md with
      | sh =>
        refine z.imp (fun ⟨z1, z2, z3⟩ => ⟨?_, out z2, z3⟩) id
        unfold Rd
        rw [cl_upd_ne (ne z2)]
        exact z1
      | f0 => exact ⟨by rw [cl_upd_ne (ne z.2.1)]; exact z.1, out z.2.1, z.2.2⟩
      | fx => exact ⟨by rw [cl_upd_ne (ne z.2.1)]; exact z.1, out z.2.1, z.2.2⟩
    have old : ∀ (md : Md) a o, RX g.fm own H H md a o → md = .fx ∨ RX g.fm (F1 ++ own) H1 H1 md a o := fun md a o z => by
      cases md with
      | sh => exact .inr (RD.newer s1 n1 a o z)
      | f0 =>
        refine .inr ⟨s1.cl _ _ z.1, fun hy => ?_, z.2.2⟩
        rcases List.mem_append.mp hy with hy | hy
        · have := z.1; rw [cl_none (n1 a hy)] at this; cases this
        · exact z.2.1 hy
      | fx => exact .inl rfl
    have keyB : ∀ b a o, RB g.fm own H b a o → RB g.fm (Fs.set i (q :: (G ++ F1))).flatten (upd H1 q (.ins C dx ((ns ++ [f]).zip (vs ++ [v])))) b a o := fun b a o y => by
      cases b with
      | false => exact rdx .sh H1 a o ((old .sh a o y).resolve_left fun e => nomatch e)
      | true => exact rdx .f0 H1 a o ((old .f0 a o y).resolve_left fun e => nomatch e)
    have hk : ∀ y ∈ Fs.flatten, H1 y = H y := fun y hy => by
      cases r : cl H y with
      | none => exact absurd r (h3.tb y hy)
      | some o => rw [cl_raw r]; exact s1.keep _ _ (cl_raw r) (cl_nt r)
    have ndn : (q :: (G ++ F1)).Nodup := List.nodup_cons.mpr ⟨fun hy => (List.mem_append.mp hy).elim nG fun hy => ne1 q hy rfl, List.nodup_append.mpr ⟨(List.nodup_cons.mp (flat_nd nd e2)).2, nd1, fun y hy z hz e => (h5 y (by rw [eo]; exact flat_mem e2 y (List.mem_cons_of_mem _ hy))).1 (by rw [e]; exact n1 z hz)⟩⟩
    have leafb : ∀ a o, RX g.fm (F1 ++ own) H H1 md a o → RB g.fm (Fs.set i (q :: (G ++ F1))).flatten (upd H1 q (.ins C dx ((ns ++ [f]).zip (vs ++ [v])))) b a o := fun a o z => by
      have z2 := hb.rb a o (rdx md H a o z)
      exact z2
    refine ⟨z, kp, _, ⟨(h1.trans s1).wr (h5 q qin).2.1 hp1 (fun _ z => nomatch z) rfl, fun a y e => ?_, ⟨Fs.set i (q :: (G ++ F1)), h3.chg nd e2 e1 keyB (fun y hy hny => ?_) (s' := sNew b q C (ns ++ [f]) (rpSnoc P O) (d, z)) ⟨dx, vs ++ [v], G ++ F1, rfl, rfl, upd_same, by simp [hlen], vs, v, G, F1, rfl, rfl, P.st rr (keyB b) fun y hy => ?_, O.st r1 leafb fun y hy => ?_⟩, rfl⟩, flat_set_nd nd e2 ndn fun y hy => ?_, fun y hy => ?_, fun a o y => keyB false a o (h6 a o y)⟩, q1⟩
    · by_cases w : a = q
      · rw [w, upd_same] at e; cases e
      · rw [upd_ne w] at e; exact h2 a y (s1.free e)
    · rw [upd_ne fun e => hny (by rw [e]; exact List.mem_cons_self)]; exact hk y hy
    · rw [upd_ne fun e => nG (by rw [← e]; exact hy)]
      exact hk y (flat_mem e2 y (List.mem_cons_of_mem _ hy))
    · exact upd_ne (ne1 y hy)
    · rcases List.mem_cons.mp hy with e | hy
      · exact .inl (by rw [e]; exact List.mem_cons_self)
      · rcases List.mem_append.mp hy with hy | hy
        · exact .inl (List.mem_cons_of_mem _ hy)
        · exact .inr fun hq => (h5 y (by rw [eo]; exact hq)).1 (n1 y hy)
    · rcases List.mem_append.mp (nF y hy) with hy | hy
      · obtain ⟨o, ho, _⟩ := O.tb r1 y hy
        exact ⟨by rw [upd_ne (ne1 y hy), ho]; exact (fun z => nomatch z), h1.free (n1 y hy), fun z => h2 y z (n1 y hy)⟩
      · refine ⟨?_, (h5 y hy).2⟩
        by_cases w : y = q
        · rw [w, upd_same]; exact fun z => nomatch z
        · rw [upd_ne w]; exact fun z => (h5 y hy).1 (s1.free z)
  | ex c => exact BOk.exx wk at_ q1
  | no => exact q1
/-- what such an __init__ promises -/
def spIN (p : Pr) {δ ρ : Type} (C : Addr) (ns : List Str) (A : Ar δ) (B : WAr ρ) (b : Bool) (F : δ → M ρ) : Sp := fun vs H Q E => ∃ x dx H1 vs', vs = .ref x :: vs' ∧ H1 x = none ∧ H1 dx = none ∧ dx ≠ x ∧ H = upd (upd H1 dx (.own x)) x (.ins C dx []) ∧
  ∃ d z, ((∀ a, z a → H1 a ≠ none) ∧ ∀ P, p.T = some P → LamX.TabS H1 P lamQ) ∧ A.rep d vs' (RD ⟨p.K, H1, z⟩ [] H1) ∧
  match F d with
  | .ok r => ∀ H' dx' us G, Same H1 H' → H' x = some (.ins C dx' (ns.zip us)) → ns.length = us.length → (x :: G).Nodup → (∀ a ∈ G, H1 a = none ∧ ¬ z a) → B.rep r us H' (RX ⟨p.K, H1, z⟩ (x :: G) H' H' (if b then .f0 else .sh)) G → Q .non H'
  | .ex c => ∀ H', Same H1 H' → E (.ref (p.C c)) none H'
  | .no => False
theorem fn_initN {qual : Str} {st : Stmt} {f : Addr} {fd : FuncData} {ps ns : List Str} {A : Ar δ} {B : WAr ρ} {L0 : δ → List Slot} {n m : Nat} {LE : List Slot} {F : δ → M ρ} {b : Bool} (hF : FunD p.K "__init__" qual (defArgs st) (defBody st) (defScope st) [] [] f fd) (hS : Sc st NN VV ("self" :: ps) GG) (ha : ArS A n L0) (hn : ps.length = n) (hm : n + 1 + m = NN.length)
    (hb : ∀ x g, OkS p (defScope st) NN VV GG k g → g.LX = List.replicate NN.length sAny → ∀ d, EvB g (sNew b x C [] rpNil () :: (L0 d ++ List.replicate m sAny)) (defBody st) (fun r => .nx (sNew b x C ns B.rp r :: LE)) (F d)) :
    FnOk p.P p.w p.K p.mg p.base (L2.CX p.P p.w) (k + 1) f fd ("self" :: ps) (spIN p C ns A B b F) := by
  refine hF.ok hS.S (fun vs H Q E h => ?_) (fun cdv A' outer s H vs Q E hr h => ?_)
  · obtain ⟨x, dx, H1, vs', rfl, _, _, _, _, d, z, _, hrep, _⟩ := h
    have := (ha.all (H := H1) (R := fun _ => RD ⟨p.K, H1, z⟩ [] H1) hrep).1
    simp [this, hn]
  · obtain ⟨x, dx, H1, vs', rfl, nx, ndx, ne, rfl, d, z, ⟨hz, htab⟩, hrep, q⟩ := h
    have hlen : vs'.length = n := (ha.all (H := H1) (R := fun _ => RD ⟨p.K, H1, z⟩ [] H1) hrep).1
    have sm : Same H1 (upd (upd H1 dx (.own x)) x (.ins C dx [])) := (newSame ndx).trans (newSame (by rw [upd_ne (Ne.symm ne)]; exact nx))
    let X : Cx := cxOf (L2.CX p.P p.w) p.P p.w p.K p.mg p.base NN qual (defScope st) f cdv A' outer s (upd (upd H1 dx (.own x)) x (.ins C dx [])) E
    let g : G := ⟨X, ⟨p.K, H1, z⟩, fun c _ H' => E (.ref (p.C c)) none H', List.replicate NN.length sAny⟩
    have hN : ∀ {j : Nat} {y : Str}, VV[j]? = some y → y ∈ VV := fun e => List.mem_of_getElem? e
    have ok : OkS p (defScope st) NN VV GG k g :=
      { prog := rfl, w := rfl, K := rfl, mg := rfl, base := rfl, N := rfl, fmK := rfl, tab := htab, room := hr, nd := hS.S.nd
        vis := fun e => let h := seenB_v (List.all_eq_true.mp hS.vis _ (hN e)); ⟨h.2, h.1⟩
        gl := fun e => let h := glB_v (List.all_eq_true.mp hS.gl _ (List.mem_of_getElem? e)); ⟨h.2, h.1⟩
        tk := Takes.imp (takes_of (X := X) rfl rfl rfl (E := E) rfl) (fun cls d σ H ⟨c, e1, e2, h⟩ => by subst e1; subst e2; exact h)
        calm := rfl
        blk := fun h => blkOk_by h
        loc := fun e => locB_v (List.all_eq_true.mp hS.loc _ (hN e))
        fnT := fun _ => rfl
        psO := passes_of (X := X) rfl
        scp := rfl
        stk := rfl
        frm := rfl
        exn := rfl }
    have nz : ¬ z x := fun h => hz x h nx
    refine ⟨_, hb x g ok rfl d, (fun _ _ => False), [x], ?_, ?_⟩
    · refine ⟨sm, fun a h => fun e => hz a h (sm.free e), ⟨[x] :: (List.replicate n [] ++ List.replicate m []), ?_, by simp [flat_rep]⟩, by simp, fun a h => ?_, fun _ _ h => h.elim⟩
      · have h1 := (ha.all (H := H1) (R := RB ⟨p.K, H1, z⟩ [] H1) hrep).2
        have e : L2.start NN (V.ref x :: vs') = some (V.ref x) :: (vs'.map some ++ List.replicate m none) := by
          unfold L2.start
          rw [show NN.length - (V.ref x :: vs').length = m by simp; omega]
          rfl
        rw [e]
        refine .cons ⟨dx, [], [], rfl, rfl, upd_same, rfl, rfl, rfl⟩ (AllS.append (h1.st (fun b a o r => ?_) fun q hq => ?_) (AllS.anys m))
        · have out : ∀ {a : Addr} {o : HO}, cl H1 a = some o → a ∉ [x] := fun h hm => by
            rw [List.mem_singleton.mp hm] at h
            rw [cl_none nx] at h; cases h
          cases b with
          | false =>
            rcases r with ⟨r1, _, r3⟩ | r
            · refine .inl ⟨Rd.same sm r1, ?_, r3⟩
              rcases r1 with r1 | ⟨_, r1⟩ <;> exact out r1
            · exact .inr r
          | true => exact ⟨sm.cl _ _ r.1, out r.1, r.2.2⟩
        · rw [flat_rep] at hq; cases hq
      · rw [List.mem_singleton.mp h]
        exact ⟨by rw [upd_same]; exact (fun z => by cases z), nx, nz⟩
    · cases hF' : F d with
      | ok r =>
        rw [hF'] at q
        intro σ H' own at_
        obtain ⟨Fs, h3, e3⟩ := at_.sl
        obtain ⟨v, F', e1, e2, dx', us, G, _, rfl, hp, hl, rr⟩ := h3.get (i := 0) (s := sNew b x C ns B.rp r) rfl
        have nd := at_.nd
        rw [e3] at nd
        have sub : ∀ y ∈ x :: G, y ∈ own := fun y hy => by rw [e3]; exact flat_mem e2 y hy
        exact q H' dx' us G at_.same hp hl (flat_nd nd e2) (fun a h => (at_.new a (sub a (List.mem_cons_of_mem _ h))).2) (B.st rr (fun a o y => RX.own sub a o y) fun _ _ => rfl)
      | ex c =>
        rw [hF'] at q
        exact fun σ' H' own a' => q H' a'.same
      | no => rw [hF'] at q; exact q
theorem evm_make {kf : Nat} {c : Str} {ps ns : List Str} {A : Ar δ} {B : WAr ρ} {F : δ → M ρ} {m : M δ} {b : Bool} (ok : Ok p sc NN VV GG k g) (hf : MkF p kf c ps (spIN p (cA p c) ns A B b F)) (hk : kf + 1 ≤ k) (hG : GG[j]? = some c) (hc : CaMd b md')
    (ha : EvA g L (e :: es) md A m) (he : starEach (e :: es) g.X.env = (false, eval e g.X.env) :: starEach es g.X.env := by rfl) (hpl : (backTo pos (starEach es g.X.env)).any (·.1) = false := by rfl) :
    EvM g L (.Call (.Name c pp) (e :: es) [] pos) md' (wIns (cA p c) ns B) (m.bind F) := by
  obtain ⟨f, fd, hF, hmk, hmg, hbd⟩ := hf.ex
  obtain ⟨hg, ho⟩ := ok.gl hG
  rw [← ok.prog, ← ok.w, ← ok.base] at hF
  have hF' : FnOk g.X.prog g.X.w g.X.K g.X.mg g.X.base (L2.CX g.X.prog g.X.w) kf f fd ("self" :: ps) (spIN p (cA p c) ns A B b F) := by rw [ok.K, ok.mg]; exact hF
  refine PE.imp (pe_makeS (C := cA p c) (by rw [ok.K]; exact hmk) hF' (ok.room.mono hk) hg (by rw [ok.mg]; exact hmg) (by rw [ok.K]; exact hbd) (tk_at ok) ha (okName_d ho).1 he hpl) fun σ H Q ⟨kp, own, at_, q⟩ => ?_
  refine subA finM (Same.refl H) at_ q fun d vs H1 s1 r1 at1 q1 => fun x dx nx ndx ne => ⟨x, dx, H1, vs, rfl, nx, ndx, ne, rfl, d, fun a => a ∈ own ∨ g.fm.z a, ⟨fun a z => ?_, fun P e => at1.same.tab P (ok.tab P e)⟩, ?_, ?_⟩
  · rcases z with z | z
    · exact (at1.new a z).1
    · exact at1.zin a z
  · rw [← ok.fmK]; exact args_in r1
  · rw [← ok.fmK]
    cases hd : F d with
    | ok r =>
      rw [hd] at q1
      refine fun H' dx' us G s hx hl nd n rr => ⟨rfl, q1 _ (x :: G) H' (s1.trans s) nd (fun a ha => s1.free ?_) ⟨x, dx', us, G, rfl, rfl, hx, hl, B.st rr (fun a o z => ?_) fun _ _ => rfl⟩⟩
      · rcases List.mem_cons.mp ha with e | ha
        · rw [e]; exact nx
        · exact (n a ha).1
      · cases hc with
        | sh =>
          rcases z with ⟨z1, z2, z3⟩ | z
          · exact .inl ⟨z1, fun hq => (List.mem_append.mp hq).elim z2 fun hq => z3 (.inl hq), fun hq => z3 (.inr hq)⟩
          · exact .inr z
        | fx =>
          obtain ⟨z1, z2, z3, z4⟩ := (show _ ∧ _ ∧ _ ∧ _ from z)
          exact RX.fx md' a o ⟨z1, fun hq => (List.mem_append.mp hq).elim z2 fun hq => z3 (.inl hq), fun hq => z3 (.inr hq), at_.same.free (s1.free z4), s1.free z4⟩
    | ex c =>
      rw [hd] at q1
      exact fun H' s => ⟨c, rfl, rfl, q1 H' (s1.trans s)⟩
    | no => rw [hd] at q1; exact q1
end
end Hd

namespace Hd
open PySem PySem.Spec L2
/-! ### what a mirror comes to -/
def Okm {α : Type} (m : M α) (P : α → Prop) : Prop := ∃ a, m = .ok a ∧ P a
section
variable {α β γ ρ : Type} {m : M α} {f : α → M β} {P P' : α → Prop} {Q : β → Prop}
theorem okv {a : α} (h : P a) : Okm (.ok a) P := ⟨a, rfl, h⟩
theorem okm_iff {a : α} : Okm (.ok a) P ↔ P a := ⟨fun ⟨b, e, h⟩ => by cases e; exact h, okv⟩
theorem okb (h : Okm m P) (k : ∀ a, P a → Okm (f a) Q) : Okm (m.bind f) Q := by
  obtain ⟨a, rfl, ha⟩ := h
  exact k a ha
theorem okmono (h : Okm m P) (k : ∀ a, P a → P' a) : Okm m P' := by
  obtain ⟨a, e, ha⟩ := h
  exact ⟨a, e, k a ha⟩
theorem okif {c : Bool} {a b : M α} (h1 : c = true → Okm a P) (h2 : c = false → Okm b P) : Okm (if c = true then a else b) P := by
  cases c with
  | true => exact h1 rfl
  | false => exact h2 rfl
theorem oke {a : α} (h : Okm m (· = a)) : m = .ok a := by
  obtain ⟨b, e, rfl⟩ := h
  exact e
theorem okeq {a : α} (h : m = .ok a) : Okm m (· = a) := ⟨a, h, rfl⟩
theorem okand (h : Okm m P) (h' : Okm m P') : Okm m (fun a => P a ∧ P' a) := by
  obtain ⟨a, e, ha⟩ := h
  obtain ⟨b, e', hb⟩ := h'
  rw [e] at e'
  cases e'
  exact ⟨a, e, ha, hb⟩
/-! numbers -/
theorem ok_mod {x y : Int} (h : 0 < y) : Okm (modM x y) (· = x % y) := by unfold modM; rw [if_pos h]; exact okv rfl
theorem ok_div {x y : Int} (h : 0 < y) (h2 : y < 2 ^ 64) : Okm (divM x y) (· = x / y) := by
  unfold divM
  rw [if_pos ⟨h, Nat.lt_of_lt_of_le (show y.natAbs < 2 ^ 64 by omega) (Nat.pow_le_pow_right (by decide) (by decide))⟩]
  exact okv rfl
theorem ok_mul {x y : Int} (n m : Nat) (h : x.natAbs < 2 ^ n) (h2 : y.natAbs < 2 ^ m) (hn : n ≤ 10000 := by decide) (hm : m ≤ 10000 := by decide) : Okm (mulM x y) (· = x * y) := by
  unfold mulM
  rw [if_pos ⟨Nat.lt_of_lt_of_le h (Nat.pow_le_pow_right (by decide) hn), Nat.lt_of_lt_of_le h2 (Nat.pow_le_pow_right (by decide) hm)⟩]
  exact okv rfl
/-! lists -/
theorem getM_at {xs : List α} {i : Int} {v : α} (h0 : 0 ≤ i) (h : xs[i.toNat]? = some v) : getM xs i = .ok v := by
  have hl : i.toNat < xs.length := (List.getElem?_eq_some_iff.mp h).1
  unfold getM L2.atI L2.ixN
  rw [if_pos h0, if_pos (by omega)]
  show (match xs[i.toNat]? with | some d => M.ok d | none => .no) = _
  rw [h]
theorem getM_nat {xs : List α} {i : Nat} {v : α} (h : xs[i]? = some v) : getM xs (i : Int) = .ok v := getM_at (by omega) (by rw [Int.toNat_natCast]; exact h)
theorem ok_get {xs : List α} {i : Int} (h0 : 0 ≤ i) (h1 : i < xs.length) : Okm (getM xs i) (fun v => xs[i.toNat]? = some v) := by
  have hl : i.toNat < xs.length := by omega
  exact ⟨xs[i.toNat], getM_at h0 (by simp [hl]), by simp [hl]⟩
theorem getM_last {xs : List α} {v : α} (h : xs.getLast? = some v) : getM xs (-1) = .ok v := by
  have hne : xs ≠ [] := fun e => by rw [e] at h; cases h
  have hl : 0 < xs.length := List.length_pos_iff.mpr hne
  unfold getM L2.atI L2.ixN
  rw [if_neg (by decide), if_pos (by omega)]
  show (match xs[(-1 + (xs.length : Int)).toNat]? with | some d => M.ok d | none => .no) = _
  rw [show (-1 + (xs.length : Int)).toNat = xs.length - 1 by omega, ← List.getLast?_eq_getElem?, h]
theorem getS_at {x : Tx} {i : Int} {c : Nat} (h0 : 0 ≤ i) (h : x[i.toNat]? = some c) : getS x i = .ok [c] := by
  have hl : i.toNat < x.length := (List.getElem?_eq_some_iff.mp h).1
  unfold getS L2.atI L2.ixN
  rw [if_pos h0, if_pos (by omega)]
  show (match x[i.toNat]? with | some d => M.ok [d] | none => .no) = _
  rw [h]
theorem getS_nat {x : Tx} {i : Nat} {c : Nat} (h : x[i]? = some c) : getS x (i : Int) = .ok [c] := getS_at (by omega) (by rw [Int.toNat_natCast]; exact h)
theorem ok_getS {x : Tx} {i : Int} (h0 : 0 ≤ i) (h1 : i < x.length) : Okm (getS x i) (fun v => ∃ c, x[i.toNat]? = some c ∧ v = [c]) := by
  have hl : i.toNat < x.length := by omega
  exact ⟨[x[i.toNat]], getS_at h0 (by simp [hl]), _, by simp [hl], rfl⟩
theorem ok_push {xs : List α} {d : α} (h : xs.length < 1000000) : Okm (pushM xs d) (· = xs ++ [d]) := by
  unfold pushM
  rw [if_pos (Nat.lt_trans h (by decide))]
  exact okv rfl
theorem ok_set {xs : List α} {i : Int} {d : α} (h0 : 0 ≤ i) (h1 : i < xs.length) : Okm (setM xs i d) (· = xs.set i.toNat d) := by
  unfold setM L2.ixN
  rw [if_pos h0, if_pos h1]
  exact okv rfl
theorem ok_cat {x y : Tx} (h : x.length + y.length ≤ 1000000) : Okm (catS x y) (· = x ++ y) := by
  unfold catS
  rw [if_pos (Nat.le_trans h (by decide))]
  exact okv rfl
theorem ok_catL {x y : List α} (h : x.length + y.length ≤ 1000000) : Okm (catL x y) (· = x ++ y) := by
  unfold catL
  rw [if_pos (Nat.le_trans h (by decide))]
  exact okv rfl
theorem flat_rep1 {d : α} : ∀ n, (List.replicate n [d]).flatten = List.replicate n d
  | 0 => rfl
  | n + 1 => by rw [List.replicate_succ, List.flatten_cons, flat_rep1 n]; rfl
theorem ok_rep1 {d : α} {n : Int} (h : n < 1000000) (h' : -1000000 < n) : Okm (repM [d] n) (· = List.replicate n.toNat d) := by
  unfold repM
  rw [if_pos ⟨by omega, by omega, by
    have : ([d] : List α).length * n.toNat ≤ 1000000 := by simp; omega
    exact Nat.le_trans this (by decide)⟩, flat_rep1]
  exact okv rfl
theorem ok_range {lo hi : Int} (h1 : -(2 ^ 62) ≤ lo := by omega) (h2 : lo < 2 ^ 62 := by omega) (h3 : -(2 ^ 62) ≤ hi := by omega) (h4 : hi < 2 ^ 62 := by omega) : Okm (rangeM lo hi) (· = upFrom lo (hi - lo).toNat) := by
  unfold rangeM
  rw [if_pos ⟨h1, h2, h3, h4⟩]
  exact okv rfl
theorem range_eq {lo hi : Int} (h1 : -(2 ^ 62) ≤ lo := by omega) (h2 : lo < 2 ^ 62 := by omega) (h3 : -(2 ^ 62) ≤ hi := by omega) (h4 : hi < 2 ^ 62 := by omega) : rangeM lo hi = .ok (upFrom lo (hi - lo).toNat) := oke (ok_range h1 h2 h3 h4)
theorem upFrom_mem {lo x : Int} {n : Nat} : x ∈ upFrom lo n ↔ lo ≤ x ∧ x < lo + n := by
  induction n generalizing lo with
  | zero => simp [upFrom]
  | succ n ih => rw [upFrom, List.mem_cons, ih]; push_cast; omega
theorem upFrom_succ' {lo : Int} {n : Nat} : upFrom lo (n + 1) = upFrom lo n ++ [lo + n] := by
  induction n generalizing lo with
  | zero => simp [upFrom]
  | succ n ih => rw [upFrom, ih, upFrom]; simp; omega
/-! loops -/
theorem ok_for {f : β → α → M β} {s0 : β} {xs : List α} (I : Nat → β → Prop) (h0 : I 0 s0) (hs : ∀ i x s, xs[i]? = some x → I i s → Okm (f s x) (I (i + 1))) : Okm (forM f s0 xs) (I xs.length) := by
  induction xs generalizing s0 I with
  | nil => exact okv h0
  | cons x r ih =>
    refine okb (hs 0 x s0 rfl h0) fun s1 h1 => ?_
    exact ih (fun i => I (i + 1)) h1 fun i y s e h => hs (i + 1) y s (by simpa using e) h
theorem ok_forR {f : β → Int → M β} {s0 : β} {lo : Int} {n : Nat} (I : Nat → β → Prop) (h0 : I 0 s0) (hs : ∀ i s, i < n → I i s → Okm (f s (lo + i)) (I (i + 1))) : Okm (forM f s0 (upFrom lo n)) (I n) := by
  have h := ok_for (f := f) (xs := upFrom lo n) I h0 fun i x s e h => by
    rw [upFrom_get] at e
    by_cases hi : i < n
    · rw [if_pos hi] at e
      cases e
      exact hs i s hi h
    · rw [if_neg hi] at e; cases e
  rwa [upFrom_len] at h
/-- an invariant without a place -/
theorem ok_forI {f : β → α → M β} {s0 : β} {xs : List α} (I : β → Prop) (h0 : I s0) (hs : ∀ x ∈ xs, ∀ s, I s → Okm (f s x) I) : Okm (forM f s0 xs) I := ok_for (fun _ => I) h0 fun _ x s e h => hs x (List.mem_of_getElem? e) s h
def FlP {β ρ : Type} (N : β → Prop) (R : ρ → Prop) : Fl β ρ → Prop
  | .nx s => N s
  | .rt r => R r
theorem ok_forF {f : β → α → M (Fl β ρ)} {s0 : β} {xs : List α} (I : Nat → β → Prop) (R : ρ → Prop) (h0 : I 0 s0) (hs : ∀ i x s, xs[i]? = some x → I i s → Okm (f s x) (FlP (I (i + 1)) R)) : Okm (forF f s0 xs) (FlP (I xs.length) R) := by
  induction xs generalizing s0 I with
  | nil => exact okv h0
  | cons x r ih =>
    refine okb (hs 0 x s0 rfl h0) fun s1 h1 => ?_
    cases s1 with
    | nx s1 => exact ih (fun i => I (i + 1)) h1 fun i y s e h => hs (i + 1) y s (by simpa using e) h
    | rt q => exact okv h1
theorem ok_forFR {f : β → Int → M (Fl β ρ)} {s0 : β} {lo : Int} {n : Nat} (I : Nat → β → Prop) (R : ρ → Prop) (h0 : I 0 s0) (hs : ∀ i s, i < n → I i s → Okm (f s (lo + i)) (FlP (I (i + 1)) R)) : Okm (forF f s0 (upFrom lo n)) (FlP (I n) R) := by
  have h := ok_forF (f := f) (xs := upFrom lo n) I R h0 fun i x s e h => by
    rw [upFrom_get] at e
    by_cases hi : i < n
    · rw [if_pos hi] at e
      cases e
      exact hs i s hi h
    · rw [if_neg hi] at e; cases e
  rwa [upFrom_len] at h
/-- a law's loop that leaves with no False: all its turns go on -/
theorem okel {g : β → M γ} {h : ρ → M γ} {m : M (Fl β ρ)} {N : β → Prop} {R : ρ → Prop} {Q : γ → Prop} (hm : Okm m (FlP N R)) (h1 : ∀ s, N s → Okm (g s) Q) (h2 : ∀ r, R r → Okm (h r) Q) : Okm (m.bind (Fl.el g h)) Q :=
  okb hm fun a ha => by
    cases a with
    | nx s => exact h1 s ha
    | rt r => exact h2 r ha
theorem ok_while {t : β → M Bool} {f : β → M β} {s0 : β} (I : β → Prop) (μ : β → Nat) (h0 : I s0) (hm : μ s0 < 1000000) (ht : ∀ s, I s → Okm (t s) (fun c => c = true → Okm (f s) (fun s' => I s' ∧ μ s' < μ s))) : Okm (whileM t f fuel s0) (fun s => I s ∧ t s = .ok false) := by
  have key : ∀ n s, I s → μ s < n → Okm (whileM t f n s) (fun s => I s ∧ t s = .ok false) := by
    intro n
    induction n with
    | zero => intro s _ h; omega
    | succ n ih =>
      intro s hI hμ
      obtain ⟨c, e, hc⟩ := ht s hI
      show Okm ((t s).bind fun c => if c = true then (f s).bind (whileM t f n) else .ok s) _
      rw [e]
      show Okm (if c = true then (f s).bind (whileM t f n) else .ok s) _
      cases c with
      | true =>
        rw [if_pos rfl]
        exact okb (hc rfl) fun s' h' => ih s' h'.1 (by omega)
      | false => exact okv ⟨hI, e⟩
  exact key fuel s0 h0 (Nat.lt_trans hm (by decide))
theorem ok_whileF {t : β → M Bool} {f : β → M (Fl β ρ)} {s0 : β} (I : β → Prop) (R : ρ → Prop) (μ : β → Nat) (h0 : I s0) (hm : μ s0 < 1000000) (ht : ∀ s, I s → Okm (t s) (fun c => c = true → Okm (f s) (FlP (fun s' => I s' ∧ μ s' < μ s) R))) : Okm (whileF t f fuel s0) (FlP (fun s => I s ∧ t s = .ok false) R) := by
  have key : ∀ n s, I s → μ s < n → Okm (whileF t f n s) (FlP (fun s => I s ∧ t s = .ok false) R) := by
    intro n
    induction n with
    | zero => intro s _ h; omega
    | succ n ih =>
      intro s hI hμ
      obtain ⟨c, e, hc⟩ := ht s hI
      show Okm ((t s).bind fun c => if c = true then (f s).bind (Fl.el (whileF t f n) fun r => .ok (.rt r)) else .ok (.nx s)) _
      rw [e]
      show Okm (if c = true then (f s).bind (Fl.el (whileF t f n) fun r => .ok (.rt r)) else .ok (.nx s)) _
      cases c with
      | true =>
        rw [if_pos rfl]
        exact okel (hc rfl) (fun s' h' => ih s' h'.1 (by omega)) fun r hr => okv hr
      | false => exact okv ⟨hI, e⟩
  exact key fuel s0 h0 (Nat.lt_trans hm (by decide))
/-! comprehensions -/
theorem comp_eq {h : α → M (Option β)} {g : α → Option β} {xs : List α} (hl : xs.length ≤ 1000000) (hs : ∀ x ∈ xs, h x = .ok (g x)) : compM h xs = .ok (xs.filterMap g) := by
  unfold compM
  rw [if_pos (Nat.le_trans hl (by decide))]
  clear hl
  induction xs with
  | nil => rfl
  | cons x r ih =>
    show ((h x).nox.bind fun o => (compG h r).bind fun l => M.ok (o.toList ++ l)) = _
    rw [hs x List.mem_cons_self, ih fun y hy => hs y (List.mem_cons_of_mem _ hy)]
    show M.ok ((g x).toList ++ r.filterMap g) = _
    rw [List.filterMap_cons]
    cases g x <;> rfl
theorem comp_map {h : α → M (Option β)} {g : α → β} {xs : List α} (hl : xs.length ≤ 1000000) (hs : ∀ x ∈ xs, h x = .ok (some (g x))) : compM h xs = .ok (xs.map g) := by
  rw [comp_eq (g := fun x => some (g x)) hl hs]
  congr 1
  induction xs with
  | nil => rfl
  | cons x r ih => rw [List.filterMap_cons]; simp only [List.map_cons]; rw [ih (by simp at hl; omega) fun y hy => hs y (List.mem_cons_of_mem _ hy)]
theorem ok_comp {h : α → M (Option β)} {xs : List α} (R : α → β → Prop) (hl : xs.length ≤ 1000000) (hs : ∀ x ∈ xs, Okm (h x) (fun o => ∃ y, o = some y ∧ R x y)) : Okm (compM h xs) (fun ys => ys.length = xs.length ∧ ∀ (i : Nat) (x : α) (y : β), xs[i]? = some x → ys[i]? = some y → R x y) := by
  unfold compM
  rw [if_pos (Nat.le_trans hl (by decide))]
  clear hl
  induction xs with
  | nil => exact okv ⟨rfl, fun i x y e => by simp at e⟩
  | cons x r ih =>
    obtain ⟨o, e, y, rfl, hy⟩ := hs x List.mem_cons_self
    obtain ⟨ys, e2, h2, h3⟩ := ih fun z hz => hs z (List.mem_cons_of_mem _ hz)
    show Okm ((h x).nox.bind fun o => (compG h r).bind fun l => M.ok (o.toList ++ l)) _
    rw [e, e2]
    refine okv ⟨by simp [h2], fun i a b ea eb => ?_⟩
    cases i with
    | zero => simp at ea eb; subst ea; subst eb; exact hy
    | succ i => exact h3 i a b (by simpa using ea) (by simpa using eb)
end
/-! ### signs -/
theorem tx_hash : tx "#" = [35] := by decide +kernel
theorem tx_dot : tx "." = [46] := by decide +kernel
theorem tx_nil : tx "" = [] := by decide +kernel
/-! ### cuts -/
theorem sIx_at {n d : Nat} {i : Int} (h0 : 0 ≤ i) (h : i ≤ n) : HT.sIx n d (some i) = i.toNat := by
  simp only [HT.sIx]
  split <;> omega
theorem cut_mid {α : Type} {xs : List α} {a b : Int} (h0 : 0 ≤ a) (h1 : a ≤ b) (h2 : b ≤ xs.length) : cutL xs (some a) (some b) = (xs.drop a.toNat).take (b.toNat - a.toNat) := by
  unfold cutL; rw [sIx_at h0 (by omega), sIx_at (by omega) h2]
theorem cut_from {α : Type} {xs : List α} {a : Int} (h0 : 0 ≤ a) (h1 : a ≤ xs.length) : cutL xs (some a) none = xs.drop a.toNat := by
  unfold cutL; rw [sIx_at h0 (by omega)]
  show (xs.drop a.toNat).take (xs.length - a.toNat) = _
  rw [List.take_of_length_le (by rw [List.length_drop]; exact Nat.le_refl _)]
theorem cut_to {α : Type} {xs : List α} {b : Int} (h0 : 0 ≤ b) (h1 : b ≤ xs.length) : cutL xs none (some b) = xs.take b.toNat := by
  unfold cutL; rw [sIx_at h0 (by omega)]
  rfl
theorem cut_mem {α : Type} {xs : List α} {a b : Option Int} {x : α} (h : x ∈ cutL xs a b) : x ∈ xs := List.mem_of_mem_drop (List.mem_of_mem_take h)
theorem join_nil_eq : ∀ xs : List Tx, TL.joinL [] xs = xs.flatten
  | [] => rfl
  | [x] => by simp [TL.joinL]
  | x :: y :: r => by rw [TL.joinL, join_nil_eq (y :: r)]; simp
theorem ok_join {xs : List Tx} (h : (xs.map List.length).sum ≤ 1000000) : Okm (joinM [] xs) (· = xs.flatten) := by
  unfold joinM
  rw [if_pos (by simp; omega), join_nil_eq]
  exact okv rfl
theorem flat_map1 {l : List Nat} : (l.map fun c => [c]).flatten = l := by
  induction l with
  | nil => rfl
  | cons a r ih => simp [ih]
/-- a cloth's rows -/
structure Cloth (rows : List Tx) (w h : Nat) : Prop where
  hh : rows.length = h
  ww : ∀ r ∈ rows, r.length = w
  sg : ∀ r ∈ rows, ∀ c ∈ r, c = 35 ∨ c = 46
  w1 : 1 ≤ w
  w2 : w ≤ 40
  h1 : 1 ≤ h
  h2 : h ≤ 40
end Hd

set_option maxHeartbeats 0
namespace Hd
open PySem PySem.Spec L2
def topS (i : Nat) : Stmt := PySem.Challenge.pw_heddle_k06_woven.main.body.getD i (.Pass ⟨0, 0, 0, 0⟩)
abbrev O_Draft : Type := (List Int) × (List (List Int)) × (List Int) × Unit
def fl_Draft (p : Pr) (d : O_Draft) : List FldS := [⟨"threading", (List Int), (tList tInt), d.1⟩, ⟨"ties", (List (List Int)), (tList (tList tInt)), d.2.1⟩, ⟨"treading", (List Int), (tList tInt), d.2.2.1⟩]
structure Facts (p : Pr) : Prop where
  g_bool : p.mg "bool" = none
  g_int : p.mg "int" = none
  g_isinstance : p.mg "isinstance" = none
  g_len : p.mg "len" = none
  g_list : p.mg "list" = none
  g_range : p.mg "range" = none
  g_str : p.mg "str" = none
  c_MOST_IN_DRAFT : ∃ t, p.mg "MOST_IN_DRAFT" = some (.int 40 t)
  x_NoDraft : ExF p "NoDraft" .noDraft
  a_Draft : Cls p.K (cA p "Draft")
  n_Draft_threading : NoAttr p.K (cA p "Draft") "threading"
  n_Draft_ties : NoAttr p.K (cA p "Draft") "ties"
  n_Draft_treading : NoAttr p.K (cA p "Draft") "treading"
  d__law_numbers : ∃ f fd, FunD p.K "_law_numbers" "_law_numbers" (defArgs (topS 12)) (defBody (topS 12)) (defScope (topS 12)) [] [] f fd ∧ p.mg "_law_numbers" = some (.ref f)
  d__law_subset : ∃ f fd, FunD p.K "_law_subset" "_law_subset" (defArgs (topS 13)) (defBody (topS 13)) (defScope (topS 13)) [] [] f fd ∧ p.mg "_law_subset" = some (.ref f)
  d__law_draft_by : ∃ f fd, FunD p.K "_law_draft_by" "_law_draft_by" (defArgs (topS 14)) (defBody (topS 14)) (defScope (topS 14)) [] [] f fd ∧ p.mg "_law_draft_by" = some (.ref f)
  d_tie_rises : ∃ f fd, FunD p.K "tie_rises" "tie_rises" (defArgs (topS 6)) (defBody (topS 6)) (defScope (topS 6)) [] [] f fd ∧ p.mg "tie_rises" = some (.ref f)
  d_lists_fit : ∃ f fd, FunD p.K "lists_fit" "lists_fit" (defArgs (topS 7)) (defBody (topS 7)) (defScope (topS 7)) [] [] f fd ∧ p.mg "lists_fit" = some (.ref f)
  k_Draft_init : ∃ f fd, FunD p.K "__init__" "Draft.__init__" (defArgs ((clsBody (topS 8)).getD 0 (.Pass ⟨0, 0, 0, 0⟩))) (defBody ((clsBody (topS 8)).getD 0 (.Pass ⟨0, 0, 0, 0⟩))) (defScope ((clsBody (topS 8)).getD 0 (.Pass ⟨0, 0, 0, 0⟩))) [] [] f fd ∧ Mk p.K (cA p "Draft") f ∧ p.mg "Draft" = some (.ref (cA p "Draft"))
  d__law_numbers_same : ∃ f fd, FunD p.K "_law_numbers_same" "_law_numbers_same" (defArgs (topS 16)) (defBody (topS 16)) (defScope (topS 16)) [] [] f fd ∧ p.mg "_law_numbers_same" = some (.ref f)
  d__law_draft_same : ∃ f fd, FunD p.K "_law_draft_same" "_law_draft_same" (defArgs (topS 17)) (defBody (topS 17)) (defScope (topS 17)) [] [] f fd ∧ p.mg "_law_draft_same" = some (.ref f)
  d__law_woven_by : ∃ f fd, FunD p.K "_law_woven_by" "_law_woven_by" (defArgs (topS 15)) (defBody (topS 15)) (defScope (topS 15)) [] [] f fd ∧ p.mg "_law_woven_by" = some (.ref f)
  d_shed_of : ∃ f fd, FunD p.K "shed_of" "shed_of" (defArgs (topS 9)) (defBody (topS 9)) (defScope (topS 9)) [] [] f fd ∧ p.mg "shed_of" = some (.ref f)
  d_woven : ∃ f fd, FunD p.K "woven" "woven" (defArgs (topS 10)) (defBody (topS 10)) (defScope (topS 10)) [] [] f fd ∧ p.mg "woven" = some (.ref f)
  d__law_texts_same : ∃ f fd, FunD p.K "_law_texts_same" "_law_texts_same" (defArgs (topS 18)) (defBody (topS 18)) (defScope (topS 18)) [] [] f fd ∧ p.mg "_law_texts_same" = some (.ref f)
  d_law : ∃ f fd, FunD p.K "law" "law" (defArgs (topS 19)) (defBody (topS 19)) (defScope (topS 19)) [] [] f fd ∧ p.mg "law" = some (.ref f)
/-! ### _law_numbers -/
abbrev s__law_numbers : Stmt := (topS 12)
abbrev N__law_numbers : List Str := ["script", "many", "mixed", "found", "k"]
abbrev V__law_numbers : List Str := ["script", "many", "mixed", "found", "k"]
abbrev G__law_numbers : List Str := ["len", "range"]
theorem sc__law_numbers : Sc s__law_numbers N__law_numbers V__law_numbers ["script", "many"] G__law_numbers := ⟨⟨rfl, rfl, rfl, by decide +kernel, rfl, by decide +kernel, by decide +kernel⟩, by decide +kernel, by decide +kernel, by decide +kernel⟩
def r_f_law_numbers_l1 (script1 : (List Int)) (many2 : Int) : (Int × (List Int)) → Int → M (Int × (List Int)) := fun s12 k13 => M.bind (M.bind (M.bind (M.bind (M.bind (M.ok s12.2) fun y16 => M.bind (M.bind (M.ok k13) fun y14 => M.bind (M.ok many2) fun y15 => modM y14 y15) fun y17 => getM y16 y17) fun y18 => M.ok (y18 * (31 : Int))) fun y21 => M.bind (M.bind (M.ok script1) fun y19 => M.bind (M.ok k13) fun y20 => getM y19 y20) fun y22 => M.ok (y21 + y22)) fun y23 => M.ok (y23 % ((10 : Int) ^ 60))) fun y26 => M.bind (M.bind (M.ok k13) fun y24 => M.bind (M.ok many2) fun y25 => modM y24 y25) fun i27 => M.bind (setM s12.2 i27 y26) fun found28 => M.bind (M.bind (M.bind (M.bind (M.ok s12.1) fun y30 => M.ok (y30 * (48271 : Int))) fun y33 => M.bind (M.bind (M.ok script1) fun y31 => M.bind (M.ok k13) fun y32 => getM y31 y32) fun y34 => M.ok (y33 + y34)) fun y35 => M.ok (y35 % (2147483647 : Int))) fun mixed29 => M.ok (mixed29, found28)
def f_law_numbers_l1 (script1 : (List Int)) (many2 : Int) : (Int × (List Int)) → Int → M (Int × (List Int)) := fun s12 k13 => M.bind (M.bind (M.bind (M.bind (M.bind (modM k13 many2) fun y17 => getM s12.2 y17) fun y18 => M.ok (y18 * (31 : Int))) fun y21 => M.bind (getM script1 k13) fun y22 => M.ok (y21 + y22)) fun y23 => M.ok (y23 % ((10 : Int) ^ 60))) fun y26 => M.bind (modM k13 many2) fun i27 => M.bind (setM s12.2 i27 y26) fun found28 => M.bind (M.bind (M.bind (getM script1 k13) fun y34 => M.ok ((s12.1 * (48271 : Int)) + y34)) fun y35 => M.ok (y35 % (2147483647 : Int))) fun mixed29 => M.ok (mixed29, found28)
theorem eq_f_law_numbers_l1 (script1 : (List Int)) (many2 : Int) : r_f_law_numbers_l1 script1 many2 = f_law_numbers_l1 script1 many2 := by funext s12 k13; first | (simp only [r_f_law_numbers_l1, f_law_numbers_l1, M.bind_assoc, M.bok]; done) | (simp only [r_f_law_numbers_l1, f_law_numbers_l1, M.bind_assoc, M.bok]; rfl)
def r_f_law_numbers_l2  : (Int × (List Int)) → Int → M (Int × (List Int)) := fun s41 k42 => M.bind (M.bind (M.bind (M.bind (M.ok s41.1) fun y44 => M.ok (y44 * (16807 : Int))) fun y45 => M.bind (M.ok k42) fun y46 => M.ok (y45 + y46)) fun y47 => M.ok (y47 % (2147483647 : Int))) fun mixed43 => M.bind (M.bind (M.ok mixed43) fun y48 => M.ok (y48 / (1000 : Int))) fun y49 => M.bind (M.ok k42) fun i50 => M.bind (setM s41.2 i50 y49) fun found51 => M.ok (mixed43, found51)
def f_law_numbers_l2  : (Int × (List Int)) → Int → M (Int × (List Int)) := fun s41 k42 => let mixed43 : Int := (((s41.1 * (16807 : Int)) + k42) % (2147483647 : Int)); M.bind (setM s41.2 k42 (mixed43 / (1000 : Int))) fun found51 => M.ok (mixed43, found51)
theorem eq_f_law_numbers_l2  : r_f_law_numbers_l2  = f_law_numbers_l2  := by funext s41 k42; first | (simp only [r_f_law_numbers_l2, f_law_numbers_l2, M.bind_assoc, M.bok, eq_f_law_numbers_l1]; done) | (simp only [r_f_law_numbers_l2, f_law_numbers_l2, M.bind_assoc, M.bok, eq_f_law_numbers_l1]; rfl)
def q__law_numbers (script1 : (List Int)) (many2 : Int) : M (List Int) := M.bind (M.ok (7 : Int)) fun mixed3 => M.bind (M.bind (M.bind (M.ok (0 : Int)) fun y5 => M.bind (M.ok []) fun y6 => M.ok (y5 :: y6)) fun y8 => M.bind (M.ok many2) fun y9 => repM y8 y9) fun found4 => M.bind (M.bind (M.bind (M.ok script1) fun y10 => M.ok (y10.length : Int)) fun y11 => rangeM 0 y11) fun xs36 => M.bind (forM (r_f_law_numbers_l1 script1 many2) (mixed3, found4) xs36) fun (s37 : (Int × (List Int))) => M.bind (M.bind (M.bind (M.ok script1) fun y38 => M.ok (y38.length : Int)) fun y39 => M.bind (M.ok many2) fun y40 => rangeM y39 y40) fun xs52 => M.bind (forM r_f_law_numbers_l2 (s37.1, s37.2) xs52) fun (s53 : (Int × (List Int))) => M.ok s53.2
def f_law_numbers (script1 : (List Int)) (many2 : Int) : M (List Int) := let mixed3 : Int := (7 : Int); M.bind (repM ([(0 : Int)]) many2) fun found4 => M.bind (rangeM 0 (script1.length : Int)) fun xs36 => M.bind (forM (f_law_numbers_l1 script1 many2) (mixed3, found4) xs36) fun (s37 : (Int × (List Int))) => M.bind (rangeM (script1.length : Int) many2) fun xs52 => M.bind (forM f_law_numbers_l2 (s37.1, s37.2) xs52) fun (s53 : (Int × (List Int))) => M.ok s53.2
def r__law_numbers (d : ((List Int) × Int × Unit)) : M (List Int) := q__law_numbers d.1 d.2.1
def c__law_numbers (d : ((List Int) × Int × Unit)) : M (List Int) := f_law_numbers d.1 d.2.1
theorem eq__law_numbers : r__law_numbers = c__law_numbers := by funext d; first | (simp only [r__law_numbers, c__law_numbers, q__law_numbers, f_law_numbers, M.bind_assoc, M.bok, eq_f_law_numbers_l1, eq_f_law_numbers_l2]; done) | (simp only [r__law_numbers, c__law_numbers, q__law_numbers, f_law_numbers, M.bind_assoc, M.bok, eq_f_law_numbers_l1, eq_f_law_numbers_l2]; rfl)
theorem bb__law_numbers {p : Pr} (X : Facts p) {g : G} (ok : OkS p (defScope s__law_numbers) N__law_numbers V__law_numbers G__law_numbers 0 g) (hX : g.LX = List.replicate N__law_numbers.length sAny) (script1 : (List Int)) (many2 : Int) : EvB g [(sV false (tListK p.K tInt) script1), (sV false tInt many2), sAny, sAny, sAny] (defBody s__law_numbers) (fun r => .rtL false tInt r) (q__law_numbers script1 many2) := (evb_set ok (i := 2) (j := 2) rfl rfl (wkX hX rfl) .sh (ev_int (md := .sh)) fun mixed3 => (evb_own ok (i := 3) (j := 3) rfl rfl (wkX hX rfl) .sh (evl_rep (md := .sh) ok.toOk (evl_lstN (n := 1) (lnS ln0) (by decide) (evs_cons (ev_int (md := .sh)) evs_nil)) (ev_vsh ok.toOk (i := 1) (j := 1) rfl rfl rfl)) fun found4 => (evb_for (LF := (fun (s12 : (Int × (List Int))) => [(sV false (tListK p.K tInt) script1), (sV false tInt many2), (sV false tInt s12.1), (sOwn false tInt s12.2), sAny])) (s0 := (mixed3, found4)) ok (wkX hX rfl) (evi_range1 ok.toOk (j := 1) rfl X.g_range (ev_lenQ (md' := .sh) ok.toOk sq_k (j := 0) rfl X.g_len (ev_vsh ok.toOk (i := 0) (j := 0) rfl rfl rfl))) (Wk.s (Wk.s (Wk.s (Wk.s (Wk.s Wk.n))))) (fun _ => evg_name ok (i := 4) (j := 4) rfl rfl) (fun s12 k13 => (evb_setitem ok (wkX hX rfl) (i := 3) (j := 3) rfl rfl rfl .sh (ev_borrow (i := 3) (.inl flInt) rfl (ev_modC (md' := .sh) ok.toOk (by decide) (ev_add (md' := .sh) ok.toOk (ev_mulC (md' := .sh) ok.toOk (by decide) (ev_ixQ ok.toOk sq_l (ev_vsh ok.toOk (i := 3) (j := 3) rfl rfl rfl) (ev_mod (md' := .sh) ok.toOk (ev_vsh ok.toOk (i := 4) (j := 4) rfl rfl rfl) (ev_vsh ok.toOk (i := 1) (j := 1) rfl rfl rfl))) (ev_int (md := .sh))) (ev_ixQ ok.toOk sq_k (ev_vsh ok.toOk (i := 0) (j := 0) rfl rfl rfl) (ev_vsh ok.toOk (i := 4) (j := 4) rfl rfl rfl))) (ev_powC (md' := .sh) (n := 60) ok.toOk (by decide) (by decide) (ev_int (md := .sh)) (ev_int (md := .sh))))) (ev_mod (md' := .sh) ok.toOk (ev_vsh ok.toOk (i := 4) (j := 4) rfl rfl rfl) (ev_vsh ok.toOk (i := 1) (j := 1) rfl rfl rfl)) fun found28 => (evb_set ok (i := 2) (j := 2) rfl rfl (wkX hX rfl) .sh (ev_modC (md' := .sh) ok.toOk (by decide) (ev_add (md' := .sh) ok.toOk (ev_mulC (md' := .sh) ok.toOk (by decide) (ev_vsh ok.toOk (i := 2) (j := 2) rfl rfl rfl) (ev_int (md := .sh))) (ev_ixQ ok.toOk sq_k (ev_vsh ok.toOk (i := 0) (j := 0) rfl rfl rfl) (ev_vsh ok.toOk (i := 4) (j := 4) rfl rfl rfl))) (ev_int (md := .sh))) fun mixed29 => (evb_go (by rfl) (Wk.s (Wk.s (Wk.s (Wk.s (Wk.a Wk.n))))))))) fun s37 => (evb_for (LF := (fun (s41 : (Int × (List Int))) => [(sV false (tListK p.K tInt) script1), (sV false tInt many2), (sV false tInt s41.1), (sOwn false tInt s41.2), sAny])) (s0 := (s37.1, s37.2)) ok (wkX hX rfl) (evi_range2 ok.toOk (j := 1) rfl X.g_range (ev_lenQ (md' := .sh) ok.toOk sq_k (j := 0) rfl X.g_len (ev_vsh ok.toOk (i := 0) (j := 0) rfl rfl rfl)) (ev_vsh ok.toOk (i := 1) (j := 1) rfl rfl rfl)) (Wk.s (Wk.s (Wk.s (Wk.s (Wk.s Wk.n))))) (fun _ => evg_name ok (i := 4) (j := 4) rfl rfl) (fun s41 k42 => (evb_set ok (i := 2) (j := 2) rfl rfl (wkX hX rfl) .sh (ev_modC (md' := .sh) ok.toOk (by decide) (ev_add (md' := .sh) ok.toOk (ev_mulC (md' := .sh) ok.toOk (by decide) (ev_vsh ok.toOk (i := 2) (j := 2) rfl rfl rfl) (ev_int (md := .sh))) (ev_vsh ok.toOk (i := 4) (j := 4) rfl rfl rfl)) (ev_int (md := .sh))) fun mixed43 => (evb_setitem ok (wkX hX rfl) (i := 3) (j := 3) rfl rfl rfl .sh (ev_divC (md' := .sh) ok.toOk (by decide) (by decide) (ev_vsh ok.toOk (i := 2) (j := 2) rfl rfl rfl) (ev_int (md := .sh))) (ev_vsh ok.toOk (i := 4) (j := 4) rfl rfl rfl) fun found51 => (evb_go (by rfl) (Wk.s (Wk.s (Wk.s (Wk.s (Wk.a Wk.n))))))))) fun s53 => (evb_retOwn ok.toOk (i := 3) (j := 3) rfl rfl rfl (.inl rfl) (by rfl))))))
theorem b__law_numbers {p : Pr} (X : Facts p) : Body p s__law_numbers N__law_numbers V__law_numbers G__law_numbers 0 (fun (d : ((List Int) × Int × Unit)) => [(sV false (tListK p.K tInt) d.1), (sV false tInt d.2.1), sAny, sAny, sAny]) (fun r => .rtL false tInt r) r__law_numbers := fun g ok hX d => bb__law_numbers X ok hX d.1 d.2.1
theorem fn__law_numbers {p : Pr} (X : Facts p) : Fn p 1 "_law_numbers" ["script", "many"] (spM p (aCons (tListK p.K tInt) (aCons tInt aNil)) (fun r => .rtL false tInt r) c__law_numbers) := by
  obtain ⟨f, fd, hF, hm⟩ := X.d__law_numbers
  exact ⟨f, fd, eq__law_numbers ▸ fn_rtL (m := 3) hF sc__law_numbers (.cons (.cons .nil)) rfl rfl (b__law_numbers X), hm, hF.kp, hF.bindsN fun _ _ _ _ _ _ us hl => match us, hl with | [_, _], _ => rfl⟩
/-! ### _law_subset -/
abbrev s__law_subset : Stmt := (topS 13)
abbrev N__law_subset : List Str := ["number", "found", "shaft"]
abbrev V__law_subset : List Str := ["number", "found", "shaft"]
abbrev G__law_subset : List Str := ["range"]
theorem sc__law_subset : Sc s__law_subset N__law_subset V__law_subset ["number"] G__law_subset := ⟨⟨rfl, rfl, rfl, by decide +kernel, rfl, by decide +kernel, by decide +kernel⟩, by decide +kernel, by decide +kernel, by decide +kernel⟩
def r_f_law_subset_l1  : (Int × (List Int)) → Int → M (Int × (List Int)) := fun s22 shaft23 => M.bind (M.bind (M.bind (M.ok s22.1) fun y24 => M.ok (y24 % (2 : Int))) fun y25 => M.bind (M.ok (1 : Int)) fun y26 => M.ok (decide (y25 = y26))) fun c27 => M.bind (if c27 = true then M.bind (M.ok shaft23) fun y29 => M.bind (pushM s22.2 y29) fun found28 => M.ok found28 else M.ok s22.2) fun (s30 : ((List Int))) => M.bind (M.bind (M.ok s22.1) fun y32 => M.ok (y32 / (2 : Int))) fun number31 => M.ok (number31, s30)
def f_law_subset_l1  : (Int × (List Int)) → Int → M (Int × (List Int)) := fun s22 shaft23 => M.bind (if (decide ((s22.1 % (2 : Int)) = (1 : Int))) = true then M.bind (pushM s22.2 shaft23) fun found28 => M.ok found28 else M.ok s22.2) fun (s30 : ((List Int))) => let number31 : Int := (s22.1 / (2 : Int)); M.ok (number31, s30)
theorem eq_f_law_subset_l1  : r_f_law_subset_l1  = f_law_subset_l1  := by funext s22 shaft23; first | (simp only [r_f_law_subset_l1, f_law_subset_l1, M.bind_assoc, M.bok]; done) | (simp only [r_f_law_subset_l1, f_law_subset_l1, M.bind_assoc, M.bok]; rfl)
def q__law_subset (number1 : Int) : M (List Int) := M.bind (M.ok ((decide (number1 < ((10 : Int) ^ 6))) && (decide ((number1 % (8 : Int)) = (3 : Int))))) fun c8 => if c8 = true then M.ok [] else M.bind (M.bind (M.ok number1) fun y10 => M.bind (M.ok ((10 : Int) ^ 6)) fun y11 => M.ok (decide (y10 < y11))) fun c12 => M.bind (if c12 = true then M.bind (M.bind (M.bind (M.bind (M.ok number1) fun y14 => M.bind (M.ok number1) fun y15 => mulM y14 y15) fun y16 => M.ok (y16 * (1000003 : Int))) fun y17 => M.bind (M.ok number1) fun y18 => M.ok (y17 + y18)) fun number13 => M.ok number13 else M.ok number1) fun (s19 : (Int)) => M.bind (M.ok []) fun found20 => M.bind (M.bind (M.ok (40 : Int)) fun y21 => rangeM 0 y21) fun xs33 => M.bind (forM r_f_law_subset_l1 (s19, found20) xs33) fun (s34 : (Int × (List Int))) => M.ok s34.2
def f_law_subset (number1 : Int) : M (List Int) := if ((decide (number1 < ((10 : Int) ^ 6))) && (decide ((number1 % (8 : Int)) = (3 : Int)))) = true then M.ok ([]) else M.bind (if (decide (number1 < ((10 : Int) ^ 6))) = true then M.bind (M.bind (M.bind (mulM number1 number1) fun y16 => M.ok (y16 * (1000003 : Int))) fun y17 => M.ok (y17 + number1)) fun number13 => M.ok number13 else M.ok number1) fun (s19 : (Int)) => let found20 : (List Int) := []; M.bind (rangeM 0 (40 : Int)) fun xs33 => M.bind (forM f_law_subset_l1 (s19, found20) xs33) fun (s34 : (Int × (List Int))) => M.ok s34.2
def r__law_subset (d : (Int × Unit)) : M (List Int) := q__law_subset d.1
def c__law_subset (d : (Int × Unit)) : M (List Int) := f_law_subset d.1
theorem eq__law_subset : r__law_subset = c__law_subset := by funext d; first | (simp only [r__law_subset, c__law_subset, q__law_subset, f_law_subset, M.bind_assoc, M.bok, eq_f_law_subset_l1]; done) | (simp only [r__law_subset, c__law_subset, q__law_subset, f_law_subset, M.bind_assoc, M.bok, eq_f_law_subset_l1]; rfl)
theorem bb__law_subset {p : Pr} (X : Facts p) {g : G} (ok : OkS p (defScope s__law_subset) N__law_subset V__law_subset G__law_subset 0 g) (hX : g.LX = List.replicate N__law_subset.length sAny) (number1 : Int) : EvB g [(sV false tInt number1), sAny, sAny] (defBody s__law_subset) (fun r => .rtL false tInt r) (q__law_subset number1) := (evb_ifx (wkX hX rfl) (EvW.t (evw_andP (pureT (m := M.bind (M.ok number1) fun y2 => M.bind (M.ok ((10 : Int) ^ 6)) fun y3 => M.ok (decide (y2 < y3))) (evt_c ok.toOk c_lt (ev_vsh ok.toOk (i := 0) (j := 0) rfl rfl rfl) (ev_powC (md' := .sh) (n := 6) ok.toOk (by decide) (by decide) (ev_int (md := .sh)) (ev_int (md := .sh)))) rfl) (pureW (m := M.bind (M.bind (M.ok number1) fun y4 => M.ok (y4 % (8 : Int))) fun y5 => M.bind (M.ok (3 : Int)) fun y6 => M.ok (decide (y5 = y6))) (evw_and1 (evt_c ok.toOk (c_eq s_int) (ev_modC (md' := .sh) ok.toOk (by decide) (ev_vsh ok.toOk (i := 0) (j := 0) rfl rfl rfl) (ev_int (md := .sh))) (ev_int (md := .sh)))) rfl))) (evb_retL (wkX hX rfl) .sh (by intro _; rfl) (evl_nil (md := .sh) (S := tInt))) (evb_if (LJ := (fun (s19 : (Int)) => [(sV false tInt s19), sAny, sAny])) (wkX hX rfl) (evt_c ok.toOk c_lt (ev_vsh ok.toOk (i := 0) (j := 0) rfl rfl rfl) (ev_powC (md' := .sh) (n := 6) ok.toOk (by decide) (by decide) (ev_int (md := .sh)) (ev_int (md := .sh)))) (evb_set ok (i := 0) (j := 0) rfl rfl (wkX hX rfl) .sh (ev_add (md' := .sh) ok.toOk (ev_mulC (md' := .sh) ok.toOk (by decide) (ev_mul (md' := .sh) ok.toOk (ev_vsh ok.toOk (i := 0) (j := 0) rfl rfl rfl) (ev_vsh ok.toOk (i := 0) (j := 0) rfl rfl rfl)) (ev_int (md := .sh))) (ev_vsh ok.toOk (i := 0) (j := 0) rfl rfl rfl)) fun number13 => (evb_nx (by rfl) (Wk.s (Wk.s (Wk.s Wk.n))))) (evb_nx (by rfl) (Wk.s (Wk.s (Wk.s Wk.n)))) fun s19 => (evb_own ok (i := 1) (j := 1) rfl rfl (wkX hX rfl) .sh (evl_nil (md := .sh) (S := tInt)) fun found20 => (evb_for (LF := (fun (s22 : (Int × (List Int))) => [(sV false tInt s22.1), (sOwn false tInt s22.2), sAny])) (s0 := (s19, found20)) ok (wkX hX rfl) (evi_range1 ok.toOk (j := 0) rfl X.g_range (ev_int (md := .sh))) (Wk.s (Wk.s (Wk.s Wk.n))) (fun _ => evg_name ok (i := 2) (j := 2) rfl rfl) (fun s22 shaft23 => (evb_if (LJ := (fun (s30 : ((List Int))) => [(sV false tInt s22.1), (sOwn false tInt s30), (sV false tInt shaft23)])) (wkX hX rfl) (evt_c ok.toOk (c_eq s_int) (ev_modC (md' := .sh) ok.toOk (by decide) (ev_vsh ok.toOk (i := 0) (j := 0) rfl rfl rfl) (ev_int (md := .sh))) (ev_int (md := .sh))) (evb_append ok (wkX hX rfl) (i := 1) (j := 1) rfl rfl rfl .sh (ev_vsh ok.toOk (i := 2) (j := 2) rfl rfl rfl) fun found28 => (evb_nx (by rfl) (Wk.s (Wk.s (Wk.s Wk.n))))) (evb_nx (by rfl) (Wk.s (Wk.s (Wk.s Wk.n)))) fun s30 => (evb_set ok (i := 0) (j := 0) rfl rfl (wkX hX rfl) .sh (ev_divC (md' := .sh) ok.toOk (by decide) (by decide) (ev_vsh ok.toOk (i := 0) (j := 0) rfl rfl rfl) (ev_int (md := .sh))) fun number31 => (evb_go (by rfl) (Wk.s (Wk.s (Wk.a Wk.n))))))) fun s34 => (evb_retOwn ok.toOk (i := 1) (j := 1) rfl rfl rfl (.inl rfl) (by rfl))))))
theorem b__law_subset {p : Pr} (X : Facts p) : Body p s__law_subset N__law_subset V__law_subset G__law_subset 0 (fun (d : (Int × Unit)) => [(sV false tInt d.1), sAny, sAny]) (fun r => .rtL false tInt r) r__law_subset := fun g ok hX d => bb__law_subset X ok hX d.1
theorem fn__law_subset {p : Pr} (X : Facts p) : Fn p 1 "_law_subset" ["number"] (spM p (aCons tInt aNil) (fun r => .rtL false tInt r) c__law_subset) := by
  obtain ⟨f, fd, hF, hm⟩ := X.d__law_subset
  exact ⟨f, fd, eq__law_subset ▸ fn_rtL (m := 2) hF sc__law_subset (.cons .nil) rfl rfl (b__law_subset X), hm, hF.kp, hF.bindsN fun _ _ _ _ _ _ us hl => match us, hl with | [_], _ => rfl⟩
/-! ### _law_draft_by -/
abbrev s__law_draft_by : Stmt := (topS 14)
abbrev N__law_draft_by : List Str := ["numbers", "ends", "treadles", "picks", "high", "threading", "ties", "at", "treading", "number"]
abbrev V__law_draft_by : List Str := ["numbers", "ends", "treadles", "picks", "high", "threading", "ties", "at", "treading"]
abbrev G__law_draft_by : List Str := []
theorem sc__law_draft_by : Sc s__law_draft_by N__law_draft_by V__law_draft_by ["numbers"] G__law_draft_by := ⟨⟨rfl, rfl, rfl, by decide +kernel, rfl, by decide +kernel, by decide +kernel⟩, by decide +kernel, by decide +kernel, by decide +kernel⟩
def q__law_draft_by (numbers1 : (List Int)) : M ((List Int) × (List (List Int)) × (List Int) × Unit) := M.bind (M.bind (M.ok (1 : Int)) fun y6 => M.bind (M.bind (M.bind (M.ok numbers1) fun y3 => M.bind (M.ok (0 : Int)) fun y4 => getM y3 y4) fun y5 => M.ok (y5 % (40 : Int))) fun y7 => M.ok (y6 + y7)) fun ends2 => M.bind (M.bind (M.ok (1 : Int)) fun y12 => M.bind (M.bind (M.bind (M.ok numbers1) fun y9 => M.bind (M.ok (1 : Int)) fun y10 => getM y9 y10) fun y11 => M.ok (y11 % (40 : Int))) fun y13 => M.ok (y12 + y13)) fun treadles8 => M.bind (M.bind (M.ok (1 : Int)) fun y18 => M.bind (M.bind (M.bind (M.ok numbers1) fun y15 => M.bind (M.ok (2 : Int)) fun y16 => getM y15 y16) fun y17 => M.ok (y17 % (40 : Int))) fun y19 => M.ok (y18 + y19)) fun picks14 => M.bind (M.bind (M.ok (1 : Int)) fun y25 => M.bind (M.bind (M.bind (M.bind (M.ok numbers1) fun y21 => M.bind (M.ok (0 : Int)) fun y22 => getM y21 y22) fun y23 => M.ok (y23 / (40 : Int))) fun y24 => M.ok (y24 % (40 : Int))) fun y26 => M.ok (y25 + y26)) fun high20 => M.bind (M.bind (M.bind (M.bind (M.bind (M.ok numbers1) fun y27 => M.bind (M.ok (1 : Int)) fun y28 => getM y27 y28) fun y29 => M.ok (y29 / (40 : Int))) fun y30 => M.ok (y30 % (3 : Int))) fun y31 => M.bind (M.ok (1 : Int)) fun y32 => M.ok (decide (y31 = y32))) fun c33 => M.bind (if c33 = true then M.bind (M.ok (40 : Int)) fun high34 => M.ok high34 else M.ok high20) fun (s35 : (Int)) => M.bind (M.bind (M.bind (M.ok numbers1) fun y41 => M.bind (M.bind (M.ok (3 : Int)) fun y37 => M.ok (some y37)) fun y42 => M.bind (M.bind (M.bind (M.ok (3 : Int)) fun y38 => M.bind (M.ok ends2) fun y39 => M.ok (y38 + y39)) fun y40 => M.ok (some y40)) fun y43 => M.ok (cutL y41 y42 y43)) fun xs49 => compM (fun number44 => M.bind (M.ok true) fun c47 => if c47 = true then M.bind (M.bind (M.ok number44) fun y45 => M.bind (M.ok s35) fun y46 => modM y45 y46) fun y48 => M.ok (some y48) else M.ok none) xs49) fun threading36 => M.bind (M.bind (M.bind (M.ok numbers1) fun y59 => M.bind (M.bind (M.bind (M.ok (3 : Int)) fun y51 => M.bind (M.ok ends2) fun y52 => M.ok (y51 + y52)) fun y53 => M.ok (some y53)) fun y60 => M.bind (M.bind (M.bind (M.bind (M.ok (3 : Int)) fun y54 => M.bind (M.ok ends2) fun y55 => M.ok (y54 + y55)) fun y56 => M.bind (M.ok treadles8) fun y57 => M.ok (y56 + y57)) fun y58 => M.ok (some y58)) fun y61 => M.ok (cutL y59 y60 y61)) fun xs68 => compM (fun number62 => M.bind (M.ok true) fun c66 => if c66 = true then M.bind (M.bind (M.bind (M.ok number62) fun y63 => M.bind (M.ok ()) fun y64 => M.ok (y63, y64)) c__law_subset) fun y67 => M.ok (some y67) else M.ok none) xs68) fun ties50 => M.bind (M.bind (M.bind (M.ok (3 : Int)) fun y70 => M.bind (M.ok ends2) fun y71 => M.ok (y70 + y71)) fun y72 => M.bind (M.ok treadles8) fun y73 => M.ok (y72 + y73)) fun at69 => M.bind (M.bind (M.bind (M.ok numbers1) fun y79 => M.bind (M.bind (M.ok at69) fun y75 => M.ok (some y75)) fun y80 => M.bind (M.bind (M.bind (M.ok at69) fun y76 => M.bind (M.ok picks14) fun y77 => M.ok (y76 + y77)) fun y78 => M.ok (some y78)) fun y81 => M.ok (cutL y79 y80 y81)) fun xs87 => compM (fun number82 => M.bind (M.ok true) fun c85 => if c85 = true then M.bind (M.bind (M.ok number82) fun y83 => M.bind (M.ok treadles8) fun y84 => modM y83 y84) fun y86 => M.ok (some y86) else M.ok none) xs87) fun treading74 => (M.bind (M.ok threading36) fun y92 => M.bind (M.bind (M.ok ties50) fun y90 => M.bind (M.bind (M.ok treading74) fun y88 => M.bind (M.ok ()) fun y89 => M.ok (y88, y89)) fun y91 => M.ok (y90, y91)) fun y93 => M.ok (y92, y93))
def f_law_draft_by (numbers1 : (List Int)) : M ((List Int) × (List (List Int)) × (List Int) × Unit) := M.bind (M.bind (M.bind (getM numbers1 (0 : Int)) fun y5 => M.ok (y5 % (40 : Int))) fun y7 => M.ok ((1 : Int) + y7)) fun ends2 => M.bind (M.bind (M.bind (getM numbers1 (1 : Int)) fun y11 => M.ok (y11 % (40 : Int))) fun y13 => M.ok ((1 : Int) + y13)) fun treadles8 => M.bind (M.bind (M.bind (getM numbers1 (2 : Int)) fun y17 => M.ok (y17 % (40 : Int))) fun y19 => M.ok ((1 : Int) + y19)) fun picks14 => M.bind (M.bind (M.bind (M.bind (getM numbers1 (0 : Int)) fun y23 => M.ok (y23 / (40 : Int))) fun y24 => M.ok (y24 % (40 : Int))) fun y26 => M.ok ((1 : Int) + y26)) fun high20 => M.bind (M.bind (M.bind (M.bind (getM numbers1 (1 : Int)) fun y29 => M.ok (y29 / (40 : Int))) fun y30 => M.ok (y30 % (3 : Int))) fun y31 => M.ok (decide (y31 = (1 : Int)))) fun c33 => M.bind (if c33 = true then let high34 : Int := (40 : Int); M.ok high34 else M.ok high20) fun (s35 : (Int)) => M.bind (compM (fun number44 => M.bind (modM number44 s35) fun y48 => M.ok (some y48)) (cutL numbers1 (some (3 : Int)) (some ((3 : Int) + ends2)))) fun threading36 => M.bind (compM (fun number62 => M.bind (f_law_subset number62) fun y67 => M.ok (some y67)) (cutL numbers1 (some ((3 : Int) + ends2)) (some (((3 : Int) + ends2) + treadles8)))) fun ties50 => let at69 : Int := (((3 : Int) + ends2) + treadles8); M.bind (compM (fun number82 => M.bind (modM number82 treadles8) fun y86 => M.ok (some y86)) (cutL numbers1 (some at69) (some (at69 + picks14)))) fun treading74 => M.ok (threading36, ties50, treading74, ())
def r__law_draft_by (d : ((List Int) × Unit)) : M ((List Int) × (List (List Int)) × (List Int) × Unit) := q__law_draft_by d.1
def c__law_draft_by (d : ((List Int) × Unit)) : M ((List Int) × (List (List Int)) × (List Int) × Unit) := f_law_draft_by d.1
theorem eq__law_draft_by : r__law_draft_by = c__law_draft_by := by funext d; first | (simp only [r__law_draft_by, c__law_draft_by, q__law_draft_by, f_law_draft_by, M.bind_assoc, M.bok, c__law_subset]; done) | (simp only [r__law_draft_by, c__law_draft_by, q__law_draft_by, f_law_draft_by, M.bind_assoc, M.bok, c__law_subset]; rfl)
theorem bb__law_draft_by {p : Pr} (X : Facts p) {g : G} (ok : OkS p (defScope s__law_draft_by) N__law_draft_by V__law_draft_by G__law_draft_by 1 g) (hX : g.LX = List.replicate N__law_draft_by.length sAny) (numbers1 : (List Int)) : EvB g [(sV false (tList tInt) numbers1), sAny, sAny, sAny, sAny, sAny, sAny, sAny, sAny, sAny] (defBody s__law_draft_by) (fun r => .rt false (tTup (aCons (tList tInt) (aCons (tList (tList tInt)) (aCons (tList tInt) aNil)))) r) (q__law_draft_by numbers1) := (evb_set ok (i := 1) (j := 1) rfl rfl (wkX hX rfl) .sh (ev_add (md' := .sh) ok.toOk (ev_int (md := .sh)) (ev_modC (md' := .sh) ok.toOk (by decide) (ev_ixQ ok.toOk sq_l (ev_vsh ok.toOk (i := 0) (j := 0) rfl rfl rfl) (ev_int (md := .sh))) (ev_int (md := .sh)))) fun ends2 => (evb_set ok (i := 2) (j := 2) rfl rfl (wkX hX rfl) .sh (ev_add (md' := .sh) ok.toOk (ev_int (md := .sh)) (ev_modC (md' := .sh) ok.toOk (by decide) (ev_ixQ ok.toOk sq_l (ev_vsh ok.toOk (i := 0) (j := 0) rfl rfl rfl) (ev_int (md := .sh))) (ev_int (md := .sh)))) fun treadles8 => (evb_set ok (i := 3) (j := 3) rfl rfl (wkX hX rfl) .sh (ev_add (md' := .sh) ok.toOk (ev_int (md := .sh)) (ev_modC (md' := .sh) ok.toOk (by decide) (ev_ixQ ok.toOk sq_l (ev_vsh ok.toOk (i := 0) (j := 0) rfl rfl rfl) (ev_int (md := .sh))) (ev_int (md := .sh)))) fun picks14 => (evb_set ok (i := 4) (j := 4) rfl rfl (wkX hX rfl) .sh (ev_add (md' := .sh) ok.toOk (ev_int (md := .sh)) (ev_modC (md' := .sh) ok.toOk (by decide) (ev_divC (md' := .sh) ok.toOk (by decide) (by decide) (ev_ixQ ok.toOk sq_l (ev_vsh ok.toOk (i := 0) (j := 0) rfl rfl rfl) (ev_int (md := .sh))) (ev_int (md := .sh))) (ev_int (md := .sh)))) fun high20 => (evb_if (LJ := (fun (s35 : (Int)) => [(sV false (tList tInt) numbers1), (sV false tInt ends2), (sV false tInt treadles8), (sV false tInt picks14), (sV false tInt s35), sAny, sAny, sAny, sAny, sAny])) (wkX hX rfl) (evt_c ok.toOk (c_eq s_int) (ev_modC (md' := .sh) ok.toOk (by decide) (ev_divC (md' := .sh) ok.toOk (by decide) (by decide) (ev_ixQ ok.toOk sq_l (ev_vsh ok.toOk (i := 0) (j := 0) rfl rfl rfl) (ev_int (md := .sh))) (ev_int (md := .sh))) (ev_int (md := .sh))) (ev_int (md := .sh))) (evb_set ok (i := 4) (j := 4) rfl rfl (wkX hX rfl) .sh (ev_int (md := .sh)) fun high34 => (evb_nx (by rfl) (Wk.s (Wk.s (Wk.s (Wk.s (Wk.s (Wk.s (Wk.s (Wk.s (Wk.s (Wk.s Wk.n)))))))))))) (evb_nx (by rfl) (Wk.s (Wk.s (Wk.s (Wk.s (Wk.s (Wk.s (Wk.s (Wk.s (Wk.s (Wk.s Wk.n))))))))))) fun s35 => (evb_setC (md := .sh) (VV' := ["number", "high"]) (GG' := []) (i := 9) (i2 := 5) ok rfl (wkX hX rfl) (by decide +kernel) (by rfl) (by decide +kernel) (evi_seq ok.toOk sq_l (ev_ofL (evl_slQ (md := .sh) ok.toOk sq_l (ev_vsh ok.toOk (i := 0) (j := 0) rfl rfl rfl) (evo_some (ev_int (md := .sh))) (evo_some (ev_add (md' := .sh) ok.toOk (ev_int (md := .sh)) (ev_vsh ok.toOk (i := 1) (j := 1) rfl rfl rfl)))))) rfl rfl no_any (by decide +kernel) (by decide +kernel) (by decide +kernel) (by decide +kernel) (fun g' okc number44 => evpts_nil) (fun g' okc number44 => (ev_mod (md' := .sh) okc (ev_vsh okc (i := 9) (j := 0) rfl rfl rfl) (ev_vsh okc (i := 4) (j := 1) rfl rfl rfl))) fun threading36 => (evb_setC (md := .sh) (VV' := ["number"]) (GG' := ["_law_subset"]) (i := 9) (i2 := 6) ok rfl (wkX hX rfl) (by decide +kernel) (by rfl) (by decide +kernel) (evi_seq ok.toOk sq_l (ev_ofL (evl_slQ (md := .sh) ok.toOk sq_l (ev_vsh ok.toOk (i := 0) (j := 0) rfl rfl rfl) (evo_some (ev_add (md' := .sh) ok.toOk (ev_int (md := .sh)) (ev_vsh ok.toOk (i := 1) (j := 1) rfl rfl rfl))) (evo_some (ev_add (md' := .sh) ok.toOk (ev_add (md' := .sh) ok.toOk (ev_int (md := .sh)) (ev_vsh ok.toOk (i := 1) (j := 1) rfl rfl rfl)) (ev_vsh ok.toOk (i := 2) (j := 2) rfl rfl rfl)))))) rfl rfl no_any (by decide +kernel) (by decide +kernel) (by decide +kernel) (by decide +kernel) (fun g' okc number62 => evpts_nil) (fun g' okc number62 => (ev_ofL (evl_call (md' := .sh) okc (fn__law_subset X) (by decide) (j := 0) rfl .sh (eva_cons (md := .sh) (ev_vsh okc (i := 9) (j := 0) rfl rfl rfl) eva_nil)))) fun ties50 => (evb_set ok (i := 7) (j := 7) rfl rfl (wkX hX rfl) .sh (ev_add (md' := .sh) ok.toOk (ev_add (md' := .sh) ok.toOk (ev_int (md := .sh)) (ev_vsh ok.toOk (i := 1) (j := 1) rfl rfl rfl)) (ev_vsh ok.toOk (i := 2) (j := 2) rfl rfl rfl)) fun at69 => (evb_setC (md := .sh) (VV' := ["number", "treadles"]) (GG' := []) (i := 9) (i2 := 8) ok rfl (wkX hX rfl) (by decide +kernel) (by rfl) (by decide +kernel) (evi_seq ok.toOk sq_l (ev_ofL (evl_slQ (md := .sh) ok.toOk sq_l (ev_vsh ok.toOk (i := 0) (j := 0) rfl rfl rfl) (evo_some (ev_vsh ok.toOk (i := 7) (j := 7) rfl rfl rfl)) (evo_some (ev_add (md' := .sh) ok.toOk (ev_vsh ok.toOk (i := 7) (j := 7) rfl rfl rfl) (ev_vsh ok.toOk (i := 3) (j := 3) rfl rfl rfl)))))) rfl rfl no_any (by decide +kernel) (by decide +kernel) (by decide +kernel) (by decide +kernel) (fun g' okc number82 => evpts_nil) (fun g' okc number82 => (ev_mod (md' := .sh) okc (ev_vsh okc (i := 9) (j := 0) rfl rfl rfl) (ev_vsh okc (i := 2) (j := 1) rfl rfl rfl))) fun treading74 => (evb_ret (wkX hX rfl) .sh (by intro _; rfl) (ev_tup (fun d vs R h => by rw [(lenS (lenS (lenS len0))) h]; decide) (eva_cons (ev_vsh ok.toOk (i := 5) (j := 5) rfl rfl rfl) (eva_cons (ev_vsh ok.toOk (i := 6) (j := 6) rfl rfl rfl) (eva_cons (ev_vsh ok.toOk (i := 8) (j := 8) rfl rfl rfl) eva_nil))))))))))))))
theorem b__law_draft_by {p : Pr} (X : Facts p) : Body p s__law_draft_by N__law_draft_by V__law_draft_by G__law_draft_by 1 (fun (d : ((List Int) × Unit)) => [(sV false (tList tInt) d.1), sAny, sAny, sAny, sAny, sAny, sAny, sAny, sAny, sAny]) (fun r => .rt false (tTup (aCons (tList tInt) (aCons (tList (tList tInt)) (aCons (tList tInt) aNil)))) r) r__law_draft_by := fun g ok hX d => bb__law_draft_by X ok hX d.1
theorem fn__law_draft_by {p : Pr} (X : Facts p) : Fn p 2 "_law_draft_by" ["numbers"] (spM p (aCons (tList tInt) aNil) (fun r => .rt false (tTup (aCons (tList tInt) (aCons (tList (tList tInt)) (aCons (tList tInt) aNil)))) r) c__law_draft_by) := by
  obtain ⟨f, fd, hF, hm⟩ := X.d__law_draft_by
  exact ⟨f, fd, eq__law_draft_by ▸ fn_rt (m := 9) hF sc__law_draft_by (.cons .nil) rfl rfl (b__law_draft_by X), hm, hF.kp, hF.bindsN fun _ _ _ _ _ _ us hl => match us, hl with | [_], _ => rfl⟩
/-! ### tie_rises -/
abbrev s_tie_rises : Stmt := (topS 6)
abbrev N_tie_rises : List Str := ["tie", "last", "shaft"]
abbrev V_tie_rises : List Str := ["tie", "last", "shaft"]
abbrev G_tie_rises : List Str := ["MOST_IN_DRAFT"]
theorem sc_tie_rises : Sc s_tie_rises N_tie_rises V_tie_rises ["tie"] G_tie_rises := ⟨⟨rfl, rfl, rfl, by decide +kernel, rfl, by decide +kernel, by decide +kernel⟩, by decide +kernel, by decide +kernel, by decide +kernel⟩
def r_f_tie_rises_l1  : (Int) → Int → M (Fl (Int) Bool) := fun s4 shaft5 => M.bind (M.ok ((decide (shaft5 ≤ s4)) || (decide ((40 : Int) ≤ shaft5)))) fun c11 => if c11 = true then M.bind (M.ok false) fun r12 => M.ok (Fl.rt r12) else M.bind (M.ok shaft5) fun last13 => M.ok (Fl.nx last13)
def f_tie_rises_l1  : (Int) → Int → M (Fl (Int) Bool) := fun s4 shaft5 => if ((decide (shaft5 ≤ s4)) || (decide ((40 : Int) ≤ shaft5))) = true then M.ok (Fl.rt false) else let last13 : Int := shaft5; M.ok (Fl.nx last13)
theorem eq_f_tie_rises_l1  : r_f_tie_rises_l1  = f_tie_rises_l1  := by funext s4 shaft5; first | (simp only [r_f_tie_rises_l1, f_tie_rises_l1, M.bind_assoc, M.bok]; done) | (simp only [r_f_tie_rises_l1, f_tie_rises_l1, M.bind_assoc, M.bok]; rfl)
def q_tie_rises (tie1 : (List Int)) : M Bool := M.bind (M.bind (M.ok (1 : Int)) fun y3 => M.ok (-y3)) fun last2 => M.bind (M.ok tie1) fun xs15 => M.bind (forF r_f_tie_rises_l1 last2 xs15) (Fl.el (fun (s16 : (Int)) => M.ok true) fun r18 => M.ok r18)
def f_tie_rises (tie1 : (List Int)) : M Bool := let last2 : Int := (-(1 : Int)); M.bind (forF f_tie_rises_l1 last2 tie1) (Fl.el (fun (s16 : (Int)) => M.ok true) fun r18 => M.ok r18)
def r_tie_rises (d : ((List Int) × Unit)) : M Bool := q_tie_rises d.1
def c_tie_rises (d : ((List Int) × Unit)) : M Bool := f_tie_rises d.1
theorem eq_tie_rises : r_tie_rises = c_tie_rises := by funext d; first | (simp only [r_tie_rises, c_tie_rises, q_tie_rises, f_tie_rises, M.bind_assoc, M.bok, eq_f_tie_rises_l1]; done) | (simp only [r_tie_rises, c_tie_rises, q_tie_rises, f_tie_rises, M.bind_assoc, M.bok, eq_f_tie_rises_l1]; rfl)
theorem bb_tie_rises {p : Pr} (X : Facts p) {g : G} (ok : OkS p (defScope s_tie_rises) N_tie_rises V_tie_rises G_tie_rises 0 g) (hX : g.LX = List.replicate N_tie_rises.length sAny) (tie1 : (List Int)) : EvB g [(sV false (tList tInt) tie1), sAny, sAny] (defBody s_tie_rises) (fun r => .rt false tBool r) (q_tie_rises tie1) := (evb_set ok (i := 1) (j := 1) rfl rfl (wkX hX rfl) .sh (ev_neg (md' := .sh) ok.toOk (ev_int (md := .sh))) fun last2 => (evb_forF (LF := (fun (s4 : (Int)) => [(sV false (tList tInt) tie1), (sV false tInt s4), sAny])) (s0 := last2) (dr := fun r18 => r18) ok (wkX hX rfl) (evi_seq ok.toOk sq_l (ev_vsh ok.toOk (i := 0) (j := 0) rfl rfl rfl)) (Wk.s (Wk.s (Wk.s Wk.n))) (fun _ => evg_name ok (i := 2) (j := 2) rfl rfl) (fun s4 shaft5 => (evb_ifx (wkX hX rfl) (EvW.t (evw_orP (pureT (m := M.bind (M.ok shaft5) fun y6 => M.bind (M.ok s4) fun y7 => M.ok (decide (y6 ≤ y7))) (evt_c ok.toOk c_le (ev_vsh ok.toOk (i := 2) (j := 2) rfl rfl rfl) (ev_vsh ok.toOk (i := 1) (j := 1) rfl rfl rfl)) rfl) (pureW (m := M.bind (M.ok shaft5) fun y8 => M.bind (M.ok (40 : Int)) fun y9 => M.ok (decide (y9 ≤ y8))) (evw_or1 (evt_c ok.toOk c_ge (ev_vsh ok.toOk (i := 2) (j := 2) rfl rfl rfl) (ev_gint (md := .sh) ok.toOk (j := 0) rfl X.c_MOST_IN_DRAFT))) rfl))) (evb_retF (mk := fun r12 => Fl.rt r12) (wkX hX rfl) .sh (by intro _; rfl) (ev_bool (md := .sh))) (evb_set ok (i := 1) (j := 1) rfl rfl (wkX hX rfl) .sh (ev_vsh ok.toOk (i := 2) (j := 2) rfl rfl rfl) fun last13 => (evb_go (by rfl) (Wk.s (Wk.s (Wk.a Wk.n))))))) fun s16 => (evb_ret (wkX hX rfl) .sh (by intro _; rfl) (ev_bool (md := .sh)))))
theorem b_tie_rises {p : Pr} (X : Facts p) : Body p s_tie_rises N_tie_rises V_tie_rises G_tie_rises 0 (fun (d : ((List Int) × Unit)) => [(sV false (tList tInt) d.1), sAny, sAny]) (fun r => .rt false tBool r) r_tie_rises := fun g ok hX d => bb_tie_rises X ok hX d.1
theorem fn_tie_rises {p : Pr} (X : Facts p) : Fn p 1 "tie_rises" ["tie"] (spM p (aCons (tList tInt) aNil) (fun r => .rt false tBool r) c_tie_rises) := by
  obtain ⟨f, fd, hF, hm⟩ := X.d_tie_rises
  exact ⟨f, fd, eq_tie_rises ▸ fn_rt (m := 2) hF sc_tie_rises (.cons .nil) rfl rfl (b_tie_rises X), hm, hF.kp, hF.bindsN fun _ _ _ _ _ _ us hl => match us, hl with | [_], _ => rfl⟩
/-! ### lists_fit -/
abbrev s_lists_fit : Stmt := (topS 7)
abbrev N_lists_fit : List Str := ["threading", "ties", "treading", "part", "shaft", "tie", "treadle"]
abbrev V_lists_fit : List Str := ["threading", "ties", "treading", "part", "shaft", "tie", "treadle"]
abbrev G_lists_fit : List Str := ["len", "MOST_IN_DRAFT", "tie_rises"]
theorem sc_lists_fit : Sc s_lists_fit N_lists_fit V_lists_fit ["threading", "ties", "treading"] G_lists_fit := ⟨⟨rfl, rfl, rfl, by decide +kernel, rfl, by decide +kernel, by decide +kernel⟩, by decide +kernel, by decide +kernel, by decide +kernel⟩
def r_f_lists_fit_l1  : Unit → Int → M (Fl Unit Bool) := fun s14 part15 => M.bind (M.ok ((decide (part15 < (1 : Int))) || (decide ((40 : Int) < part15)))) fun c23 => if c23 = true then M.bind (M.ok false) fun r24 => M.ok (Fl.rt r24) else M.ok (Fl.nx ())
def f_lists_fit_l1  : Unit → Int → M (Fl Unit Bool) := fun s14 part15 => if ((decide (part15 < (1 : Int))) || (decide ((40 : Int) < part15))) = true then M.ok (Fl.rt false) else M.ok (Fl.nx ())
theorem eq_f_lists_fit_l1  : r_f_lists_fit_l1  = f_lists_fit_l1  := by funext s14 part15; first | (simp only [r_f_lists_fit_l1, f_lists_fit_l1, M.bind_assoc, M.bok, c_tie_rises]; done) | (simp only [r_f_lists_fit_l1, f_lists_fit_l1, M.bind_assoc, M.bok, c_tie_rises]; rfl)
def r_f_lists_fit_l2  : Unit → Int → M (Fl Unit Bool) := fun s28 shaft29 => M.bind (M.ok ((decide (shaft29 < (0 : Int))) || (decide ((40 : Int) ≤ shaft29)))) fun c35 => if c35 = true then M.bind (M.ok false) fun r36 => M.ok (Fl.rt r36) else M.ok (Fl.nx ())
def f_lists_fit_l2  : Unit → Int → M (Fl Unit Bool) := fun s28 shaft29 => if ((decide (shaft29 < (0 : Int))) || (decide ((40 : Int) ≤ shaft29))) = true then M.ok (Fl.rt false) else M.ok (Fl.nx ())
theorem eq_f_lists_fit_l2  : r_f_lists_fit_l2  = f_lists_fit_l2  := by funext s28 shaft29; first | (simp only [r_f_lists_fit_l2, f_lists_fit_l2, M.bind_assoc, M.bok, eq_f_lists_fit_l1, c_tie_rises]; done) | (simp only [r_f_lists_fit_l2, f_lists_fit_l2, M.bind_assoc, M.bok, eq_f_lists_fit_l1, c_tie_rises]; rfl)
def r_f_lists_fit_l3  : Unit → (List Int) → M (Fl Unit Bool) := fun s40 tie41 => M.bind (M.bind (M.bind (M.bind (M.ok tie41) fun y42 => M.bind (M.ok ()) fun y43 => M.ok (y42, y43)) c_tie_rises) fun y45 => M.ok (!y45)) fun c46 => if c46 = true then M.bind (M.ok false) fun r47 => M.ok (Fl.rt r47) else M.ok (Fl.nx ())
def f_lists_fit_l3  : Unit → (List Int) → M (Fl Unit Bool) := fun s40 tie41 => M.bind (M.bind (f_tie_rises tie41) fun y45 => M.ok (!y45)) fun c48 => if c48 = true then M.ok (Fl.rt false) else M.ok (Fl.nx ())
theorem eq_f_lists_fit_l3  : r_f_lists_fit_l3  = f_lists_fit_l3  := by funext s40 tie41; first | (simp only [r_f_lists_fit_l3, f_lists_fit_l3, M.bind_assoc, M.bok, eq_f_lists_fit_l1, eq_f_lists_fit_l2, c_tie_rises]; done) | (simp only [r_f_lists_fit_l3, f_lists_fit_l3, M.bind_assoc, M.bok, eq_f_lists_fit_l1, eq_f_lists_fit_l2, c_tie_rises]; rfl)
def r_f_lists_fit_l4 (ties2 : (List (List Int))) : Unit → Int → M (Fl Unit Bool) := fun s51 treadle52 => M.bind (M.ok ((decide (treadle52 < (0 : Int))) || (decide ((ties2.length : Int) ≤ treadle52)))) fun c59 => if c59 = true then M.bind (M.ok false) fun r60 => M.ok (Fl.rt r60) else M.ok (Fl.nx ())
def f_lists_fit_l4 (ties2 : (List (List Int))) : Unit → Int → M (Fl Unit Bool) := fun s51 treadle52 => if ((decide (treadle52 < (0 : Int))) || (decide ((ties2.length : Int) ≤ treadle52))) = true then M.ok (Fl.rt false) else M.ok (Fl.nx ())
theorem eq_f_lists_fit_l4 (ties2 : (List (List Int))) : r_f_lists_fit_l4 ties2 = f_lists_fit_l4 ties2 := by funext s51 treadle52; first | (simp only [r_f_lists_fit_l4, f_lists_fit_l4, M.bind_assoc, M.bok, eq_f_lists_fit_l1, eq_f_lists_fit_l2, eq_f_lists_fit_l3, c_tie_rises]; done) | (simp only [r_f_lists_fit_l4, f_lists_fit_l4, M.bind_assoc, M.bok, eq_f_lists_fit_l1, eq_f_lists_fit_l2, eq_f_lists_fit_l3, c_tie_rises]; rfl)
def q_lists_fit (threading1 : (List Int)) (ties2 : (List (List Int))) (treading3 : (List Int)) : M Bool := M.bind (M.bind (M.bind (M.ok threading1) fun y8 => M.bind (M.bind (M.ok ties2) fun y6 => M.bind (M.bind (M.ok treading3) fun y4 => M.bind (M.ok ()) fun y5 => M.ok (y4, y5)) fun y7 => M.ok (y6, y7)) fun y9 => M.ok (y8, y9)) fun y13 => M.ok ([(y13.1.length : Int), (y13.2.1.length : Int), (y13.2.2.1.length : Int)])) fun xs26 => M.bind (forF r_f_lists_fit_l1 () xs26) (Fl.el (fun (s27 : Unit) => M.bind (M.ok threading1) fun xs38 => M.bind (forF r_f_lists_fit_l2 () xs38) (Fl.el (fun (s39 : Unit) => M.bind (M.ok ties2) fun xs49 => M.bind (forF r_f_lists_fit_l3 () xs49) (Fl.el (fun (s50 : Unit) => M.bind (M.ok treading3) fun xs62 => M.bind (forF (r_f_lists_fit_l4 ties2) () xs62) (Fl.el (fun (s63 : Unit) => M.ok true) fun r65 => M.ok r65)) fun r66 => M.ok r66)) fun r67 => M.ok r67)) fun r68 => M.ok r68)
def f_lists_fit (threading1 : (List Int)) (ties2 : (List (List Int))) (treading3 : (List Int)) : M Bool := M.bind (forF f_lists_fit_l1 () ([((threading1, ties2, treading3, ()).1.length : Int), ((threading1, ties2, treading3, ()).2.1.length : Int), ((threading1, ties2, treading3, ()).2.2.1.length : Int)])) (Fl.el (fun (s27 : Unit) => M.bind (forF f_lists_fit_l2 () threading1) (Fl.el (fun (s39 : Unit) => M.bind (forF f_lists_fit_l3 () ties2) (Fl.el (fun (s50 : Unit) => M.bind (forF (f_lists_fit_l4 ties2) () treading3) (Fl.el (fun (s63 : Unit) => M.ok true) fun r65 => M.ok r65)) fun r66 => M.ok r66)) fun r67 => M.ok r67)) fun r68 => M.ok r68)
def r_lists_fit (d : ((List Int) × (List (List Int)) × (List Int) × Unit)) : M Bool := q_lists_fit d.1 d.2.1 d.2.2.1
def c_lists_fit (d : ((List Int) × (List (List Int)) × (List Int) × Unit)) : M Bool := f_lists_fit d.1 d.2.1 d.2.2.1
theorem eq_lists_fit : r_lists_fit = c_lists_fit := by funext d; first | (simp only [r_lists_fit, c_lists_fit, q_lists_fit, f_lists_fit, M.bind_assoc, M.bok, eq_f_lists_fit_l1, eq_f_lists_fit_l2, eq_f_lists_fit_l3, eq_f_lists_fit_l4, c_tie_rises]; done) | (simp only [r_lists_fit, c_lists_fit, q_lists_fit, f_lists_fit, M.bind_assoc, M.bok, eq_f_lists_fit_l1, eq_f_lists_fit_l2, eq_f_lists_fit_l3, eq_f_lists_fit_l4, c_tie_rises]; rfl)
theorem bb_lists_fit {p : Pr} (X : Facts p) {g : G} (ok : OkS p (defScope s_lists_fit) N_lists_fit V_lists_fit G_lists_fit 1 g) (hX : g.LX = List.replicate N_lists_fit.length sAny) (threading1 : (List Int)) (ties2 : (List (List Int))) (treading3 : (List Int)) : EvB g [(sV false (tList tInt) threading1), (sV false (tList (tList tInt)) ties2), (sV false (tList tInt) treading3), sAny, sAny, sAny, sAny] (defBody s_lists_fit) (fun r => .rt false tBool r) (q_lists_fit threading1 ties2 treading3) := (evb_forF (LF := (fun (s14 : Unit) => [(sV false (tList tInt) threading1), (sV false (tList (tList tInt)) ties2), (sV false (tList tInt) treading3), sAny, sAny, sAny, sAny])) (s0 := ()) (dr := fun r68 => r68) ok (wkX hX rfl) (evi_hlH ok.toOk (homN (homN (homN hom0))) (ev_hl (fun d vs R h => by rw [(lenS (lenS (lenS len0))) h]; decide) (eva_cons (ev_vsh ok.toOk (i := 0) (j := 0) rfl rfl rfl) (eva_cons (ev_vsh ok.toOk (i := 1) (j := 1) rfl rfl rfl) (eva_cons (ev_vsh ok.toOk (i := 2) (j := 2) rfl rfl rfl) eva_nil))))) (Wk.s (Wk.s (Wk.s (Wk.s (Wk.s (Wk.s (Wk.s Wk.n))))))) (fun _ => evg_name ok (i := 3) (j := 3) rfl rfl) (fun s14 part15 => (evb_ifl (wkX hX rfl) (EvW.t (evw_orP (pureT (m := M.bind (M.bind (M.ok part15) fun y16 => M.ok y16) fun y17 => M.bind (M.ok (1 : Int)) fun y18 => M.ok (decide (y17 < y18))) (evt_c ok.toOk c_lt (ev_lenN (md' := .sh) ok.toOk (j := 0) rfl X.g_len (ev_vsh ok.toOk (i := 3) (j := 3) rfl rfl rfl)) (ev_int (md := .sh))) rfl) (pureW (m := M.bind (M.bind (M.ok part15) fun y19 => M.ok y19) fun y20 => M.bind (M.ok (40 : Int)) fun y21 => M.ok (decide (y21 < y20))) (evw_or1 (evt_c ok.toOk c_gt (ev_lenN (md' := .sh) ok.toOk (j := 0) rfl X.g_len (ev_vsh ok.toOk (i := 3) (j := 3) rfl rfl rfl)) (ev_gint (md := .sh) ok.toOk (j := 1) rfl X.c_MOST_IN_DRAFT))) rfl))) (evb_retF (mk := fun r24 => Fl.rt r24) (wkX hX rfl) .sh (by intro _; rfl) (ev_bool (md := .sh))) (evb_go (by rfl) (Wk.s (Wk.s (Wk.s (Wk.a (Wk.s (Wk.s (Wk.s Wk.n)))))))))) fun s27 => (evb_forF (LF := (fun (s28 : Unit) => [(sV false (tList tInt) threading1), (sV false (tList (tList tInt)) ties2), (sV false (tList tInt) treading3), sAny, sAny, sAny, sAny])) (s0 := ()) (dr := fun r67 => r67) ok (wkX hX rfl) (evi_seq ok.toOk sq_l (ev_vsh ok.toOk (i := 0) (j := 0) rfl rfl rfl)) (Wk.s (Wk.s (Wk.s (Wk.s (Wk.s (Wk.s (Wk.s Wk.n))))))) (fun _ => evg_name ok (i := 4) (j := 4) rfl rfl) (fun s28 shaft29 => (evb_ifl (wkX hX rfl) (EvW.t (evw_orP (pureT (m := M.bind (M.ok shaft29) fun y30 => M.bind (M.ok (0 : Int)) fun y31 => M.ok (decide (y30 < y31))) (evt_c ok.toOk c_lt (ev_vsh ok.toOk (i := 4) (j := 4) rfl rfl rfl) (ev_int (md := .sh))) rfl) (pureW (m := M.bind (M.ok shaft29) fun y32 => M.bind (M.ok (40 : Int)) fun y33 => M.ok (decide (y33 ≤ y32))) (evw_or1 (evt_c ok.toOk c_ge (ev_vsh ok.toOk (i := 4) (j := 4) rfl rfl rfl) (ev_gint (md := .sh) ok.toOk (j := 1) rfl X.c_MOST_IN_DRAFT))) rfl))) (evb_retF (mk := fun r36 => Fl.rt r36) (wkX hX rfl) .sh (by intro _; rfl) (ev_bool (md := .sh))) (evb_go (by rfl) (Wk.s (Wk.s (Wk.s (Wk.s (Wk.a (Wk.s (Wk.s Wk.n)))))))))) fun s39 => (evb_forF (LF := (fun (s40 : Unit) => [(sV false (tList tInt) threading1), (sV false (tList (tList tInt)) ties2), (sV false (tList tInt) treading3), sAny, sAny, sAny, sAny])) (s0 := ()) (dr := fun r66 => r66) ok (wkX hX rfl) (evi_seq ok.toOk sq_l (ev_vsh ok.toOk (i := 1) (j := 1) rfl rfl rfl)) (Wk.s (Wk.s (Wk.s (Wk.s (Wk.s (Wk.s (Wk.s Wk.n))))))) (fun _ => evg_name ok (i := 5) (j := 5) rfl rfl) (fun s40 tie41 => (evb_ifl (wkX hX rfl) (evt_not (evt_of (ev_call (md' := .sh) ok.toOk (fn_tie_rises X) (by decide) (j := 2) rfl .sh (eva_cons (md := .sh) (ev_vsh ok.toOk (i := 5) (j := 5) rfl rfl rfl) eva_nil)))) (evb_retF (mk := fun r47 => Fl.rt r47) (wkX hX rfl) .sh (by intro _; rfl) (ev_bool (md := .sh))) (evb_go (by rfl) (Wk.s (Wk.s (Wk.s (Wk.s (Wk.s (Wk.a (Wk.s Wk.n)))))))))) fun s50 => (evb_forF (LF := (fun (s51 : Unit) => [(sV false (tList tInt) threading1), (sV false (tList (tList tInt)) ties2), (sV false (tList tInt) treading3), sAny, sAny, sAny, sAny])) (s0 := ()) (dr := fun r65 => r65) ok (wkX hX rfl) (evi_seq ok.toOk sq_l (ev_vsh ok.toOk (i := 2) (j := 2) rfl rfl rfl)) (Wk.s (Wk.s (Wk.s (Wk.s (Wk.s (Wk.s (Wk.s Wk.n))))))) (fun _ => evg_name ok (i := 6) (j := 6) rfl rfl) (fun s51 treadle52 => (evb_ifl (wkX hX rfl) (EvW.t (evw_orP (pureT (m := M.bind (M.ok treadle52) fun y53 => M.bind (M.ok (0 : Int)) fun y54 => M.ok (decide (y53 < y54))) (evt_c ok.toOk c_lt (ev_vsh ok.toOk (i := 6) (j := 6) rfl rfl rfl) (ev_int (md := .sh))) rfl) (pureW (m := M.bind (M.ok treadle52) fun y56 => M.bind (M.bind (M.ok ties2) fun y55 => M.ok (y55.length : Int)) fun y57 => M.ok (decide (y57 ≤ y56))) (evw_or1 (evt_c ok.toOk c_ge (ev_vsh ok.toOk (i := 6) (j := 6) rfl rfl rfl) (ev_lenQ (md' := .sh) ok.toOk sq_l (j := 0) rfl X.g_len (ev_vsh ok.toOk (i := 1) (j := 1) rfl rfl rfl)))) rfl))) (evb_retF (mk := fun r60 => Fl.rt r60) (wkX hX rfl) .sh (by intro _; rfl) (ev_bool (md := .sh))) (evb_go (by rfl) (Wk.s (Wk.s (Wk.s (Wk.s (Wk.s (Wk.s (Wk.a Wk.n)))))))))) fun s63 => (evb_ret (wkX hX rfl) .sh (by intro _; rfl) (ev_bool (md := .sh)))))))
theorem b_lists_fit {p : Pr} (X : Facts p) : Body p s_lists_fit N_lists_fit V_lists_fit G_lists_fit 1 (fun (d : ((List Int) × (List (List Int)) × (List Int) × Unit)) => [(sV false (tList tInt) d.1), (sV false (tList (tList tInt)) d.2.1), (sV false (tList tInt) d.2.2.1), sAny, sAny, sAny, sAny]) (fun r => .rt false tBool r) r_lists_fit := fun g ok hX d => bb_lists_fit X ok hX d.1 d.2.1 d.2.2.1
theorem fn_lists_fit {p : Pr} (X : Facts p) : Fn p 2 "lists_fit" ["threading", "ties", "treading"] (spM p (aCons (tList tInt) (aCons (tList (tList tInt)) (aCons (tList tInt) aNil))) (fun r => .rt false tBool r) c_lists_fit) := by
  obtain ⟨f, fd, hF, hm⟩ := X.d_lists_fit
  exact ⟨f, fd, eq_lists_fit ▸ fn_rt (m := 4) hF sc_lists_fit (.cons (.cons (.cons .nil))) rfl rfl (b_lists_fit X), hm, hF.kp, hF.bindsN fun _ _ _ _ _ _ us hl => match us, hl with | [_, _, _], _ => rfl⟩
/-! ### Draft_init -/
abbrev s_Draft_init : Stmt := ((clsBody (topS 8)).getD 0 (.Pass ⟨0, 0, 0, 0⟩))
abbrev N_Draft_init : List Str := ["self", "threading", "ties", "treading", "tie"]
abbrev V_Draft_init : List Str := ["self", "threading", "ties", "treading"]
abbrev G_Draft_init : List Str := ["lists_fit", "list", "NoDraft"]
theorem sc_Draft_init : Sc s_Draft_init N_Draft_init V_Draft_init ["self", "threading", "ties", "treading"] G_Draft_init := ⟨⟨rfl, rfl, rfl, by decide +kernel, rfl, by decide +kernel, by decide +kernel⟩, by decide +kernel, by decide +kernel, by decide +kernel⟩
def q_Draft_init (threading1 : (List Int)) (ties2 : (List (List Int))) (treading3 : (List Int)) : M O_Draft := M.bind (M.bind (M.bind (M.bind (M.ok threading1) fun y8 => M.bind (M.bind (M.ok ties2) fun y6 => M.bind (M.bind (M.ok treading3) fun y4 => M.bind (M.ok ()) fun y5 => M.ok (y4, y5)) fun y7 => M.ok (y6, y7)) fun y9 => M.ok (y8, y9)) c_lists_fit) fun y13 => M.ok (!y13)) fun c21 => if c21 = true then M.ex .noDraft else M.bind (M.ok threading1) fun fthreading14 => M.bind (M.bind (M.ok ties2) fun xs18 => compM (fun tie15 => M.bind (M.ok true) fun c16 => if c16 = true then M.bind (M.ok tie15) fun y17 => M.ok (some y17) else M.ok none) xs18) fun fties19 => M.bind (M.ok treading3) fun ftreading20 => M.ok (fthreading14, fties19, ftreading20, ())
def f_Draft_init (threading1 : (List Int)) (ties2 : (List (List Int))) (treading3 : (List Int)) : M O_Draft := M.bind (M.bind (f_lists_fit threading1 ties2 treading3) fun y13 => M.ok (!y13)) fun c22 => if c22 = true then M.ex .noDraft else let fthreading14 : (List Int) := threading1; M.bind (compM (fun tie15 => M.ok (some tie15)) ties2) fun fties19 => let ftreading20 : (List Int) := treading3; M.ok (fthreading14, fties19, ftreading20, ())
def r_Draft_init (d : ((List Int) × (List (List Int)) × (List Int) × Unit)) : M O_Draft := q_Draft_init d.1 d.2.1 d.2.2.1
def c_Draft_init (d : ((List Int) × (List (List Int)) × (List Int) × Unit)) : M O_Draft := f_Draft_init d.1 d.2.1 d.2.2.1
theorem eq_Draft_init : r_Draft_init = c_Draft_init := by funext d; first | (simp only [r_Draft_init, c_Draft_init, q_Draft_init, f_Draft_init, M.bind_assoc, M.bok, c_lists_fit]; done) | (simp only [r_Draft_init, c_Draft_init, q_Draft_init, f_Draft_init, M.bind_assoc, M.bok, c_lists_fit]; rfl)
theorem bb_Draft_init {p : Pr} (X : Facts p) {g : G} (ok : OkS p (defScope s_Draft_init) N_Draft_init V_Draft_init G_Draft_init 2 g) (hX : g.LX = List.replicate N_Draft_init.length sAny) (x0 : Addr) (threading1 : (List Int)) (ties2 : (List (List Int))) (treading3 : (List Int)) : EvB g (sNew true x0 (cA p "Draft") [] rpNil () :: ([(sV false (tList tInt) threading1), (sV false (tList (tList tInt)) ties2), (sV false (tList tInt) treading3)] ++ List.replicate 1 sAny)) (defBody s_Draft_init) (fun r => .nx (sNew true x0 (cA p "Draft") ["threading", "ties", "treading"] (WAr.rp (waCons (wL (wV tInt)) (waCons (wL (wL (wV tInt))) (waCons (wL (wV tInt)) waNil)))) r :: List.replicate 4 sAny)) (q_Draft_init threading1 ties2 treading3) := (evb_ifr ok (wkX hX rfl) X.x_NoDraft (jj := 0) (j := 2) rfl (evt_not (evt_of (ev_call (md' := .sh) ok.toOk (fn_lists_fit X) (by decide) (j := 0) rfl .sh (eva_cons (md := .sh) (ev_vsh ok.toOk (i := 1) (j := 1) rfl rfl rfl) (eva_cons (md := .sh) (ev_vsh ok.toOk (i := 2) (j := 2) rfl rfl rfl) (eva_cons (md := .sh) (ev_vsh ok.toOk (i := 3) (j := 3) rfl rfl rfl) eva_nil)))))) (evb_fldN ok (wkX hX rfl) (i := 0) (j := 0) rfl rfl rfl X.a_Draft X.n_Draft_threading (by decide +kernel) (by decide) .fx (evm_flat (md := .fx) (fw_l (fw_v flInt)) (evn_l (evl_copyQ (md := .sh) ok.toOk sq_l (j := 1) rfl X.g_list (ev_vsh ok.toOk (i := 1) (j := 1) rfl rfl rfl)))) fun fthreading14 => (evb_fldN ok (wkX hX rfl) (i := 0) (j := 0) rfl rfl rfl X.a_Draft X.n_Draft_ties (by decide +kernel) (by decide) .fx (evm_flat (md := .fx) (fw_l (fw_l (fw_v flInt))) (evn_lc (VV' := ["tie"]) (GG' := ["list"]) (i := 4) ok.toOk (evi_seq ok.toOk sq_l (ev_vsh ok.toOk (i := 2) (j := 2) rfl rfl rfl)) rfl rfl no_any (by decide +kernel) (by decide +kernel) (by decide +kernel) (by decide +kernel) (fun g' okc tie15 => evpts_nil) (fw_l (fw_v flInt)) (fun g' okc tie15 => (evn_l (evl_copyQ (md := .sh) okc sq_l (j := 0) rfl X.g_list (ev_vsh okc (i := 4) (j := 0) rfl rfl rfl)))))) fun fties19 => (evb_fldN ok (wkX hX rfl) (i := 0) (j := 0) rfl rfl rfl X.a_Draft X.n_Draft_treading (by decide +kernel) (by decide) .fx (evm_flat (md := .fx) (fw_l (fw_v flInt)) (evn_l (evl_copyQ (md := .sh) ok.toOk sq_l (j := 1) rfl X.g_list (ev_vsh ok.toOk (i := 3) (j := 3) rfl rfl rfl)))) fun ftreading20 => (evb_conv (i := 0) rfl (new_conv (cat_s (cat_s (cat_s cat_0)))) (evb_nx (by rfl) (Wk.s (Wk.a (Wk.a (Wk.a (Wk.s Wk.n)))))))))))
theorem mk_Draft_init {p : Pr} (X : Facts p) : MkF p 3 "Draft" ["threading", "ties", "treading"] (spIN p (cA p "Draft") ["threading", "ties", "treading"] (aCons (tList tInt) (aCons (tList (tList tInt)) (aCons (tList tInt) aNil))) (waCons (wL (wV tInt)) (waCons (wL (wL (wV tInt))) (waCons (wL (wV tInt)) waNil))) true c_Draft_init) := by
  obtain ⟨f, fd, hF, hmk, hm⟩ := X.k_Draft_init
  exact ⟨f, fd, eq_Draft_init ▸ fn_initN (m := 1) hF sc_Draft_init (.cons (.cons (.cons .nil))) rfl rfl (fun x g ok hX d => bb_Draft_init X ok hX x d.1 d.2.1 d.2.2.1), hmk, hm, hF.bindsN fun _ _ _ _ _ _ us hl => match us, hl with | [_, _, _, _], _ => rfl⟩
/-! ### _law_numbers_same -/
abbrev s__law_numbers_same : Stmt := (topS 16)
abbrev N__law_numbers_same : List Str := ["found", "due", "k"]
abbrev V__law_numbers_same : List Str := ["found", "due", "k"]
abbrev G__law_numbers_same : List Str := ["list", "isinstance", "len", "range", "int", "bool"]
theorem sc__law_numbers_same : Sc s__law_numbers_same N__law_numbers_same V__law_numbers_same ["found", "due"] G__law_numbers_same := ⟨⟨rfl, rfl, rfl, by decide +kernel, rfl, by decide +kernel, by decide +kernel⟩, by decide +kernel, by decide +kernel, by decide +kernel⟩
def r_f_law_numbers_same_l1 (found1 : (List Int)) (due2 : (List Int)) : Unit → Int → M (Fl Unit Bool) := fun s14 k15 => M.bind (M.bind (M.bind (M.bind (M.bind (M.ok found1) fun y16 => M.bind (M.ok k15) fun y17 => getM y16 y17) fun y18 => M.ok true) fun y19 => M.ok (!y19)) fun c31 => if c31 = true then M.ok true else M.bind (M.bind (M.bind (M.ok found1) fun y20 => M.bind (M.ok k15) fun y21 => getM y20 y21) fun y22 => M.ok false) fun c29 => if c29 = true then M.ok true else M.bind (M.bind (M.ok found1) fun y23 => M.bind (M.ok k15) fun y24 => getM y23 y24) fun y27 => M.bind (M.bind (M.ok due2) fun y25 => M.bind (M.ok k15) fun y26 => getM y25 y26) fun y28 => M.ok (!decide (y27 = y28))) fun c33 => if c33 = true then M.bind (M.ok false) fun r34 => M.ok (Fl.rt r34) else M.ok (Fl.nx ())
def f_law_numbers_same_l1 (found1 : (List Int)) (due2 : (List Int)) : Unit → Int → M (Fl Unit Bool) := fun s14 k15 => M.bind (M.bind (M.bind (M.bind (getM found1 k15) fun y18 => M.ok true) fun y19 => M.ok (!y19)) fun c32 => if c32 = true then M.ok true else M.bind (M.bind (getM found1 k15) fun y22 => M.ok false) fun c30 => if c30 = true then M.ok true else M.bind (getM found1 k15) fun y27 => M.bind (getM due2 k15) fun y28 => M.ok (!decide (y27 = y28))) fun c35 => if c35 = true then M.ok (Fl.rt false) else M.ok (Fl.nx ())
theorem eq_f_law_numbers_same_l1 (found1 : (List Int)) (due2 : (List Int)) : r_f_law_numbers_same_l1 found1 due2 = f_law_numbers_same_l1 found1 due2 := by funext s14 k15; first | (simp only [r_f_law_numbers_same_l1, f_law_numbers_same_l1, M.bind_assoc, M.bok]; done) | (simp only [r_f_law_numbers_same_l1, f_law_numbers_same_l1, M.bind_assoc, M.bok]; rfl)
def q__law_numbers_same (found1 : (List Int)) (due2 : (List Int)) : M Bool := M.bind (M.ok ((!true) || (!decide ((found1.length : Int) = (due2.length : Int))))) fun c10 => if c10 = true then M.ok false else M.bind (M.bind (M.bind (M.ok due2) fun y12 => M.ok (y12.length : Int)) fun y13 => rangeM 0 y13) fun xs36 => M.bind (forF (r_f_law_numbers_same_l1 found1 due2) () xs36) (Fl.el (fun (s37 : Unit) => M.ok true) fun r39 => M.ok r39)
def f_law_numbers_same (found1 : (List Int)) (due2 : (List Int)) : M Bool := if ((!true) || (!decide ((found1.length : Int) = (due2.length : Int)))) = true then M.ok false else M.bind (rangeM 0 (due2.length : Int)) fun xs36 => M.bind (forF (f_law_numbers_same_l1 found1 due2) () xs36) (Fl.el (fun (s37 : Unit) => M.ok true) fun r39 => M.ok r39)
def r__law_numbers_same (d : ((List Int) × (List Int) × Unit)) : M Bool := q__law_numbers_same d.1 d.2.1
def c__law_numbers_same (d : ((List Int) × (List Int) × Unit)) : M Bool := f_law_numbers_same d.1 d.2.1
theorem eq__law_numbers_same : r__law_numbers_same = c__law_numbers_same := by funext d; first | (simp only [r__law_numbers_same, c__law_numbers_same, q__law_numbers_same, f_law_numbers_same, M.bind_assoc, M.bok, eq_f_law_numbers_same_l1]; done) | (simp only [r__law_numbers_same, c__law_numbers_same, q__law_numbers_same, f_law_numbers_same, M.bind_assoc, M.bok, eq_f_law_numbers_same_l1]; rfl)
theorem bb__law_numbers_same {p : Pr} (X : Facts p) {g : G} (ok : OkS p (defScope s__law_numbers_same) N__law_numbers_same V__law_numbers_same G__law_numbers_same 0 g) (hX : g.LX = List.replicate N__law_numbers_same.length sAny) (found1 : (List Int)) (due2 : (List Int)) : EvB g [(sV false (tList tInt) found1), (sV false (tList tInt) due2), sAny] (defBody s__law_numbers_same) (fun r => .rt false tBool r) (q__law_numbers_same found1 due2) := (evb_ifx (wkX hX rfl) (EvW.t (evw_orP (pureT (m := M.bind (M.bind (M.ok found1) fun y3 => M.ok true) fun y4 => M.ok (!y4)) (evt_not (evt_of (ev_isi (md' := .sh) (r := true) ok.toOk (j := 1) rfl X.g_isinstance i_list (by decide +kernel) (ev_vsh ok.toOk (i := 0) (j := 0) rfl rfl rfl) (ev_ty (n := "list") (md := .sh) ok.toOk (j := 0) rfl X.g_list (by decide +kernel))))) rfl) (pureW (m := M.bind (M.bind (M.ok found1) fun y5 => M.ok (y5.length : Int)) fun y7 => M.bind (M.bind (M.ok due2) fun y6 => M.ok (y6.length : Int)) fun y8 => M.ok (!decide (y7 = y8))) (evw_or1 (evt_c ok.toOk (c_ne s_int) (ev_lenQ (md' := .sh) ok.toOk sq_l (j := 2) rfl X.g_len (ev_vsh ok.toOk (i := 0) (j := 0) rfl rfl rfl)) (ev_lenQ (md' := .sh) ok.toOk sq_l (j := 2) rfl X.g_len (ev_vsh ok.toOk (i := 1) (j := 1) rfl rfl rfl)))) rfl))) (evb_ret (wkX hX rfl) .sh (by intro _; rfl) (ev_bool (md := .sh))) (evb_forF (LF := (fun (s14 : Unit) => [(sV false (tList tInt) found1), (sV false (tList tInt) due2), sAny])) (s0 := ()) (dr := fun r39 => r39) ok (wkX hX rfl) (evi_range1 ok.toOk (j := 3) rfl X.g_range (ev_lenQ (md' := .sh) ok.toOk sq_l (j := 2) rfl X.g_len (ev_vsh ok.toOk (i := 1) (j := 1) rfl rfl rfl))) (Wk.s (Wk.s (Wk.s Wk.n))) (fun _ => evg_name ok (i := 2) (j := 2) rfl rfl) (fun s14 k15 => (evb_ifl (wkX hX rfl) (EvW.t (evw_or (evt_not (evt_of (ev_isi (md' := .sh) (r := true) ok.toOk (j := 1) rfl X.g_isinstance i_int (by decide +kernel) (ev_ixQ ok.toOk sq_l (ev_vsh ok.toOk (i := 0) (j := 0) rfl rfl rfl) (ev_vsh ok.toOk (i := 2) (j := 2) rfl rfl rfl)) (ev_ty (n := "int") (md := .sh) ok.toOk (j := 4) rfl X.g_int (by decide +kernel))))) (evw_or (evt_of (ev_isi (md' := .sh) (r := false) ok.toOk (j := 1) rfl X.g_isinstance i_int (by decide +kernel) (ev_ixQ ok.toOk sq_l (ev_vsh ok.toOk (i := 0) (j := 0) rfl rfl rfl) (ev_vsh ok.toOk (i := 2) (j := 2) rfl rfl rfl)) (ev_ty (n := "bool") (md := .sh) ok.toOk (j := 5) rfl X.g_bool (by decide +kernel)))) (evw_or1 (evt_c ok.toOk (c_ne s_int) (ev_ixQ ok.toOk sq_l (ev_vsh ok.toOk (i := 0) (j := 0) rfl rfl rfl) (ev_vsh ok.toOk (i := 2) (j := 2) rfl rfl rfl)) (ev_ixQ ok.toOk sq_l (ev_vsh ok.toOk (i := 1) (j := 1) rfl rfl rfl) (ev_vsh ok.toOk (i := 2) (j := 2) rfl rfl rfl))))))) (evb_retF (mk := fun r34 => Fl.rt r34) (wkX hX rfl) .sh (by intro _; rfl) (ev_bool (md := .sh))) (evb_go (by rfl) (Wk.s (Wk.s (Wk.a Wk.n)))))) fun s37 => (evb_ret (wkX hX rfl) .sh (by intro _; rfl) (ev_bool (md := .sh)))))
theorem b__law_numbers_same {p : Pr} (X : Facts p) : Body p s__law_numbers_same N__law_numbers_same V__law_numbers_same G__law_numbers_same 0 (fun (d : ((List Int) × (List Int) × Unit)) => [(sV false (tList tInt) d.1), (sV false (tList tInt) d.2.1), sAny]) (fun r => .rt false tBool r) r__law_numbers_same := fun g ok hX d => bb__law_numbers_same X ok hX d.1 d.2.1
theorem fn__law_numbers_same {p : Pr} (X : Facts p) : Fn p 1 "_law_numbers_same" ["found", "due"] (spM p (aCons (tList tInt) (aCons (tList tInt) aNil)) (fun r => .rt false tBool r) c__law_numbers_same) := by
  obtain ⟨f, fd, hF, hm⟩ := X.d__law_numbers_same
  exact ⟨f, fd, eq__law_numbers_same ▸ fn_rt (m := 1) hF sc__law_numbers_same (.cons (.cons .nil)) rfl rfl (b__law_numbers_same X), hm, hF.kp, hF.bindsN fun _ _ _ _ _ _ us hl => match us, hl with | [_, _], _ => rfl⟩
/-! ### _law_draft_same -/
abbrev s__law_draft_same : Stmt := (topS 17)
abbrev N__law_draft_same : List Str := ["draft", "threading", "ties", "treading", "k"]
abbrev V__law_draft_same : List Str := ["draft", "threading", "ties", "treading", "k"]
abbrev G__law_draft_same : List Str := ["_law_numbers_same", "list", "isinstance", "len", "range"]
theorem sc__law_draft_same : Sc s__law_draft_same N__law_draft_same V__law_draft_same ["draft", "threading", "ties", "treading"] G__law_draft_same := ⟨⟨rfl, rfl, rfl, by decide +kernel, rfl, by decide +kernel, by decide +kernel⟩, by decide +kernel, by decide +kernel, by decide +kernel⟩
def r_f_law_draft_same_l1 (draft1 : O_Draft) (ties3 : (List (List Int))) : Unit → Int → M (Fl Unit Bool) := fun s38 k39 => M.bind (M.bind (M.bind (M.bind (M.bind (M.bind (M.ok draft1) fun y40 => M.ok y40.2.1) fun y41 => M.bind (M.ok k39) fun y42 => getM y41 y42) fun y47 => M.bind (M.bind (M.bind (M.ok ties3) fun y43 => M.bind (M.ok k39) fun y44 => getM y43 y44) fun y45 => M.bind (M.ok ()) fun y46 => M.ok (y45, y46)) fun y48 => M.ok (y47, y48)) c__law_numbers_same) fun y51 => M.ok (!y51)) fun c52 => if c52 = true then M.bind (M.ok false) fun r53 => M.ok (Fl.rt r53) else M.ok (Fl.nx ())
def f_law_draft_same_l1 (draft1 : O_Draft) (ties3 : (List (List Int))) : Unit → Int → M (Fl Unit Bool) := fun s38 k39 => M.bind (M.bind (M.bind (getM draft1.2.1 k39) fun y49 => M.bind (getM ties3 k39) fun y50 => f_law_numbers_same y49 y50) fun y51 => M.ok (!y51)) fun c54 => if c54 = true then M.ok (Fl.rt false) else M.ok (Fl.nx ())
theorem eq_f_law_draft_same_l1 (draft1 : O_Draft) (ties3 : (List (List Int))) : r_f_law_draft_same_l1 draft1 ties3 = f_law_draft_same_l1 draft1 ties3 := by funext s38 k39; first | (simp only [r_f_law_draft_same_l1, f_law_draft_same_l1, M.bind_assoc, M.bok, c__law_numbers_same]; done) | (simp only [r_f_law_draft_same_l1, f_law_draft_same_l1, M.bind_assoc, M.bok, c__law_numbers_same]; rfl)
def q__law_draft_same (draft1 : O_Draft) (threading2 : (List Int)) (ties3 : (List (List Int))) (treading4 : (List Int)) : M Bool := M.bind (M.bind (M.bind (M.bind (M.bind (M.bind (M.ok draft1) fun y5 => M.ok y5.1) fun y8 => M.bind (M.bind (M.ok threading2) fun y6 => M.bind (M.ok ()) fun y7 => M.ok (y6, y7)) fun y9 => M.ok (y8, y9)) c__law_numbers_same) fun y12 => M.ok (!y12)) fun c21 => if c21 = true then M.ok true else M.bind (M.bind (M.bind (M.bind (M.ok draft1) fun y13 => M.ok y13.2.2.1) fun y16 => M.bind (M.bind (M.ok treading4) fun y14 => M.bind (M.ok ()) fun y15 => M.ok (y14, y15)) fun y17 => M.ok (y16, y17)) c__law_numbers_same) fun y20 => M.ok (!y20)) fun c23 => if c23 = true then M.ok false else M.bind (M.ok ((!true) || (!decide ((draft1.2.1.length : Int) = (ties3.length : Int))))) fun c34 => if c34 = true then M.ok false else M.bind (M.bind (M.bind (M.ok ties3) fun y36 => M.ok (y36.length : Int)) fun y37 => rangeM 0 y37) fun xs55 => M.bind (forF (r_f_law_draft_same_l1 draft1 ties3) () xs55) (Fl.el (fun (s56 : Unit) => M.ok true) fun r58 => M.ok r58)
def f_law_draft_same (draft1 : O_Draft) (threading2 : (List Int)) (ties3 : (List (List Int))) (treading4 : (List Int)) : M Bool := M.bind (M.bind (M.bind (f_law_numbers_same draft1.1 threading2) fun y12 => M.ok (!y12)) fun c22 => if c22 = true then M.ok true else M.bind (f_law_numbers_same draft1.2.2.1 treading4) fun y20 => M.ok (!y20)) fun c60 => if c60 = true then M.ok false else if ((!true) || (!decide ((draft1.2.1.length : Int) = (ties3.length : Int)))) = true then M.ok false else M.bind (rangeM 0 (ties3.length : Int)) fun xs55 => M.bind (forF (f_law_draft_same_l1 draft1 ties3) () xs55) (Fl.el (fun (s56 : Unit) => M.ok true) fun r58 => M.ok r58)
def r__law_draft_same (d : (O_Draft × (List Int) × (List (List Int)) × (List Int) × Unit)) : M Bool := q__law_draft_same d.1 d.2.1 d.2.2.1 d.2.2.2.1
def c__law_draft_same (d : (O_Draft × (List Int) × (List (List Int)) × (List Int) × Unit)) : M Bool := f_law_draft_same d.1 d.2.1 d.2.2.1 d.2.2.2.1
theorem eq__law_draft_same : r__law_draft_same = c__law_draft_same := by funext d; first | (simp only [r__law_draft_same, c__law_draft_same, q__law_draft_same, f_law_draft_same, M.bind_assoc, M.bok, eq_f_law_draft_same_l1, c__law_numbers_same]; done) | (simp only [r__law_draft_same, c__law_draft_same, q__law_draft_same, f_law_draft_same, M.bind_assoc, M.bok, eq_f_law_draft_same_l1, c__law_numbers_same]; rfl)
theorem bb__law_draft_same {p : Pr} (X : Facts p) {g : G} (ok : OkS p (defScope s__law_draft_same) N__law_draft_same V__law_draft_same G__law_draft_same 1 g) (hX : g.LX = List.replicate N__law_draft_same.length sAny) (draft1 : O_Draft) (threading2 : (List Int)) (ties3 : (List (List Int))) (treading4 : (List Int)) : EvB g [(sV false (tIns (cA p "Draft") (fl_Draft p)) draft1), (sV false (tList tInt) threading2), (sV false (tList (tList tInt)) ties3), (sV false (tList tInt) treading4), sAny] (defBody s__law_draft_same) (fun r => .rt false tBool r) (q__law_draft_same draft1 threading2 ties3 treading4) := (evb_ifx (wkX hX rfl) (EvW.t (evw_or (evt_not (evt_of (ev_call (md' := .sh) ok.toOk (fn__law_numbers_same X) (by decide) (j := 0) rfl .sh (eva_cons (md := .sh) (ev_fld (T := (tList tInt)) (pr := fun (d : O_Draft) => d.1) ok.toOk X.a_Draft X.n_Draft_threading (fun d => .here) (ev_vsh ok.toOk (i := 0) (j := 0) rfl rfl rfl)) (eva_cons (md := .sh) (ev_vsh ok.toOk (i := 1) (j := 1) rfl rfl rfl) eva_nil))))) (evw_or1 (evt_not (evt_of (ev_call (md' := .sh) ok.toOk (fn__law_numbers_same X) (by decide) (j := 0) rfl .sh (eva_cons (md := .sh) (ev_fld (T := (tList tInt)) (pr := fun (d : O_Draft) => d.2.2.1) ok.toOk X.a_Draft X.n_Draft_treading (fun d => (.there (n := "threading") rfl (by decide +kernel) (.there (n := "ties") rfl (by decide +kernel) .here))) (ev_vsh ok.toOk (i := 0) (j := 0) rfl rfl rfl)) (eva_cons (md := .sh) (ev_vsh ok.toOk (i := 3) (j := 3) rfl rfl rfl) eva_nil)))))))) (evb_ret (wkX hX rfl) .sh (by intro _; rfl) (ev_bool (md := .sh))) (evb_ifx (wkX hX rfl) (EvW.t (evw_orP (pureT (m := M.bind (M.bind (M.bind (M.ok draft1) fun y25 => M.ok y25.2.1) fun y26 => M.ok true) fun y27 => M.ok (!y27)) (evt_not (evt_of (ev_isi (md' := .sh) (r := true) ok.toOk (j := 2) rfl X.g_isinstance i_list (by decide +kernel) (ev_fld (T := (tList (tList tInt))) (pr := fun (d : O_Draft) => d.2.1) ok.toOk X.a_Draft X.n_Draft_ties (fun d => (.there (n := "threading") rfl (by decide +kernel) .here)) (ev_vsh ok.toOk (i := 0) (j := 0) rfl rfl rfl)) (ev_ty (n := "list") (md := .sh) ok.toOk (j := 1) rfl X.g_list (by decide +kernel))))) rfl) (pureW (m := M.bind (M.bind (M.bind (M.ok draft1) fun y28 => M.ok y28.2.1) fun y29 => M.ok (y29.length : Int)) fun y31 => M.bind (M.bind (M.ok ties3) fun y30 => M.ok (y30.length : Int)) fun y32 => M.ok (!decide (y31 = y32))) (evw_or1 (evt_c ok.toOk (c_ne s_int) (ev_lenQ (md' := .sh) ok.toOk sq_l (j := 3) rfl X.g_len (ev_fld (T := (tList (tList tInt))) (pr := fun (d : O_Draft) => d.2.1) ok.toOk X.a_Draft X.n_Draft_ties (fun d => (.there (n := "threading") rfl (by decide +kernel) .here)) (ev_vsh ok.toOk (i := 0) (j := 0) rfl rfl rfl))) (ev_lenQ (md' := .sh) ok.toOk sq_l (j := 3) rfl X.g_len (ev_vsh ok.toOk (i := 2) (j := 2) rfl rfl rfl)))) rfl))) (evb_ret (wkX hX rfl) .sh (by intro _; rfl) (ev_bool (md := .sh))) (evb_forF (LF := (fun (s38 : Unit) => [(sV false (tIns (cA p "Draft") (fl_Draft p)) draft1), (sV false (tList tInt) threading2), (sV false (tList (tList tInt)) ties3), (sV false (tList tInt) treading4), sAny])) (s0 := ()) (dr := fun r58 => r58) ok (wkX hX rfl) (evi_range1 ok.toOk (j := 4) rfl X.g_range (ev_lenQ (md' := .sh) ok.toOk sq_l (j := 3) rfl X.g_len (ev_vsh ok.toOk (i := 2) (j := 2) rfl rfl rfl))) (Wk.s (Wk.s (Wk.s (Wk.s (Wk.s Wk.n))))) (fun _ => evg_name ok (i := 4) (j := 4) rfl rfl) (fun s38 k39 => (evb_ifl (wkX hX rfl) (evt_not (evt_of (ev_call (md' := .sh) ok.toOk (fn__law_numbers_same X) (by decide) (j := 0) rfl .sh (eva_cons (md := .sh) (ev_ixQ ok.toOk sq_l (ev_fld (T := (tList (tList tInt))) (pr := fun (d : O_Draft) => d.2.1) ok.toOk X.a_Draft X.n_Draft_ties (fun d => (.there (n := "threading") rfl (by decide +kernel) .here)) (ev_vsh ok.toOk (i := 0) (j := 0) rfl rfl rfl)) (ev_vsh ok.toOk (i := 4) (j := 4) rfl rfl rfl)) (eva_cons (md := .sh) (ev_ixQ ok.toOk sq_l (ev_vsh ok.toOk (i := 2) (j := 2) rfl rfl rfl) (ev_vsh ok.toOk (i := 4) (j := 4) rfl rfl rfl)) eva_nil))))) (evb_retF (mk := fun r53 => Fl.rt r53) (wkX hX rfl) .sh (by intro _; rfl) (ev_bool (md := .sh))) (evb_go (by rfl) (Wk.s (Wk.s (Wk.s (Wk.s (Wk.a Wk.n)))))))) fun s56 => (evb_ret (wkX hX rfl) .sh (by intro _; rfl) (ev_bool (md := .sh))))))
theorem b__law_draft_same {p : Pr} (X : Facts p) : Body p s__law_draft_same N__law_draft_same V__law_draft_same G__law_draft_same 1 (fun (d : (O_Draft × (List Int) × (List (List Int)) × (List Int) × Unit)) => [(sV false (tIns (cA p "Draft") (fl_Draft p)) d.1), (sV false (tList tInt) d.2.1), (sV false (tList (tList tInt)) d.2.2.1), (sV false (tList tInt) d.2.2.2.1), sAny]) (fun r => .rt false tBool r) r__law_draft_same := fun g ok hX d => bb__law_draft_same X ok hX d.1 d.2.1 d.2.2.1 d.2.2.2.1
theorem fn__law_draft_same {p : Pr} (X : Facts p) : Fn p 2 "_law_draft_same" ["draft", "threading", "ties", "treading"] (spM p (aCons (tIns (cA p "Draft") (fl_Draft p)) (aCons (tList tInt) (aCons (tList (tList tInt)) (aCons (tList tInt) aNil)))) (fun r => .rt false tBool r) c__law_draft_same) := by
  obtain ⟨f, fd, hF, hm⟩ := X.d__law_draft_same
  exact ⟨f, fd, eq__law_draft_same ▸ fn_rt (m := 1) hF sc__law_draft_same (.cons (.cons (.cons (.cons .nil)))) rfl rfl (b__law_draft_same X), hm, hF.kp, hF.bindsN fun _ _ _ _ _ _ us hl => match us, hl with | [_, _, _, _], _ => rfl⟩
/-! ### _law_woven_by -/
abbrev s__law_woven_by : Stmt := (topS 15)
abbrev N__law_woven_by : List Str := ["threading", "ties", "treading", "cloth", "treadle", "text", "shaft"]
abbrev V__law_woven_by : List Str := ["threading", "ties", "treading", "cloth", "treadle", "text", "shaft"]
abbrev G__law_woven_by : List Str := []
theorem sc__law_woven_by : Sc s__law_woven_by N__law_woven_by V__law_woven_by ["threading", "ties", "treading"] G__law_woven_by := ⟨⟨rfl, rfl, rfl, by decide +kernel, rfl, by decide +kernel, by decide +kernel⟩, by decide +kernel, by decide +kernel, by decide +kernel⟩
def r_f_law_woven_by_l1 (ties2 : (List (List Int))) (treadle6 : Int) : (Tx) → Int → M (Tx) := fun s8 shaft9 => M.bind (M.bind (M.ok shaft9) fun y12 => M.bind (M.bind (M.ok ties2) fun y10 => M.bind (M.ok treadle6) fun y11 => getM y10 y11) fun y13 => M.ok (decide (y12 ∈ y13))) fun c14 => if c14 = true then M.bind (M.bind (M.ok s8) fun y16 => M.bind (M.ok (tx "#")) fun y17 => catS y16 y17) fun text15 => M.ok text15 else M.bind (M.bind (M.ok s8) fun y19 => M.bind (M.ok (tx ".")) fun y20 => catS y19 y20) fun text18 => M.ok text18
def f_law_woven_by_l1 (ties2 : (List (List Int))) (treadle6 : Int) : (Tx) → Int → M (Tx) := fun s8 shaft9 => M.bind (M.bind (getM ties2 treadle6) fun y13 => M.ok (decide (shaft9 ∈ y13))) fun c21 => if c21 = true then M.bind (catS s8 (tx "#")) fun text15 => M.ok text15 else M.bind (catS s8 (tx ".")) fun text18 => M.ok text18
theorem eq_f_law_woven_by_l1 (ties2 : (List (List Int))) (treadle6 : Int) : r_f_law_woven_by_l1 ties2 treadle6 = f_law_woven_by_l1 ties2 treadle6 := by funext s8 shaft9; first | (simp only [r_f_law_woven_by_l1, f_law_woven_by_l1, M.bind_assoc, M.bok]; done) | (simp only [r_f_law_woven_by_l1, f_law_woven_by_l1, M.bind_assoc, M.bok]; rfl)
def r_f_law_woven_by_l2 (threading1 : (List Int)) (ties2 : (List (List Int))) : ((List Tx)) → Int → M ((List Tx)) := fun s5 treadle6 => M.bind (M.ok (tx "")) fun text7 => M.bind (M.ok threading1) fun xs22 => M.bind (forM (r_f_law_woven_by_l1 ties2 treadle6) text7 xs22) fun (s23 : (Tx)) => M.bind (M.ok s23) fun y25 => M.bind (pushM s5 y25) fun cloth24 => M.ok cloth24
def f_law_woven_by_l2 (threading1 : (List Int)) (ties2 : (List (List Int))) : ((List Tx)) → Int → M ((List Tx)) := fun s5 treadle6 => let text7 : Tx := (tx ""); M.bind (forM (f_law_woven_by_l1 ties2 treadle6) text7 threading1) fun (s23 : (Tx)) => M.bind (pushM s5 s23) fun cloth24 => M.ok cloth24
theorem eq_f_law_woven_by_l2 (threading1 : (List Int)) (ties2 : (List (List Int))) : r_f_law_woven_by_l2 threading1 ties2 = f_law_woven_by_l2 threading1 ties2 := by funext s5 treadle6; first | (simp only [r_f_law_woven_by_l2, f_law_woven_by_l2, M.bind_assoc, M.bok, eq_f_law_woven_by_l1]; done) | (simp only [r_f_law_woven_by_l2, f_law_woven_by_l2, M.bind_assoc, M.bok, eq_f_law_woven_by_l1]; rfl)
def q__law_woven_by (threading1 : (List Int)) (ties2 : (List (List Int))) (treading3 : (List Int)) : M (List Tx) := M.bind (M.ok []) fun cloth4 => M.bind (M.ok treading3) fun xs26 => M.bind (forM (r_f_law_woven_by_l2 threading1 ties2) cloth4 xs26) fun (s27 : ((List Tx))) => M.ok s27
def f_law_woven_by (threading1 : (List Int)) (ties2 : (List (List Int))) (treading3 : (List Int)) : M (List Tx) := let cloth4 : (List Tx) := []; M.bind (forM (f_law_woven_by_l2 threading1 ties2) cloth4 treading3) fun (s27 : ((List Tx))) => M.ok s27
def r__law_woven_by (d : ((List Int) × (List (List Int)) × (List Int) × Unit)) : M (List Tx) := q__law_woven_by d.1 d.2.1 d.2.2.1
def c__law_woven_by (d : ((List Int) × (List (List Int)) × (List Int) × Unit)) : M (List Tx) := f_law_woven_by d.1 d.2.1 d.2.2.1
theorem eq__law_woven_by : r__law_woven_by = c__law_woven_by := by funext d; first | (simp only [r__law_woven_by, c__law_woven_by, q__law_woven_by, f_law_woven_by, M.bind_assoc, M.bok, eq_f_law_woven_by_l1, eq_f_law_woven_by_l2]; done) | (simp only [r__law_woven_by, c__law_woven_by, q__law_woven_by, f_law_woven_by, M.bind_assoc, M.bok, eq_f_law_woven_by_l1, eq_f_law_woven_by_l2]; rfl)
theorem bb__law_woven_by {p : Pr} (X : Facts p) {g : G} (ok : OkS p (defScope s__law_woven_by) N__law_woven_by V__law_woven_by G__law_woven_by 0 g) (hX : g.LX = List.replicate N__law_woven_by.length sAny) (threading1 : (List Int)) (ties2 : (List (List Int))) (treading3 : (List Int)) : EvB g [(sV false (tList tInt) threading1), (sV false (tList (tList tInt)) ties2), (sV false (tList tInt) treading3), sAny, sAny, sAny, sAny] (defBody s__law_woven_by) (fun r => .rtL false tStr r) (q__law_woven_by threading1 ties2 treading3) := (evb_own ok (i := 3) (j := 3) rfl rfl (wkX hX rfl) .sh (evl_nil (md := .sh) (S := tStr)) fun cloth4 => (evb_for (LF := (fun (s5 : ((List Tx))) => [(sV false (tList tInt) threading1), (sV false (tList (tList tInt)) ties2), (sV false (tList tInt) treading3), (sOwn false tStr s5), sAny, sAny, sAny])) (s0 := cloth4) ok (wkX hX rfl) (evi_seq ok.toOk sq_l (ev_vsh ok.toOk (i := 2) (j := 2) rfl rfl rfl)) (Wk.s (Wk.s (Wk.s (Wk.s (Wk.s (Wk.s (Wk.s Wk.n))))))) (fun _ => evg_name ok (i := 4) (j := 4) rfl rfl) (fun s5 treadle6 => (evb_set ok (i := 5) (j := 5) rfl rfl (wkX hX rfl) .sh (ev_str (md := .sh) (by decide +kernel)) fun text7 => (evb_for (LF := (fun (s8 : (Tx)) => [(sV false (tList tInt) threading1), (sV false (tList (tList tInt)) ties2), (sV false (tList tInt) treading3), (sOwn false tStr s5), (sV false tInt treadle6), (sV false tStr s8), sAny])) (s0 := text7) ok (wkX hX rfl) (evi_seq ok.toOk sq_l (ev_vsh ok.toOk (i := 0) (j := 0) rfl rfl rfl)) (Wk.s (Wk.s (Wk.s (Wk.s (Wk.s (Wk.s (Wk.s Wk.n))))))) (fun _ => evg_name ok (i := 6) (j := 6) rfl rfl) (fun s8 shaft9 => (evb_ifl (wkX hX rfl) (evt_c ok.toOk (c_in ok.toOk.K f_int) (ev_vsh ok.toOk (i := 6) (j := 6) rfl rfl rfl) (ev_ixQ ok.toOk sq_l (ev_vsh ok.toOk (i := 1) (j := 1) rfl rfl rfl) (ev_vsh ok.toOk (i := 4) (j := 4) rfl rfl rfl))) (evb_set ok (i := 5) (j := 5) rfl rfl (wkX hX rfl) .sh (ev_catS (md' := .sh) ok.toOk (ev_vsh ok.toOk (i := 5) (j := 5) rfl rfl rfl) (ev_str (md := .sh) (by decide +kernel))) fun text15 => (evb_go (by rfl) (Wk.s (Wk.s (Wk.s (Wk.s (Wk.s (Wk.s (Wk.a Wk.n))))))))) (evb_set ok (i := 5) (j := 5) rfl rfl (wkX hX rfl) .sh (ev_catS (md' := .sh) ok.toOk (ev_vsh ok.toOk (i := 5) (j := 5) rfl rfl rfl) (ev_str (md := .sh) (by decide +kernel))) fun text18 => (evb_go (by rfl) (Wk.s (Wk.s (Wk.s (Wk.s (Wk.s (Wk.s (Wk.a Wk.n))))))))))) fun s23 => (evb_append ok (wkX hX rfl) (i := 3) (j := 3) rfl rfl rfl .sh (ev_vsh ok.toOk (i := 5) (j := 5) rfl rfl rfl) fun cloth24 => (evb_go (by rfl) (Wk.s (Wk.s (Wk.s (Wk.s (Wk.a (Wk.a (Wk.s Wk.n)))))))))))) fun s27 => (evb_retOwn ok.toOk (i := 3) (j := 3) rfl rfl rfl (.inl rfl) (by rfl))))
theorem b__law_woven_by {p : Pr} (X : Facts p) : Body p s__law_woven_by N__law_woven_by V__law_woven_by G__law_woven_by 0 (fun (d : ((List Int) × (List (List Int)) × (List Int) × Unit)) => [(sV false (tList tInt) d.1), (sV false (tList (tList tInt)) d.2.1), (sV false (tList tInt) d.2.2.1), sAny, sAny, sAny, sAny]) (fun r => .rtL false tStr r) r__law_woven_by := fun g ok hX d => bb__law_woven_by X ok hX d.1 d.2.1 d.2.2.1
theorem fn__law_woven_by {p : Pr} (X : Facts p) : Fn p 1 "_law_woven_by" ["threading", "ties", "treading"] (spM p (aCons (tList tInt) (aCons (tList (tList tInt)) (aCons (tList tInt) aNil))) (fun r => .rtL false tStr r) c__law_woven_by) := by
  obtain ⟨f, fd, hF, hm⟩ := X.d__law_woven_by
  exact ⟨f, fd, eq__law_woven_by ▸ fn_rtL (m := 4) hF sc__law_woven_by (.cons (.cons (.cons .nil))) rfl rfl (b__law_woven_by X), hm, hF.kp, hF.bindsN fun _ _ _ _ _ _ us hl => match us, hl with | [_, _, _], _ => rfl⟩
/-! ### shed_of -/
abbrev s_shed_of : Stmt := (topS 9)
abbrev N_shed_of : List Str := ["threading", "tie", "signs", "shaft"]
abbrev V_shed_of : List Str := ["threading", "tie", "signs", "shaft"]
abbrev G_shed_of : List Str := []
theorem sc_shed_of : Sc s_shed_of N_shed_of V_shed_of ["threading", "tie"] G_shed_of := ⟨⟨rfl, rfl, rfl, by decide +kernel, rfl, by decide +kernel, by decide +kernel⟩, by decide +kernel, by decide +kernel, by decide +kernel⟩
def r_f_shed_of_l1 (tie2 : (List Int)) : ((List Tx)) → Int → M ((List Tx)) := fun s4 shaft5 => M.bind (M.bind (M.ok shaft5) fun y6 => M.bind (M.ok tie2) fun y7 => M.ok (decide (y6 ∈ y7))) fun c8 => if c8 = true then M.bind (M.ok (tx "#")) fun y10 => M.bind (pushM s4 y10) fun signs9 => M.ok signs9 else M.bind (M.ok (tx ".")) fun y12 => M.bind (pushM s4 y12) fun signs11 => M.ok signs11
def f_shed_of_l1 (tie2 : (List Int)) : ((List Tx)) → Int → M ((List Tx)) := fun s4 shaft5 => if (decide (shaft5 ∈ tie2)) = true then M.bind (pushM s4 (tx "#")) fun signs9 => M.ok signs9 else M.bind (pushM s4 (tx ".")) fun signs11 => M.ok signs11
theorem eq_f_shed_of_l1 (tie2 : (List Int)) : r_f_shed_of_l1 tie2 = f_shed_of_l1 tie2 := by funext s4 shaft5; first | (simp only [r_f_shed_of_l1, f_shed_of_l1, M.bind_assoc, M.bok]; done) | (simp only [r_f_shed_of_l1, f_shed_of_l1, M.bind_assoc, M.bok]; rfl)
def q_shed_of (threading1 : (List Int)) (tie2 : (List Int)) : M Tx := M.bind (M.ok []) fun signs3 => M.bind (M.ok threading1) fun xs14 => M.bind (forM (r_f_shed_of_l1 tie2) signs3 xs14) fun (s15 : ((List Tx))) => M.bind (M.ok (tx "")) fun y16 => M.bind (M.ok s15) fun y17 => joinM y16 y17
def f_shed_of (threading1 : (List Int)) (tie2 : (List Int)) : M Tx := let signs3 : (List Tx) := []; M.bind (forM (f_shed_of_l1 tie2) signs3 threading1) fun (s15 : ((List Tx))) => joinM (tx "") s15
def r_shed_of (d : ((List Int) × (List Int) × Unit)) : M Tx := q_shed_of d.1 d.2.1
def c_shed_of (d : ((List Int) × (List Int) × Unit)) : M Tx := f_shed_of d.1 d.2.1
theorem eq_shed_of : r_shed_of = c_shed_of := by funext d; first | (simp only [r_shed_of, c_shed_of, q_shed_of, f_shed_of, M.bind_assoc, M.bok, eq_f_shed_of_l1]; done) | (simp only [r_shed_of, c_shed_of, q_shed_of, f_shed_of, M.bind_assoc, M.bok, eq_f_shed_of_l1]; rfl)
theorem bb_shed_of {p : Pr} (X : Facts p) {g : G} (ok : OkS p (defScope s_shed_of) N_shed_of V_shed_of G_shed_of 0 g) (hX : g.LX = List.replicate N_shed_of.length sAny) (threading1 : (List Int)) (tie2 : (List Int)) : EvB g [(sV false (tList tInt) threading1), (sV false (tList tInt) tie2), sAny, sAny] (defBody s_shed_of) (fun r => .rt false tStr r) (q_shed_of threading1 tie2) := (evb_own ok (i := 2) (j := 2) rfl rfl (wkX hX rfl) .sh (evl_nil (md := .sh) (S := tStr)) fun signs3 => (evb_for (LF := (fun (s4 : ((List Tx))) => [(sV false (tList tInt) threading1), (sV false (tList tInt) tie2), (sOwn false tStr s4), sAny])) (s0 := signs3) ok (wkX hX rfl) (evi_seq ok.toOk sq_l (ev_vsh ok.toOk (i := 0) (j := 0) rfl rfl rfl)) (Wk.s (Wk.s (Wk.s (Wk.s Wk.n)))) (fun _ => evg_name ok (i := 3) (j := 3) rfl rfl) (fun s4 shaft5 => (evb_ifl (wkX hX rfl) (evt_c ok.toOk (c_in ok.toOk.K f_int) (ev_vsh ok.toOk (i := 3) (j := 3) rfl rfl rfl) (ev_vsh ok.toOk (i := 1) (j := 1) rfl rfl rfl)) (evb_append ok (wkX hX rfl) (i := 2) (j := 2) rfl rfl rfl .sh (ev_str (md := .sh) (by decide +kernel)) fun signs9 => (evb_go (by rfl) (Wk.s (Wk.s (Wk.s (Wk.a Wk.n)))))) (evb_append ok (wkX hX rfl) (i := 2) (j := 2) rfl rfl rfl .sh (ev_str (md := .sh) (by decide +kernel)) fun signs11 => (evb_go (by rfl) (Wk.s (Wk.s (Wk.s (Wk.a Wk.n)))))))) fun s15 => (evb_ret (wkX hX rfl) .sh (by intro _; rfl) (ev_borrow (i := 2) (.inl flStr) rfl (ev_join (md' := .sh) ok.toOk (ev_str (md := .sh) (by decide +kernel)) (ev_vsh ok.toOk (i := 2) (j := 2) rfl rfl rfl))))))
theorem b_shed_of {p : Pr} (X : Facts p) : Body p s_shed_of N_shed_of V_shed_of G_shed_of 0 (fun (d : ((List Int) × (List Int) × Unit)) => [(sV false (tList tInt) d.1), (sV false (tList tInt) d.2.1), sAny, sAny]) (fun r => .rt false tStr r) r_shed_of := fun g ok hX d => bb_shed_of X ok hX d.1 d.2.1
theorem fn_shed_of {p : Pr} (X : Facts p) : Fn p 1 "shed_of" ["threading", "tie"] (spM p (aCons (tList tInt) (aCons (tList tInt) aNil)) (fun r => .rt false tStr r) c_shed_of) := by
  obtain ⟨f, fd, hF, hm⟩ := X.d_shed_of
  exact ⟨f, fd, eq_shed_of ▸ fn_rt (m := 2) hF sc_shed_of (.cons (.cons .nil)) rfl rfl (b_shed_of X), hm, hF.kp, hF.bindsN fun _ _ _ _ _ _ us hl => match us, hl with | [_, _], _ => rfl⟩
/-! ### woven -/
abbrev s_woven : Stmt := (topS 10)
abbrev N_woven : List Str := ["draft", "cloth", "treadle"]
abbrev V_woven : List Str := ["draft", "cloth", "treadle"]
abbrev G_woven : List Str := ["shed_of"]
theorem sc_woven : Sc s_woven N_woven V_woven ["draft"] G_woven := ⟨⟨rfl, rfl, rfl, by decide +kernel, rfl, by decide +kernel, by decide +kernel⟩, by decide +kernel, by decide +kernel, by decide +kernel⟩
def r_f_woven_l1 (draft1 : O_Draft) : ((List Tx)) → Int → M ((List Tx)) := fun s4 treadle5 => M.bind (M.bind (M.bind (M.bind (M.ok draft1) fun y7 => M.ok y7.1) fun y13 => M.bind (M.bind (M.bind (M.bind (M.ok draft1) fun y8 => M.ok y8.2.1) fun y9 => M.bind (M.ok treadle5) fun y10 => getM y9 y10) fun y11 => M.bind (M.ok ()) fun y12 => M.ok (y11, y12)) fun y14 => M.ok (y13, y14)) c_shed_of) fun y17 => M.bind (pushM s4 y17) fun cloth6 => M.ok cloth6
def f_woven_l1 (draft1 : O_Draft) : ((List Tx)) → Int → M ((List Tx)) := fun s4 treadle5 => M.bind (M.bind (getM draft1.2.1 treadle5) fun y16 => f_shed_of draft1.1 y16) fun y17 => M.bind (pushM s4 y17) fun cloth6 => M.ok cloth6
theorem eq_f_woven_l1 (draft1 : O_Draft) : r_f_woven_l1 draft1 = f_woven_l1 draft1 := by funext s4 treadle5; first | (simp only [r_f_woven_l1, f_woven_l1, M.bind_assoc, M.bok, c_shed_of]; done) | (simp only [r_f_woven_l1, f_woven_l1, M.bind_assoc, M.bok, c_shed_of]; rfl)
def q_woven (draft1 : O_Draft) : M (List Tx) := M.bind (M.ok []) fun cloth2 => M.bind (M.bind (M.ok draft1) fun y3 => M.ok y3.2.2.1) fun xs18 => M.bind (forM (r_f_woven_l1 draft1) cloth2 xs18) fun (s19 : ((List Tx))) => M.ok s19
def f_woven (draft1 : O_Draft) : M (List Tx) := let cloth2 : (List Tx) := []; M.bind (forM (f_woven_l1 draft1) cloth2 draft1.2.2.1) fun (s19 : ((List Tx))) => M.ok s19
def r_woven (d : (O_Draft × Unit)) : M (List Tx) := q_woven d.1
def c_woven (d : (O_Draft × Unit)) : M (List Tx) := f_woven d.1
theorem eq_woven : r_woven = c_woven := by funext d; first | (simp only [r_woven, c_woven, q_woven, f_woven, M.bind_assoc, M.bok, eq_f_woven_l1, c_shed_of]; done) | (simp only [r_woven, c_woven, q_woven, f_woven, M.bind_assoc, M.bok, eq_f_woven_l1, c_shed_of]; rfl)
theorem bb_woven {p : Pr} (X : Facts p) {g : G} (ok : OkS p (defScope s_woven) N_woven V_woven G_woven 1 g) (hX : g.LX = List.replicate N_woven.length sAny) (draft1 : O_Draft) : EvB g [(sV false (tIns (cA p "Draft") (fl_Draft p)) draft1), sAny, sAny] (defBody s_woven) (fun r => .rtL false tStr r) (q_woven draft1) := (evb_own ok (i := 1) (j := 1) rfl rfl (wkX hX rfl) .sh (evl_nil (md := .sh) (S := tStr)) fun cloth2 => (evb_for (LF := (fun (s4 : ((List Tx))) => [(sV false (tIns (cA p "Draft") (fl_Draft p)) draft1), (sOwn false tStr s4), sAny])) (s0 := cloth2) ok (wkX hX rfl) (evi_seq ok.toOk sq_l (ev_fld (T := (tList tInt)) (pr := fun (d : O_Draft) => d.2.2.1) ok.toOk X.a_Draft X.n_Draft_treading (fun d => (.there (n := "threading") rfl (by decide +kernel) (.there (n := "ties") rfl (by decide +kernel) .here))) (ev_vsh ok.toOk (i := 0) (j := 0) rfl rfl rfl))) (Wk.s (Wk.s (Wk.s Wk.n))) (fun _ => evg_name ok (i := 2) (j := 2) rfl rfl) (fun s4 treadle5 => (evb_append ok (wkX hX rfl) (i := 1) (j := 1) rfl rfl rfl .sh (ev_call (md' := .sh) ok.toOk (fn_shed_of X) (by decide) (j := 0) rfl .sh (eva_cons (md := .sh) (ev_fld (T := (tList tInt)) (pr := fun (d : O_Draft) => d.1) ok.toOk X.a_Draft X.n_Draft_threading (fun d => .here) (ev_vsh ok.toOk (i := 0) (j := 0) rfl rfl rfl)) (eva_cons (md := .sh) (ev_ixQ ok.toOk sq_l (ev_fld (T := (tList (tList tInt))) (pr := fun (d : O_Draft) => d.2.1) ok.toOk X.a_Draft X.n_Draft_ties (fun d => (.there (n := "threading") rfl (by decide +kernel) .here)) (ev_vsh ok.toOk (i := 0) (j := 0) rfl rfl rfl)) (ev_vsh ok.toOk (i := 2) (j := 2) rfl rfl rfl)) eva_nil))) fun cloth6 => (evb_go (by rfl) (Wk.s (Wk.s (Wk.a Wk.n)))))) fun s19 => (evb_retOwn ok.toOk (i := 1) (j := 1) rfl rfl rfl (.inl rfl) (by rfl))))
theorem b_woven {p : Pr} (X : Facts p) : Body p s_woven N_woven V_woven G_woven 1 (fun (d : (O_Draft × Unit)) => [(sV false (tIns (cA p "Draft") (fl_Draft p)) d.1), sAny, sAny]) (fun r => .rtL false tStr r) r_woven := fun g ok hX d => bb_woven X ok hX d.1
theorem fn_woven {p : Pr} (X : Facts p) : Fn p 2 "woven" ["draft"] (spM p (aCons (tIns (cA p "Draft") (fl_Draft p)) aNil) (fun r => .rtL false tStr r) c_woven) := by
  obtain ⟨f, fd, hF, hm⟩ := X.d_woven
  exact ⟨f, fd, eq_woven ▸ fn_rtL (m := 2) hF sc_woven (.cons .nil) rfl rfl (b_woven X), hm, hF.kp, hF.bindsN fun _ _ _ _ _ _ us hl => match us, hl with | [_], _ => rfl⟩
/-! ### _law_texts_same -/
abbrev s__law_texts_same : Stmt := (topS 18)
abbrev N__law_texts_same : List Str := ["found", "due", "k"]
abbrev V__law_texts_same : List Str := ["found", "due", "k"]
abbrev G__law_texts_same : List Str := ["list", "isinstance", "len", "range", "str"]
theorem sc__law_texts_same : Sc s__law_texts_same N__law_texts_same V__law_texts_same ["found", "due"] G__law_texts_same := ⟨⟨rfl, rfl, rfl, by decide +kernel, rfl, by decide +kernel, by decide +kernel⟩, by decide +kernel, by decide +kernel, by decide +kernel⟩
def r_f_law_texts_same_l1 (found1 : (List Tx)) (due2 : (List Tx)) : Unit → Int → M (Fl Unit Bool) := fun s14 k15 => M.bind (M.bind (M.bind (M.bind (M.bind (M.ok found1) fun y16 => M.bind (M.ok k15) fun y17 => getM y16 y17) fun y18 => M.ok true) fun y19 => M.ok (!y19)) fun c26 => if c26 = true then M.ok true else M.bind (M.bind (M.ok found1) fun y20 => M.bind (M.ok k15) fun y21 => getM y20 y21) fun y24 => M.bind (M.bind (M.ok due2) fun y22 => M.bind (M.ok k15) fun y23 => getM y22 y23) fun y25 => M.ok (!decide (y24 = y25))) fun c28 => if c28 = true then M.bind (M.ok false) fun r29 => M.ok (Fl.rt r29) else M.ok (Fl.nx ())
def f_law_texts_same_l1 (found1 : (List Tx)) (due2 : (List Tx)) : Unit → Int → M (Fl Unit Bool) := fun s14 k15 => M.bind (M.bind (M.bind (M.bind (getM found1 k15) fun y18 => M.ok true) fun y19 => M.ok (!y19)) fun c27 => if c27 = true then M.ok true else M.bind (getM found1 k15) fun y24 => M.bind (getM due2 k15) fun y25 => M.ok (!decide (y24 = y25))) fun c30 => if c30 = true then M.ok (Fl.rt false) else M.ok (Fl.nx ())
theorem eq_f_law_texts_same_l1 (found1 : (List Tx)) (due2 : (List Tx)) : r_f_law_texts_same_l1 found1 due2 = f_law_texts_same_l1 found1 due2 := by funext s14 k15; first | (simp only [r_f_law_texts_same_l1, f_law_texts_same_l1, M.bind_assoc, M.bok]; done) | (simp only [r_f_law_texts_same_l1, f_law_texts_same_l1, M.bind_assoc, M.bok]; rfl)
def q__law_texts_same (found1 : (List Tx)) (due2 : (List Tx)) : M Bool := M.bind (M.ok ((!true) || (!decide ((found1.length : Int) = (due2.length : Int))))) fun c10 => if c10 = true then M.ok false else M.bind (M.bind (M.bind (M.ok due2) fun y12 => M.ok (y12.length : Int)) fun y13 => rangeM 0 y13) fun xs31 => M.bind (forF (r_f_law_texts_same_l1 found1 due2) () xs31) (Fl.el (fun (s32 : Unit) => M.ok true) fun r34 => M.ok r34)
def f_law_texts_same (found1 : (List Tx)) (due2 : (List Tx)) : M Bool := if ((!true) || (!decide ((found1.length : Int) = (due2.length : Int)))) = true then M.ok false else M.bind (rangeM 0 (due2.length : Int)) fun xs31 => M.bind (forF (f_law_texts_same_l1 found1 due2) () xs31) (Fl.el (fun (s32 : Unit) => M.ok true) fun r34 => M.ok r34)
def r__law_texts_same (d : ((List Tx) × (List Tx) × Unit)) : M Bool := q__law_texts_same d.1 d.2.1
def c__law_texts_same (d : ((List Tx) × (List Tx) × Unit)) : M Bool := f_law_texts_same d.1 d.2.1
theorem eq__law_texts_same : r__law_texts_same = c__law_texts_same := by funext d; first | (simp only [r__law_texts_same, c__law_texts_same, q__law_texts_same, f_law_texts_same, M.bind_assoc, M.bok, eq_f_law_texts_same_l1]; done) | (simp only [r__law_texts_same, c__law_texts_same, q__law_texts_same, f_law_texts_same, M.bind_assoc, M.bok, eq_f_law_texts_same_l1]; rfl)
theorem bb__law_texts_same {p : Pr} (X : Facts p) {g : G} (ok : OkS p (defScope s__law_texts_same) N__law_texts_same V__law_texts_same G__law_texts_same 0 g) (hX : g.LX = List.replicate N__law_texts_same.length sAny) (found1 : (List Tx)) (due2 : (List Tx)) : EvB g [(sV false (tList tStr) found1), (sV false (tList tStr) due2), sAny] (defBody s__law_texts_same) (fun r => .rt false tBool r) (q__law_texts_same found1 due2) := (evb_ifx (wkX hX rfl) (EvW.t (evw_orP (pureT (m := M.bind (M.bind (M.ok found1) fun y3 => M.ok true) fun y4 => M.ok (!y4)) (evt_not (evt_of (ev_isi (md' := .sh) (r := true) ok.toOk (j := 1) rfl X.g_isinstance i_list (by decide +kernel) (ev_vsh ok.toOk (i := 0) (j := 0) rfl rfl rfl) (ev_ty (n := "list") (md := .sh) ok.toOk (j := 0) rfl X.g_list (by decide +kernel))))) rfl) (pureW (m := M.bind (M.bind (M.ok found1) fun y5 => M.ok (y5.length : Int)) fun y7 => M.bind (M.bind (M.ok due2) fun y6 => M.ok (y6.length : Int)) fun y8 => M.ok (!decide (y7 = y8))) (evw_or1 (evt_c ok.toOk (c_ne s_int) (ev_lenQ (md' := .sh) ok.toOk sq_l (j := 2) rfl X.g_len (ev_vsh ok.toOk (i := 0) (j := 0) rfl rfl rfl)) (ev_lenQ (md' := .sh) ok.toOk sq_l (j := 2) rfl X.g_len (ev_vsh ok.toOk (i := 1) (j := 1) rfl rfl rfl)))) rfl))) (evb_ret (wkX hX rfl) .sh (by intro _; rfl) (ev_bool (md := .sh))) (evb_forF (LF := (fun (s14 : Unit) => [(sV false (tList tStr) found1), (sV false (tList tStr) due2), sAny])) (s0 := ()) (dr := fun r34 => r34) ok (wkX hX rfl) (evi_range1 ok.toOk (j := 3) rfl X.g_range (ev_lenQ (md' := .sh) ok.toOk sq_l (j := 2) rfl X.g_len (ev_vsh ok.toOk (i := 1) (j := 1) rfl rfl rfl))) (Wk.s (Wk.s (Wk.s Wk.n))) (fun _ => evg_name ok (i := 2) (j := 2) rfl rfl) (fun s14 k15 => (evb_ifl (wkX hX rfl) (EvW.t (evw_or (evt_not (evt_of (ev_isi (md' := .sh) (r := true) ok.toOk (j := 1) rfl X.g_isinstance i_str (by decide +kernel) (ev_ixQ ok.toOk sq_l (ev_vsh ok.toOk (i := 0) (j := 0) rfl rfl rfl) (ev_vsh ok.toOk (i := 2) (j := 2) rfl rfl rfl)) (ev_ty (n := "str") (md := .sh) ok.toOk (j := 4) rfl X.g_str (by decide +kernel))))) (evw_or1 (evt_c ok.toOk (c_ne s_str) (ev_ixQ ok.toOk sq_l (ev_vsh ok.toOk (i := 0) (j := 0) rfl rfl rfl) (ev_vsh ok.toOk (i := 2) (j := 2) rfl rfl rfl)) (ev_ixQ ok.toOk sq_l (ev_vsh ok.toOk (i := 1) (j := 1) rfl rfl rfl) (ev_vsh ok.toOk (i := 2) (j := 2) rfl rfl rfl)))))) (evb_retF (mk := fun r29 => Fl.rt r29) (wkX hX rfl) .sh (by intro _; rfl) (ev_bool (md := .sh))) (evb_go (by rfl) (Wk.s (Wk.s (Wk.a Wk.n)))))) fun s32 => (evb_ret (wkX hX rfl) .sh (by intro _; rfl) (ev_bool (md := .sh)))))
theorem b__law_texts_same {p : Pr} (X : Facts p) : Body p s__law_texts_same N__law_texts_same V__law_texts_same G__law_texts_same 0 (fun (d : ((List Tx) × (List Tx) × Unit)) => [(sV false (tList tStr) d.1), (sV false (tList tStr) d.2.1), sAny]) (fun r => .rt false tBool r) r__law_texts_same := fun g ok hX d => bb__law_texts_same X ok hX d.1 d.2.1
theorem fn__law_texts_same {p : Pr} (X : Facts p) : Fn p 1 "_law_texts_same" ["found", "due"] (spM p (aCons (tList tStr) (aCons (tList tStr) aNil)) (fun r => .rt false tBool r) c__law_texts_same) := by
  obtain ⟨f, fd, hF, hm⟩ := X.d__law_texts_same
  exact ⟨f, fd, eq__law_texts_same ▸ fn_rt (m := 1) hF sc__law_texts_same (.cons (.cons .nil)) rfl rfl (b__law_texts_same X), hm, hF.kp, hF.bindsN fun _ _ _ _ _ _ us hl => match us, hl with | [_, _], _ => rfl⟩
/-! ### law -/
abbrev s_law : Stmt := (topS 19)
abbrev N_law : List Str := ["script", "built", "threading", "ties", "treading", "draft", "due", "cloth", "tie"]
abbrev V_law : List Str := ["script", "built", "threading", "ties", "treading", "draft", "due", "cloth"]
abbrev G_law : List Str := ["_law_numbers", "_law_draft_by", "list", "Draft", "_law_draft_same", "_law_woven_by", "woven", "_law_texts_same"]
theorem sc_law : Sc s_law N_law V_law ["script"] G_law := ⟨⟨rfl, rfl, rfl, by decide +kernel, rfl, by decide +kernel, by decide +kernel⟩, by decide +kernel, by decide +kernel, by decide +kernel⟩
def q_law (script1 : (List Int)) : M Bool := M.bind (M.bind (M.bind (M.bind (M.bind (M.ok script1) fun y5 => M.bind (M.bind (M.ok (123 : Int)) fun y3 => M.bind (M.ok ()) fun y4 => M.ok (y3, y4)) fun y6 => M.ok (y5, y6)) c__law_numbers) fun y9 => M.bind (M.ok ()) fun y10 => M.ok (y9, y10)) c__law_draft_by) fun built2 => M.bind (M.bind (M.ok built2) fun y13 => M.ok y13.1) fun threading12 => M.bind (M.bind (M.bind (M.ok built2) fun y15 => M.ok y15.2.1) fun xs19 => compM (fun tie16 => M.bind (M.ok true) fun c17 => if c17 = true then M.bind (M.ok tie16) fun y18 => M.ok (some y18) else M.ok none) xs19) fun ties14 => M.bind (M.bind (M.ok built2) fun y21 => M.ok y21.2.2.1) fun treading20 => M.bind (M.bind (M.bind (M.ok threading12) fun y27 => M.bind (M.bind (M.ok ties14) fun y25 => M.bind (M.bind (M.ok treading20) fun y23 => M.bind (M.ok ()) fun y24 => M.ok (y23, y24)) fun y26 => M.ok (y25, y26)) fun y28 => M.ok (y27, y28)) c_Draft_init) fun draft22 => M.bind (M.ok ((!decide (threading12 = built2.1)) || ((!decide (ties14 = built2.2.1)) || (!decide (treading20 = built2.2.2.1))))) fun c43 => if c43 = true then M.ok false else M.bind (M.bind (M.ok (39 : Int)) fun y47 => M.bind (M.bind (M.ok threading12) fun y45 => M.bind (M.ok (0 : Int)) fun y46 => getM y45 y46) fun y48 => M.ok (y47 - y48)) fun y49 => M.bind (M.ok (0 : Int)) fun i50 => M.bind (setM threading12 i50 y49) fun threading51 => M.bind (M.bind (M.ok (ties14, fun (y : (List (List Int))) => y)) fun y54 => M.bind (M.ok (0 : Int)) fun y55 => atP y54 y55) fun q56 => M.bind (M.ok (40 : Int)) fun y146 => M.bind (pushM q56.1 y146) fun l57 => M.bind (M.ok (q56.2 l57)) fun ties58 => M.bind (M.bind (M.ok (3 : Int)) fun y62 => M.bind (M.bind (M.ok (2 : Int)) fun y60 => M.bind (M.ok []) fun y61 => M.ok (y60 :: y61)) fun y63 => M.ok (y62 :: y63)) fun y66 => M.bind (pushM ties58 y66) fun ties59 => M.bind (popM treading20) fun treading67 => M.bind (M.bind (M.bind (M.bind (M.ok draft22) fun y77 => M.bind (M.bind (M.bind (M.ok built2) fun y68 => M.ok y68.1) fun y75 => M.bind (M.bind (M.bind (M.ok built2) fun y69 => M.ok y69.2.1) fun y73 => M.bind (M.bind (M.bind (M.ok built2) fun y70 => M.ok y70.2.2.1) fun y71 => M.bind (M.ok ()) fun y72 => M.ok (y71, y72)) fun y74 => M.ok (y73, y74)) fun y76 => M.ok (y75, y76)) fun y78 => M.ok (y77, y78)) c__law_draft_same) fun y83 => M.ok (!y83)) fun c84 => if c84 = true then M.ok false else M.bind (M.bind (M.bind (M.bind (M.ok built2) fun y87 => M.ok y87.1) fun y94 => M.bind (M.bind (M.bind (M.ok built2) fun y88 => M.ok y88.2.1) fun y92 => M.bind (M.bind (M.bind (M.ok built2) fun y89 => M.ok y89.2.2.1) fun y90 => M.bind (M.ok ()) fun y91 => M.ok (y90, y91)) fun y93 => M.ok (y92, y93)) fun y95 => M.ok (y94, y95)) c__law_woven_by) fun due86 => M.bind (M.bind (M.bind (M.ok draft22) fun y100 => M.bind (M.ok ()) fun y101 => M.ok (y100, y101)) c_woven) fun cloth99 => M.bind (M.bind (M.bind (M.bind (M.ok cloth99) fun y105 => M.bind (M.bind (M.ok due86) fun y103 => M.bind (M.ok ()) fun y104 => M.ok (y103, y104)) fun y106 => M.ok (y105, y106)) c__law_texts_same) fun y109 => M.ok (!y109)) fun c110 => if c110 = true then M.ok false else M.bind (M.ok (tx "")) fun y112 => M.bind (M.ok (0 : Int)) fun i113 => M.bind (setM cloth99 i113 y112) fun cloth114 => M.bind (M.ok (tx "#")) fun y116 => M.bind (pushM cloth114 y116) fun cloth115 => M.bind (M.bind (M.bind (M.bind (M.bind (M.ok draft22) fun y117 => M.bind (M.ok ()) fun y118 => M.ok (y117, y118)) c_woven) fun y122 => M.bind (M.bind (M.ok due86) fun y120 => M.bind (M.ok ()) fun y121 => M.ok (y120, y121)) fun y123 => M.ok (y122, y123)) c__law_texts_same) fun c141 => if c141 = true then M.bind (M.bind (M.ok draft22) fun y135 => M.bind (M.bind (M.bind (M.ok built2) fun y126 => M.ok y126.1) fun y133 => M.bind (M.bind (M.bind (M.ok built2) fun y127 => M.ok y127.2.1) fun y131 => M.bind (M.bind (M.bind (M.ok built2) fun y128 => M.ok y128.2.2.1) fun y129 => M.bind (M.ok ()) fun y130 => M.ok (y129, y130)) fun y132 => M.ok (y131, y132)) fun y134 => M.ok (y133, y134)) fun y136 => M.ok (y135, y136)) c__law_draft_same else M.ok false
def f_law (script1 : (List Int)) : M Bool := M.bind (M.bind (f_law_numbers script1 (123 : Int)) fun y11 => f_law_draft_by y11) fun built2 => let threading12 : (List Int) := built2.1; M.bind (compM (fun tie16 => M.ok (some tie16)) built2.2.1) fun ties14 => let treading20 : (List Int) := built2.2.2.1; M.bind (f_Draft_init threading12 ties14 treading20) fun draft22 => if ((!decide (threading12 = built2.1)) || ((!decide (ties14 = built2.2.1)) || (!decide (treading20 = built2.2.2.1)))) = true then M.ok false else M.bind (M.bind (getM threading12 (0 : Int)) fun y48 => M.ok ((39 : Int) - y48)) fun y49 => M.bind (setM threading12 (0 : Int) y49) fun threading51 => M.bind (atP (ties14, fun (y : (List (List Int))) => y) (0 : Int)) fun q56 => M.bind (pushM q56.1 (40 : Int)) fun l57 => let ties58 : (List (List Int)) := q56.2 l57; M.bind (pushM ties58 ([(3 : Int), (2 : Int)])) fun ties59 => M.bind (popM treading20) fun treading67 => M.bind (M.bind (f_law_draft_same draft22 built2.1 built2.2.1 built2.2.2.1) fun y83 => M.ok (!y83)) fun c145 => if c145 = true then M.ok false else M.bind (f_law_woven_by built2.1 built2.2.1 built2.2.2.1) fun due86 => M.bind (f_woven draft22) fun cloth99 => M.bind (M.bind (f_law_texts_same cloth99 due86) fun y109 => M.ok (!y109)) fun c144 => if c144 = true then M.ok false else M.bind (setM cloth99 (0 : Int) (tx "")) fun cloth114 => M.bind (pushM cloth114 (tx "#")) fun cloth115 => M.bind (M.bind (f_woven draft22) fun y124 => f_law_texts_same y124 due86) fun c142 => if c142 = true then f_law_draft_same draft22 built2.1 built2.2.1 built2.2.2.1 else M.ok false
def r_law (d : ((List Int) × Unit)) : M Bool := q_law d.1
def c_law (d : ((List Int) × Unit)) : M Bool := f_law d.1
theorem eq_law : r_law = c_law := by funext d; first | (simp only [r_law, c_law, q_law, f_law, M.bind_assoc, M.bok, c_Draft_init, c__law_draft_by, c__law_draft_same, c__law_numbers, c__law_texts_same, c__law_woven_by, c_woven]; done) | (simp only [r_law, c_law, q_law, f_law, M.bind_assoc, M.bok, c_Draft_init, c__law_draft_by, c__law_draft_same, c__law_numbers, c__law_texts_same, c__law_woven_by, c_woven]; rfl)
theorem bb_law {p : Pr} (X : Facts p) {g : G} (ok : OkS p (defScope s_law) N_law V_law G_law 4 g) (hX : g.LX = List.replicate N_law.length sAny) (script1 : (List Int)) : EvB g [(sV false (tListK p.K tInt) script1), sAny, sAny, sAny, sAny, sAny, sAny, sAny, sAny] (defBody s_law) (fun r => .rt false tBool r) (q_law script1) := (evb_set ok (i := 1) (j := 1) rfl rfl (wkX hX rfl) .sh (ev_call (md' := .sh) ok.toOk (fn__law_draft_by X) (by decide) (j := 1) rfl .sh (eva_cons (md := .sh) (ev_ofL (evl_call (md' := .sh) ok.toOk (fn__law_numbers X) (by decide) (j := 0) rfl .sh (eva_cons (md := .sh) (ev_vsh ok.toOk (i := 0) (j := 0) rfl rfl rfl) (eva_cons (md := .sh) (ev_int (md := .sh)) eva_nil)))) eva_nil)) fun built2 => (evb_own ok (i := 2) (j := 2) rfl rfl (wkX hX rfl) .sh (evl_copyQ (md := .sh) ok.toOk sq_l (j := 2) rfl X.g_list (ev_ixA (n := 0) ok.toOk .z (ev_vsh ok.toOk (i := 1) (j := 1) rfl rfl rfl) (ev_int (md := .sh)))) fun threading12 => (evb_setNC (VV' := ["tie"]) (GG' := ["list"]) (i := 8) (i2 := 3) ok rfl (wkX hX rfl) (fw_l (fw_v flInt)) (by decide +kernel) (by rfl) (by decide +kernel) (evi_seq ok.toOk sq_l (ev_ixA (n := 1) ok.toOk (.s .z) (ev_vsh ok.toOk (i := 1) (j := 1) rfl rfl rfl) (ev_int (md := .sh)))) rfl rfl no_any (by decide +kernel) (by decide +kernel) (by decide +kernel) (by decide +kernel) (fun g' okc tie16 => evpts_nil) (fun g' okc tie16 => (evn_l (evl_copyQ (md := .sh) okc sq_l (j := 0) rfl X.g_list (ev_vsh okc (i := 8) (j := 0) rfl rfl rfl)))) fun ties14 => (evb_own ok (i := 4) (j := 4) rfl rfl (wkX hX rfl) .sh (evl_copyQ (md := .sh) ok.toOk sq_l (j := 2) rfl X.g_list (ev_ixA (n := 2) ok.toOk (.s (.s .z)) (ev_vsh ok.toOk (i := 1) (j := 1) rfl rfl rfl) (ev_int (md := .sh)))) fun treading20 => (evb_set ok (i := 5) (j := 5) rfl rfl (wkX hX rfl) .sh (ev_sh (ev_ofM (evm_borrow (i := 4) rfl (evm_borrowP (i := 3) rfl (evm_borrow (i := 2) rfl (evm_make (md' := .fx) ok.toOk (mk_Draft_init X) (by decide) (j := 3) rfl .fx (eva_cons (md := .sh) (ev_vsh ok.toOk (i := 2) (j := 2) rfl rfl rfl) (eva_cons (md := .sh) (ev_vsh ok.toOk (i := 3) (j := 3) rfl rfl rfl) (eva_cons (md := .sh) (ev_vsh ok.toOk (i := 4) (j := 4) rfl rfl rfl) eva_nil))))))))) fun draft22 => (evb_ifx (wkX hX rfl) (evt_borrow (i := 4) rfl (evt_borrowP (i := 3) rfl (evt_borrow (i := 2) rfl (EvW.t (evw_orP (pureT (m := M.bind (M.ok threading12) fun y33 => M.bind (M.bind (M.ok built2) fun y32 => M.ok y32.1) fun y34 => M.ok (!decide (y33 = y34))) (evt_c ok.toOk (c_neD ok.toOk (dList dInt) (by decide)) (ev_vsh ok.toOk (i := 2) (j := 2) rfl rfl rfl) (ev_ixA (n := 0) ok.toOk .z (ev_vsh ok.toOk (i := 1) (j := 1) rfl rfl rfl) (ev_int (md := .sh)))) rfl) (pureW (m := M.ok ((!decide (ties14 = built2.2.1)) || (!decide (treading20 = built2.2.2.1)))) (evw_orP (pureT (m := M.bind (M.ok ties14) fun y36 => M.bind (M.bind (M.ok built2) fun y35 => M.ok y35.2.1) fun y37 => M.ok (!decide (y36 = y37))) (evt_c ok.toOk (c_neD ok.toOk (dList (dList dInt)) (by decide)) (ev_vsh ok.toOk (i := 3) (j := 3) rfl rfl rfl) (ev_ixA (n := 1) ok.toOk (.s .z) (ev_vsh ok.toOk (i := 1) (j := 1) rfl rfl rfl) (ev_int (md := .sh)))) rfl) (pureW (m := M.bind (M.ok treading20) fun y39 => M.bind (M.bind (M.ok built2) fun y38 => M.ok y38.2.2.1) fun y40 => M.ok (!decide (y39 = y40))) (evw_or1 (evt_c ok.toOk (c_neD ok.toOk (dList dInt) (by decide)) (ev_vsh ok.toOk (i := 4) (j := 4) rfl rfl rfl) (ev_ixA (n := 2) ok.toOk (.s (.s .z)) (ev_vsh ok.toOk (i := 1) (j := 1) rfl rfl rfl) (ev_int (md := .sh))))) rfl)) rfl)))))) (evb_ret (wkX hX rfl) .sh (by intro _; rfl) (ev_bool (md := .sh))) (evb_setitem ok (wkX hX rfl) (i := 2) (j := 2) rfl rfl rfl .sh (ev_borrow (i := 2) (.inl flInt) rfl (ev_subt (md' := .sh) ok.toOk (ev_int (md := .sh)) (ev_ixQ ok.toOk sq_l (ev_vsh ok.toOk (i := 2) (j := 2) rfl rfl rfl) (ev_int (md := .sh))))) (ev_int (md := .sh)) fun threading51 => (evb_qAppend ok (wkX hX rfl) (evp_ix ok.toOk (evp_name ok.toOk (i := 3) (j := 3) rfl rfl rfl) (ev_int (md := .sh))) (evn_v (ev_int (md := .sh))) fun ties58 => (evb_nAppend ok (i := 3) (j := 3) rfl rfl rfl (wkX hX rfl) (evn_l (evl_lstN (n := 2) (lnS (lnS ln0)) (by decide) (evs_cons (ev_int (md := .sh)) (evs_cons (ev_int (md := .sh)) evs_nil)))) fun ties59 => (evb_pop ok (wkX hX rfl) (i := 4) (j := 4) rfl rfl rfl fun treading67 => (evb_ifx (wkX hX rfl) (evt_not (evt_of (ev_call (md' := .sh) ok.toOk (fn__law_draft_same X) (by decide) (j := 4) rfl .sh (eva_cons (md := .sh) (ev_vsh ok.toOk (i := 5) (j := 5) rfl rfl rfl) (eva_cons (md := .sh) (ev_ixA (n := 0) ok.toOk .z (ev_vsh ok.toOk (i := 1) (j := 1) rfl rfl rfl) (ev_int (md := .sh))) (eva_cons (md := .sh) (ev_ixA (n := 1) ok.toOk (.s .z) (ev_vsh ok.toOk (i := 1) (j := 1) rfl rfl rfl) (ev_int (md := .sh))) (eva_cons (md := .sh) (ev_ixA (n := 2) ok.toOk (.s (.s .z)) (ev_vsh ok.toOk (i := 1) (j := 1) rfl rfl rfl) (ev_int (md := .sh))) eva_nil))))))) (evb_ret (wkX hX rfl) .sh (by intro _; rfl) (ev_bool (md := .sh))) (evb_set ok (i := 6) (j := 6) rfl rfl (wkX hX rfl) .sh (ev_ofL (evl_call (md' := .sh) ok.toOk (fn__law_woven_by X) (by decide) (j := 5) rfl .sh (eva_cons (md := .sh) (ev_ixA (n := 0) ok.toOk .z (ev_vsh ok.toOk (i := 1) (j := 1) rfl rfl rfl) (ev_int (md := .sh))) (eva_cons (md := .sh) (ev_ixA (n := 1) ok.toOk (.s .z) (ev_vsh ok.toOk (i := 1) (j := 1) rfl rfl rfl) (ev_int (md := .sh))) (eva_cons (md := .sh) (ev_ixA (n := 2) ok.toOk (.s (.s .z)) (ev_vsh ok.toOk (i := 1) (j := 1) rfl rfl rfl) (ev_int (md := .sh))) eva_nil))))) fun due86 => (evb_own ok (i := 7) (j := 7) rfl rfl (wkX hX rfl) .sh (evl_call (md' := .sh) ok.toOk (fn_woven X) (by decide) (j := 6) rfl .sh (eva_cons (md := .sh) (ev_vsh ok.toOk (i := 5) (j := 5) rfl rfl rfl) eva_nil)) fun cloth99 => (evb_ifx (wkX hX rfl) (evt_borrow (i := 7) rfl (evt_not (evt_of (ev_call (md' := .sh) ok.toOk (fn__law_texts_same X) (by decide) (j := 7) rfl .sh (eva_cons (md := .sh) (ev_vsh ok.toOk (i := 7) (j := 7) rfl rfl rfl) (eva_cons (md := .sh) (ev_vsh ok.toOk (i := 6) (j := 6) rfl rfl rfl) eva_nil)))))) (evb_ret (wkX hX rfl) .sh (by intro _; rfl) (ev_bool (md := .sh))) (evb_setitem ok (wkX hX rfl) (i := 7) (j := 7) rfl rfl rfl .sh (ev_str (md := .sh) (by decide +kernel)) (ev_int (md := .sh)) fun cloth114 => (evb_append ok (wkX hX rfl) (i := 7) (j := 7) rfl rfl rfl .sh (ev_str (md := .sh) (by decide +kernel)) fun cloth115 => (evb_ret (wkX hX rfl) .sh (by intro _; rfl) (ev_and (ev_call (md' := .sh) ok.toOk (fn__law_texts_same X) (by decide) (j := 7) rfl .sh (eva_cons (md := .sh) (ev_ofL (evl_call (md' := .sh) ok.toOk (fn_woven X) (by decide) (j := 6) rfl .sh (eva_cons (md := .sh) (ev_vsh ok.toOk (i := 5) (j := 5) rfl rfl rfl) eva_nil))) (eva_cons (md := .sh) (ev_vsh ok.toOk (i := 6) (j := 6) rfl rfl rfl) eva_nil))) (ev_one (ev_call (md' := .sh) ok.toOk (fn__law_draft_same X) (by decide) (j := 4) rfl .sh (eva_cons (md := .sh) (ev_vsh ok.toOk (i := 5) (j := 5) rfl rfl rfl) (eva_cons (md := .sh) (ev_ixA (n := 0) ok.toOk .z (ev_vsh ok.toOk (i := 1) (j := 1) rfl rfl rfl) (ev_int (md := .sh))) (eva_cons (md := .sh) (ev_ixA (n := 1) ok.toOk (.s .z) (ev_vsh ok.toOk (i := 1) (j := 1) rfl rfl rfl) (ev_int (md := .sh))) (eva_cons (md := .sh) (ev_ixA (n := 2) ok.toOk (.s (.s .z)) (ev_vsh ok.toOk (i := 1) (j := 1) rfl rfl rfl) (ev_int (md := .sh))) eva_nil))))))))))))))))))))))))
theorem b_law {p : Pr} (X : Facts p) : Body p s_law N_law V_law G_law 4 (fun (d : ((List Int) × Unit)) => [(sV false (tListK p.K tInt) d.1), sAny, sAny, sAny, sAny, sAny, sAny, sAny, sAny]) (fun r => .rt false tBool r) r_law := fun g ok hX d => bb_law X ok hX d.1
theorem fnok_law {p : Pr} (X : Facts p) {f : Addr} {fd : FuncData} (hF : FunD p.K "law" "law" (defArgs s_law) (defBody s_law) (defScope s_law) [] [] f fd) : FnOk p.P p.w p.K p.mg p.base (L2.CX p.P p.w) 5 f fd ["script"] (spM p (aCons (tListK p.K tInt) aNil) (fun r => .rt false tBool r) c_law) := eq_law ▸ fn_rt (m := 8) hF sc_law (.cons .nil) rfl rfl (b_law X)
/-- loops that ask all -/
theorem forF_chk {α ρ : Type} {f : Unit → α → M (Fl Unit ρ)} {b : α → Bool} {r : ρ} : ∀ {xs : List α}, (∀ x ∈ xs, f () x = .ok (if b x = true then Fl.nx () else Fl.rt r)) → forF f () xs = .ok (if xs.all b = true then Fl.nx () else Fl.rt r)
  | [], _ => rfl
  | x :: xs, h => by
    show (f () x).bind (Fl.el (fun s => forF f s xs) fun q => .ok (.rt q)) = _
    rw [h x List.mem_cons_self]
    cases hb : b x with
    | true =>
      show forF f () xs = _
      rw [forF_chk fun y hy => h y (List.mem_cons_of_mem _ hy), List.all_cons, hb]; rfl
    | false =>
      rw [List.all_cons, hb]; rfl
theorem all_upFrom {n : Nat} {b : Int → Bool} {c : Nat → Bool} (h : ∀ i, i < n → b i = c i) : (upFrom 0 n).all b = (List.range n).all c := by
  rw [Bool.eq_iff_iff, List.all_eq_true, List.all_eq_true]
  constructor
  · intro H i hi
    rw [List.mem_range] at hi
    rw [← h i hi]
    exact H (i : Int) (upFrom_mem.mpr (by omega))
  · intro H i hi
    rw [upFrom_mem] at hi
    obtain ⟨k, rfl⟩ : ∃ k : Nat, i = k := ⟨i.toNat, by omega⟩
    rw [h k (by omega)]
    exact H k (List.mem_range.mpr (by omega))
theorem row_at {rows : List Tx} {w h : Nat} (hc : Cloth rows w h) {i : Int} (h0 : 0 ≤ i) (h1 : i < h) : ∃ r, rows[i.toNat]? = some r ∧ getM rows i = .ok r ∧ r.length = w ∧ r ∈ rows := by
  have hh := hc.hh
  have hlt : i.toNat < rows.length := by omega
  have hr : rows[i.toNat]? = some rows[i.toNat] := by simp [hlt]
  exact ⟨_, hr, getM_at h0 hr, hc.ww _ (List.getElem_mem hlt), List.getElem_mem hlt⟩
theorem getS_m1 {x : Tx} {c : Nat} (h : x.getLast? = some c) : getS x (-1) = .ok [c] := by
  have hne : x ≠ [] := fun e => by rw [e] at h; cases h
  have hl : 0 < x.length := List.length_pos_iff.mpr hne
  unfold getS L2.atI L2.ixN
  rw [if_neg (by decide), if_pos (by omega)]
  show (match x[(-1 + (x.length : Int)).toNat]? with | some d => M.ok [d] | none => .no) = _
  rw [show (-1 + (x.length : Int)).toNat = x.length - 1 by omega, ← List.getLast?_eq_getElem?, h]

/-- an end's signs -/
def colL (rows : List Tx) (e : Nat) : Tx := rows.map fun r => r[e]?.getD 0
theorem colL_get {rows : List Tx} {e i : Nat} {r : Tx} (h : rows[i]? = some r) (he : e < r.length) : (colL rows e)[i]? = r[e]? := by
  unfold colL
  rw [List.getElem?_map, h]
  show some (r[e]?.getD 0) = r[e]?
  simp [he]
theorem flat_map_f {α : Type} {f : α → Nat} {l : List α} : (l.map fun c => [f c]).flatten = l.map f := by
  induction l with
  | nil => rfl
  | cons a r ih => rw [List.map_cons, List.flatten_cons, ih]; rfl
theorem sum_map_f {α : Type} {f : α → Nat} {l : List α} : ((l.map fun c => [f c]).map List.length).sum = l.length := by
  induction l with
  | nil => rfl
  | cons a r ih => simp only [List.map_cons, List.sum_cons, List.length_cons, List.length_nil]; rw [ih]; omega

/-! ### loops that append -/
theorem forM_app {α β : Type} {f : List β → α → M (List β)} {h : α → List β} {N : Nat} : ∀ (xs : List α) (s : List β), (s ++ xs.flatMap h).length ≤ N → (∀ x ∈ xs, ∀ s, (s ++ h x).length ≤ N → f s x = .ok (s ++ h x)) → forM f s xs = .ok (s ++ xs.flatMap h)
  | [], s, _, _ => by show M.ok s = _; rw [List.flatMap_nil, List.append_nil]
  | x :: xs, s, hl, hs => by
    rw [List.flatMap_cons, ← List.append_assoc] at hl
    show (f s x).bind (fun s' => forM f s' xs) = _
    rw [hs x List.mem_cons_self s (by rw [List.length_append] at hl; omega), M.bind_ok, forM_app xs _ hl (fun y hy => hs y (List.mem_cons_of_mem _ hy)), List.flatMap_cons, List.append_assoc]
theorem range_map_up {β : Type} {n : Nat} {f : Int → β} {g : Nat → β} (h : ∀ i, i < n → f (i : Int) = g i) : (upFrom 0 n).map f = (List.range n).map g := by
  refine List.ext_getElem? fun i => ?_
  rw [List.getElem?_map, List.getElem?_map, upFrom_get]
  by_cases q : i < n
  · rw [if_pos q, List.getElem?_range q]
    show some _ = some _
    rw [← h i q, Int.zero_add]
  · rw [if_neg q, List.getElem?_eq_none (by simp; omega)]; rfl
theorem upFrom_range {n : Nat} : upFrom 0 n = (List.range n).map fun i : Nat => (i : Int) := by
  have := range_map_up (n := n) (f := fun i => i) (g := fun i : Nat => (i : Int)) fun i _ => rfl
  rwa [List.map_id'] at this
theorem flatMap_map' {α β γ : Type} (f : α → β) (g : β → List γ) (l : List α) : (l.map f).flatMap g = l.flatMap fun x => g (f x) := by
  induction l with
  | nil => rfl
  | cons a l ih => rw [List.map_cons, List.flatMap_cons, List.flatMap_cons, ih]
/-- a loop over a range that appends -/
theorem forR_app {β : Type} {f : List β → Int → M (List β)} {h : Nat → List β} {N n : Nat} {s : List β} (hl : (s ++ (List.range n).flatMap h).length ≤ N) (hs : ∀ i, i < n → ∀ s, (s ++ h i).length ≤ N → f s (i : Int) = .ok (s ++ h i)) : forM f s (upFrom 0 n) = .ok (s ++ (List.range n).flatMap h) := by
  rw [upFrom_range]
  have e : ((List.range n).map fun i : Nat => (i : Int)).flatMap (fun i : Int => h i.toNat) = (List.range n).flatMap h := by rw [flatMap_map']; simp only [Int.toNat_natCast]
  rw [← e] at hl ⊢
  refine forM_app (N := N) _ s hl fun x hx t ht => ?_
  obtain ⟨k, hk, rfl⟩ := List.mem_map.mp hx
  rw [List.mem_range] at hk
  rw [Int.toNat_natCast] at ht ⊢
  exact hs k hk t ht

theorem numbers_ok {script : List Int} {many : Int} (hl : script.length ≤ 63) (h1 : 63 ≤ many) (h2 : many ≤ 1000) : Okm (f_law_numbers script many) (fun ns => ns.length = many.toNat ∧ ∀ x ∈ ns, 0 ≤ x ∧ x < (10 : Int) ^ 60) := by
  unfold f_law_numbers
  refine okb (m := repM _ _) (ok_rep1 (by omega) (by omega)) fun s0 e => ?_
  subst e
  refine okb ok_range fun xs e => ?_
  subst e
  refine okb (ok_forR (fun i (s : Int × List Int) => 0 ≤ s.1 ∧ s.1 < 2147483647 ∧ s.2.length = many.toNat ∧ ∀ x ∈ s.2, 0 ≤ x ∧ x < (10 : Int) ^ 60) ⟨by show (0 : Int) ≤ 7; omega, by show (7 : Int) < 2147483647; omega, by simp, fun x hx => ?_⟩ fun i s hi ⟨b1, b2, a1, a2⟩ => ?_) fun s ⟨b1, b2, a1, a2⟩ => ?_
  · rw [(List.mem_replicate.mp hx).2]; exact ⟨by decide, by decide⟩
  · unfold f_law_numbers_l1
    have m0 := Int.emod_nonneg (0 + (i : Int)) (show many ≠ 0 by omega)
    have m1 := Int.emod_lt_of_pos (0 + (i : Int)) (show 0 < many by omega)
    rw [oke (ok_mod (by omega : 0 < many)), M.bind_ok]
    refine okb (P := fun v => 0 ≤ v ∧ v < (10 : Int) ^ 60) ?_ fun v hv => ?_
    · refine okb (P := fun _ => True) ?_ fun v _ => okv ⟨Int.emod_nonneg _ (by decide), Int.emod_lt_of_pos _ (by decide)⟩
      refine okb (P := fun _ => True) (okb (ok_get m0 (by omega)) fun a ha => okv trivial) fun a _ => okb (ok_get (by omega) (by omega)) fun a _ => okv trivial
    rw [M.bind_ok]
    refine okb (ok_set m0 (by omega)) fun s' e => ?_
    subst e
    refine okb (P := fun v => 0 ≤ v ∧ v < (2147483647 : Int)) ?_ fun m hm => okv ⟨hm.1, hm.2, by rw [List.length_set]; exact a1, fun x hx => ?_⟩
    · refine okb (P := fun _ => True) (okb (ok_get (by omega) (by omega)) fun a _ => okv trivial) fun a _ => okv ⟨by omega, by omega⟩
    · rcases List.mem_or_eq_of_mem_set hx with hx | hx
      · exact a2 x hx
      · subst hx; exact hv
  · refine okb (ok_range (by omega) (by omega) (by omega) (by omega)) fun xs e => ?_
    subst e
    refine okb (ok_forR (fun i (s : Int × List Int) => 0 ≤ s.1 ∧ s.1 < 2147483647 ∧ s.2.length = many.toNat ∧ ∀ x ∈ s.2, 0 ≤ x ∧ x < (10 : Int) ^ 60) ⟨b1, b2, a1, a2⟩ fun i s hi ⟨b1, b2, a1, a2⟩ => ?_) fun s ⟨b1, b2, a1, a2⟩ => okv ⟨a1, a2⟩
    unfold f_law_numbers_l2
    refine okb (ok_set (by omega) (by omega)) fun s' e => ?_
    subst e
    have hp : (2147483647 : Int) < (10 : Int) ^ 60 := by decide
    refine okv ⟨by show 0 ≤ _ % _; omega, by show _ % _ < _; omega, by rw [List.length_set]; exact a1, fun x hx => ?_⟩
    rcases List.mem_or_eq_of_mem_set hx with hx | hx
    · exact a2 x hx
    · subst hx; exact ⟨by omega, by omega⟩

/-! ### what fits a draft -/
def riB : Int → List Int → Bool
  | _, [] => true
  | last, x :: r => decide (last < x) && (decide (x < 40) && riB x r)
theorem riB_iff : ∀ (l : List Int) (last : Int), riB last l = true ↔ (∀ x ∈ l, last < x ∧ x < 40) ∧ l.Pairwise (· < ·)
  | [], _ => ⟨fun _ => ⟨(fun x hx => nomatch hx), List.Pairwise.nil⟩, fun _ => rfl⟩
  | x :: r, last => by
    unfold riB
    rw [Bool.and_eq_true, Bool.and_eq_true, decide_eq_true_eq, decide_eq_true_eq, riB_iff r x, List.pairwise_cons]
    constructor
    · rintro ⟨h1, h2, h3, h4⟩
      refine ⟨fun y hy => ?_, fun y hy => (h3 y hy).1, h4⟩
      rcases List.mem_cons.mp hy with e | hy
      · subst e; exact ⟨h1, h2⟩
      · have := h3 y hy; omega
    · rintro ⟨h1, h2, h3⟩
      have hx := h1 x List.mem_cons_self
      exact ⟨hx.1, hx.2, fun y hy => ⟨h2 y hy, (h1 y (List.mem_cons_of_mem _ hy)).2⟩, h3⟩
theorem tie_loop : ∀ (l : List Int) (last : Int), if riB last l = true then ∃ z, forF f_tie_rises_l1 last l = .ok (Fl.nx z) else forF f_tie_rises_l1 last l = .ok (Fl.rt false)
  | [], last => by unfold riB; rw [if_pos rfl]; exact ⟨last, rfl⟩
  | x :: r, last => by
    have ih := tie_loop r x
    have st : forF f_tie_rises_l1 last (x :: r) = (f_tie_rises_l1 last x).bind (Fl.el (fun s' => forF f_tie_rises_l1 s' r) fun q => .ok (.rt q)) := rfl
    have e : f_tie_rises_l1 last x = if x ≤ last ∨ 40 ≤ x then .ok (.rt false) else .ok (.nx x) := by
      unfold f_tie_rises_l1
      by_cases c : x ≤ last ∨ 40 ≤ x
      · rw [if_pos c, if_pos (by simpa using c)]
      · rw [if_neg c, if_neg (by simpa using c)]
    rw [st, e]
    unfold riB
    by_cases c : x ≤ last ∨ 40 ≤ x
    · rw [if_pos c, if_neg (by simp only [Bool.and_eq_true, decide_eq_true_eq]; omega)]
      rfl
    · rw [if_neg c, decide_eq_true (show last < x by omega), decide_eq_true (show x < 40 by omega), Bool.true_and, Bool.true_and]
      exact ih
theorem tie_ok (l : List Int) : f_tie_rises l = .ok (riB (-1) l) := by
  have h := tie_loop l (-1)
  unfold f_tie_rises
  show M.bind (forF f_tie_rises_l1 (-(1 : Int)) l) _ = _
  cases c : riB (-1) l with
  | true =>
    rw [c, if_pos rfl] at h
    obtain ⟨z, e⟩ := h
    rw [show (-(1 : Int)) = -1 from rfl, e]; rfl
  | false =>
    rw [c, if_neg Bool.false_ne_true] at h
    rw [show (-(1 : Int)) = -1 from rfl, h]; rfl
theorem forF_all {α ρ : Type} {f : Unit → α → M (Fl Unit ρ)} {b : α → Bool} {r : ρ} : ∀ {xs : List α}, (∀ x ∈ xs, f () x = .ok (if b x = true then .nx () else .rt r)) → forF f () xs = .ok (if xs.all b = true then .nx () else .rt r)
  | [], _ => rfl
  | x :: xs, h => by
    show (f () x).bind (Fl.el (fun s' => forF f s' xs) fun q => .ok (.rt q)) = _
    rw [h x List.mem_cons_self, List.all_cons]
    cases hb : b x with
    | true =>
      show forF f () xs = _
      rw [forF_all fun y hy => h y (List.mem_cons_of_mem _ hy)]; rfl
    | false => rfl
def lenB (n : Int) : Bool := decide (1 ≤ n) && decide (n ≤ 40)
def fitB (th : List Int) (ties : List (List Int)) (tr : List Int) : Bool :=
  [(th.length : Int), (ties.length : Int), (tr.length : Int)].all lenB && (th.all (fun s => decide (0 ≤ s) && decide (s < 40)) && (ties.all (riB (-1)) && tr.all fun t => decide (0 ≤ t) && decide (t < (ties.length : Int))))
theorem fit_ok (th : List Int) (ties : List (List Int)) (tr : List Int) : f_lists_fit th ties tr = .ok (fitB th ties tr) := by
  unfold f_lists_fit fitB
  show M.bind (forF f_lists_fit_l1 () [(th.length : Int), (ties.length : Int), (tr.length : Int)]) _ = _
  rw [forF_all (b := lenB) (r := false) fun x _ => ?_, forF_all (b := fun s => decide (0 ≤ s) && decide (s < 40)) (r := false) fun x _ => ?_, forF_all (b := riB (-1)) (r := false) fun x _ => ?_, forF_all (b := fun t => decide (0 ≤ t) && decide (t < (ties.length : Int))) (r := false) fun x _ => ?_]
  · cases h1 : [(th.length : Int), (ties.length : Int), (tr.length : Int)].all lenB
    · rfl
    cases h2 : th.all (fun s => decide (0 ≤ s) && decide (s < 40))
    · rfl
    cases h3 : ties.all (riB (-1))
    · rfl
    cases h4 : tr.all fun t => decide (0 ≤ t) && decide (t < (ties.length : Int)) <;> rfl
  · unfold f_lists_fit_l4
    by_cases c : x < 0 ∨ (ties.length : Int) ≤ x
    · rw [if_pos (by simpa using c), if_neg (by simp only [Bool.and_eq_true, decide_eq_true_eq]; omega)]
    · rw [if_neg (by simpa using c), if_pos (by simp only [Bool.and_eq_true, decide_eq_true_eq]; omega)]
  · unfold f_lists_fit_l3
    rw [tie_ok, M.bind_ok, M.bind_ok]
    cases riB (-1) x <;> rfl
  · unfold f_lists_fit_l2
    by_cases c : x < 0 ∨ 40 ≤ x
    · rw [if_pos (by simpa using c), if_neg (by simp only [Bool.and_eq_true, decide_eq_true_eq]; omega)]
    · rw [if_neg (by simpa using c), if_pos (by simp only [Bool.and_eq_true, decide_eq_true_eq]; omega)]
  · unfold f_lists_fit_l1 lenB
    by_cases c : x < 1 ∨ 40 < x
    · rw [if_pos (by simpa using c), if_neg (by simp only [Bool.and_eq_true, decide_eq_true_eq]; omega)]
    · rw [if_neg (by simpa using c), if_pos (by simp only [Bool.and_eq_true, decide_eq_true_eq]; omega)]
theorem id_comp {α : Type} {xs : List α} (h : xs.length ≤ 1000000) : compM (fun x : α => M.ok (some x)) xs = .ok xs := by
  have := comp_map (h := fun x : α => M.ok (some x)) (g := fun x => x) (xs := xs) h fun x _ => rfl
  rw [this]; simp
theorem lens_le {th : List Int} {ties : List (List Int)} {tr : List Int} (h : fitB th ties tr = true) : 1 ≤ th.length ∧ th.length ≤ 40 ∧ 1 ≤ ties.length ∧ ties.length ≤ 40 ∧ 1 ≤ tr.length ∧ tr.length ≤ 40 := by
  unfold fitB at h
  rw [Bool.and_eq_true] at h
  have h1 := h.1
  simp only [List.all_cons, List.all_nil, Bool.and_eq_true, lenB, decide_eq_true_eq] at h1
  omega
theorem draft_ok (th : List Int) (ties : List (List Int)) (tr : List Int) : f_Draft_init th ties tr = if fitB th ties tr = true then .ok (th, ties, tr, ()) else .ex .noDraft := by
  unfold f_Draft_init
  rw [fit_ok, M.bind_ok, M.bind_ok]
  cases h : fitB th ties tr with
  | true =>
    have := lens_le h
    rw [if_neg (by simp)]
    show M.bind (compM (fun tie => M.ok (some tie)) ties) _ = _
    rw [id_comp (by omega), M.bind_ok, if_pos rfl]
  | false => rfl
/-- it fits -/
theorem fit_true {th : List Int} {ties : List (List Int)} {tr : List Int} (h1 : 1 ≤ th.length) (h2 : th.length ≤ 40) (h3 : 1 ≤ ties.length) (h4 : ties.length ≤ 40) (h5 : 1 ≤ tr.length) (h6 : tr.length ≤ 40) (h7 : ∀ s ∈ th, 0 ≤ s ∧ s < 40) (h8 : ∀ t ∈ ties, riB (-1) t = true) (h9 : ∀ t ∈ tr, 0 ≤ t ∧ t < (ties.length : Int)) : fitB th ties tr = true := by
  unfold fitB
  rw [Bool.and_eq_true, Bool.and_eq_true, Bool.and_eq_true]
  refine ⟨?_, List.all_eq_true.mpr fun s hs => ?_, List.all_eq_true.mpr h8, List.all_eq_true.mpr fun t ht => ?_⟩
  · simp [lenB]; omega
  · have := h7 s hs; simp only [Bool.and_eq_true, decide_eq_true_eq]; exact this
  · have := h9 t ht; simp only [Bool.and_eq_true, decide_eq_true_eq]; exact this
theorem fit_false {th : List Int} {ties : List (List Int)} {tr : List Int} (h : th.length = 0 ∨ 40 < th.length ∨ ties.length = 0 ∨ 40 < ties.length ∨ tr.length = 0 ∨ 40 < tr.length ∨ (∃ s ∈ th, s < 0 ∨ 40 ≤ s) ∨ (∃ t ∈ ties, riB (-1) t = false) ∨ ∃ t ∈ tr, t < 0 ∨ (ties.length : Int) ≤ t) : fitB th ties tr = false := by
  cases c : fitB th ties tr with
  | false => rfl
  | true =>
    exfalso
    have hl := lens_le c
    unfold fitB at c
    rw [Bool.and_eq_true, Bool.and_eq_true, Bool.and_eq_true] at c
    obtain ⟨_, c2, c3, c4⟩ := c
    rcases h with h | h | h | h | h | h | ⟨s, hs, h⟩ | ⟨t, ht, h⟩ | ⟨t, ht, h⟩
    · omega
    · omega
    · omega
    · omega
    · omega
    · omega
    · have := List.all_eq_true.mp c2 s hs
      simp only [Bool.and_eq_true, decide_eq_true_eq] at this; omega
    · have := List.all_eq_true.mp c3 t ht
      rw [h] at this; cases this
    · have := List.all_eq_true.mp c4 t ht
      simp only [Bool.and_eq_true, decide_eq_true_eq] at this; omega

theorem subset_ok {number : Int} (h0 : 0 ≤ number) : Okm (f_law_subset number) (fun s => s.length ≤ 40 ∧ riB (-1) s = true) := by
  unfold f_law_subset
  refine okif (fun _ => okv ⟨by decide, rfl⟩) fun _ => ?_
  refine okb (P := fun _ => True) (okif (fun c => ?_) fun _ => okv trivial) fun n _ => ?_
  · rw [decide_eq_true_eq] at c
    have hp : (10 : Int) ^ 6 < 2 ^ 64 := by decide
    refine okb (P := fun _ => True) (okb (P := fun _ => True) ?_ fun _ _ => okv trivial) fun _ _ => okv trivial
    exact okb (ok_mul 64 64 (by omega) (by omega)) fun _ _ => okv trivial
  show Okm (M.bind (rangeM 0 40) _) _
  refine okb ok_range fun xs e => ?_
  subst e
  refine okb (ok_forR (fun i (s : Int × List Int) => s.2.length ≤ i ∧ (∀ x ∈ s.2, 0 ≤ x ∧ x < i) ∧ s.2.Pairwise (· < ·)) ⟨Nat.le_refl _, (fun x hx => nomatch hx), List.Pairwise.nil⟩ fun i s hi ⟨a1, a2, a3⟩ => ?_) fun s ⟨a1, a2, a3⟩ => okv ⟨a1, (riB_iff _ _).mpr ⟨fun x hx => by have := a2 x hx; omega, a3⟩⟩
  unfold f_law_subset_l1
  refine okb (P := fun l => l.length ≤ i + 1 ∧ (∀ x ∈ l, 0 ≤ x ∧ x < ((i + 1 : Nat) : Int)) ∧ l.Pairwise (· < ·)) (okif (fun _ => ?_) fun _ => okv ⟨by omega, (fun x hx => by have := a2 x hx; omega), a3⟩) fun l hl => okv hl
  have hi' : i < 40 := hi
  refine okb (ok_push (by omega)) fun l e => okv ?_
  subst e
  refine ⟨by simp; omega, fun x hx => ?_, List.pairwise_append.mpr ⟨a3, by simp, fun a ha b hb => ?_⟩⟩
  · rcases List.mem_append.mp hx with h | h
    · have := a2 x h; omega
    · rw [List.mem_singleton.mp h]; omega
  · rw [List.mem_singleton.mp hb]; have := a2 a ha; omega

structure DraftBy (th : List Int) (ti : List (List Int)) (tr : List Int) : Prop where
  e1 : 1 ≤ th.length
  e2 : th.length ≤ 40
  t1 : 1 ≤ ti.length
  t2 : ti.length ≤ 40
  p1 : 1 ≤ tr.length
  p2 : tr.length ≤ 40
  ths : ∀ x ∈ th, 0 ≤ x ∧ x < 40
  tis : ∀ s ∈ ti, s.length ≤ 40 ∧ riB (-1) s = true
  trs : ∀ x ∈ tr, 0 ≤ x ∧ x < ti.length
theorem comp_len {α β : Type} {h : α → M (Option β)} {xs : List α} (R : β → Prop) (hl : xs.length ≤ 1000000) (hs : ∀ x ∈ xs, Okm (h x) (fun o => ∃ y, o = some y ∧ R y)) : Okm (compM h xs) (fun ys => ys.length = xs.length ∧ ∀ y ∈ ys, R y) := by
  refine okmono (ok_comp (fun _ y => R y) hl hs) fun ys ⟨h1, h2⟩ => ⟨h1, fun y hy => ?_⟩
  obtain ⟨i, hi⟩ := List.mem_iff_getElem?.mp hy
  have hlt := (List.getElem?_eq_some_iff.mp hi).1
  exact h2 i (xs[i]'(by omega)) y (by simp) hi
theorem draft_by_ok {ns : List Int} (hl : 123 ≤ ns.length) (hl2 : ns.length ≤ 1000) (hn : ∀ x ∈ ns, 0 ≤ x ∧ x < (10 : Int) ^ 60) : Okm (f_law_draft_by ns) (fun d => DraftBy d.1 d.2.1 d.2.2.1) := by
  unfold f_law_draft_by
  have g : ∀ k : Int, 0 ≤ k → k < 123 → Okm (getM ns k) (fun v => 0 ≤ v) := fun k h0 h1 => okmono (ok_get h0 (by omega)) fun v hv => (hn v (List.mem_of_getElem? hv)).1
  refine okb (P := fun e => 1 ≤ e ∧ e ≤ 40) (okb (okb (g 0 (by omega) (by omega)) fun v hv => okv (P := fun v => 0 ≤ v ∧ v < 40) ⟨by omega, by omega⟩) fun v hv => okv ⟨by omega, by omega⟩) fun ends ⟨e1, e2⟩ => ?_
  refine okb (P := fun e => 1 ≤ e ∧ e ≤ 40) (okb (okb (g 1 (by omega) (by omega)) fun v hv => okv (P := fun v => 0 ≤ v ∧ v < 40) ⟨by omega, by omega⟩) fun v hv => okv ⟨by omega, by omega⟩) fun treadles ⟨t1, t2⟩ => ?_
  refine okb (P := fun e => 1 ≤ e ∧ e ≤ 40) (okb (okb (g 2 (by omega) (by omega)) fun v hv => okv (P := fun v => 0 ≤ v ∧ v < 40) ⟨by omega, by omega⟩) fun v hv => okv ⟨by omega, by omega⟩) fun picks ⟨p1, p2⟩ => ?_
  refine okb (P := fun e => 1 ≤ e ∧ e ≤ 40) (okb (P := fun v => 0 ≤ v ∧ v < 40) (okb (P := fun _ => True) (okb (g 0 (by omega) (by omega)) fun v hv => okv trivial) fun v hv => okv ⟨by omega, by omega⟩) fun v hv => okv ⟨by omega, by omega⟩) fun high ⟨h1, h2⟩ => ?_
  refine okb (P := fun _ => True) (okb (P := fun _ => True) (okb (P := fun _ => True) (okb (g 1 (by omega) (by omega)) fun v hv => okv trivial) fun v hv => okv trivial) fun v hv => okv trivial) fun c _ => ?_
  refine okb (P := fun e => 1 ≤ e ∧ e ≤ 40) (okif (fun _ => okv ⟨by omega, by omega⟩) fun _ => okv ⟨h1, h2⟩) fun high ⟨h1, h2⟩ => ?_
  have c1 := cut_mid (xs := ns) (a := 3) (b := 3 + ends) (by omega) (by omega) (by omega)
  have c2 := cut_mid (xs := ns) (a := 3 + ends) (b := 3 + ends + treadles) (by omega) (by omega) (by omega)
  have c3 := cut_mid (xs := ns) (a := 3 + ends + treadles) (b := 3 + ends + treadles + picks) (by omega) (by omega) (by omega)
  have l1 : (cutL ns (some 3) (some (3 + ends))).length = ends.toNat := by rw [c1, List.length_take, List.length_drop]; omega
  have l2 : (cutL ns (some (3 + ends)) (some (3 + ends + treadles))).length = treadles.toNat := by rw [c2, List.length_take, List.length_drop]; omega
  have l3 : (cutL ns (some (3 + ends + treadles)) (some (3 + ends + treadles + picks))).length = picks.toNat := by rw [c3, List.length_take, List.length_drop]; omega
  refine okb (comp_len (fun x => 0 ≤ x ∧ x < 40) (by omega) fun x hx => ?_) fun th ⟨th1, th2⟩ => ?_
  · have q0 := Int.emod_nonneg x (show high ≠ 0 by omega)
    have q1 := Int.emod_lt_of_pos x (show 0 < high by omega)
    exact okb (ok_mod (by omega)) fun y e => okv ⟨y, rfl, by omega, by omega⟩
  refine okb (comp_len (fun (s : List Int) => s.length ≤ 40 ∧ riB (-1) s = true) (by omega) fun x hx => ?_) fun ti ⟨ti1, ti2⟩ => ?_
  · exact okb (subset_ok (hn x (cut_mem hx)).1) fun y e => okv ⟨y, rfl, e⟩
  show Okm (M.bind (compM _ (cutL ns (some (3 + ends + treadles)) (some (3 + ends + treadles + picks)))) _) _
  refine okb (comp_len (fun x => 0 ≤ x ∧ x < treadles) (by omega) fun x hx => ?_) fun tr ⟨tr1, tr2⟩ => ?_
  · have q0 := Int.emod_nonneg x (show treadles ≠ 0 by omega)
    have q1 := Int.emod_lt_of_pos x (show 0 < treadles by omega)
    exact okb (ok_mod (by omega)) fun y e => okv ⟨y, rfl, by omega, by omega⟩
  refine okv ?_
  exact ⟨by show 1 ≤ th.length; omega, by show th.length ≤ 40; omega, by show 1 ≤ ti.length; omega, by show ti.length ≤ 40; omega, by show 1 ≤ tr.length; omega, by show tr.length ≤ 40; omega, th2, ti2, fun x hx => ⟨(tr2 x hx).1, by have := (tr2 x hx).2; show x < (ti.length : Int); omega⟩⟩

/-- the sign at a crossing -/
def wsign (ti : List (List Int)) (t s : Int) : Nat := if s ∈ (ti[t.toNat]?.getD []) then 35 else 46
theorem woven_by_ok {th : List Int} {ti : List (List Int)} {tr : List Int} (h : DraftBy th ti tr) : f_law_woven_by th ti tr = .ok (tr.map fun t => th.map fun s => wsign ti t s) := by
  refine oke ?_
  unfold f_law_woven_by
  have e2 := h.e2
  have p2 := h.p2
  refine okb (P := (· = tr.map fun t => th.map fun s => wsign ti t s)) ?_ fun s e => okv e
  refine okmono (ok_for (f := f_law_woven_by_l2 th ti) (fun i (s : List Tx) => s = (tr.take i).map fun t => th.map fun s => wsign ti t s) rfl fun i t s ht e => ?_) fun s e => by rw [e, List.take_length]
  subst e
  have hl := (List.getElem?_eq_some_iff.mp ht).1
  have htr := h.trs t (List.mem_of_getElem? ht)
  unfold f_law_woven_by_l2
  obtain ⟨tie, e1, e2'⟩ := ok_get (xs := ti) htr.1 htr.2
  refine okb (P := (· = th.map fun s => wsign ti t s)) ?_ fun x e => ?_
  · refine okmono (ok_for (f := f_law_woven_by_l1 ti t) (fun j (x : Tx) => x = (th.take j).map fun s => wsign ti t s) (by rw [tx_nil]; rfl) fun j sh x hs e => ?_) fun x e => by rw [e, List.take_length]
    subst e
    have hl2 := (List.getElem?_eq_some_iff.mp hs).1
    unfold f_law_woven_by_l1
    rw [e1, M.bind_ok, M.bind_ok, tx_hash, tx_dot]
    have fin : ∀ c : Nat, c = wsign ti t sh → ((th.take j).map fun s => wsign ti t s) ++ [c] = (th.take (j + 1)).map fun s => wsign ti t s := fun c e => by
      subst e
      rw [List.take_add_one, hs, List.map_append]; rfl
    have hw : wsign ti t sh = if sh ∈ tie then 35 else 46 := by unfold wsign; rw [e2']; rfl
    refine okif (fun c => ?_) fun c => ?_
    · rw [decide_eq_true_eq] at c
      refine okb (ok_cat (by simp; omega)) fun y e => okv ?_
      subst e
      exact fin 35 (by rw [hw, if_pos c])
    · rw [decide_eq_false_iff_not] at c
      refine okb (ok_cat (by simp; omega)) fun y e => okv ?_
      subst e
      exact fin 46 (by rw [hw, if_neg c])
  · subst e
    refine okb (ok_push (by simp; omega)) fun y e => okv ?_
    subst e
    rw [List.take_add_one, ht, List.map_append]; rfl
theorem woven_cloth {th : List Int} {ti : List (List Int)} {tr : List Int} (h : DraftBy th ti tr) : Cloth (tr.map fun t => th.map fun s => wsign ti t s) th.length tr.length := by
  refine ⟨by simp, fun r hr => ?_, fun r hr c hc => ?_, h.e1, h.e2, h.p1, h.p2⟩
  · obtain ⟨t, _, rfl⟩ := List.mem_map.mp hr
    simp
  · obtain ⟨t, _, rfl⟩ := List.mem_map.mp hr
    obtain ⟨s, _, rfl⟩ := List.mem_map.mp hc
    unfold wsign
    split
    · exact .inl rfl
    · exact .inr rfl

theorem same_ok {t : List Tx} (h : t.length ≤ 1000) : f_law_texts_same t t = .ok true := by
  refine oke ?_
  unfold f_law_texts_same
  refine okif (fun c => by simp at c) fun _ => ?_
  refine okb ok_range fun xs e => ?_
  subst e
  refine okel (N := fun _ => True) (R := fun _ => False) (ok_forFR (fun _ _ => True) (fun _ => False) trivial fun i s hi _ => ?_) (fun s _ => okv rfl) fun r h => h.elim
  unfold f_law_texts_same_l1
  obtain ⟨v, e, _⟩ := ok_get (xs := t) (i := 0 + (i : Int)) (by omega) (by omega)
  rw [e]
  simp only [M.bok]
  refine okb (P := (· = false)) (okif (fun c => by simp at c) fun _ => okv (by simp)) fun c e => ?_
  subst e
  exact okv trivial

theorem flat_one' {α β : Type} (f : α → β) (l : List α) : (l.flatMap fun x => [f x]) = l.map f := by
  induction l with
  | nil => rfl
  | cons a l ih => rw [List.flatMap_cons, ih]; rfl
/-! ### drafts and what they weave -/
structure Rows (th : List Int) (ti : List (List Int)) (tr : List Int) : Prop where
  fit : fitB th ti tr = true
  n1 : ∀ n ∈ th, 0 ≤ n ∧ n ≤ 99
  n2 : ∀ t ∈ ti, t.length ≤ 40 ∧ ∀ n ∈ t, 0 ≤ n ∧ n ≤ 99
  n3 : ∀ n ∈ tr, 0 ≤ n ∧ n ≤ 99
section
variable {th : List Int} {ti : List (List Int)} {tr : List Int}
theorem nums_same {t : List Int} (h : t.length ≤ 1000) : f_law_numbers_same t t = .ok true := by
  refine oke ?_
  unfold f_law_numbers_same
  refine okif (fun c => by simp at c) fun _ => ?_
  refine okb ok_range fun xs e => ?_
  subst e
  refine okel (N := fun _ => True) (R := fun _ => False) (ok_forFR (fun _ _ => True) (fun _ => False) trivial fun i s hi _ => ?_) (fun s _ => okv rfl) fun r h => h.elim
  unfold f_law_numbers_same_l1
  obtain ⟨v, e, _⟩ := ok_get (xs := t) (i := 0 + (i : Int)) (by omega) (by omega)
  rw [e]
  simp only [M.bok]
  refine okb (P := (· = false)) (okif (fun c => by simp at c) fun _ => okif (fun c => by simp at c) fun _ => okv (by simp)) fun c e => ?_
  subst e
  exact okv trivial
theorem draft_same_ok (R : Rows th ti tr) : f_law_draft_same (th, ti, tr, ()) th ti tr = .ok true := by
  have hl := lens_le R.fit
  refine oke ?_
  unfold f_law_draft_same
  show Okm (M.bind (M.bind (M.bind (f_law_numbers_same th th) _) fun c22 => if c22 = true then _ else M.bind (f_law_numbers_same tr tr) _) _) _
  rw [nums_same (by omega), M.bind_ok, M.bind_ok, if_neg (by simp), nums_same (by omega), M.bind_ok, M.bind_ok, if_neg (by simp)]
  refine okif (fun c => by simp at c) fun _ => ?_
  refine okb ok_range fun xs e => ?_
  subst e
  refine okel (N := fun _ => True) (R := fun _ => False) (ok_forFR (fun _ _ => True) (fun _ => False) trivial fun i s hi _ => ?_) (fun s _ => okv rfl) fun r h => h.elim
  unfold f_law_draft_same_l1
  obtain ⟨v, e, hv⟩ := ok_get (xs := ti) (i := 0 + (i : Int)) (by omega) (by omega)
  show Okm (M.bind (M.bind (M.bind (getM ti _) _) _) _) _
  have := (R.n2 v (List.mem_of_getElem? hv)).1
  rw [e, M.bind_ok, M.bind_ok, nums_same (by omega), M.bind_ok, M.bind_ok, if_neg (by simp)]
  exact okv trivial
/-- the cloth of a draft -/
def wov (th : List Int) (ti : List (List Int)) (tr : List Int) : List Tx := tr.map fun t => th.map fun s => wsign ti t s
theorem by_of (R : Rows th ti tr) : DraftBy th ti tr := by
  have hl := lens_le R.fit
  have hf := R.fit
  unfold fitB at hf
  rw [Bool.and_eq_true, Bool.and_eq_true, Bool.and_eq_true] at hf
  obtain ⟨_, f1, f2, f3⟩ := hf
  exact ⟨hl.1, hl.2.1, hl.2.2.1, hl.2.2.2.1, hl.2.2.2.2.1, hl.2.2.2.2.2, fun x hx => by have := List.all_eq_true.mp f1 x hx; simpa using this, fun t ht => ⟨(R.n2 t ht).1, List.all_eq_true.mp f2 t ht⟩, fun x hx => by have := List.all_eq_true.mp f3 x hx; simpa using this⟩
theorem woven_ok (R : Rows th ti tr) : f_woven (th, ti, tr, ()) = .ok (wov th ti tr) := by
  have hl := lens_le R.fit
  have D := by_of R
  unfold f_woven
  show M.bind (forM (f_woven_l1 (th, ti, tr, ())) [] tr) _ = _
  rw [forM_app (N := 100) (h := fun t => [th.map fun s => wsign ti t s]) tr [] (by rw [List.nil_append, flat_one', List.length_map]; omega) fun t ht s hs => ?_, M.bind_ok, List.nil_append, flat_one']
  · rfl
  · rw [List.length_append, List.length_singleton] at hs
    obtain ⟨t0, t1⟩ := D.trs t ht
    obtain ⟨tie, e1, e2⟩ := ok_get (xs := ti) t0 t1
    unfold f_woven_l1
    show M.bind (M.bind (getM ti t) fun y => f_shed_of th y) _ = _
    rw [e1, M.bind_ok]
    have hs1 : f_shed_of th tie = .ok (th.map fun s => wsign ti t s) := by
      unfold f_shed_of
      show M.bind (forM (f_shed_of_l1 tie) [] th) _ = _
      rw [forM_app (N := 100) (h := fun s => [[wsign ti t s]]) th [] (by rw [List.nil_append, flat_one', List.length_map]; omega) fun x hx s hs => ?_, M.bind_ok, List.nil_append, flat_one', tx_nil, oke (ok_join ?_)]
      · congr 1
        exact flat_map_f (f := fun s => wsign ti t s) (l := th)
      · rw [sum_map_f]; omega
      · rw [List.length_append, List.length_singleton] at hs
        have hw : wsign ti t x = if x ∈ tie then 35 else 46 := by unfold wsign; rw [e2]; rfl
        unfold f_shed_of_l1
        rw [tx_hash, tx_dot, hw]
        by_cases c : x ∈ tie
        · rw [if_pos (by simpa using c), if_pos c, oke (ok_push (by omega)), M.bind_ok]
        · rw [if_neg (by simpa using c), if_neg c, oke (ok_push (by omega)), M.bind_ok]
    rw [hs1, M.bind_ok, oke (ok_push (by omega)), M.bind_ok]
end

theorem atP_nat {α : Type} {xs : List α} {i : Nat} {x : α} {put : List α → List α} (h : xs[i]? = some x) : atP (xs, put) (i : Int) = .ok (x, fun y => put (xs.set i y)) := by
  have hl := (List.getElem?_eq_some_iff.mp h).1
  unfold atP L2.ixN
  rw [if_pos (by omega), if_pos (by show (i : Int) < (xs.length : Int); omega), Int.toNat_natCast]
  show (match xs[i]? with | some x => M.ok (x, fun y => put (xs.set i y)) | none => .no) = _
  rw [h]

theorem law_math : ∀ ns : List Int, ns.length ≤ 63 → c_law (ns, ()) = .ok true := by
  intro script hl
  refine oke ?_
  show Okm (f_law script) _
  unfold f_law
  refine okb (okb (numbers_ok hl (by decide) (by decide)) fun numbers ⟨hn, hnr⟩ => draft_by_ok (by rw [hn]; decide) (by rw [hn]; decide) hnr) fun ⟨th, ti, tr, ()⟩ D => ?_
  have D : DraftBy th ti tr := D
  obtain ⟨e1, e2, t1, t2, p1, p2, ths, tis, trs⟩ := id D
  have R : Rows th ti tr := ⟨fit_true e1 e2 t1 t2 p1 p2 ths (fun t ht => (tis t ht).2) trs, fun n h => by have := ths n h; omega, fun t ht => ⟨(tis t ht).1, fun n hn => by have := ((riB_iff _ _).mp (tis t ht).2).1 n hn; omega⟩, fun n h => by have := trs n h; omega⟩
  have hwl : (wov th ti tr).length = tr.length := by unfold wov; rw [List.length_map]
  show Okm (M.bind (compM (fun tie16 => M.ok (some tie16)) ti) fun ties14 => M.bind (f_Draft_init th ties14 tr) _) _
  rw [id_comp (by omega), M.bind_ok, draft_ok, if_pos R.fit, M.bind_ok]
  refine okif (fun c => by simp at c) fun _ => ?_
  show Okm (M.bind (M.bind (getM th (0 : Int)) _) _) _
  refine okb (P := fun _ => True) (okb (ok_get (by omega) (by omega)) fun _ _ => okv trivial) fun y _ => ?_
  refine okb (ok_set (by omega) (by show (0 : Int) < (th.length : Int); omega)) fun _ _ => ?_
  obtain ⟨a, ha⟩ : ∃ a, ti[0]? = some a := ⟨_, List.getElem?_eq_getElem (by omega)⟩
  have al := (tis a (List.mem_of_getElem? ha)).1
  have hq : atP (ti, fun (y : List (List Int)) => y) (0 : Int) = .ok (a, fun y => ti.set 0 y) := atP_nat (i := 0) ha
  rw [hq, M.bind_ok]
  refine okb (ok_push (by show a.length < _; omega)) fun l _ => ?_
  refine okb (ok_push (by show (ti.set 0 l).length < _; rw [List.length_set]; omega)) fun _ _ => ?_
  have hp : popM tr = .ok tr.dropLast := by unfold popM; rw [if_pos (by omega)]
  show Okm (M.bind (popM tr) fun _ => M.bind (M.bind (f_law_draft_same (th, ti, tr, ()) th ti tr) _) _) _
  rw [hp, M.bind_ok, draft_same_ok R, M.bind_ok, M.bind_ok, if_neg (by simp)]
  show Okm (M.bind (f_law_woven_by th ti tr) _) _
  rw [show f_law_woven_by th ti tr = .ok (wov th ti tr) from woven_by_ok D, M.bind_ok, woven_ok R, M.bind_ok, same_ok (by omega), M.bind_ok, M.bind_ok, if_neg (by simp)]
  refine okb (ok_set (by omega) (by rw [hwl]; omega)) fun c1 hc1 => ?_
  refine okb (ok_push (by rw [hc1, List.length_set]; omega)) fun _ _ => ?_
  rw [M.bind_ok, same_ok (by omega), M.bind_ok, if_pos rfl]
  exact okv rfl
/-! ### the head and the end -/
def dds : List He.DefD := ([⟨("_law_numbers", none), "_law_numbers", "_law_numbers", defArgs (topS 12), defBody (topS 12), defScope (topS 12), [], []⟩, ⟨("_law_subset", none), "_law_subset", "_law_subset", defArgs (topS 13), defBody (topS 13), defScope (topS 13), [], []⟩, ⟨("_law_draft_by", none), "_law_draft_by", "_law_draft_by", defArgs (topS 14), defBody (topS 14), defScope (topS 14), [], []⟩, ⟨("tie_rises", none), "tie_rises", "tie_rises", defArgs (topS 6), defBody (topS 6), defScope (topS 6), [], []⟩, ⟨("lists_fit", none), "lists_fit", "lists_fit", defArgs (topS 7), defBody (topS 7), defScope (topS 7), [], []⟩, ⟨("Draft", some "__init__"), "__init__", "Draft.__init__", defArgs ((clsBody (topS 8)).getD 0 (.Pass ⟨0, 0, 0, 0⟩)), defBody ((clsBody (topS 8)).getD 0 (.Pass ⟨0, 0, 0, 0⟩)), defScope ((clsBody (topS 8)).getD 0 (.Pass ⟨0, 0, 0, 0⟩)), [], []⟩, ⟨("_law_numbers_same", none), "_law_numbers_same", "_law_numbers_same", defArgs (topS 16), defBody (topS 16), defScope (topS 16), [], []⟩, ⟨("_law_draft_same", none), "_law_draft_same", "_law_draft_same", defArgs (topS 17), defBody (topS 17), defScope (topS 17), [], []⟩, ⟨("_law_woven_by", none), "_law_woven_by", "_law_woven_by", defArgs (topS 15), defBody (topS 15), defScope (topS 15), [], []⟩, ⟨("shed_of", none), "shed_of", "shed_of", defArgs (topS 9), defBody (topS 9), defScope (topS 9), [], []⟩, ⟨("woven", none), "woven", "woven", defArgs (topS 10), defBody (topS 10), defScope (topS 10), [], []⟩, ⟨("_law_texts_same", none), "_law_texts_same", "_law_texts_same", defArgs (topS 18), defBody (topS 18), defScope (topS 18), [], []⟩, ⟨("law", none), "law", "law", defArgs (topS 19), defBody (topS 19), defScope (topS 19), [], []⟩] : List He.DefD)
def fas : List He.Fa := ([.glo "_law_numbers", .glo "_law_subset", .glo "_law_draft_by", .glo "tie_rises", .glo "lists_fit", .glo "_law_numbers_same", .glo "_law_draft_same", .glo "_law_woven_by", .glo "shed_of", .glo "woven", .glo "_law_texts_same", .glo "law", .glo "Draft", .cls "Draft", .mkr "Draft", .noat "Draft" "threading", .noat "Draft" "ties", .noat "Draft" "treading", .free "bool", .free "int", .free "isinstance", .free "len", .free "list", .free "range", .free "str", .int "MOST_IN_DRAFT" 40, .glo "NoDraft", .exc "NoDraft"] : List He.Fa)
def loose : List Str := (["_wall", "WeaveError", "NoDraft", "MOST_IN_DRAFT", "tie_rises", "lists_fit", "Draft", "shed_of", "woven", "_law_numbers", "_law_subset", "_law_draft_by", "_law_woven_by", "_law_numbers_same", "_law_draft_same", "_law_texts_same"] : List Str)
abbrev hdR : PySem.W.OpenRow := PySem.W.OpenLaw.row PySem.Challenge.rw_heddle_k06_woven
abbrev hk : PySem.W.Hook := He.hookD 6 fas dds
def ob (s : PySem.W.SharedT) : He.AlD := He.obsDG 6 fas dds (HandSHeadRun.getT s)
theorem ob_eq (s : PySem.W.SharedT) : ob s = hk.obs s.abs := He.obsDG_eq (HandSHeadRun.getT_eq s)
theorem run (w : World) : HandSHeadRun.RunEq hdR (PySem.W.view hdR.prog [19]) hk ob 9000 loose w := by intro os; kernel_rfl
theorem facts_of {K : PySem.W.Frag} {h : Heap} {mg : Str → Option Value} {P : Program} {w : World} {base : Heap} (X : K.In h) (G : h.Ns mainGlobals mg) (c : He.SaysD fas dds K) : Facts ⟨P, w, K, mg, base, fun c => He.ga K (ecName c), none⟩ where
  g_bool := He.free_ok X G (c.fact 18 (f := .free "bool") rfl)
  g_int := He.free_ok X G (c.fact 19 (f := .free "int") rfl)
  g_isinstance := He.free_ok X G (c.fact 20 (f := .free "isinstance") rfl)
  g_len := He.free_ok X G (c.fact 21 (f := .free "len") rfl)
  g_list := He.free_ok X G (c.fact 22 (f := .free "list") rfl)
  g_range := He.free_ok X G (c.fact 23 (f := .free "range") rfl)
  g_str := He.free_ok X G (c.fact 24 (f := .free "str") rfl)
  c_MOST_IN_DRAFT := He.int_ok X G (c.fact 25 (f := .int "MOST_IN_DRAFT" 40) rfl)
  x_NoDraft := exF X G rfl (c.fact 26 (f := .glo "NoDraft") rfl) (c.fact 27 (f := .exc "NoDraft") rfl)
  a_Draft := He.cls_ok (c.fact 13 (f := .cls "Draft") rfl)
  n_Draft_threading := He.noat_ok (c.fact 15 (f := .noat "Draft" "threading") rfl)
  n_Draft_ties := He.noat_ok (c.fact 16 (f := .noat "Draft" "ties") rfl)
  n_Draft_treading := He.noat_ok (c.fact 17 (f := .noat "Draft" "treading") rfl)
  d__law_numbers := by
    obtain ⟨fd, F⟩ := c.def_ 0 (d := ⟨("_law_numbers", none), "_law_numbers", "_law_numbers", defArgs (topS 12), defBody (topS 12), defScope (topS 12), [], []⟩) rfl
    exact ⟨_, fd, F, He.glo_ok X G (c.fact 0 (f := .glo "_law_numbers") rfl)⟩
  d__law_subset := by
    obtain ⟨fd, F⟩ := c.def_ 1 (d := ⟨("_law_subset", none), "_law_subset", "_law_subset", defArgs (topS 13), defBody (topS 13), defScope (topS 13), [], []⟩) rfl
    exact ⟨_, fd, F, He.glo_ok X G (c.fact 1 (f := .glo "_law_subset") rfl)⟩
  d__law_draft_by := by
    obtain ⟨fd, F⟩ := c.def_ 2 (d := ⟨("_law_draft_by", none), "_law_draft_by", "_law_draft_by", defArgs (topS 14), defBody (topS 14), defScope (topS 14), [], []⟩) rfl
    exact ⟨_, fd, F, He.glo_ok X G (c.fact 2 (f := .glo "_law_draft_by") rfl)⟩
  d_tie_rises := by
    obtain ⟨fd, F⟩ := c.def_ 3 (d := ⟨("tie_rises", none), "tie_rises", "tie_rises", defArgs (topS 6), defBody (topS 6), defScope (topS 6), [], []⟩) rfl
    exact ⟨_, fd, F, He.glo_ok X G (c.fact 3 (f := .glo "tie_rises") rfl)⟩
  d_lists_fit := by
    obtain ⟨fd, F⟩ := c.def_ 4 (d := ⟨("lists_fit", none), "lists_fit", "lists_fit", defArgs (topS 7), defBody (topS 7), defScope (topS 7), [], []⟩) rfl
    exact ⟨_, fd, F, He.glo_ok X G (c.fact 4 (f := .glo "lists_fit") rfl)⟩
  k_Draft_init := by
    obtain ⟨fd, F⟩ := c.def_ 5 (d := ⟨("Draft", some "__init__"), "__init__", "Draft.__init__", defArgs ((clsBody (topS 8)).getD 0 (.Pass ⟨0, 0, 0, 0⟩)), defBody ((clsBody (topS 8)).getD 0 (.Pass ⟨0, 0, 0, 0⟩)), defScope ((clsBody (topS 8)).getD 0 (.Pass ⟨0, 0, 0, 0⟩)), [], []⟩) rfl
    exact ⟨_, fd, F, He.mkr_ok (c.fact 14 (f := .mkr "Draft") rfl), He.glo_ok X G (c.fact 12 (f := .glo "Draft") rfl)⟩
  d__law_numbers_same := by
    obtain ⟨fd, F⟩ := c.def_ 6 (d := ⟨("_law_numbers_same", none), "_law_numbers_same", "_law_numbers_same", defArgs (topS 16), defBody (topS 16), defScope (topS 16), [], []⟩) rfl
    exact ⟨_, fd, F, He.glo_ok X G (c.fact 5 (f := .glo "_law_numbers_same") rfl)⟩
  d__law_draft_same := by
    obtain ⟨fd, F⟩ := c.def_ 7 (d := ⟨("_law_draft_same", none), "_law_draft_same", "_law_draft_same", defArgs (topS 17), defBody (topS 17), defScope (topS 17), [], []⟩) rfl
    exact ⟨_, fd, F, He.glo_ok X G (c.fact 6 (f := .glo "_law_draft_same") rfl)⟩
  d__law_woven_by := by
    obtain ⟨fd, F⟩ := c.def_ 8 (d := ⟨("_law_woven_by", none), "_law_woven_by", "_law_woven_by", defArgs (topS 15), defBody (topS 15), defScope (topS 15), [], []⟩) rfl
    exact ⟨_, fd, F, He.glo_ok X G (c.fact 7 (f := .glo "_law_woven_by") rfl)⟩
  d_shed_of := by
    obtain ⟨fd, F⟩ := c.def_ 9 (d := ⟨("shed_of", none), "shed_of", "shed_of", defArgs (topS 9), defBody (topS 9), defScope (topS 9), [], []⟩) rfl
    exact ⟨_, fd, F, He.glo_ok X G (c.fact 8 (f := .glo "shed_of") rfl)⟩
  d_woven := by
    obtain ⟨fd, F⟩ := c.def_ 10 (d := ⟨("woven", none), "woven", "woven", defArgs (topS 10), defBody (topS 10), defScope (topS 10), [], []⟩) rfl
    exact ⟨_, fd, F, He.glo_ok X G (c.fact 9 (f := .glo "woven") rfl)⟩
  d__law_texts_same := by
    obtain ⟨fd, F⟩ := c.def_ 11 (d := ⟨("_law_texts_same", none), "_law_texts_same", "_law_texts_same", defArgs (topS 18), defBody (topS 18), defScope (topS 18), [], []⟩) rfl
    exact ⟨_, fd, F, He.glo_ok X G (c.fact 10 (f := .glo "_law_texts_same") rfl)⟩
  d_law := by
    obtain ⟨fd, F⟩ := c.def_ 12 (d := ⟨("law", none), "law", "law", defArgs (topS 19), defBody (topS 19), defScope (topS 19), [], []⟩) rfl
    exact ⟨_, fd, F, He.glo_ok X G (c.fact 11 (f := .glo "law") rfl)⟩
end Hd
open PySem PySem.W PySem.Calls PyProof.Rows
set_option maxHeartbeats 0
theorem PySem.Challenge.cw_heddle_k06_woven_holds : PySem.Challenge.rw_heddle_k06_woven.Holds := by
  w_on; o_law
  refine HandSHeadRun.head_any (r := OpenLaw.row PySem.Challenge.rw_heddle_k06_woven) (q := view (OpenLaw.row PySem.Challenge.rw_heddle_k06_woven).prog [19]) (H := Hd.hk) (ob := Hd.ob) (M := 9000) (loose := Hd.loose) (d := HandSHeadRun.topDef (OpenLaw.row PySem.Challenge.rw_heddle_k06_woven).prog 19) (kwd := []) Hd.ob_eq
    (by kernel_rfl) (fun s => by kernel_rfl) Hd.run (by kernel_rfl) (by kernel_rfl) (by kernel_rfl) (by rfl) (by first | assumption | decide +kernel) (by decide +kernel) ⟨rfl, rfl, rfl, rfl, rfl, by decide +kernel⟩ ?hw ?hc
  case hw => w_witness2
  case hc =>
    refine Hd.law_end (l := PySem.Challenge.rw_heddle_k06_woven) (k := 5) (cl := Hd.c_law) rfl (by kernel_rfl) ⟨rfl, by decide, by decide⟩ ?F Hd.law_math
    intro w mg fa h Y G hmg0
    obtain ⟨K, KX, c⟩ := Y
    have hmg : mg ("law" : PySem.Str) = some (.ref fa) := by
      have e : (HandSHeadRun.topDef (OpenLaw.row PySem.Challenge.rw_heddle_k06_woven).prog 19).name = ("law" : PySem.Str) := by kernel_rfl
      rw [← e]
      exact hmg0
    obtain ⟨f, fd, hF, hm⟩ := (Hd.facts_of (P := (PySem.Challenge.rw_heddle_k06_woven).prog) (w := w) (base := h) KX G c).d_law
    have e := hm.symm.trans hmg
    cases e
    exact ⟨K, fd, fun c => He.ga K (Hd.ecName c), KX, fun s v => Hd.L2_bindsA hF s v, fun base => Hd.fnok_law (Hd.facts_of KX G c) hF⟩
