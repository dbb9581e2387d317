import PyProof.Rows.All
import Wide.All
import OpenK.AllK
import Wide.FinOn
import HandS.Base
import HandS.Call
import HandS.List
import HandS.Comp
import HandS.Ends
import HandS.Dict
import HandS.Iter
import HandS.Text
import HandS.Words
import HandS.WordsList
import HandS.Exc
import HandS.TryOnly
import HandS.ExcOwn
import HandS.Defaults
import HandS.Lambda
import HandS.Flow
import HandS.RaiseOp
import HandS.TryElse
import HandS.Wide
import HandS.StrMore
import HandS.StrSplit
import HandS.WordsExc
import HandS.Strs
import HandS.IsInst
import HandS.SetFor
import KE.KStateDown
import HandS.Head0
import HandS.Head1
import HandS.Head2
import HandS.HeadEnd
import HandS.HeadHook1
import HandS.HeadHook2
import PyProof.Rows.RegReprOcc
import PyProof.StrOps2
import HandS.ExcIs
import HandS.TryMany
import KE.KExcMore
import HandS.Deep
import PyProof.Draws
import PyProof.EnumMake
import PyProof.LongRange
import KE.GoesZip
import KE.GoesMore
import HandS.RevTup
import HandS.Small
import HandS.Conv
import HandS.Rev
import KE.SortKeyHeap
import HandS.Nested
import HandS.Sort
import HandS.HeadWalk
import HandS.HeadHook4
import HandS.More
import HandS.WideBits
import PyProof.ListIndexNeg
import KE.DataCmp
import KE.SortData
import PySem.Challenge.RW_heddle_k30_round_or_lifted
set_option Elab.async false
set_option linter.all false
set_option maxRecDepth 100000
set_option maxHeartbeats 0
set_option exponentiation.threshold 20000
namespace Hd
open PySem PySem.Spec L2

/-- the classes of refusals -/
inductive Ec where
  | weave | noRow | tooLarge | noCloth | noDraft | noStrand | noDeed | noLaying | noShuttle | noColour | noBlock | noPattern | unknown | twice
  deriving DecidableEq, Repr

/-- what a piece of the program comes to: a value, a refusal, or nothing that is promised here -/
inductive M (α : Type) where
  | ok (a : α)
  | ex (c : Ec)
  | no
def M.bind {α β : Type} : M α → (α → M β) → M β
  | .ok a, f => f a
  | .ex c, _ => .ex c
  | .no, _ => .no
/-- where nothing can be let out -/
def M.nox {α : Type} : M α → M α
  | .ok a => .ok a
  | _ => .no
@[simp] theorem M.bind_ok {α β : Type} (a : α) (f : α → M β) : M.bind (.ok a) f = f a := rfl
@[simp] theorem M.bind_ex {α β : Type} (c : Ec) (f : α → M β) : M.bind (.ex c) f = .ex c := rfl
@[simp] theorem M.bind_no {α β : Type} (f : α → M β) : M.bind .no f = .no := rfl
@[simp] theorem M.nox_ok {α : Type} (a : α) : M.nox (.ok a) = .ok a := rfl

/-- all but the tables of code objects -/
def nt : HO → Bool
  | .tbl _ => false
  | _ => true
def cl (H : Hp) : Hp := fun a => match H a with
  | some (.tbl _) => none
  | x => x
theorem cl_of {H : Hp} {a : Addr} {o : HO} (h : H a = some o) (n : nt o = true := by rfl) : cl H a = some o := by
  unfold cl; rw [h]; cases o <;> first | rfl | cases n
theorem cl_raw {H : Hp} {a : Addr} {o : HO} (h : cl H a = some o) : H a = some o := by
  unfold cl at h; split at h <;> first | exact h | cases h
theorem cl_nt {H : Hp} {a : Addr} {o : HO} (h : cl H a = some o) : nt o = true := by
  unfold cl at h
  split at h
  · cases h
  · rename_i x hx
    cases o <;> first | rfl | exact absurd h (hx _)
theorem cl_none {H : Hp} {a : Addr} (h : H a = none) : cl H a = none := by unfold cl; rw [h]
theorem cl_upd_ne {H : Hp} {a q : Addr} {o : HO} (h : a ≠ q) : cl (upd H q o) a = cl H a := by unfold cl; rw [upd_ne h]
/-- the one lambda of the program: its name -/
def lamQ : Str := "by_count.<locals>.<lambda>"
/-- a later heap: tables may have grown -/
structure Same (H H' : Hp) : Prop where
  keep : ∀ a o, H a = some o → nt o = true → H' a = some o
  fr : ∀ a, H' a = none → H a = none
  tab : ∀ P, LamX.TabS H P lamQ → LamX.TabS H' P lamQ
theorem Same.of {H H' : Hp} (h : L2.Same H H') : Same H H' := ⟨fun a o e _ => h a o e, fun a e => h.free e, fun P t => t.ext h⟩
theorem Same.refl (H : Hp) : Same H H := .of (L2.Same.refl H)
theorem Same.trans {H H1 H2 : Hp} (a : Same H H1) (b : Same H1 H2) : Same H H2 := ⟨fun x o e n => b.keep x o (a.keep x o e n) n, fun x e => a.fr x (b.fr x e), fun P t => b.tab P (a.tab P t)⟩
theorem Same.free {H H' : Hp} (s : Same H H') {l : Addr} (h : H' l = none) : H l = none := s.fr l h
theorem Same.cl {H H' : Hp} (s : Same H H') : L2.Same (cl H) (cl H') := fun a o e => cl_of (s.keep a o (cl_raw e) (cl_nt e)) (cl_nt e)
/-- a thing of one's own is written -/
theorem Same.wr {H0 H : Hp} {q : Addr} {o u : HO} (s : Same H0 H) (n0 : H0 q = none) (hq : H q = some u) (hu : ∀ φ, u ≠ .ext φ) (hn : nt u = true) : Same H0 (upd H q o) := by
  refine ⟨fun a o' e n => ?_, fun a e => ?_, fun P t => ?_⟩
  · rw [upd_ne (ne_of_none e n0)]; exact s.keep a o' e n
  · by_cases z : a = q
    · rw [z, upd_same] at e; cases e
    · rw [upd_ne z] at e; exact s.fr a e
  · obtain ⟨ps, h1, h2, h3⟩ := s.tab P t
    have np : P ≠ q := fun z => by rw [z, hq] at h1; cases h1; cases hn
    refine ⟨ps, by rw [upd_ne np]; exact h1, h2, fun pos cv hc => ?_⟩
    obtain ⟨c, e1, e2⟩ := h3 pos cv hc
    have nc : c ≠ q := fun z => by rw [z, hq] at e2; exact hu _ (Option.some.inj e2)
    exact ⟨c, e1, by rw [upd_ne nc]; exact e2⟩
/-- what may be read -/
abbrev RdR := Addr → HO → Prop
/-- data of a kind, and how a value of the program stands for it -/
structure Ty (α : Type) where
  rep : α → V → RdR → Prop
  mono : ∀ {d v} {R R' : RdR}, rep d v R → (∀ a o, R a o → R' a o) → rep d v R'

inductive Reps {α : Type} (T : Ty α) (R : RdR) : List α → List V → Prop where
  | nil : Reps T R [] []
  | cons {d ds v vs} : T.rep d v R → Reps T R ds vs → Reps T R (d :: ds) (v :: vs)
section
variable {α : Type} {T : Ty α} {R R' : RdR} {ds es : List α} {vs ws : List V}
theorem Reps.mono (h : Reps T R ds vs) (s : ∀ a o, R a o → R' a o) : Reps T R' ds vs := by
  induction h with
  | nil => exact .nil
  | cons r _ ih => exact .cons (T.mono r s) ih
theorem Reps.length (h : Reps T R ds vs) : ds.length = vs.length := by
  induction h with
  | nil => rfl
  | cons _ _ ih => simp [ih]
theorem Reps.append (h : Reps T R ds vs) (k : Reps T R es ws) : Reps T R (ds ++ es) (vs ++ ws) := by
  induction h with
  | nil => exact k
  | cons r _ ih => exact .cons r ih
theorem Reps.get (h : Reps T R ds vs) : ∀ {i : Nat} {d : α}, ds[i]? = some d → ∃ v, vs[i]? = some v ∧ T.rep d v R := by
  induction h with
  | nil => intro i d e; simp at e
  | cons r _ ih =>
    intro i d e
    cases i with
    | zero => simp at e; subst e; exact ⟨_, rfl, r⟩
    | succ i => obtain ⟨v, e1, r1⟩ := ih (i := i) (d := d) (by simpa using e); exact ⟨v, by simpa using e1, r1⟩
theorem Reps.get' (h : Reps T R ds vs) : ∀ {i : Nat} {v : V}, vs[i]? = some v → ∃ d, ds[i]? = some d ∧ T.rep d v R := by
  induction h with
  | nil => intro i d e; simp at e
  | cons r _ ih =>
    intro i d e
    cases i with
    | zero => simp at e; subst e; exact ⟨_, rfl, r⟩
    | succ i => obtain ⟨v, e1, r1⟩ := ih (i := i) (v := d) (by simpa using e); exact ⟨v, by simpa using e1, r1⟩
theorem Reps.set {d : α} {v : V} (h : Reps T R ds vs) (r : T.rep d v R) : ∀ (i : Nat), Reps T R (ds.set i d) (vs.set i v) := by
  induction h with
  | nil => intro i; exact .nil
  | cons q t ih =>
    intro i
    cases i with
    | zero => exact .cons r t
    | succ i => exact .cons q (ih i)
theorem Reps.take (h : Reps T R ds vs) : ∀ n, Reps T R (ds.take n) (vs.take n) := by
  induction h with
  | nil => intro n; simp; exact .nil
  | cons r _ ih => intro n; cases n with
    | zero => exact .nil
    | succ n => exact .cons r (ih n)
theorem Reps.drop (h : Reps T R ds vs) : ∀ n, Reps T R (ds.drop n) (vs.drop n) := by
  induction h with
  | nil => intro n; simp; exact .nil
  | cons r t ih => intro n; cases n with
    | zero => exact .cons r t
    | succ n => exact ih n
theorem Reps.reverse (h : Reps T R ds vs) : Reps T R ds.reverse vs.reverse := by
  induction h with
  | nil => exact .nil
  | cons r _ ih => rw [List.reverse_cons, List.reverse_cons]; exact ih.append (.cons r .nil)
theorem Reps.dropLast (h : Reps T R ds vs) : Reps T R ds.dropLast vs.dropLast := by
  rw [List.dropLast_eq_take, List.dropLast_eq_take, h.length]; exact h.take _
end

/-! ### kinds of data -/
def tInt : Ty Int := ⟨fun n v _ => v = .int n, fun h _ => h⟩
def tBool : Ty Bool := ⟨fun b v _ => v = .bl b, fun h _ => h⟩
/-- a text, as its signs -/
abbrev Tx := List Nat
def toS (x : Tx) : Str := ⟨x.toArray⟩
/-- short enough, of signs -/
def OkTx (x : Tx) : Prop := x.length ≤ sizeLine ∧ ∀ c ∈ x, c < 0x110000
def tStr : Ty Tx := ⟨fun x v _ => v = .str (toS x) ∧ OkTx x, fun h _ => h⟩
def tNone : Ty Unit := ⟨fun _ v _ => v = .non, fun h _ => h⟩
def tOpt {α : Type} (T : Ty α) : Ty (Option α) := ⟨fun d v R => match d with | none => v = .non | some d => T.rep d v R ∧ v ≠ .non, fun {d v R R'} h s => by
  cases d with
  | none => exact h
  | some d => exact ⟨T.mono h.1 s, h.2⟩⟩
def tList {α : Type} (T : Ty α) : Ty (List α) := ⟨fun ds v R => ∃ a vs, v = .ref a ∧ R a (.lst vs) ∧ Reps T R ds vs, fun ⟨a, vs, e, r, h⟩ s => ⟨a, vs, e, s _ _ r, h.mono s⟩⟩
/-- a tuple of any length -/
def tTupL {α : Type} (T : Ty α) : Ty (List α) := ⟨fun ds v R => ∃ a vs, v = .ref a ∧ R a (.tup vs) ∧ Reps T R ds vs, fun ⟨a, vs, e, r, h⟩ s => ⟨a, vs, e, s _ _ r, h.mono s⟩⟩
/-- the written items of a list, an argument list, a tuple -/
structure Ar (δ : Type) where
  rep : δ → List V → RdR → Prop
  mono : ∀ {d vs} {R R' : RdR}, rep d vs R → (∀ a o, R a o → R' a o) → rep d vs R'
def aNil : Ar Unit := ⟨fun _ vs _ => vs = [], fun h _ => h⟩
def aCons {α β : Type} (T : Ty α) (A : Ar β) : Ar (α × β) := ⟨fun d vs R => ∃ v r, vs = v :: r ∧ T.rep d.1 v R ∧ A.rep d.2 r R, fun ⟨v, r, e, h1, h2⟩ s => ⟨v, r, e, T.mono h1 s, A.mono h2 s⟩⟩
/-- a tuple of written items -/
def tTup {δ : Type} (A : Ar δ) : Ty δ := ⟨fun d v R => ∃ a vs, v = .ref a ∧ R a (.tup vs) ∧ A.rep d vs R, fun ⟨a, vs, e, r, h⟩ s => ⟨a, vs, e, s _ _ r, A.mono h s⟩⟩
abbrev tPair {α β : Type} (S : Ty α) (T : Ty β) : Ty (α × β × Unit) := tTup (aCons S (aCons T aNil))
abbrev tTrip {α β γ : Type} (S : Ty α) (T : Ty β) (U : Ty γ) : Ty (α × β × γ × Unit) := tTup (aCons S (aCons T (aCons U aNil)))
/-- all items of one kind -/
def aAll {α : Type} (T : Ty α) : Ar (List α) := ⟨fun ds vs R => Reps T R ds vs, fun h s => h.mono s⟩

/-! ### what may be read where -/
/-- a tuple of the written part -/
def KObj (K : PySem.W.Frag) (a : Addr) : HO → Prop
  | .tup xs => ∃ (o : Obj) (its : Array Value) (n : Nat), K.lookup a = some o ∧ o.cls = .type "tuple" ∧ o.data = .seq its n ∧ its.size ≤ sizeLine ∧ Vals xs its.toList
  | _ => False
/-- a def's frame: the heap it began with; the callers' own things, which its arguments don't reach -/
structure Fm where
  K : PySem.W.Frag
  H0 : Hp
  z : Addr → Prop
/-- how new a thing is: sh: it may be shared; f0: made since the def began; fx: made since the expression began -/
inductive Md where | sh | f0 | fx
def RD (fm : Fm) (own : List Addr) (H : Hp) : RdR := fun a o => (Rd (cl H) a o ∧ a ∉ own ∧ ¬ fm.z a) ∨ KObj fm.K a o
/-- .. at H' behind an expression that began at H -/
def RX (fm : Fm) (own : List Addr) (H H' : Hp) : Md → RdR
  | .sh => RD fm own H'
  | .f0 => fun a o => cl H' a = some o ∧ a ∉ own ∧ ¬ fm.z a ∧ fm.H0 a = none
  | .fx => fun a o => cl H' a = some o ∧ a ∉ own ∧ ¬ fm.z a ∧ fm.H0 a = none ∧ H a = none
theorem Rd.clo {H : Hp} {a : Addr} {o : HO} (r : Rd H a o) (n : nt o = true := by rfl) : Rd (cl H) a o := r.imp (fun h => cl_of h n) fun ⟨f, h⟩ => ⟨f, cl_of h⟩
theorem Rd.raw {H : Hp} {a : Addr} {o : HO} (r : Rd (cl H) a o) : Rd H a o := r.imp cl_raw fun ⟨f, h⟩ => ⟨f, cl_raw h⟩
theorem Rd.same {H H' : Hp} {a : Addr} {o : HO} (s : Same H H') (r : Rd (cl H) a o) : Rd (cl H') a o := by
  rcases r with r | ⟨f, r⟩
  · exact .inl (s.cl _ _ r)
  · exact .inr ⟨f, s.cl _ _ r⟩
theorem Rd.some {H : Hp} {a : Addr} {o : HO} (r : Rd H a o) : H a ≠ none := by
  rcases r with r | ⟨f, r⟩ <;> rw [r] <;> exact fun e => by cases e
theorem RD.same {fm : Fm} {own : List Addr} {H H' : Hp} (s : Same H H') : ∀ a o, RD fm own H a o → RD fm own H' a o := fun _ _ r => r.imp (fun ⟨r, h⟩ => ⟨Rd.same s r, h⟩) id
theorem RX.same {fm : Fm} {own : List Addr} {H H1 H2 : Hp} {md : Md} (s : Same H1 H2) : ∀ a o, RX fm own H H1 md a o → RX fm own H H2 md a o := fun a o r => by
  cases md with
  | sh => exact RD.same s a o r
  | f0 => exact ⟨s.cl _ _ r.1, r.2⟩
  | fx => exact ⟨s.cl _ _ r.1, r.2⟩
/-- from a later beginning -/
theorem RX.later {fm : Fm} {own : List Addr} {H H1 H2 : Hp} {md : Md} (s : Same H H1) : ∀ a o, RX fm own H1 H2 md a o → RX fm own H H2 md a o := fun a o r => by
  cases md with
  | sh => exact r
  | f0 => exact r
  | fx => exact ⟨r.1, r.2.1, r.2.2.1, r.2.2.2.1, s.free r.2.2.2.2⟩
theorem RX.sh {fm : Fm} {own : List Addr} {H H' : Hp} {md : Md} : ∀ a o, RX fm own H H' md a o → RX fm own H H' .sh a o := fun a o r => by
  cases md with
  | sh => exact r
  | f0 => exact .inl ⟨.inl r.1, r.2.1, r.2.2.1⟩
  | fx => exact .inl ⟨.inl r.1, r.2.1, r.2.2.1⟩
theorem RX.f0 {fm : Fm} {own : List Addr} {H H' : Hp} : ∀ a o, RX fm own H H' .fx a o → RX fm own H H' .f0 a o := fun a o r => ⟨r.1, r.2.1, r.2.2.1, r.2.2.2.1⟩
theorem RX.fx {fm : Fm} {own : List Addr} {H H' : Hp} (md : Md) : ∀ a o, RX fm own H H' .fx a o → RX fm own H H' md a o := fun a o r => by
  cases md with
  | sh => exact RX.sh a o r
  | f0 => exact RX.f0 a o r
  | fx => exact r
/-- what can be read is there -/
theorem RX.list {fm : Fm} {own : List Addr} {H H' : Hp} {md : Md} {a : Addr} {vs : List V} (r : RX fm own H H' md a (.lst vs)) : SqL fm.K H' a vs := by
  rcases RX.sh a _ r with r | r
  · exact .inl (Rd.raw r.1)
  · exact r.elim
theorem RX.tup {fm : Fm} {own : List Addr} {H H' : Hp} {md : Md} {a : Addr} {vs : List V} (r : RX fm own H H' md a (.tup vs)) : SqT fm.K H' a vs := by
  rcases RX.sh a _ r with r | r
  · exact .inl (Rd.raw r.1)
  · exact .inr r

/-! ### slots -/
structure Slot where
  ok : Option V → Hp → (Bool → RdR) → List Addr → Prop
  st : ∀ {v H H' F} {R R' : Bool → RdR}, ok v H R F → (∀ b a o, R b a o → R' b a o) → (∀ p ∈ F, H' p = H p) → ok v H' R' F
  tb : ∀ {v H F} {R : Bool → RdR}, ok v H R F → ∀ p ∈ F, cl H p ≠ none
/-- nothing is known of it -/
def sAny : Slot := ⟨fun _ _ _ F => F = [], fun h _ _ => h, fun h p hp => by subst h; exact nomatch hp⟩
/-- a value (b: made since the def began) -/
def sV {α : Type} (b : Bool) (T : Ty α) (d : α) : Slot := ⟨fun v _ R F => F = [] ∧ ∃ x, v = some x ∧ T.rep d x (R b), fun ⟨e, x, h, r⟩ s _ => ⟨e, x, h, T.mono r (s b)⟩, fun ⟨e, _⟩ p hp => by subst e; exact nomatch hp⟩
/-- a list of one's own, which may be changed -/
def sOwn {α : Type} (b : Bool) (T : Ty α) (ds : List α) : Slot := ⟨fun v H R F => ∃ p xs, v = some (.ref p) ∧ F = [p] ∧ H p = some (.lst xs) ∧ Reps T (R b) ds xs,
  fun ⟨p, xs, e, f, h, r⟩ s k => ⟨p, xs, e, f, by rw [k p (by simp [f])]; exact h, r.mono (s b)⟩, fun ⟨p, xs, e, f, h, r⟩ q hq => by subst f; rw [List.mem_singleton.mp hq, cl_of h]; exact fun z => nomatch z⟩
inductive AllS (H : Hp) (R : Bool → RdR) : List Slot → L2.St → List (List Addr) → Prop where
  | nil : AllS H R [] [] []
  | cons {s L v σ F Fs} : s.ok v H R F → AllS H R L σ Fs → AllS H R (s :: L) (v :: σ) (F :: Fs)
def RB (fm : Fm) (own : List Addr) (H : Hp) (b : Bool) : RdR := RX fm own H H (if b then .f0 else .sh)
section
variable {H H' : Hp} {R R' : Bool → RdR} {L : List Slot} {σ : L2.St} {Fs : List (List Addr)}
theorem AllS.st (h : AllS H R L σ Fs) (s : ∀ b a o, R b a o → R' b a o) (k : ∀ p ∈ Fs.flatten, H' p = H p) : AllS H' R' L σ Fs := by
  induction h with
  | nil => exact .nil
  | @cons sl L v σ F Fs r t ih =>
    exact .cons (sl.st r s fun p hp => k p (by simp [hp])) (ih fun p hp => k p (by simp only [List.flatten_cons, List.mem_append]; exact .inr hp))
theorem AllS.tb (h : AllS H R L σ Fs) : ∀ p ∈ Fs.flatten, cl H p ≠ none := by
  induction h with
  | nil => intro p hp; simp at hp
  | @cons s L v σ F Fs r _ ih =>
    intro p hp
    rw [List.flatten_cons, List.mem_append] at hp
    exact hp.elim (s.tb r p) (ih p)
theorem AllS.len (h : AllS H R L σ Fs) : σ.length = L.length := by
  induction h with
  | nil => rfl
  | cons _ _ ih => simp [ih]
theorem AllS.get (h : AllS H R L σ Fs) : ∀ {i : Nat} {s : Slot}, L[i]? = some s → ∃ v F, σ[i]? = some v ∧ Fs[i]? = some F ∧ s.ok v H R F := by
  induction h with
  | nil => intro i s e; simp at e
  | cons r _ ih =>
    intro i s e
    cases i with
    | zero => simp at e; subst e; exact ⟨_, _, rfl, rfl, r⟩
    | succ i => obtain ⟨v, F, e1, e2, r1⟩ := ih (i := i) (s := s) (by simpa using e); exact ⟨v, F, by simpa using e1, by simpa using e2, r1⟩
theorem AllS.set (h : AllS H R L σ Fs) {s : Slot} {v : Option V} {F : List Addr} (r : s.ok v H R F) : ∀ (i : Nat), AllS H R (L.set i s) (σ.set i v) (Fs.set i F) := by
  induction h with
  | nil => intro i; exact .nil
  | cons q t ih =>
    intro i
    cases i with
    | zero => exact .cons r t
    | succ i => exact .cons q (ih i)
end

/-- where a def's body stands: its frame, its slots, what it owns, what is kept readable -/
structure At (fm : Fm) (kp : RdR) (L : List Slot) (σ : L2.St) (H : Hp) (own : List Addr) : Prop where
  same : Same fm.H0 H
  zin : ∀ a, fm.z a → H a ≠ none
  sl : ∃ Fs, AllS H (RB fm own H) L σ Fs ∧ own = Fs.flatten
  nd : own.Nodup
  new : ∀ p ∈ own, H p ≠ none ∧ fm.H0 p = none ∧ ¬ fm.z p
  kept : ∀ a o, kp a o → RD fm own H a o
theorem RB.same {fm : Fm} {own : List Addr} {H H' : Hp} (s : Same H H') : ∀ b a o, RB fm own H b a o → RB fm own H' b a o := fun b a o r => by
  unfold RB at r ⊢
  cases b <;> exact RX.same s a o r
section
variable {fm : Fm} {kp : RdR} {L : List Slot} {σ : L2.St} {H H' : Hp} {own : List Addr}
theorem At.ext (h : At fm kp L σ H own) (s : Same H H') : At fm kp L σ H' own := by
  obtain ⟨h1, h2, ⟨Fs, h3, e⟩, h4, h5, h6⟩ := h
  refine ⟨h1.trans s, fun a z n => h2 a z (s.free n), ⟨Fs, h3.st (RB.same s) fun p hp => ?_, e⟩, h4, fun p hp => ?_, fun a o k => RD.same s a o (h6 a o k)⟩
  · obtain ⟨q, _⟩ := h5 p (by rw [e]; exact hp)
    cases r : cl H p with
    | none => exact absurd r (h3.tb p hp)
    | some o => rw [cl_raw r]; exact s.keep _ _ (cl_raw r) (cl_nt r)
  · obtain ⟨q, q2⟩ := h5 p hp
    refine ⟨fun z => q (s.free z), q2⟩
end

/-! ### weakening -/
/-- some slots forgotten -/
inductive Wk : List Slot → List Slot → Prop where
  | n : Wk [] []
  | s {s L L'} : Wk L L' → Wk (s :: L) (s :: L')
  | a {s L L'} : Wk L L' → Wk (s :: L) (sAny :: L')
theorem Wk.refl : ∀ L, Wk L L
  | [] => .n
  | _ :: L => .s (Wk.refl L)
theorem Wk.anys : ∀ {L : List Slot} {n : Nat}, L.length = n → Wk L (List.replicate n sAny)
  | [], _, e => by subst e; exact .n
  | _ :: L, _, e => by subst e; exact Wk.a (Wk.anys (L := L) rfl)
theorem RX.own {fm : Fm} {own own' : List Addr} {H H' : Hp} {md : Md} (k : ∀ p ∈ own', p ∈ own) : ∀ a o, RX fm own H H' md a o → RX fm own' H H' md a o := fun a o r => by
  cases md with
  | sh => exact r.imp (fun ⟨h1, h2, h3⟩ => ⟨h1, fun q => h2 (k a q), h3⟩) id
  | f0 => exact ⟨r.1, fun q => r.2.1 (k a q), r.2.2⟩
  | fx => exact ⟨r.1, fun q => r.2.1 (k a q), r.2.2⟩
theorem RB.own {fm : Fm} {own own' : List Addr} {H : Hp} (k : ∀ p ∈ own', p ∈ own) : ∀ b a o, RB fm own H b a o → RB fm own' H b a o := fun _ a o r => RX.own k a o r
theorem wk_fs {H : Hp} {R : Bool → RdR} {L L' : List Slot} (w : Wk L L') : ∀ {σ : L2.St} {Fs : List (List Addr)}, AllS H R L σ Fs → ∃ Fs', AllS H R L' σ Fs' ∧ List.Sublist Fs'.flatten Fs.flatten := by
  induction w with
  | n => intro σ Fs h; exact ⟨Fs, h, List.Sublist.refl _⟩
  | s _ ih =>
    intro σ Fs h
    cases h with
    | @cons _ _ _ _ F _ r t =>
      obtain ⟨Fs', h', k⟩ := ih t
      exact ⟨F :: Fs', .cons r h', by simpa using List.Sublist.append (List.Sublist.refl F) k⟩
  | a _ ih =>
    intro σ Fs h
    cases h with
    | @cons _ _ _ _ F _ r t =>
      obtain ⟨Fs', h', k⟩ := ih t
      exact ⟨[] :: Fs', .cons rfl h', by simpa using List.Sublist.trans k (List.sublist_append_right F _)⟩
section
variable {fm : Fm} {kp kp' : RdR} {L L' : List Slot} {σ : L2.St} {H H' : Hp} {own : List Addr}
theorem At.weak (h : At fm kp L σ H own) (w : Wk L L') : ∃ own', At fm kp L' σ H own' ∧ ∀ p ∈ own', p ∈ own := by
  obtain ⟨h1, h2, ⟨Fs, h3, rfl⟩, h4, h5, h6⟩ := h
  obtain ⟨Fs', h7, k⟩ := wk_fs w h3
  have kk : ∀ p ∈ Fs'.flatten, p ∈ Fs.flatten := fun p hp => k.subset hp
  exact ⟨_, ⟨h1, h2, ⟨Fs', h7.st (RB.own kk) fun _ _ => rfl, rfl⟩, h4.sublist k, fun p hp => h5 p (kk p hp), fun a o q => RX.own (md := .sh) (H := H) kk a o (h6 a o q)⟩, kk⟩
theorem At.keep (h : At fm kp L σ H own) (k : ∀ a o, kp' a o → kp a o) : At fm kp' L σ H own := ⟨h.same, h.zin, h.sl, h.nd, h.new, fun a o q => h.kept a o (k a o q)⟩
/-- the slots' count -/
theorem At.len (h : At fm kp L σ H own) : σ.length = L.length := by
  obtain ⟨_, h3, _⟩ := h.sl
  exact h3.len
/-- a slot that owns nothing is set to a thing that owns nothing -/
theorem set_same_nil {Fs : List (List Addr)} : ∀ {i : Nat}, Fs[i]? = some [] → (Fs.set i []).flatten = Fs.flatten := by
  induction Fs with
  | nil => intro i _; rfl
  | cons F Fs ih =>
    intro i e
    cases i with
    | zero => simp at e; subst e; rfl
    | succ i => simp only [List.set_cons_succ, List.flatten_cons]; rw [ih (by simpa using e)]
theorem set_sub {Fs : List (List Addr)} : ∀ {i : Nat}, List.Sublist (Fs.set i []).flatten Fs.flatten := by
  induction Fs with
  | nil => intro i; exact List.Sublist.refl _
  | cons F Fs ih =>
    intro i
    cases i with
    | zero => simpa using List.sublist_append_right F _
    | succ i => simpa using List.Sublist.append (List.Sublist.refl F) (ih (i := i))
theorem At.setV {i : Nat} {b : Bool} {α : Type} {T : Ty α} {d : α} {v : V} (h : At fm kp L σ H own) (r : T.rep d v (RB fm own H b)) : ∃ own', At fm kp (L.set i (sV b T d)) (σ.set i (some v)) H own' := by
  obtain ⟨h1, h2, ⟨Fs, h3, rfl⟩, h4, h5, h6⟩ := h
  have kk : ∀ p ∈ (Fs.set i []).flatten, p ∈ Fs.flatten := fun p hp => (set_sub (i := i)).subset hp
  refine ⟨_, h1, h2, ⟨Fs.set i [], (h3.st (RB.own kk) fun _ _ => rfl).set (s := sV b T d) ⟨rfl, v, rfl, T.mono r (RB.own kk b)⟩ i, rfl⟩, h4.sublist set_sub, fun p hp => h5 p (kk p hp), fun a o q => RX.own (md := .sh) (H := H) kk a o (h6 a o q)⟩
end

/-! ### judgements -/
/-- what is wanted of a refusal -/
abbrev Wx := Ec → L2.St → Hp → Prop
structure G where
  X : Cx
  fm : Fm
  W : Wx
  LX : List Slot
/-- an expression that is worth m, told as T; md: how new it is -/
def tE (fm : Fm) (W : Wx) (L : List Slot) (md : Md) {α : Type} (T : Ty α) (m : M α) : TE := fun σ H Q => ∃ kp own, At fm kp L σ H own ∧
  match m with
  | .ok d => ∀ v H', Same H H' → T.rep d v (RX fm own H H' md) → Q v H'
  | .ex c => ∀ H', Same H H' → W c σ H'
  | .no => False
def tT (fm : Fm) (W : Wx) (L : List Slot) (m : M Bool) : TT := fun σ H Q => ∃ kp own, At fm kp L σ H own ∧
  match m with
  | .ok d => ∀ H', Same H H' → Q d H'
  | .ex c => ∀ H', Same H H' → W c σ H'
  | .no => False
def tA (fm : Fm) (W : Wx) (L : List Slot) (md : Md) {δ : Type} (A : Ar δ) (m : M δ) : TA := fun σ H Q => ∃ kp own, At fm kp L σ H own ∧
  match m with
  | .ok d => ∀ vs H', Same H H' → A.rep d vs (RX fm own H H' md) → Q vs H'
  | .ex c => ∀ H', Same H H' → W c σ H'
  | .no => False
/-- a list that the expression makes -/
def tL (fm : Fm) (W : Wx) (L : List Slot) (md : Md) {α : Type} (S : Ty α) (m : M (List α)) : TE := fun σ H Q => ∃ kp own, At fm kp L σ H own ∧
  match m with
  | .ok ds => ∀ p vs H', Same H H' → H p = none → H' p = some (.lst vs) → Reps S (RX fm (p :: own) H H' md) ds vs → Q (.ref p) H'
  | .ex c => ∀ H', Same H H' → W c σ H'
  | .no => False
def EvL (g : G) (L : List Slot) (e : Expr) (md : Md) {α : Type} (S : Ty α) (m : M (List α)) : Prop := PE g.X e (tL g.fm g.W L md S m)
def EvE (g : G) (L : List Slot) (e : Expr) (md : Md) {α : Type} (T : Ty α) (m : M α) : Prop := PE g.X e (tE g.fm g.W L md T m)
def EvT (g : G) (L : List Slot) (e : Expr) (m : M Bool) : Prop := PT g.X e (tT g.fm g.W L m)
def EvA (g : G) (L : List Slot) (es : List Expr) (md : Md) {δ : Type} (A : Ar δ) (m : M δ) : Prop := PA g.X es (tA g.fm g.W L md A m)

/-- how a block ends -/
inductive Out where
  | nx (L : List Slot)
  | ct (L : List Slot)
  | go (L : List Slot)
  | rt {ρ : Type} (md : Bool) (T : Ty ρ) (r : ρ)
  | rtL {ρ : Type} (md : Bool) (T : Ty ρ) (r : List ρ)
  | bad
def Out.cut : Out → Out
  | .go L => .ct L
  | .nx _ => .bad
  | o => o
/-- .. of what is handed back; q: not by this one -/
def RT (fm : Fm) (H' : Hp) (b : Bool) (q : Option Addr := none) : RdR := RX fm q.toList H' H' (if b then .f0 else .sh)
def OutOk (fm : Fm) (kp : RdR) (E : Ends) : Out → Prop
  | .nx L => ∀ σ H own, At fm kp L σ H own → E.nx σ H
  | .ct L => ∀ σ H own, At fm kp L σ H own → E.ct σ H
  | .go L => ∀ σ H own, At fm kp L σ H own → E.nx σ H ∧ E.ct σ H
  | .rt md T r => ∀ v H', Same fm.H0 H' → T.rep r v (RT fm H' md) → E.rt v H'
  | .rtL md T r => ∀ p vs H', Same fm.H0 H' → ¬ fm.z p → fm.H0 p = none → H' p = some (.lst vs) → Reps T (RT fm H' md (some p)) r vs → E.rt (.ref p) H'
  | .bad => False
def BOk (g : G) (kp : RdR) (E : Ends) {δ : Type} (D : δ → Out) : M δ → Prop
  | .ok d => OutOk g.fm kp E (D d)
  | .ex c => ∀ σ H own, At g.fm kp g.LX σ H own → g.W c σ H
  | .no => False
def tB (g : G) (L : List Slot) {δ : Type} (D : δ → Out) (m : M δ) : TS := fun E σ H => ∃ kp own, At g.fm kp L σ H own ∧ BOk g kp E D m
def EvB (g : G) (L : List Slot) (st : List Stmt) {δ : Type} (D : δ → Out) (m : M δ) : Prop := PSs g.X st (tB g L D m)

theorem PE.imp {X : Cx} {e : Expr} {t t' : TE} (h : PE X e t) (k : ∀ σ H Q, t' σ H Q → t σ H Q) : PE X e t' := ⟨fun pins s σ H Q I q => h.run pins s σ H Q I (k _ _ _ q)⟩
theorem PT.imp {X : Cx} {e : Expr} {t t' : TT} (h : PT X e t) (k : ∀ σ H Q, t' σ H Q → t σ H Q) : PT X e t' := ⟨fun pins s σ H Q I q => h.run pins s σ H Q I (k _ _ _ q)⟩
theorem PW.imp {X : Cx} {e : Expr} {t t' : TT} (h : PW X e t) (k : ∀ σ H Q, t' σ H Q → t σ H Q) : PW X e t' := ⟨fun wh pins s σ H Q I q => h.run wh pins s σ H Q I (k _ _ _ q)⟩
theorem PA.imp {X : Cx} {e : List Expr} {t t' : TA} (h : PA X e t) (k : ∀ σ H Q, t' σ H Q → t σ H Q) : PA X e t' := ⟨fun pos pins s σ H Q I q => h.run pos pins s σ H Q I (k _ _ _ q)⟩
theorem PSs.imp {X : Cx} {e : List Stmt} {t t' : TS} (h : PSs X e t) (k : ∀ E σ H, t' E σ H → t E σ H) : PSs X e t' := ⟨fun pins s σ H D I q => h.run pins s σ H D I (k _ _ _ q)⟩

section
variable {g : G} {L : List Slot} {e e' : Expr} {es : List Expr} {md : Md} {α β γ δ : Type} {S : Ty α} {T : Ty β} {U : Ty γ} {A : Ar δ}
/-- the end of an expression, as a wish about its worth -/
def FinE (fm : Fm) (W : Wx) (own : List Addr) (σ : L2.St) (H : Hp) (md : Md) (T : Ty β) (Q : VK) : M β → Prop
  | .ok d => ∀ v H', Same H H' → T.rep d v (RX fm own H H' md) → Q v H'
  | .ex c => ∀ H', Same H H' → W c σ H'
  | .no => False
def FinL (fm : Fm) (W : Wx) (own : List Addr) (σ : L2.St) (H : Hp) (md : Md) (T : Ty β) (Q : VK) : M (List β) → Prop
  | .ok ds => ∀ p vs H', Same H H' → H p = none → H' p = some (.lst vs) → Reps T (RX fm (p :: own) H H' md) ds vs → Q (.ref p) H'
  | .ex c => ∀ H', Same H H' → W c σ H'
  | .no => False
theorem tL_iff {fm : Fm} {W : Wx} {m : M (List β)} {σ : L2.St} {H : Hp} {Q : VK} : tL fm W L md T m σ H Q ↔ ∃ kp own, At fm kp L σ H own ∧ FinL fm W own σ H md T Q m := by
  cases m <;> exact Iff.rfl
def FinT (W : Wx) (σ : L2.St) (H : Hp) (Q : Bool → Hp → Prop) : M Bool → Prop
  | .ok d => ∀ H', Same H H' → Q d H'
  | .ex c => ∀ H', Same H H' → W c σ H'
  | .no => False
def FinA (fm : Fm) (W : Wx) (own : List Addr) (σ : L2.St) (H : Hp) (md : Md) (A : Ar δ) (Q : List V → Hp → Prop) : M δ → Prop
  | .ok d => ∀ vs H', Same H H' → A.rep d vs (RX fm own H H' md) → Q vs H'
  | .ex c => ∀ H', Same H H' → W c σ H'
  | .no => False
theorem tE_iff {fm : Fm} {W : Wx} {m : M β} {σ : L2.St} {H : Hp} {Q : VK} : tE fm W L md T m σ H Q ↔ ∃ kp own, At fm kp L σ H own ∧ FinE fm W own σ H md T Q m := by
  cases m <;> exact Iff.rfl
theorem tT_iff {fm : Fm} {W : Wx} {m : M Bool} {σ : L2.St} {H : Hp} {Q : Bool → Hp → Prop} : tT fm W L m σ H Q ↔ ∃ kp own, At fm kp L σ H own ∧ FinT W σ H Q m := by
  cases m <;> exact Iff.rfl
theorem tA_iff {fm : Fm} {W : Wx} {m : M δ} {σ : L2.St} {H : Hp} {Q : List V → Hp → Prop} : tA fm W L md A m σ H Q ↔ ∃ kp own, At fm kp L σ H own ∧ FinA fm W own σ H md A Q m := by
  cases m <;> exact Iff.rfl
/-- ends that let refusals pass -/
structure Fin (W : Wx) (σ : L2.St) (H0 : Hp) (F : M β → Prop) : Prop where
  ex : ∀ {c}, F (.ex c) → ∀ H', Same H0 H' → W c σ H'
  no : ¬ F .no
theorem finE {fm : Fm} {W : Wx} {own : List Addr} {σ : L2.St} {H : Hp} {Q : VK} : Fin W σ H (FinE fm W own σ H md T Q) := ⟨fun h => h, fun h => h⟩
theorem finL {fm : Fm} {W : Wx} {own : List Addr} {σ : L2.St} {H : Hp} {Q : VK} : Fin (β := List β) W σ H (FinL fm W own σ H md T Q) := ⟨fun h => h, fun h => h⟩
theorem finT {W : Wx} {σ : L2.St} {H : Hp} {Q : Bool → Hp → Prop} : Fin W σ H (FinT W σ H Q) := ⟨fun h => h, fun h => h⟩
theorem finA {fm : Fm} {W : Wx} {own : List Addr} {σ : L2.St} {H : Hp} {Q : List V → Hp → Prop} : Fin W σ H (FinA fm W own σ H md A Q) := ⟨fun h => h, fun h => h⟩
section
variable {fm : Fm} {W : Wx} {kp : RdR} {own : List Addr} {σ : L2.St} {H0 H : Hp} {F : M β → Prop}
/-- a sub-expression, then what follows -/
theorem sub {m : M α} {f : α → M β} {K : VK} (hF : Fin W σ H0 F) (s0 : Same H0 H) (at_ : At fm kp L σ H own) (q : F (m.bind f))
    (h : ∀ d v H1, Same H H1 → S.rep d v (RX fm own H0 H1 md) → At fm kp L σ H1 own → F (f d) → K v H1) : tE fm W L md S m σ H K := by
  refine tE_iff.mpr ⟨kp, own, at_, ?_⟩
  cases m with
  | ok d => exact fun v H1 s r => h d v H1 s (S.mono r (RX.later s0)) (at_.ext s) q
  | ex c => exact fun H' s => hF.ex q H' (s0.trans s)
  | no => exact hF.no q
theorem subT {m : M Bool} {f : Bool → M β} {K : Bool → Hp → Prop} (hF : Fin W σ H0 F) (s0 : Same H0 H) (at_ : At fm kp L σ H own) (q : F (m.bind f))
    (h : ∀ d H1, Same H H1 → At fm kp L σ H1 own → F (f d) → K d H1) : tT fm W L m σ H K := by
  refine tT_iff.mpr ⟨kp, own, at_, ?_⟩
  cases m with
  | ok d => exact fun H1 s => h d H1 s (at_.ext s) q
  | ex c => exact fun H' s => hF.ex q H' (s0.trans s)
  | no => exact hF.no q
theorem subA {m : M δ} {f : δ → M β} {K : List V → Hp → Prop} (hF : Fin W σ H0 F) (s0 : Same H0 H) (at_ : At fm kp L σ H own) (q : F (m.bind f))
    (h : ∀ d vs H1, Same H H1 → A.rep d vs (RX fm own H0 H1 md) → At fm kp L σ H1 own → F (f d) → K vs H1) : tA fm W L md A m σ H K := by
  refine tA_iff.mpr ⟨kp, own, at_, ?_⟩
  cases m with
  | ok d => exact fun vs H1 s r => h d vs H1 s (A.mono r (RX.later s0)) (at_.ext s) q
  | ex c => exact fun H' s => hF.ex q H' (s0.trans s)
  | no => exact hF.no q
end

/-! ### operators, by values -/
def Rdb (K : PySem.W.Frag) (R : RdR) (H : Hp) : Prop := ∀ a o, R a o → Rd H a o ∨ KObj K a o
/-- what an operation's answer may reach: its operands' things (unless fr), new things -/
def Nw (fr : Bool) (R : RdR) (H H' : Hp) : RdR := fun a o => (fr = false ∧ R a o) ∨ (cl H' a = some o ∧ H a = none)
def OpEnd (U : Ty γ) (fr : Bool) (R : RdR) (H : Hp) (Q : VK) : M γ → Prop
  | .ok u => ∀ v H', Same H H' → U.rep u v (Nw fr R H H') → Q v H'
  | _ => False
structure Op1 (K : PySem.W.Frag) (r : V → Hp → VK → Prop) (S : Ty α) (U : Ty γ) (f : α → M γ) (fr : Bool) : Prop where
  run : ∀ {d x R H Q}, Rdb K R H → S.rep d x R → OpEnd U fr R H Q (f d) → r x H Q
structure Op2 (K : PySem.W.Frag) (r : R2) (S : Ty α) (T : Ty β) (U : Ty γ) (f : α → β → M γ) (fr : Bool) : Prop where
  run : ∀ {d e x y R H Q}, Rdb K R H → S.rep d x R → T.rep e y R → OpEnd U fr R H Q (f d e) → r x y H Q
structure OpC (K : PySem.W.Frag) (r : List V → Hp → VK → Prop) (A : Ar δ) (U : Ty γ) (f : δ → M γ) (fr : Bool) : Prop where
  run : ∀ {d xs R H Q}, Rdb K R H → A.rep d xs R → OpEnd U fr R H Q (f d) → r xs H Q
structure OpM (K : PySem.W.Frag) (ty : String) (r : V → List V → Hp → VK → Prop) (S : Ty α) (A : Ar δ) (U : Ty γ) (f : α → δ → M γ) (fr : Bool) : Prop where
  ty : ∀ {d x R H}, Rdb K R H → S.rep d x R → tyV K ty x H
  run : ∀ {d e x xs R H Q}, Rdb K R H → S.rep d x R → A.rep e xs R → OpEnd U fr R H Q (f d e) → r x xs H Q
/-- how new an answer is -/
inductive MdOk : Bool → Md → Md → Prop where
  | same {fr md} : MdOk fr md md
  | fresh {md md'} : MdOk true md md'
theorem RX.rdb {fm : Fm} {own : List Addr} {H H' : Hp} : Rdb fm.K (RX fm own H H' md) H' := fun a o r => (RX.sh a o r).imp (fun h => Rd.raw h.1) id
theorem Nw.rx {fm : Fm} {kp : RdR} {own : List Addr} {σ : L2.St} {H H1 H2 : Hp} {fr : Bool} {md' : Md} (hm : MdOk fr md md') (s : Same H H1) (at_ : At fm kp L σ H1 own) (s2 : Same H1 H2) :
    ∀ a o, Nw fr (RX fm own H H1 md) H1 H2 a o → RX fm own H H2 md' a o := fun a o r => by
  rcases r with ⟨e, r⟩ | ⟨r, n⟩
  · cases hm with
    | same => exact RX.same s2 a o r
    | fresh => cases e
  · refine RX.fx md' a o ⟨r, fun hp => (at_.new a hp).1 n, fun hz => at_.zin a hz n, at_.same.free n, s.free n⟩
theorem FinE.fin {fm : Fm} {W : Wx} {kp : RdR} {own : List Addr} {σ : L2.St} {H H1 : Hp} {fr : Bool} {md' : Md} {Q : VK} {m : M γ} (hm : MdOk fr md md') (s : Same H H1) (at_ : At fm kp L σ H1 own) (hne : ∀ c, m ≠ .ex c)
    (q : FinE fm W own σ H md' U Q m) : OpEnd U fr (RX fm own H H1 md) H1 Q m := by
  cases m with
  | ok u => exact fun v H' s' r => q v H' (s.trans s') (U.mono r (Nw.rx hm s at_ s'))
  | ex c => exact hne c rfl
  | no => exact q
end
end Hd

namespace Hd
open PySem PySem.Spec L2

/-- the program's fixed things -/
structure Pr where
  P : Program
  w : World
  K : PySem.W.Frag
  mg : Str → Option Value
  base : Heap
  C : Ec → Addr
  /-- where the table of the lambda's code object stands -/
  T : Option Addr
def okName (x : Str) : Bool := !(x == ("__debug__" : Str)) && !(x == ("__classdict__" : Str)) && !(x == ("__name__" : Str))
def seenB (sc : Scope) (x : Str) : Bool := okName x && (match sc.names.lookup x with | some .local => true | some .cell => true | some .free => true | _ => false)
def locB (sc : Scope) (x : Str) : Bool := match sc.names.lookup x with | some .local => true | some .cell => true | _ => false
def glB (sc : Scope) (x : Str) : Bool := okName x && (match sc.names.lookup x with | some .globalImplicit => true | _ => false)
theorem okName_d {x : Str} (h : okName x = true) : (x == ("__debug__" : Str)) = false ∧ (x == ("__classdict__" : Str)) = false ∧ x ≠ "__name__" := by
  simp only [okName, Bool.and_eq_true, Bool.not_eq_true'] at h
  refine ⟨h.1.1, h.1.2, fun e => ?_⟩
  have := h.2
  rw [e, beq_self_eq_true] at this
  cases this
theorem seenB_v {sc : Scope} {x : Str} (h : seenB sc x = true) : okName x = true ∧ Vis sc x := by
  simp only [seenB, Bool.and_eq_true] at h
  refine ⟨h.1, ?_⟩
  have q := h.2
  unfold Vis
  split at q <;> first | exact .inl (by assumption) | exact .inr (.inl (by assumption)) | exact .inr (.inr (by assumption)) | cases q
theorem locB_v {sc : Scope} {x : Str} (h : locB sc x = true) : L2.Loc sc x := by
  unfold locB at h
  unfold L2.Loc
  split at h <;> first | exact .inl (by assumption) | exact .inr (by assumption) | cases h
theorem glB_v {sc : Scope} {x : Str} (h : glB sc x = true) : okName x = true ∧ sc.names.lookup x = some .globalImplicit := by
  simp only [glB, Bool.and_eq_true] at h
  refine ⟨h.1, ?_⟩
  have q := h.2
  split at q <;> first | assumption | cases q

/-- where an expression stands: N the slots, V the names seen, Gs the global names used, k the room -/
structure Ok (p : Pr) (sc : Scope) (NN VV GG : List Str) (k : Nat) (g : G) : Prop where
  prog : g.X.prog = p.P
  w : g.X.w = p.w
  K : g.X.K = p.K
  mg : g.X.mg = p.mg
  base : g.X.base = p.base
  N : g.X.N = NN
  fmK : g.fm.K = p.K
  tab : ∀ P, p.T = some P → LamX.TabS g.fm.H0 P lamQ
  room : Room k g.X.A
  nd : NN.Nodup
  vis : ∀ {j : Nat} {x : Str}, VV[j]? = some x → Vis g.X.env.scope x ∧ okName x = true
  gl : ∀ {j : Nat} {x : Str}, GG[j]? = some x → Gl g.X x ∧ okName x = true
  tk : Takes g.X (fun cls d σ H => ∃ c, cls = .ref (p.C c) ∧ d = none ∧ g.W c σ H)
  calm : g.X.calm = true
  blk : ∀ {scope : Scope} {own : List (Str × Nat)}, blkC NN sc scope own = true → BlkOk NN g.X.env.scope scope own

section
variable {p : Pr} {sc : Scope} {NN VV GG : List Str} {k : Nat} {g : G} {L : List Slot} {a b c e e' : Expr} {es : List Expr} {md md' : Md} {α β γ δ : Type} {S : Ty α} {T : Ty β} {U : Ty γ} {A : Ar δ} {pos : Pos}
theorem RB.rx {fm : Fm} {own : List Addr} {H H' : Hp} {b : Bool} : ∀ a o, RB fm own H' b a o → RX fm own H H' (if b then .f0 else .sh) a o := fun a o r => by cases b <;> exact r
/-- a name whose slot holds d -/
theorem ev_var (ok : Ok p sc NN VV GG k g) {i j : Nat} {x : Str} {b : Bool} {d : α} (hN : NN[i]? = some x) (hV : VV[j]? = some x) (hL : L[i]? = some (sV b S d)) : EvE g L (.Name x pos) (if b then .f0 else .sh) S (.ok d) := by
  obtain ⟨hv, ho⟩ := ok.vis hV
  obtain ⟨h1, h2, _⟩ := okName_d ho
  refine PE.imp (pe_var (i := i) (by rw [ok.N]; exact hN) hv h1 h2) fun σ H Q ⟨kp, own, at_, q⟩ => ?_
  obtain ⟨Fs, hs, _⟩ := at_.sl
  obtain ⟨v, F, e1, _, _, y, rfl, r⟩ := hs.get hL
  exact ⟨y, e1, q y H (Same.refl H) (S.mono r RB.rx)⟩
theorem ev_vsh (ok : Ok p sc NN VV GG k g) {i j : Nat} {x : Str} {b : Bool} {d : α} (hN : NN[i]? = some x) (hV : VV[j]? = some x) (hL : L[i]? = some (sV b S d)) : EvE g L (.Name x pos) .sh S (.ok d) := by
  refine PE.imp (ev_var ok hN hV hL) fun σ H Q ⟨kp, own, at_, q⟩ => ⟨kp, own, at_, fun v H' s r => q v H' s (S.mono r RX.sh)⟩
/-- a kind of data without a heap -/
def Flat (S : Ty α) : Prop := ∀ {d v R R'}, S.rep d v R → S.rep d v R'
theorem Reps.flat {R R' : RdR} {ds : List α} {vs : List V} (hf : Flat S) (r : Reps S R ds vs) : Reps S R' ds vs := by
  induction r with
  | nil => exact .nil
  | cons r _ ih => exact .cons (hf r) ih
theorem flInt : Flat tInt := fun h => h
theorem flBool : Flat tBool := fun h => h
theorem flStr : Flat tStr := fun h => h
theorem flNone : Flat tNone := fun h => h
theorem flOpt (h : Flat S) : Flat (tOpt S) := fun {d v R R'} r => by
  cases d with
  | none => exact r
  | some d => exact ⟨h r.1, r.2⟩
theorem ev_flat {m : M α} (hf : Flat S) (h : EvE g L e md S m) : EvE g L e md' S m :=
  PE.imp h fun σ H Q q => by
    obtain ⟨kp, own, at_, q⟩ := tE_iff.mp q
    refine tE_iff.mpr ⟨kp, own, at_, ?_⟩
    cases m with
    | ok d => exact fun v H' s r => q v H' s (hf r)
    | ex c => exact q
    | no => exact q
/-- newer is as good -/
theorem ev_fx {m : M α} (h : EvE g L e .fx S m) : EvE g L e md S m :=
  PE.imp h fun σ H Q q => by
    obtain ⟨kp, own, at_, q⟩ := tE_iff.mp q
    refine tE_iff.mpr ⟨kp, own, at_, ?_⟩
    cases m with
    | ok d => exact fun v H' s r => q v H' s (S.mono r (RX.fx md))
    | ex c => exact q
    | no => exact q
theorem ev_sh {m : M α} (h : EvE g L e md S m) : EvE g L e .sh S m :=
  PE.imp h fun σ H Q q => by
    obtain ⟨kp, own, at_, q⟩ := tE_iff.mp q
    refine tE_iff.mpr ⟨kp, own, at_, ?_⟩
    cases m with
    | ok d => exact fun v H' s r => q v H' s (S.mono r RX.sh)
    | ex c => exact q
    | no => exact q
/-- the kind told otherwise -/
theorem ev_as {m : M α} {d2 : α → β} (hr : ∀ d v R, S.rep d v R → T.rep (d2 d) v R) (h : EvE g L e md S m) : EvE g L e md T (m.bind fun d => .ok (d2 d)) :=
  PE.imp h fun σ H Q q => by
    obtain ⟨kp, own, at_, q⟩ := tE_iff.mp q
    refine tE_iff.mpr ⟨kp, own, at_, ?_⟩
    cases m with
    | ok d => exact fun v H' s r => q v H' s (hr _ _ _ r)
    | ex c => exact q
    | no => exact q
theorem ev_asP {d : α} {d2 : β} (hr : ∀ v R, S.rep d v R → T.rep d2 v R) (h : EvE g L e md S (.ok d)) : EvE g L e md T (.ok d2) :=
  PE.imp h fun σ H Q ⟨kp, own, at_, q⟩ => ⟨kp, own, at_, fun v H' s r => q v H' s (hr _ _ r)⟩
/-! constants -/
theorem ev_int {i : Int} {j} : EvE g L (.Constant (.int i) j pos) md tInt (.ok i) := PE.imp pe_int fun σ H Q ⟨kp, own, at_, q⟩ => q _ H (Same.refl H) rfl
theorem ev_bool {i : Bool} {j} : EvE g L (.Constant (.bool i) j pos) md tBool (.ok i) := PE.imp pe_bl fun σ H Q ⟨kp, own, at_, q⟩ => q _ H (Same.refl H) rfl
theorem ev_none {j} : EvE g L (.Constant .none j pos) md tNone (.ok ()) := PE.imp pe_non fun σ H Q ⟨kp, own, at_, q⟩ => q _ H (Same.refl H) rfl
theorem ev_optN {j} : EvE g L (.Constant .none j pos) md (tOpt S) (.ok none) := PE.imp pe_non fun σ H Q ⟨kp, own, at_, q⟩ => q _ H (Same.refl H) rfl
/-- a written text's signs -/
def tx (s : String) : Tx := (Str.ofString s).cps.toList
theorem toS_tx (s : String) : toS (tx s) = Str.ofString s := by
  show (⟨((Str.ofString s).cps.toList).toArray⟩ : Str) = Str.ofString s
  rw [Array.toArray_toList]
theorem toS_inj {x y : Tx} (h : toS x = toS y) : x = y := by
  have := congrArg (fun z : Str => z.cps.toList) h
  simpa [toS] using this
theorem toS_of (z : Str) : toS z.cps.toList = z := by
  show (⟨(z.cps.toList).toArray⟩ : Str) = z
  rw [Array.toArray_toList]
theorem toS_len (x : Tx) : (toS x).length = x.length := by
  show x.toArray.size = x.length
  simp
def okTxB (x : Tx) : Bool := decide (x.length ≤ 1000) && x.all fun c => decide (c < 0x110000)
theorem okTx_of {x : Tx} (h : okTxB x = true) : OkTx x := by
  simp only [okTxB, Bool.and_eq_true, decide_eq_true_eq, List.all_eq_true] at h
  exact ⟨Nat.le_trans h.1 (by decide), h.2⟩
theorem ev_str {s : String} {j} (hl : okTxB (tx s) = true) : EvE g L (.Constant (.str (Str.ofString s)) j pos) md tStr (.ok (tx s)) := PE.imp pe_str fun σ H Q ⟨kp, own, at_, q⟩ => q _ H (Same.refl H) ⟨by show _ = V.str _; rw [toS_tx], okTx_of hl⟩
/-- a constant of the module: an int or a text -/
theorem ev_glob (ok : Ok p sc NN VV GG k g) {j : Nat} {x : Str} {v : V} {u : Value} {d : α} (hG : GG[j]? = some x) (hm : p.mg x = some u) (r : RelV v u) (hr : ∀ R, S.rep d v R) : EvE g L (.Name x pos) md S (.ok d) := by
  obtain ⟨hg, ho⟩ := ok.gl hG
  exact PE.imp (pe_glob hg (by rw [ok.mg]; exact hm) r (okName_d ho).1) fun σ H Q ⟨kp, own, at_, q⟩ => q _ H (Same.refl H) (hr _)

/-! operators -/
/-- .. -/
theorem ev_op2 {op : Operator} {r : R2} {f : α → β → M γ} {fr : Bool} {m1 : M α} {m2 : M β} (ok : Ok p sc NN VV GG k g) (ho : ∀ {X : Cx}, OpR X (binaryOp op) r) (F : Op2 p.K r S T U f fr) (hne : ∀ d e c, f d e ≠ .ex c) (hm : MdOk fr md md')
    (ha : EvE g L a md S m1) (hb : EvE g L b md T m2) : EvE g L (.BinOp a op b pos) md' U (m1.bind fun d => m2.bind fun e => f d e) := by
  refine PE.imp (pe_op ho ha hb) fun σ H Q q => ?_
  obtain ⟨kp, own, at_, q⟩ := tE_iff.mp q
  refine sub finE (Same.refl H) at_ q fun d x H1 s1 r1 at1 q1 => sub finE s1 at1 q1 fun e y H2 s2 r2 at2 q2 => ?_
  rw [← ok.fmK] at F
  exact F.run (R := RX g.fm own H H2 md) RX.rdb (S.mono r1 (RX.same s2)) r2 (q2.fin hm (s1.trans s2) at2 (hne d e))

theorem ev_un {op : UnaryOp} {r : V → Hp → VK → Prop} {f : α → M γ} {fr : Bool} {m1 : M α} (ok : Ok p sc NN VV GG k g) (ho : ∀ {X : Cx}, UnR X (unaryOp op) r) (F : Op1 p.K r S U f fr) (hne : ∀ d c, f d ≠ .ex c) (hm : MdOk fr md md')
    (ha : EvE g L a md S m1) : EvE g L (.UnaryOp op a pos) md' U (m1.bind f) := by
  refine PE.imp (pe_un ho ha) fun σ H Q q => ?_
  obtain ⟨kp, own, at_, q⟩ := tE_iff.mp q
  refine sub finE (Same.refl H) at_ q fun d x H1 s1 r1 at1 q1 => ?_
  rw [← ok.fmK] at F
  exact F.run (R := RX g.fm own H H1 md) RX.rdb r1 (q1.fin hm s1 at1 (hne d))
/-- a comparison's value -/
theorem ev_cmp {op : CmpOp} {r : R2} {f : α → β → M γ} {fr : Bool} {m1 : M α} {m2 : M β} (ok : Ok p sc NN VV GG k g) (ho : OpR g.X (compareOp op) r) (F : Op2 p.K r S T U f fr) (hne : ∀ d e c, f d e ≠ .ex c) (hm : MdOk fr md md')
    (ha : EvE g L a md S m1) (hb : EvE g L b md T m2) (hk : behindInMarks op b = false := by first | exact nomark _ (by decide) (by decide) | rfl) : EvE g L (.Compare a [op] [b] pos) md' U (m1.bind fun d => m2.bind fun e => f d e) := by
  refine PE.imp (pe_cmpR ho ha hb hk) fun σ H Q q => ?_
  obtain ⟨kp, own, at_, q⟩ := tE_iff.mp q
  refine sub finE (Same.refl H) at_ q fun d x H1 s1 r1 at1 q1 => sub finE s1 at1 q1 fun e y H2 s2 r2 at2 q2 => ?_
  rw [← ok.fmK] at F
  exact F.run (R := RX g.fm own H H2 md) RX.rdb (S.mono r1 (RX.same s2)) r2 (q2.fin hm (s1.trans s2) at2 (hne d e))
/-- a comparison as a test -/
theorem evt_cmp {op : CmpOp} {r : R2} {f : α → β → M Bool} {fr : Bool} {m1 : M α} {m2 : M β} (ok : Ok p sc NN VV GG k g) (ho : OpR g.X (compareOp op) r) (F : Op2 p.K r S T tBool f fr) (hne : ∀ d e c, f d e ≠ .ex c)
    (ha : EvE g L a md S m1) (hb : EvE g L b md T m2) (hk : behindInMarks op b = false := by first | exact nomark _ (by decide) (by decide) | rfl) : EvT g L (.Compare a [op] [b] pos) (m1.bind fun d => m2.bind fun e => f d e) := by
  refine PT.imp (pt_cmpR ho ha hb hk) fun σ H Q q => ?_
  obtain ⟨kp, own, at_, q⟩ := tT_iff.mp q
  refine sub finT (Same.refl H) at_ q fun d x H1 s1 r1 at1 q1 => sub finT s1 at1 q1 fun e y H2 s2 r2 at2 q2 => ?_
  rw [← ok.fmK] at F
  refine F.run (R := RX g.fm own H H2 md) RX.rdb (S.mono r1 (RX.same s2)) r2 ?_
  cases hf : f d e with
  | ok c => rw [hf] at q2; exact fun v H' s r => ⟨c, r, q2 H' ((s1.trans s2).trans s)⟩
  | ex c => exact absurd hf (hne d e c)
  | no => rw [hf] at q2; exact q2
/-- a < b < c, as a test -/
theorem evt_chain {op op' : CmpOp} {r r' : R2} {f : α → β → Bool} {f' : β → γ → Bool} {d1 : α} {d2 : β} {d3 : γ} (ok : Ok p sc NN VV GG k g) (ho : OpR g.X (compareOp op) r) (ho' : OpR g.X (compareOp op') r')
    (F : Op2 p.K r S T tBool (fun x y => .ok (f x y)) false) (F' : Op2 p.K r' T U tBool (fun x y => .ok (f' x y)) false)
    (ha : EvE g L a md S (.ok d1)) (hb : EvE g L b md T (.ok d2)) (hc : EvE g L c md U (.ok d3)) (hm : lastMarks [op, op'] [b, c] = false := by with_unfolding_all rfl) : EvT g L (.Compare a [op, op'] [b, c] pos) (.ok (f d1 d2 && f' d2 d3)) := by
  refine PT.imp (pt_chain ho ho' ha hb hc hm) fun σ H Q ⟨kp, own, at_, q⟩ => ?_
  refine ⟨kp, own, at_, fun x H1 s1 r1 => ⟨kp, own, at_.ext s1, fun y H2 s2 r2 => ?_⟩⟩
  rw [← ok.fmK] at F F'
  have at2 := (at_.ext s1).ext s2
  have r2' : T.rep d2 y (RX g.fm own H H2 md) := T.mono r2 (RX.later s1)
  refine F.run (R := RX g.fm own H H2 md) RX.rdb (S.mono r1 (RX.same s2)) r2' fun v H3 s3 r3 => ⟨f d1 d2, r3, ?_⟩
  cases hf : f d1 d2 with
  | true =>
    refine ⟨kp, own, at2.ext s3, fun z H4 s4 r4 => F'.run (R := RX g.fm own H H4 md) RX.rdb (T.mono r2' (RX.same (s3.trans s4))) (U.mono r4 (RX.later ((s1.trans s2).trans s3))) fun v' H5 s5 r5 => ⟨f' d2 d3, r5, ?_⟩⟩
    rw [hf, Bool.true_and] at q
    exact q H5 ((((s1.trans s2).trans s3).trans s4).trans s5)
  | false =>
    rw [hf, Bool.false_and] at q
    exact ⟨false, rfl, q H3 ((s1.trans s2).trans s3)⟩
/-- an expression that is a bool, as a test -/
theorem evt_of {m : M Bool} (h : EvE g L e md tBool m) (he : ∀ whole, isTrue e g.X.env whole = (do let v ← whole; standAt e.pos; holding [v] (truthy v)) := by intro _; rfl) : EvT g L e m := by
  refine PT.imp (pt_val h he) fun σ H Q q => ?_
  obtain ⟨kp, own, at_, q⟩ := tT_iff.mp q
  refine tE_iff.mpr ⟨kp, own, at_, ?_⟩
  cases m with
  | ok d => exact fun v H' s r => ⟨d, r, q H' s⟩
  | ex c => exact q
  | no => exact q
theorem evt_not {m : M Bool} (h : EvT g L a m) : EvT g L (.UnaryOp .Not a pos) (m.bind fun c => .ok (!c)) := by
  refine PT.imp (pt_not h) fun σ H Q q => ?_
  obtain ⟨kp, own, at_, q⟩ := tT_iff.mp q
  exact subT finT (Same.refl H) at_ q fun d H1 s at1 q1 => q1 H1 s
theorem evt_notP {c : Bool} (h : EvT g L a (.ok c)) : EvT g L (.UnaryOp .Not a pos) (.ok (!c)) := evt_not h
/-- and, or: chains of tests -/
def EvW (g : G) (L : List Slot) (e : Expr) (m : M Bool) : Prop := PW g.X e (tT g.fm g.W L m)
theorem EvW.t {m : M Bool} (h : EvW g L e m) : EvT g L e m := PW.pt h
theorem evw_and1 {m : M Bool} (h : EvT g L a m) : EvW g L (.BoolOp .And [a] pos) m := pw_and1 h
theorem evw_or1 {m : M Bool} (h : EvT g L a m) : EvW g L (.BoolOp .Or [a] pos) m := pw_or1 h
theorem evw_and {m1 m2 : M Bool} (h : EvT g L a m1) (h2 : EvW g L (.BoolOp .And (b :: es) pos) m2) : EvW g L (.BoolOp .And (a :: b :: es) pos) (m1.bind fun c => if c = true then m2 else .ok false) := by
  refine PW.imp (pw_and h h2) fun σ H Q q => ?_
  obtain ⟨kp, own, at_, q⟩ := tT_iff.mp q
  refine subT finT (Same.refl H) at_ q fun d H1 s at1 q1 => ?_
  cases d with
  | true =>
    show tT g.fm g.W L m2 σ H1 Q
    refine tT_iff.mpr ⟨kp, own, at1, ?_⟩
    have q1 : FinT g.W σ H Q m2 := q1
    cases m2 with
    | ok d => exact fun H' s' => q1 H' (s.trans s')
    | ex c => exact fun H' s' => q1 H' (s.trans s')
    | no => exact q1
  | false => exact q1 H1 s
theorem evw_or {m1 m2 : M Bool} (h : EvT g L a m1) (h2 : EvW g L (.BoolOp .Or (b :: es) pos) m2) : EvW g L (.BoolOp .Or (a :: b :: es) pos) (m1.bind fun c => if c = true then .ok true else m2) := by
  refine PW.imp (pw_or h h2) fun σ H Q q => ?_
  obtain ⟨kp, own, at_, q⟩ := tT_iff.mp q
  refine subT finT (Same.refl H) at_ q fun d H1 s at1 q1 => ?_
  cases d with
  | false =>
    show tT g.fm g.W L m2 σ H1 Q
    refine tT_iff.mpr ⟨kp, own, at1, ?_⟩
    have q1 : FinT g.W σ H Q m2 := q1
    cases m2 with
    | ok d => exact fun H' s' => q1 H' (s.trans s')
    | ex c => exact fun H' s' => q1 H' (s.trans s')
    | no => exact q1
  | true => exact q1 H1 s
theorem if_tf {c d : Bool} : (if c = true then (.ok d : M Bool) else .ok false) = .ok (c && d) := by cases c <;> rfl
theorem if_ft {c d : Bool} : (if c = true then (.ok true : M Bool) else .ok d) = .ok (c || d) := by cases c <;> rfl
theorem evw_andP {c d : Bool} (h : EvT g L a (.ok c)) (h2 : EvW g L (.BoolOp .And (b :: es) pos) (.ok d)) : EvW g L (.BoolOp .And (a :: b :: es) pos) (.ok (c && d)) := by
  have q := evw_and h h2
  rwa [M.bind_ok, if_tf] at q
theorem evw_orP {c d : Bool} (h : EvT g L a (.ok c)) (h2 : EvW g L (.BoolOp .Or (b :: es) pos) (.ok d)) : EvW g L (.BoolOp .Or (a :: b :: es) pos) (.ok (c || d)) := by
  have q := evw_or h h2
  rwa [M.bind_ok, if_ft] at q
/-- .. as values -/
theorem ev_one {op} {m : M Bool} (h : EvE g L a md tBool m) : EvE g L (.BoolOp op [a] pos) md tBool m := pe_one h
theorem ev_and {m1 m2 : M Bool} (h : EvE g L a md tBool m1) (h2 : EvE g L (.BoolOp .And (b :: es) pos) md tBool m2) : EvE g L (.BoolOp .And (a :: b :: es) pos) md tBool (m1.bind fun c => if c = true then m2 else .ok false) := by
  refine PE.imp (pe_and h h2) fun σ H Q q => ?_
  obtain ⟨kp, own, at_, q⟩ := tE_iff.mp q
  refine sub finE (Same.refl H) at_ q fun d x H1 s r at1 q1 => ⟨d, r, ?_⟩
  cases d with
  | true =>
    refine tE_iff.mpr ⟨kp, own, at1, ?_⟩
    have q1 : FinE g.fm g.W own σ H md tBool Q m2 := q1
    cases m2 with
    | ok d => exact fun v H' s' r' => q1 v H' (s.trans s') r'
    | ex c => exact fun H' s' => q1 H' (s.trans s')
    | no => exact q1
  | false => exact q1 _ H1 s rfl
theorem ev_or {m1 m2 : M Bool} (h : EvE g L a md tBool m1) (h2 : EvE g L (.BoolOp .Or (b :: es) pos) md tBool m2) : EvE g L (.BoolOp .Or (a :: b :: es) pos) md tBool (m1.bind fun c => if c = true then .ok true else m2) := by
  refine PE.imp (pe_or h h2) fun σ H Q q => ?_
  obtain ⟨kp, own, at_, q⟩ := tE_iff.mp q
  refine sub finE (Same.refl H) at_ q fun d x H1 s r at1 q1 => ⟨d, r, ?_⟩
  cases d with
  | false =>
    refine tE_iff.mpr ⟨kp, own, at1, ?_⟩
    have q1 : FinE g.fm g.W own σ H md tBool Q m2 := q1
    cases m2 with
    | ok d => exact fun v H' s' r' => q1 v H' (s.trans s') r'
    | ex c => exact fun H' s' => q1 H' (s.trans s')
    | no => exact q1
  | true => exact q1 _ H1 s rfl
theorem ev_andP {c d : Bool} (h : EvE g L a md tBool (.ok c)) (h2 : EvE g L (.BoolOp .And (b :: es) pos) md tBool (.ok d)) : EvE g L (.BoolOp .And (a :: b :: es) pos) md tBool (.ok (c && d)) := by
  have q := ev_and h h2
  rwa [M.bind_ok, if_tf] at q
theorem ev_orP {c d : Bool} (h : EvE g L a md tBool (.ok c)) (h2 : EvE g L (.BoolOp .Or (b :: es) pos) md tBool (.ok d)) : EvE g L (.BoolOp .Or (a :: b :: es) pos) md tBool (.ok (c || d)) := by
  have q := ev_or h h2
  rwa [M.bind_ok, if_ft] at q
theorem ev_not {m : M Bool} (h : EvE g L a md tBool m) : EvE g L (.UnaryOp .Not a pos) md' tBool (m.bind fun c => .ok (!c)) := by
  refine PE.imp (pe_not h) fun σ H Q q => ?_
  obtain ⟨kp, own, at_, q⟩ := tE_iff.mp q
  exact sub finE (Same.refl H) at_ q fun d x H1 s r at1 q1 => ⟨d, r, q1 _ H1 s rfl⟩
theorem ev_notP {c : Bool} (h : EvE g L a md tBool (.ok c)) : EvE g L (.UnaryOp .Not a pos) md' tBool (.ok (!c)) := ev_not h
/-- x if c else y -/
theorem ev_ifx {m1 m2 : M α} {mc : M Bool} (hc : EvT g L c mc) (ha : EvE g L a md S m1) (hb : EvE g L b md S m2) : EvE g L (.IfExp c a b pos) md S (mc.bind fun c => if c = true then m1 else m2) := by
  refine PE.imp (pe_ifExp hc ha hb) fun σ H Q q => ?_
  obtain ⟨kp, own, at_, q⟩ := tE_iff.mp q
  refine subT finE (Same.refl H) at_ q fun d H1 s at1 q1 => ?_
  have key : ∀ {m : M α}, FinE g.fm g.W own σ H md S Q m → tE g.fm g.W L md S m σ H1 Q := fun {m} z => by
    refine tE_iff.mpr ⟨kp, own, at1, ?_⟩
    cases m with
    | ok d => exact fun v H' s' r' => z v H' (s.trans s') (S.mono r' (RX.later s))
    | ex c => exact fun H' s' => z H' (s.trans s')
    | no => exact z
  cases d with
  | true => exact key q1
  | false => exact key q1

/-! argument lists, displays -/
theorem eva_nil : EvA g L [] md aNil (.ok ()) := PA.imp pa_nil fun σ H Q ⟨kp, own, at_, q⟩ => q [] H (Same.refl H) rfl
theorem eva_cons {m1 : M α} {m2 : M δ} (ha : EvE g L a md S m1) (hb : EvA g L es md A m2) (hs : starEach (a :: es) g.X.env = (false, eval a g.X.env) :: starEach es g.X.env := by rfl) : EvA g L (a :: es) md (aCons S A) (m1.bind fun d => m2.bind fun e => .ok (d, e)) := by
  refine PA.imp (pa_cons ha hb hs) fun σ H Q q => ?_
  obtain ⟨kp, own, at_, q⟩ := tA_iff.mp q
  exact sub finA (Same.refl H) at_ q fun d x H1 s1 r1 at1 q1 => subA finA s1 at1 q1 fun e xs H2 s2 r2 at2 q2 => q2 _ H2 (s1.trans s2) ⟨x, xs, rfl, S.mono r1 (RX.same s2), r2⟩
theorem eva_consP {d : α} {e : δ} (ha : EvE g L a md S (.ok d)) (hb : EvA g L es md A (.ok e)) (hs : starEach (a :: es) g.X.env = (false, eval a g.X.env) :: starEach es g.X.env := by rfl) : EvA g L (a :: es) md (aCons S A) (.ok (d, e)) := eva_cons ha hb hs
/-- items of one kind -/
theorem evs_nil : EvA g L [] md (aAll S) (.ok []) := PA.imp pa_nil fun σ H Q ⟨kp, own, at_, q⟩ => q [] H (Same.refl H) .nil
theorem evs_cons {m1 : M α} {m2 : M (List α)} (ha : EvE g L a md S m1) (hb : EvA g L es md (aAll S) m2) (hs : starEach (a :: es) g.X.env = (false, eval a g.X.env) :: starEach es g.X.env := by rfl) : EvA g L (a :: es) md (aAll S) (m1.bind fun d => m2.bind fun e => .ok (d :: e)) := by
  refine PA.imp (pa_cons ha hb hs) fun σ H Q q => ?_
  obtain ⟨kp, own, at_, q⟩ := tA_iff.mp q
  exact sub finA (Same.refl H) at_ q fun d x H1 s1 r1 at1 q1 => subA finA s1 at1 q1 fun e xs H2 s2 r2 at2 q2 => q2 _ H2 (s1.trans s2) (.cons (S.mono r1 (RX.same s2)) r2)
theorem evs_consP {d : α} {e : List α} (ha : EvE g L a md S (.ok d)) (hb : EvA g L es md (aAll S) (.ok e)) (hs : starEach (a :: es) g.X.env = (false, eval a g.X.env) :: starEach es g.X.env := by rfl) : EvA g L (a :: es) md (aAll S) (.ok (d :: e)) := evs_cons ha hb hs
theorem newSame {H : Hp} {p : Addr} {o : HO} (h : H p = none) : Same H (upd H p o) := .of fun b u e => by rw [upd_ne (ne_of_none e h)]; exact e
theorem newRX {fm : Fm} {kp : RdR} {own : List Addr} {σ : L2.St} {H H1 : Hp} {p : Addr} {o : HO} (at_ : At fm kp L σ H1 own) (s : Same H H1) (h : H1 p = none) (n : nt o = true := by rfl) : RX fm own H (upd H1 p o) md p o :=
  RX.fx md _ _ ⟨cl_of upd_same n, fun hp => (at_.new p hp).1 h, fun hz => at_.zin p hz h, at_.same.free h, s.free h⟩
/-- a tuple of written items (few enough: by rfl) -/
theorem ev_tup {m : M δ} {x1} (hl : ∀ d vs R, A.rep d vs R → vs.length ≤ 1000) (ha : EvA g L es md A m) : EvE g L (.Tuple es x1 pos) md (tTup A) m := by
  refine PE.imp (pe_tup ha) fun σ H Q q => ?_
  obtain ⟨kp, own, at_, q⟩ := tE_iff.mp q
  refine tA_iff.mpr ⟨kp, own, at_, ?_⟩
  cases m with
  | ok d => exact fun vs H1 s1 r1 => ⟨Nat.le_trans (hl _ _ _ r1) (by decide), fun p hp => q _ _ (s1.trans (newSame hp)) ⟨p, vs, rfl, newRX (at_.ext s1) s1 hp, A.mono r1 (RX.same (newSame hp))⟩⟩
  | ex c => exact q
  | no => exact q
theorem tupL_le {ds : List α} {vs : List V} {R : RdR} (h : (aAll S).rep ds vs R) : ds.length = vs.length := Reps.length h
/-- a list of written items; whatever the items are, the list is new -/
theorem ev_lst {m : M (List α)} (hl : ∀ ds, m = .ok ds → ds.length ≤ 1000) (ha : EvA g L es md (aAll S) m) : EvE g L (.List es pos) md (tList S) m := by
  refine PE.imp (pe_lst ha) fun σ H Q q => ?_
  obtain ⟨kp, own, at_, q⟩ := tE_iff.mp q
  refine tA_iff.mpr ⟨kp, own, at_, ?_⟩
  cases m with
  | ok d => exact fun vs H1 s1 r1 => ⟨Nat.le_trans (by rw [← tupL_le r1]; exact hl _ rfl) (by decide), fun p hp => q _ _ (s1.trans (newSame hp)) ⟨p, vs, rfl, newRX (at_.ext s1) s1 hp, Reps.mono r1 (RX.same (newSame hp))⟩⟩
  | ex c => exact q
  | no => exact q

/-! subscripts, slices, calls of built-ins -/
theorem ev_ix {r : R2} {f : α → β → M γ} {fr : Bool} {m1 : M α} {m2 : M β} (ok : Ok p sc NN VV GG k g) (ho : IxR g.X r) (F : Op2 p.K r S T U f fr) (hne : ∀ d e c, f d e ≠ .ex c) (hm : MdOk fr md md')
    (ha : EvE g L a md S m1) (hb : EvE g L b md T m2) (hs : PlainIx b := by exact fun _ _ => rfl) : EvE g L (.Subscript a b pos) md' U (m1.bind fun d => m2.bind fun e => f d e) := by
  refine PE.imp (pe_ix ho ha hb hs) fun σ H Q q => ?_
  obtain ⟨kp, own, at_, q⟩ := tE_iff.mp q
  refine sub finE (Same.refl H) at_ q fun d x H1 s1 r1 at1 q1 => sub finE s1 at1 q1 fun e y H2 s2 r2 at2 q2 => ?_
  rw [← ok.fmK] at F
  exact F.run (R := RX g.fm own H H2 md) RX.rdb (S.mono r1 (RX.same s2)) r2 (q2.fin hm (s1.trans s2) at2 (hne d e))
theorem ev_callB {x : Str} {j : Nat} {id : String} {r : List V → Hp → VK → Prop} {f : δ → M γ} {fr : Bool} {m : M δ} {pp : Pos} (ok : Ok p sc NN VV GG k g) (hc : CallR g.X (.builtin id) r) (F : OpC p.K r A U f fr) (hne : ∀ d c, f d ≠ .ex c) (hm : MdOk fr md md')
    (hG : GG[j]? = some x) (hmg : p.mg x = none) (hv : bootBuiltins x = some (.builtin id)) (ha : EvA g L (e :: es) md A m)
    (he : starEach (e :: es) g.X.env = (false, eval e g.X.env) :: starEach es g.X.env := by rfl) (hpl : (backTo pos (starEach es g.X.env)).any (·.1) = false := by rfl) : EvE g L (.Call (.Name x pp) (e :: es) [] pos) md' U (m.bind f) := by
  obtain ⟨hg, ho⟩ := ok.gl hG
  obtain ⟨h1, _, h3⟩ := okName_d ho
  refine PE.imp (pe_callB hc hg (by rw [ok.mg]; exact hmg) hv ha h3 h1 he hpl) fun σ H Q q => ?_
  obtain ⟨kp, own, at_, q⟩ := tE_iff.mp q
  refine subA finE (Same.refl H) at_ q fun d xs H1 s1 r1 at1 q1 => ?_
  rw [← ok.fmK] at F
  exact F.run (R := RX g.fm own H H1 md) RX.rdb r1 (q1.fin hm s1 at1 (hne d))
theorem ev_callTy {x : Str} {j : Nat} {id : String} {r : List V → Hp → VK → Prop} {f : δ → M γ} {fr : Bool} {m : M δ} {pp : Pos} (ok : Ok p sc NN VV GG k g) (hc : CallR g.X (.type id) r) (F : OpC p.K r A U f fr) (hne : ∀ d c, f d ≠ .ex c) (hm : MdOk fr md md')
    (hG : GG[j]? = some x) (hmg : p.mg x = none) (hv : bootBuiltins x = some (.type id)) (ha : EvA g L (e :: es) md A m)
    (he : starEach (e :: es) g.X.env = (false, eval e g.X.env) :: starEach es g.X.env := by rfl) (hpl : (backTo pos (starEach es g.X.env)).any (·.1) = false := by rfl) : EvE g L (.Call (.Name x pp) (e :: es) [] pos) md' U (m.bind f) := by
  obtain ⟨hg, ho⟩ := ok.gl hG
  obtain ⟨h1, _, h3⟩ := okName_d ho
  refine PE.imp (pe_callTy hc hg (by rw [ok.mg]; exact hmg) hv ha h3 h1 he hpl) fun σ H Q q => ?_
  obtain ⟨kp, own, at_, q⟩ := tE_iff.mp q
  refine subA finE (Same.refl H) at_ q fun d xs H1 s1 r1 at1 q1 => ?_
  rw [← ok.fmK] at F
  exact F.run (R := RX g.fm own H H1 md) RX.rdb r1 (q1.fin hm s1 at1 (hne d))
/-- a built-in type's method -/
theorem ev_bm {ty id : String} {name : Str} {r : V → List V → Hp → VK → Prop} {f : α → δ → M γ} {fr : Bool} {m1 : M α} {m2 : M δ} {apos : Pos} (ok : Ok p sc NN VV GG k g) (pa : PlainAttrs ty) (slot : PySem.Slot ty name id) (hty : typeOf (.builtin id) = pure (.type "method_descriptor"))
    (hmt : MtR g.X id r) (F : OpM p.K ty r S A U f fr) (hne : ∀ d e c, f d e ≠ .ex c) (hm : MdOk fr md md') (ho : EvE g L a md S m1) (ha : EvA g L (e :: es) md A m2)
    (hbase : attributeBase a name g.X.env (eval a g.X.env) = eval a g.X.env := by rfl)
    (hfew : ((backTo pos (starEach (e :: es) g.X.env)).all (fun x => !x.1) && (backToKw pos (keywordEach [] g.X.env)).all (fun x => x.1.isSome)
      && decide ((e :: es).length + ([] : List Keyword).length + (if ([] : List Keyword).isEmpty then 0 else 1) < 30)) = true := by rfl)
    (hs : starEach (e :: es) g.X.env = (false, eval e g.X.env) :: starEach es g.X.env := by rfl) (hline : (apos.endLine == pos.line) = true := by rfl) (hplain : (backTo pos (starEach es g.X.env)).any (·.1) = false := by rfl) :
    EvE g L (.Call (.Attribute a name apos) (e :: es) [] pos) md' U (m1.bind fun d => m2.bind fun e => f d e) := by
  refine PE.imp (pe_bm pa slot hty hmt ho ha (hbase := hbase) (hfew := hfew) (hline := hline) (hs := hs) (hplain := hplain)) fun σ H Q q => ?_
  obtain ⟨kp, own, at_, q⟩ := tE_iff.mp q
  rw [← ok.fmK] at F
  refine sub finE (Same.refl H) at_ q fun d x H1 s1 r1 at1 q1 => ⟨(ok.fmK.trans ok.K.symm) ▸ F.ty (R := RX g.fm own H H1 md) RX.rdb r1, subA finE s1 at1 q1 fun e xs H2 s2 r2 at2 q2 => ?_⟩
  exact F.run (R := RX g.fm own H H2 md) RX.rdb (S.mono r1 (RX.same s2)) r2 (q2.fin hm (s1.trans s2) at2 (hne d e))
end
end Hd

namespace Hd
open PySem PySem.Spec L2
section
variable {p : Pr} {sc : Scope} {NN VV GG : List Str} {k : Nat} {g : G} {L L' : List Slot} {a b c e e' : Expr} {es : List Expr} {md md' : Md} {α β γ δ : Type} {S : Ty α} {T : Ty β} {U : Ty γ} {A : Ar δ} {pos : Pos}
/-! ### new lists -/
theorem RX.add {fm : Fm} {own : List Addr} {H H1 : Hp} {q : Addr} {o' : HO} (hn : H1 q = none) : ∀ a o, RX fm own H H1 md a o → RX fm (q :: own) H (upd H1 q o') md a o := fun a o r => by
  have ne : H1 a ≠ none → a ≠ q := fun h e => h (by rw [e]; exact hn)
  cases md with
  | sh =>
    rcases r with ⟨r, h1, h2⟩ | r
    · have n := ne (Rd.some (Rd.raw r))
      refine .inl ⟨?_, fun z => ?_, h2⟩
      · unfold Rd
        rw [cl_upd_ne n]
        exact r
      · rcases List.mem_cons.mp z with z | z
        · exact n z
        · exact h1 z
    · exact .inr r
  | f0 =>
    have n := ne (by rw [cl_raw r.1]; exact fun z => by cases z)
    exact ⟨by rw [cl_upd_ne n]; exact r.1, fun z => (List.mem_cons.mp z).elim n r.2.1, r.2.2⟩
  | fx =>
    have n := ne (by rw [cl_raw r.1]; exact fun z => by cases z)
    exact ⟨by rw [cl_upd_ne n]; exact r.1, fun z => (List.mem_cons.mp z).elim n r.2.1, r.2.2⟩
theorem RX.drop1 {fm : Fm} {own : List Addr} {H H1 : Hp} {q : Addr} : ∀ a o, RX fm (q :: own) H H1 md a o → RX fm own H H1 md a o := RX.own fun p hp => List.mem_cons_of_mem _ hp
theorem newRX' {fm : Fm} {kp : RdR} {own : List Addr} {σ : L2.St} {H H' : Hp} {q : Addr} {o : HO} (at_ : At fm kp L σ H own) (h : H q = none) (h' : H' q = some o) (n : nt o = true := by rfl) : RX fm own H H' md q o :=
  RX.fx md _ _ ⟨cl_of h' n, fun hp => (at_.new q hp).1 h, fun hz => at_.zin q hz h, at_.same.free h, h⟩
/-- as a value -/
theorem ev_ofL {m : M (List α)} (h : EvL g L e md S m) : EvE g L e md (tList S) m :=
  PE.imp h fun σ H Q q => by
    obtain ⟨kp, own, at_, q⟩ := tE_iff.mp q
    refine tL_iff.mpr ⟨kp, own, at_, ?_⟩
    cases m with
    | ok d => exact fun p vs H' s n h' r => q _ H' s ⟨p, vs, rfl, newRX' at_ n h', r.mono RX.drop1⟩
    | ex c => exact q
    | no => exact q
theorem evl_flat {m : M (List α)} (hf : Flat S) (h : EvL g L e md S m) : EvL g L e md' S m :=
  PE.imp h fun σ H Q q => by
    obtain ⟨kp, own, at_, q⟩ := tL_iff.mp q
    refine tL_iff.mpr ⟨kp, own, at_, ?_⟩
    cases m with
    | ok d => exact fun p vs H' s n h' r => q p vs H' s n h' (r.flat hf)
    | ex c => exact q
    | no => exact q
theorem evl_lst {m : M (List α)} (hl : ∀ ds, m = .ok ds → ds.length ≤ 1000) (ha : EvA g L es md (aAll S) m) : EvL g L (.List es pos) md S m := by
  refine PE.imp (pe_lst ha) fun σ H Q q => ?_
  obtain ⟨kp, own, at_, q⟩ := tL_iff.mp q
  refine tA_iff.mpr ⟨kp, own, at_, ?_⟩
  cases m with
  | ok d => exact fun vs H1 s1 r1 => ⟨Nat.le_trans (by rw [← tupL_le r1]; exact hl _ rfl) (by decide), fun p hp => q p vs _ (s1.trans (newSame hp)) (s1.free hp) upd_same (Reps.mono r1 (RX.add hp))⟩
  | ex c => exact q
  | no => exact q
theorem evl_nil : EvL g L (.List [] pos) md S (.ok []) := evl_lst (fun ds h => by cases h; exact Nat.zero_le _) evs_nil
/-- operators that make a list: by a rule over what is told -/
structure LOp2 (K : PySem.W.Frag) (r : R2) (S : Ty α) (T : Ty β) (U : Ty γ) (f : α → β → M (List γ)) : Prop where
  run : ∀ {d e x y R H Q}, Rdb K R H → S.rep d x R → T.rep e y R → (match f d e with
    | .ok u => ∀ q vs H', H q = none → H' = upd H q (.lst vs) → Reps U R u vs → Q (.ref q) H'
    | _ => False) → r x y H Q

/-! ### blocks -/
structure OkS (p : Pr) (sc : Scope) (NN VV GG : List Str) (k : Nat) (g : G) : Prop extends Ok p sc NN VV GG k g where
  loc : ∀ {i : Nat} {x : Str}, VV[i]? = some x → L2.Loc g.X.env.scope x
  fnT : ∀ x, g.X.fn x = true
  psO : PassesOwn (model g.X.prog g.X.w) g.X.A g.X.env g.X.xe
  scp : g.X.env.scope = sc
  stk : g.X.stack = g.X.env :: g.X.outer
  frm : g.X.env.frame = some g.X.env.locals
  exn : g.X.ex = []
theorem PSs.ex {X : Cx} {ι : Type} {st : List Stmt} {t : ι → TS} (h : ∀ d, PSs X st (t d)) : PSs X st (fun E σ H => ∃ d, t d E σ H) := ⟨fun pins s σ H D I ⟨d, q⟩ => (h d).run pins s σ H D I q⟩
variable {st : List Stmt} {s0 : Stmt} {D : δ → Out} {d : δ}
theorem evb_nx (h : D d = .nx L') (w : Wk L L') : EvB g L [] D (.ok d) := by
  refine PSs.imp pss_nil fun E σ H ⟨kp, own, at_, q⟩ => ?_
  have q : OutOk g.fm kp E (D d) := q
  rw [h] at q
  obtain ⟨own', a', _⟩ := at_.weak w
  exact q σ H own' a'
theorem evb_go (h : D d = .go L') (w : Wk L L') : EvB g L [] D (.ok d) := by
  refine PSs.imp pss_nil fun E σ H ⟨kp, own, at_, q⟩ => ?_
  have q : OutOk g.fm kp E (D d) := q
  rw [h] at q
  obtain ⟨own', a', _⟩ := at_.weak w
  exact (q σ H own' a').1
theorem PSs.head {X : Cx} {t : TS} (h : PS X s0 t) : PSs X (s0 :: st) (fun E σ H => t { E with nx := fun _ _ => False } σ H) := by
  refine PSs.imp (pss_cons h (pss_never (sts := st))) fun E σ H q => q
theorem evb_cont (h : D d = .go L' ∨ D d = .ct L') (w : Wk L L') : EvB g L (.Continue pos :: st) D (.ok d) := by
  refine PSs.imp (PSs.head ps_continue) fun E σ H ⟨kp, own, at_, q⟩ => ?_
  have q : OutOk g.fm kp E (D d) := q
  obtain ⟨own', a', _⟩ := at_.weak w
  rcases h with h | h <;> rw [h] at q
  · exact (q σ H own' a').2
  · exact q σ H own' a'
theorem BOk.exx {kp : RdR} {E : Ends} {c : Ec} {σ : L2.St} {H : Hp} {own : List Addr} (wk : Wk L g.LX) (at_ : At g.fm kp L σ H own) (q : BOk g kp E D (.ex c)) : ∀ H', Same H H' → g.W c σ H' := fun H' s => by
  obtain ⟨own', a', _⟩ := (at_.ext s).weak wk
  exact q σ H' own' a'
/-- return e -/
inductive RtMd : Md → Bool → Prop where
  | sh {x : Md} : RtMd x false
  | f0 : RtMd .f0 true
  | fx : RtMd .fx true
theorem RtMd.rt {fm : Fm} {own : List Addr} {H H' : Hp} {bm : Bool} (h : RtMd md bm) : ∀ a o, RX fm own H H' md a o → RT fm H' bm none a o := fun a o r => by
  have r' := RX.own (own' := []) (fun _ z => nomatch z) a o r
  cases h with
  | sh =>
    have q := RX.sh a o r'
    exact q
  | f0 => exact r'
  | fx => exact RX.f0 (H := H) a o r'
theorem evb_retF {bm : Bool} {m : M α} {mk : α → δ} (wk : Wk L g.LX) (hm : RtMd md bm) (hD : ∀ d, D (mk d) = .rt bm S d) (he : EvE g L e md S m) : EvB g L (.Return (some e) pos :: st) D (m.bind fun d => .ok (mk d)) := by
  refine PSs.imp (PSs.head (ps_ret he)) fun E σ H ⟨kp, own, at_, q⟩ => ?_
  refine tE_iff.mpr ⟨kp, own, at_, ?_⟩
  cases m with
  | ok d =>
    have q : OutOk g.fm kp E (D (mk d)) := q
    rw [hD] at q
    exact fun v H' s r => q v H' (at_.same.trans s) (S.mono r hm.rt)
  | ex c => exact BOk.exx wk at_ q
  | no => exact q
theorem M.bind_id {α : Type} (m : M α) : m.bind (fun d => .ok d) = m := by cases m <;> rfl
theorem evb_ret {bm : Bool} {m : M α} {D : α → Out} (wk : Wk L g.LX) (hm : RtMd md bm) (hD : ∀ d, D d = .rt bm S d) (he : EvE g L e md S m) : EvB g L (.Return (some e) pos :: st) D m := by
  have h := evb_retF (mk := id) (st := st) (pos := pos) wk hm hD he
  rwa [show (m.bind fun d => .ok (id d)) = m from M.bind_id m] at h
theorem evb_retP {bm : Bool} {d : α} {D : δ → Out} {d' : δ} (hm : RtMd md bm) (hD : D d' = .rt bm S d) (he : EvE g L e md S (.ok d)) : EvB g L (.Return (some e) pos :: st) D (.ok d') := by
  refine PSs.imp (PSs.head (ps_ret he)) fun E σ H ⟨kp, own, at_, q⟩ => ?_
  refine tE_iff.mpr ⟨kp, own, at_, ?_⟩
  have q : OutOk g.fm kp E (D d') := q
  rw [hD] at q
  exact fun v H' s r => q v H' (at_.same.trans s) (S.mono r hm.rt)
theorem evb_retN {bm : Bool} {D : δ → Out} {d' : δ} (hD : D d' = .rt bm tNone ()) : EvB g L (.Return none pos :: st) D (.ok d') := by
  refine PSs.imp (PSs.head ps_retN) fun E σ H ⟨kp, own, at_, q⟩ => ?_
  have q : OutOk g.fm kp E (D d') := q
  rw [hD] at q
  exact q _ H at_.same rfl
theorem RX.rtL {fm : Fm} {own : List Addr} {H H' : Hp} {bm : Bool} {p : Addr} (h : RtMd md bm) : ∀ a o, RX fm (p :: own) H H' md a o → RT fm H' bm (some p) a o := fun a o r => by
  have r' := RX.own (own' := [p]) (fun x z => by rw [List.mem_singleton.mp z]; exact List.mem_cons_self) a o r
  cases h with
  | sh =>
    have q := RX.sh a o r'
    exact q
  | f0 => exact r'
  | fx => exact RX.f0 (H := H) a o r'
/-- return of a list just made -/
theorem evb_retLF {bm : Bool} {m : M (List α)} {mk : List α → δ} (wk : Wk L g.LX) (hm : RtMd md bm) (hD : ∀ d, D (mk d) = .rtL bm S d) (he : EvL g L e md S m) : EvB g L (.Return (some e) pos :: st) D (m.bind fun d => .ok (mk d)) := by
  refine PSs.imp (PSs.head (ps_ret he)) fun E σ H ⟨kp, own, at_, q⟩ => ?_
  refine tL_iff.mpr ⟨kp, own, at_, ?_⟩
  cases m with
  | ok d =>
    have q : OutOk g.fm kp E (D (mk d)) := q
    rw [hD] at q
    exact fun p vs H' s n h' r => q p vs H' (at_.same.trans s) (fun hz => at_.zin p hz n) (at_.same.free n) h' (r.mono (RX.rtL hm))
  | ex c => exact BOk.exx wk at_ q
  | no => exact q
theorem evb_retL {bm : Bool} {m : M (List α)} {D : List α → Out} (wk : Wk L g.LX) (hm : RtMd md bm) (hD : ∀ d, D d = .rtL bm S d) (he : EvL g L e md S m) : EvB g L (.Return (some e) pos :: st) D m := by
  have h := evb_retLF (mk := id) (st := st) (pos := pos) wk hm hD he
  rwa [show (m.bind fun d => .ok (id d)) = m from M.bind_id m] at h
theorem evb_retLP {bm : Bool} {d : List α} {D : δ → Out} {d' : δ} (hm : RtMd md bm) (hD : D d' = .rtL bm S d) (he : EvL g L e md S (.ok d)) : EvB g L (.Return (some e) pos :: st) D (.ok d') := by
  refine PSs.imp (PSs.head (ps_ret he)) fun E σ H ⟨kp, own, at_, q⟩ => ?_
  refine tL_iff.mpr ⟨kp, own, at_, ?_⟩
  have q : OutOk g.fm kp E (D d') := q
  rw [hD] at q
  exact fun p vs H' s n h' r => q p vs H' (at_.same.trans s) (fun hz => at_.zin p hz n) (at_.same.free n) h' (r.mono (RX.rtL hm))
/-- return of a list that a slot owns -/
theorem evb_retOwn {bm b : Bool} {ds : List α} {i j : Nat} {x : Str} {D : δ → Out} {d' : δ} {npos : Pos} (ok : Ok p sc NN VV GG k g) (hN : NN[i]? = some x) (hV : VV[j]? = some x) (hL : L[i]? = some (sOwn b S ds)) (hb : b = bm ∨ Flat S ∨ bm = false) (hD : D d' = .rtL bm S ds) :
    EvB g L (.Return (some (.Name x npos)) pos :: st) D (.ok d') := by
  obtain ⟨hv, ho⟩ := ok.vis hV
  obtain ⟨h1, h2, _⟩ := okName_d ho
  refine PSs.imp (PSs.head (ps_ret (pe_var (i := i) (by rw [ok.N]; exact hN) hv h1 h2))) fun E σ H ⟨kp, own, at_, q⟩ => ?_
  obtain ⟨Fs, hs, rfl⟩ := at_.sl
  obtain ⟨v, F, e1, e2, p, vs, rfl, rfl, hp, r⟩ := hs.get hL
  have q : OutOk g.fm kp E (D d') := q
  rw [hD] at q
  have pin : p ∈ Fs.flatten := List.mem_flatten.mpr ⟨[p], List.mem_of_getElem? e2, by simp⟩
  obtain ⟨n1, n2, n3⟩ := at_.new p pin
  have rr : Reps S (RX g.fm [p] H H (if b then .f0 else .sh)) ds vs := r.mono (RX.own (own' := [p]) (fun x z => by rw [List.mem_singleton.mp z]; exact pin))
  refine ⟨_, e1, q p vs H at_.same n3 n2 hp ?_⟩
  unfold RT
  rcases hb with rfl | hf | rfl
  · exact rr
  · exact rr.flat hf
  · exact rr.mono RX.sh
/-! ### assignments -/
inductive SlB : Md → Bool → Prop where
  | sh {x : Md} : SlB x false
  | f0 : SlB .f0 true
  | fx : SlB .fx true
theorem SlB.rb {fm : Fm} {own : List Addr} {H H' : Hp} {b : Bool} (h : SlB md b) : ∀ a o, RX fm own H H' md a o → RB fm own H' b a o := fun a o r => by
  cases h with
  | sh =>
    have q := RX.sh a o r
    exact q
  | f0 => exact r
  | fx => exact RX.f0 (H := H) a o r
variable {i j : Nat} {x : Str} {pos' : Pos}
theorem okS_fn (ok : OkS p sc NN VV GG k g) : g.X.fn x = true ∨ g.X.env.scope.names.lookup x = some .local := .inl (ok.fnT x)
theorem evb_set {b : Bool} {m : M α} {f : α → M δ} (ok : OkS p sc NN VV GG k g) (hN : NN[i]? = some x) (hV : VV[j]? = some x) (wk : Wk L g.LX) (hb : SlB md b) (he : EvE g L e md S m) (hr : ∀ d, EvB g (L.set i (sV b S d)) st D (f d))
    (hs : swapsWith e (some (.Name x pos')) pos.line g.X.env = pure false := by rfl) : EvB g L (.Assign [.Name x pos'] e pos :: st) D (m.bind f) := by
  refine PSs.imp (pss_cons (ps_set (i := i) (by rw [ok.N]; exact ok.nd) (by rw [ok.N]; exact hN) (ok.loc hV) he hs (okS_fn ok)) (PSs.ex hr)) fun E σ H ⟨kp, own, at_, q⟩ => ?_
  refine tE_iff.mpr ⟨kp, own, at_, ?_⟩
  cases m with
  | ok d =>
    intro v H' s r
    obtain ⟨own', a'⟩ := (at_.ext s).setV (i := i) (b := b) (S.mono r hb.rb)
    exact ⟨d, kp, own', a', q⟩
  | ex c => exact BOk.exx wk at_ q
  | no => exact q
theorem evb_setP {b : Bool} {d : α} {m : M δ} (ok : OkS p sc NN VV GG k g) (hN : NN[i]? = some x) (hV : VV[j]? = some x) (hb : SlB md b) (he : EvE g L e md S (.ok d)) (hr : EvB g (L.set i (sV b S d)) st D m)
    (hs : swapsWith e (some (.Name x pos')) pos.line g.X.env = pure false := by rfl) : EvB g L (.Assign [.Name x pos'] e pos :: st) D m := by
  refine PSs.imp (pss_cons (ps_set (i := i) (by rw [ok.N]; exact ok.nd) (by rw [ok.N]; exact hN) (ok.loc hV) he hs (okS_fn ok)) hr) fun E σ H ⟨kp, own, at_, q⟩ => ?_
  refine ⟨kp, own, at_, fun v H' s r => ?_⟩
  obtain ⟨own', a'⟩ := (at_.ext s).setV (i := i) (b := b) (S.mono r hb.rb)
  exact ⟨kp, own', a', q⟩
theorem set_own {Fs : List (List Addr)} {q : Addr} : ∀ {i : Nat}, ∀ x ∈ (Fs.set i [q]).flatten, x = q ∨ x ∈ Fs.flatten := by
  induction Fs with
  | nil => intro i x h; exact .inr h
  | cons F Fs ih =>
    intro i x h
    cases i with
    | zero =>
      simp only [List.set_cons_zero, List.flatten_cons, List.mem_append, List.mem_singleton] at h
      rcases h with h | h
      · exact .inl h
      · exact .inr (by simp only [List.flatten_cons, List.mem_append]; exact .inr h)
    | succ i =>
      simp only [List.set_cons_succ, List.flatten_cons, List.mem_append] at h
      rcases h with h | h
      · exact .inr (by simp only [List.flatten_cons, List.mem_append]; exact .inl h)
      · rcases ih x h with h | h
        · exact .inl h
        · exact .inr (by simp only [List.flatten_cons, List.mem_append]; exact .inr h)
theorem set_own_nd {Fs : List (List Addr)} {q : Addr} (hq : q ∉ Fs.flatten) (hn : Fs.flatten.Nodup) : ∀ {i : Nat}, (Fs.set i [q]).flatten.Nodup := by
  induction Fs with
  | nil => intro i; exact hn
  | cons F Fs ih =>
    intro i
    simp only [List.flatten_cons, List.mem_append, not_or] at hq
    rw [List.flatten_cons, List.nodup_append] at hn
    cases i with
    | zero =>
      simp only [List.set_cons_zero, List.flatten_cons]
      rw [List.nodup_append]
      refine ⟨by simp, hn.2.1, fun a ha b hb => ?_⟩
      rw [List.mem_singleton.mp ha]
      rintro rfl
      exact hq.2 hb
    | succ i =>
      simp only [List.set_cons_succ, List.flatten_cons]
      rw [List.nodup_append]
      refine ⟨hn.1, ih hq.2 hn.2.1, fun a ha b hb => ?_⟩
      rcases set_own b hb with rfl | hb
      · rintro rfl; exact hq.1 ha
      · exact hn.2.2 a ha b hb
/-- a new list becomes a slot's own -/
theorem At.setOwn {fm : Fm} {kp : RdR} {σ : L2.St} {H H' : Hp} {own : List Addr} {b : Bool} {ds : List α} {vs : List V} {q : Addr} (h : At fm kp L σ H own) (s : Same H H') (hn : H q = none) (h' : H' q = some (.lst vs))
    (r : Reps S (RB fm (q :: own) H' b) ds vs) : ∃ own', At fm kp (L.set i (sOwn b S ds)) (σ.set i (some (.ref q))) H' own' := by
  obtain ⟨h1, h2, ⟨Fs, h3, rfl⟩, h4, h5, h6⟩ := h
  have hq : q ∉ Fs.flatten := fun z => (h5 q z).1 hn
  have sub : ∀ x ∈ (Fs.set i [q]).flatten, x ∈ q :: Fs.flatten := fun x hx => (set_own x hx).elim (fun e => by rw [e]; exact List.mem_cons_self) (List.mem_cons_of_mem _)
  have key : ∀ (md : Md) a o, RX fm Fs.flatten H H md a o → RX fm (Fs.set i [q]).flatten H H' md a o := fun md a o z => by
    refine RX.own sub a o ?_
    have z1 := RX.add (o' := .lst []) hn a o z
    have na : a ≠ q ∨ KObj fm.K a o := by
      rcases RX.sh a o z with z | z
      · exact .inl fun e => Rd.some z.1 (by rw [e]; exact cl_none hn)
      · exact .inr z
    cases md with
    | sh =>
      rcases z1 with z1 | z1
      · rcases z with z | z
        · exact .inl ⟨Rd.same s z.1, z1.2⟩
        · exact .inr z
      · exact .inr z1
    | f0 => exact ⟨s.cl _ _ z.1, z1.2⟩
    | fx => exact ⟨s.cl _ _ z.1, z1.2⟩
  have keyB : ∀ (b : Bool) a o, RB fm Fs.flatten H b a o → RB fm (Fs.set i [q]).flatten H' b a o := fun b a o z => by
    cases b with
    | false => exact key .sh a o z
    | true => exact key .f0 a o z
  refine ⟨_, h1.trans s, fun a z n => h2 a z (s.free n), ⟨Fs.set i [q], (h3.st (H' := H') keyB fun p hp => ?_).set (s := sOwn b S ds) ⟨q, vs, rfl, rfl, h', r.mono fun a o z => ?_⟩ i, rfl⟩, set_own_nd hq h4, fun p hp => ?_, fun a o z => key .sh a o (h6 a o z)⟩
  · cases e : cl H p with
    | none => exact absurd e (h3.tb p hp)
    | some u => rw [cl_raw e]; exact s.keep _ _ (cl_raw e) (cl_nt e)
  · cases b <;> exact RX.own sub a o z
  · rcases set_own p hp with rfl | hp
    · exact ⟨by rw [h']; exact (fun z => by cases z), h1.free hn, fun z => h2 _ z hn⟩
    · exact ⟨fun e => (h5 p hp).1 (s.free e), (h5 p hp).2⟩
theorem evb_own {b : Bool} {m : M (List α)} {f : List α → M δ} (ok : OkS p sc NN VV GG k g) (hN : NN[i]? = some x) (hV : VV[j]? = some x) (wk : Wk L g.LX) (hb : SlB md b) (he : EvL g L e md S m) (hr : ∀ d, EvB g (L.set i (sOwn b S d)) st D (f d))
    (hs : swapsWith e (some (.Name x pos')) pos.line g.X.env = pure false := by rfl) : EvB g L (.Assign [.Name x pos'] e pos :: st) D (m.bind f) := by
  refine PSs.imp (pss_cons (ps_set (i := i) (by rw [ok.N]; exact ok.nd) (by rw [ok.N]; exact hN) (ok.loc hV) he hs (okS_fn ok)) (PSs.ex hr)) fun E σ H ⟨kp, own, at_, q⟩ => ?_
  cases m with
  | ok d =>
    refine ⟨kp, own, at_, fun v vs H' s n h' r => ?_⟩
    obtain ⟨own', a'⟩ := at_.setOwn (i := i) (b := b) s n h' (r.mono hb.rb)
    exact ⟨d, kp, own', a', q⟩
  | ex c => exact ⟨kp, own, at_, BOk.exx wk at_ q⟩
  | no => exact q.elim
theorem evb_ownP {b : Bool} {d : List α} {m : M δ} (ok : OkS p sc NN VV GG k g) (hN : NN[i]? = some x) (hV : VV[j]? = some x) (hb : SlB md b) (he : EvL g L e md S (.ok d)) (hr : EvB g (L.set i (sOwn b S d)) st D m)
    (hs : swapsWith e (some (.Name x pos')) pos.line g.X.env = pure false := by rfl) : EvB g L (.Assign [.Name x pos'] e pos :: st) D m := by
  refine PSs.imp (pss_cons (ps_set (i := i) (by rw [ok.N]; exact ok.nd) (by rw [ok.N]; exact hN) (ok.loc hV) he hs (okS_fn ok)) hr) fun E σ H ⟨kp, own, at_, q⟩ => ?_
  refine ⟨kp, own, at_, fun v vs H' s n h' r => ?_⟩
  obtain ⟨own', a'⟩ := at_.setOwn (i := i) (b := b) s n h' (r.mono hb.rb)
  exact ⟨kp, own', a', q⟩

/-- an expression whose worth is dropped -/
theorem evb_expr {m : M α} {f : α → M δ} (wk : Wk L g.LX) (he : EvE g L e md S m) (hr : ∀ d, EvB g L st D (f d)) (hs : swapsWith e none pos.line g.X.env = pure false := by rfl) : EvB g L (.Expr e pos :: st) D (m.bind f) := by
  refine PSs.imp (pss_cons (ps_expr he hs) (PSs.ex hr)) fun E σ H ⟨kp, own, at_, q⟩ => ?_
  cases m with
  | ok d => exact ⟨kp, own, at_, fun v H' s r => ⟨d, kp, own, at_.ext s, q⟩⟩
  | ex c => exact ⟨kp, own, at_, BOk.exx wk at_ q⟩
  | no => exact q.elim
theorem evb_pass {m : M δ} (hr : EvB g L st D m) : EvB g L (.Pass pos :: st) D m := PSs.imp (pss_cons ps_pass hr) fun E σ H q => q
theorem evb_drop {m : M δ} (w : Wk L L') (hr : EvB g L' st D m) : EvB g L st D m := PSs.imp hr fun E σ H ⟨kp, own, at_, q⟩ => by
  obtain ⟨own', a', _⟩ := at_.weak w
  exact ⟨kp, own', a', q⟩
/-- a slot's own list may be shared from here on -/
theorem At.freeze {fm : Fm} {kp : RdR} {σ : L2.St} {H : Hp} {own : List Addr} {b : Bool} {ds : List α} (h : At fm kp L σ H own) (hL : L[i]? = some (sOwn b S ds)) : ∃ own', At fm kp (L.set i (sV false (tList S) ds)) σ H own' ∧ ∀ p ∈ own', p ∈ own := by
  obtain ⟨h1, h2, ⟨Fs, h3, rfl⟩, h4, h5, h6⟩ := h
  obtain ⟨v, F, e1, e2, q, vs, rfl, rfl, hp, r⟩ := h3.get hL
  have qin : q ∈ Fs.flatten := List.mem_flatten.mpr ⟨[q], List.mem_of_getElem? e2, by simp⟩
  have kk : ∀ p ∈ (Fs.set i []).flatten, p ∈ Fs.flatten := fun p hp => (set_sub (i := i)).subset hp
  have qn : q ∉ (Fs.set i []).flatten := by
    have nd := h4
    clear h3 h5 h6 qin kk r hp
    induction Fs generalizing i L σ with
    | nil => simp at e2
    | cons F Fs ih =>
      rw [List.flatten_cons, List.nodup_append] at nd
      cases i with
      | zero =>
        simp at e2
        subst e2
        simp only [List.set_cons_zero, List.flatten_cons, List.nil_append]
        exact fun z => nd.2.2 q (by simp) q z rfl
      | succ i =>
        simp only [List.set_cons_succ, List.flatten_cons, List.mem_append, not_or]
        have e2' : Fs[i]? = some [q] := by simpa using e2
        refine ⟨fun z => nd.2.2 q z q (List.mem_flatten.mpr ⟨[q], List.mem_of_getElem? e2', by simp⟩) rfl, ?_⟩
        cases σ with
        | nil => simp at e1
        | cons s σ =>
          cases L with
          | nil => simp at hL
          | cons l L => exact ih (i := i) (L := L) (σ := σ) (hL := by simpa using hL) (e1 := by simpa using e1) (e2 := e2') (h4 := nd.2.1) (nd := nd.2.1)
  have σe : σ.set i (some (V.ref q)) = σ := by
    apply List.ext_getElem?
    intro n
    by_cases hn : n = i
    · subst hn
      rw [e1]
      have := (List.getElem?_eq_some_iff.mp e1).1
      rw [List.getElem?_set_self this]
    · rw [List.getElem?_set_ne (Ne.symm hn)]
  refine ⟨_, ⟨h1, h2, ⟨Fs.set i [], ?_, rfl⟩, h4.sublist set_sub, fun p hp => h5 p (kk p hp), fun a o z => RX.own (md := .sh) (H := H) kk a o (h6 a o z)⟩, kk⟩
  rw [← σe]
  refine (h3.st (RB.own kk) fun _ _ => rfl).set (s := sV false (tList S) ds) ⟨rfl, .ref q, rfl, q, vs, rfl, ?_, ?_⟩ i
  · exact .inl ⟨.inl (cl_of hp), qn, (h5 q qin).2.2⟩
  · exact r.mono fun a o z => RX.sh (H := H) a o (RB.own kk b a o z)
theorem evb_freeze {b : Bool} {ds : List α} {m : M δ} (hL : L[i]? = some (sOwn b S ds)) (hr : EvB g (L.set i (sV false (tList S) ds)) st D m) : EvB g L st D m := PSs.imp hr fun E σ H ⟨kp, own, at_, q⟩ => by
  obtain ⟨own', a', _⟩ := at_.freeze hL
  exact ⟨kp, own', a', q⟩
/-- an expression may read a slot's own list -/
theorem ev_borrow {b : Bool} {ds : List α} {m : M β} (hf : Flat T ∨ md = .fx) (hL : L[i]? = some (sOwn b S ds)) (h : EvE g (L.set i (sV false (tList S) ds)) e md T m) : EvE g L e md T m := PE.imp h fun σ H Q q => by
  obtain ⟨kp, own, at_, q⟩ := tE_iff.mp q
  obtain ⟨own', a', sub⟩ := at_.freeze hL
  refine tE_iff.mpr ⟨kp, own', a', ?_⟩
  cases m with
  | ok d =>
    refine fun v H' s r => q v H' s ?_
    rcases hf with hf | rfl
    · exact hf r
    · exact T.mono r fun a o z => ⟨z.1, fun y => (at_.new a y).1 z.2.2.2.2, z.2.2⟩
  | ex c => exact q
  | no => exact q
theorem evt_borrow {b : Bool} {ds : List α} {m : M Bool} (hL : L[i]? = some (sOwn b S ds)) (h : EvT g (L.set i (sV false (tList S) ds)) e m) : EvT g L e m := PT.imp h fun σ H Q q => by
  obtain ⟨kp, own, at_, q⟩ := tT_iff.mp q
  obtain ⟨own', a', sub⟩ := at_.freeze hL
  refine tT_iff.mpr ⟨kp, own', a', ?_⟩
  cases m <;> exact q
theorem evl_borrow {b : Bool} {ds : List α} {m : M (List β)} (hf : Flat T ∨ md = .fx) (hL : L[i]? = some (sOwn b S ds)) (h : EvL g (L.set i (sV false (tList S) ds)) e md T m) : EvL g L e md T m := PE.imp h fun σ H Q q => by
  obtain ⟨kp, own, at_, q⟩ := tL_iff.mp q
  obtain ⟨own', a', sub⟩ := at_.freeze hL
  refine tL_iff.mpr ⟨kp, own', a', ?_⟩
  cases m with
  | ok d =>
    refine fun p v H' s n h' r => q p v H' s n h' ?_
    rcases hf with hf | rfl
    · exact r.flat hf
    · exact r.mono fun a o z => ⟨z.1, fun y => (List.mem_cons.mp y).elim (fun e => z.2.1 (by rw [e]; exact List.mem_cons_self)) fun y => (at_.new a y).1 z.2.2.2.2, z.2.2⟩
  | ex c => exact q
  | no => exact q

/-! ### if -/
theorem if_bind {c : Bool} {m1 m2 : M α} {f : α → M β} : (if c = true then m1 else m2).bind f = if c = true then m1.bind f else m2.bind f := by cases c <;> rfl
/-- both ways go on to one state -/
theorem evb_if {mc : M Bool} {m1 m2 : M β} {f : β → M δ} {LJ : β → List Slot} {sa sb : List Stmt} (wk : Wk L g.LX) (hc : EvT g L c mc) (ha : EvB g L sa (fun s => .nx (LJ s)) m1) (hb : EvB g L sb (fun s => .nx (LJ s)) m2) (hr : ∀ s, EvB g (LJ s) st D (f s)) :
    EvB g L (.If c sa sb pos :: st) D (mc.bind fun c => (if c = true then m1 else m2).bind f) := by
  refine PSs.imp (pss_cons (ps_if hc ha hb) (PSs.ex hr)) fun E σ H ⟨kp, own, at_, q⟩ => ?_
  have key : ∀ {m : M β} {H1 : Hp}, Same H H1 → BOk g kp E D (m.bind f) → tB g L (fun s => .nx (LJ s)) m { E with nx := fun σ H => ∃ d, tB g (LJ d) D (f d) E σ H } σ H1 := fun {m H1} s q => by
    cases m with
    | ok d => exact ⟨kp, own, at_.ext s, fun σ' H' own' a' => ⟨d, kp, own', a', q⟩⟩
    | ex c => exact ⟨kp, own, at_.ext s, q⟩
    | no => exact q.elim
  cases mc with
  | ok c =>
    refine ⟨kp, own, at_, fun H1 s => ?_⟩
    cases c with
    | true => exact key s q
    | false => exact key s q
  | ex c => exact ⟨kp, own, at_, BOk.exx wk at_ q⟩
  | no => exact q.elim
theorem evb_ifP {c' : Bool} {m1 m2 : M β} {f : β → M δ} {LJ : β → List Slot} {sa sb : List Stmt} (wk : Wk L g.LX) (hc : EvT g L c (.ok c')) (ha : EvB g L sa (fun s => .nx (LJ s)) m1) (hb : EvB g L sb (fun s => .nx (LJ s)) m2) (hr : ∀ s, EvB g (LJ s) st D (f s)) :
    EvB g L (.If c sa sb pos :: st) D ((if c' = true then m1 else m2).bind f) := evb_if wk hc ha hb hr
def Out.isNx : Out → Bool
  | .nx _ => true
  | _ => false
theorem OutOk.cut {fm : Fm} {kp : RdR} {E E' : Ends} (hc : E'.ct = E.ct) (hr : E'.rt = E.rt) : ∀ {o : Out}, o.isNx = false → OutOk fm kp E o → OutOk fm kp E' o.cut := fun {o} hn q => by
  cases o with
  | nx L => cases hn
  | ct L => exact fun σ H own a => by rw [hc]; exact q σ H own a
  | go L => exact fun σ H own a => by rw [hc]; exact (q σ H own a).2
  | rt b T r => exact fun v H' s r => by rw [hr]; exact q v H' s r
  | rtL b T r => exact fun p vs H' s n1 n2 h r => by rw [hr]; exact q p vs H' s n1 n2 h r
  | bad => exact q
/-- one way leaves (return, raise, continue), the other goes on -/
theorem evb_ifx {mc : M Bool} {m1 m2 : M δ} {sa : List Stmt} (wk : Wk L g.LX) (hc : EvT g L c mc) (ha : EvB g L sa (fun d => (D d).cut) m1) (hr : EvB g L st D m2) (hn : ∀ d, (D d).isNx = false := by intro d; first | rfl | (cases d <;> first | rfl | (rename_i z; cases z <;> rfl))) :
    EvB g L (.If c sa [] pos :: st) D (mc.bind fun c => if c = true then m1 else m2) := by
  refine PSs.imp (pss_cons (ps_if hc ha pss_nil) hr) fun E σ H ⟨kp, own, at_, q⟩ => ?_
  cases mc with
  | ok c =>
    refine ⟨kp, own, at_, fun H1 s => ?_⟩
    cases c with
    | true =>
      have q : BOk g kp E D m1 := q
      refine ⟨kp, own, at_.ext s, ?_⟩
      cases m1 with
      | ok d => exact OutOk.cut (E := E) (E' := { E with nx := tB g L D m2 E }) rfl rfl (hn d) q
      | ex c => exact q
      | no => exact q
    | false => exact ⟨kp, own, at_.ext s, q⟩
  | ex c => exact ⟨kp, own, at_, BOk.exx wk at_ q⟩
  | no => exact q.elim
theorem evb_ifxP {c' : Bool} {m1 m2 : M δ} {sa : List Stmt} (hc : EvT g L c (.ok c')) (ha : EvB g L sa (fun d => (D d).cut) m1) (hr : EvB g L st D m2) (hn : ∀ d, (D d).isNx = false := by intro d; first | rfl | (cases d <;> first | rfl | (rename_i z; cases z <;> rfl))) :
    EvB g L (.If c sa [] pos :: st) D (if c' = true then m1 else m2) := by
  refine PSs.imp (pss_cons (ps_if hc ha pss_nil) hr) fun E σ H ⟨kp, own, at_, q⟩ => ?_
  refine ⟨kp, own, at_, fun H1 s => ?_⟩
  cases c' with
  | true =>
    have q : BOk g kp E D m1 := q
    refine ⟨kp, own, at_.ext s, ?_⟩
    cases m1 with
    | ok d => exact OutOk.cut (E := E) (E' := { E with nx := tB g L D m2 E }) rfl rfl (hn d) q
    | ex c => exact q
    | no => exact q
  | false => exact ⟨kp, own, at_.ext s, q⟩
/-- the last statement of a block: both ways end as the block does -/
theorem evb_ifl {mc : M Bool} {m1 m2 : M δ} {sa sb : List Stmt} (wk : Wk L g.LX) (hc : EvT g L c mc) (ha : EvB g L sa D m1) (hb : EvB g L sb D m2) : EvB g L [.If c sa sb pos] D (mc.bind fun c => if c = true then m1 else m2) := by
  refine PSs.imp (pss_one (ps_if hc ha hb)) fun E σ H ⟨kp, own, at_, q⟩ => ?_
  cases mc with
  | ok c =>
    refine ⟨kp, own, at_, fun H1 s => ?_⟩
    cases c with
    | true => exact ⟨kp, own, at_.ext s, q⟩
    | false => exact ⟨kp, own, at_.ext s, q⟩
  | ex c => exact ⟨kp, own, at_, BOk.exx wk at_ q⟩
  | no => exact q.elim
theorem evb_iflP {c' : Bool} {m1 m2 : M δ} {sa sb : List Stmt} (hc : EvT g L c (.ok c')) (ha : EvB g L sa D m1) (hb : EvB g L sb D m2) : EvB g L [.If c sa sb pos] D (if c' = true then m1 else m2) := by
  refine PSs.imp (pss_one (ps_if hc ha hb)) fun E σ H ⟨kp, own, at_, q⟩ => ?_
  refine ⟨kp, own, at_, fun H1 s => ?_⟩
  cases c' with
  | true => exact ⟨kp, own, at_.ext s, q⟩
  | false => exact ⟨kp, own, at_.ext s, q⟩

/-! ### loops -/
def forM {α β : Type} (f : β → α → M β) : β → List α → M β
  | s, [] => .ok s
  | s, x :: r => (f s x).bind fun s' => forM f s' r
/-- a turn's end: on, or out of the def -/
inductive Fl (β ρ : Type) where
  | nx (s : β)
  | rt (r : ρ)
universe u in
def Fl.el {β ρ : Type} {γ : Type u} (f : β → γ) (h : ρ → γ) : Fl β ρ → γ
  | .nx s => f s
  | .rt r => h r
def forF {α β ρ : Type} (f : β → α → M (Fl β ρ)) : β → List α → M (Fl β ρ)
  | s, [] => .ok (.nx s)
  | s, x :: r => (f s x).bind (Fl.el (fun s' => forF f s' r) fun r => .ok (.rt r))
def ItOk (K : PySem.W.Frag) (kp : RdR) (J : It) (T : Ty α) (xs : List α) : Prop :=
  ∀ H, Rdb K kp H → ∀ i, (∀ d, xs[i]? = some d → J.go i H ∧ ∀ x H', J.yld i H x H' → Same H H' ∧ T.rep d x (Nw false kp H H')) ∧ (xs[i]? = none → J.stop i H)
/-- what a for walks -/
def tI (fm : Fm) (W : Wx) (L : List Slot) (T : Ty α) (m : M (List α)) : TI := fun σ H R => ∃ kp own, At fm kp L σ H own ∧
  match m with
  | .ok xs => ∀ J H', Same H H' → ItOk fm.K (RD fm own H') J T xs → R J H'
  | .ex c => ∀ H', Same H H' → W c σ H'
  | .no => False
def EvI (g : G) (L : List Slot) (tg e : Expr) (T : Ty α) (m : M (List α)) : Prop := PI g.X tg e (tI g.fm g.W L T m)
theorem PI.imp {X : Cx} {tg e : Expr} {t t' : TI} (h : PI X tg e t) (k : ∀ σ H Q, t' σ H Q → t σ H Q) : PI X tg e t' := ⟨fun pins s σ H Q I q => h.run pins s σ H Q I (k _ _ _ q)⟩
/-- a target that is one name: its slot afterwards -/
def tG (fm : Fm) (T : Ty α) (L : List Slot) (Lt : α → List Slot) : TG := fun v σ H Q => ∃ kp own d, At fm kp L σ H own ∧ T.rep d v (RD fm own H) ∧ ∀ σ' own', At fm kp (Lt d) σ' H own' → (∀ p ∈ own', p ∈ own) → Q σ' H
def EvG (g : G) (tg : Expr) (T : Ty α) (L : List Slot) (Lt : α → List Slot) : Prop := PG g.X tg (tG g.fm T L Lt)
theorem PG.imp {X : Cx} {e : Expr} {t t' : TG} (h : PG X e t) (k : ∀ v σ H Q, t' v σ H Q → t v σ H Q) : PG X e t' := ⟨fun pins s σ H v u Q I r q => h.run pins s σ H v u Q I r (k _ _ _ _ q)⟩

theorem PG.ex {X : Cx} {ι : Type} {e : Expr} {t : ι → TG} (h : ∀ d, PG X e (t d)) : PG X e (fun v σ H Q => ∃ d, t d v σ H Q) := ⟨fun pins s σ H v u Q I r ⟨d, q⟩ => (h d).run pins s σ H v u Q I r q⟩
theorem evg_name (ok : OkS p sc NN VV GG k g) (hN : NN[i]? = some x) (hV : VV[j]? = some x) : EvG g (.Name x pos) T L (fun d => L.set i (sV false T d)) := by
  refine PG.imp (pg_name (i := i) (by rw [ok.N]; exact ok.nd) (by rw [ok.N]; exact hN) (ok.loc hV) (okS_fn ok)) fun v σ H Q ⟨kp, own, d, at_, r, q⟩ => ?_
  obtain ⟨h1, h2, ⟨Fs, h3, rfl⟩, h4, h5, h6⟩ := at_
  have kk : ∀ p ∈ (Fs.set i []).flatten, p ∈ Fs.flatten := fun p hp => (set_sub (i := i)).subset hp
  exact q _ _ ⟨h1, h2, ⟨Fs.set i [], (h3.st (RB.own kk) fun _ _ => rfl).set (s := sV false T d) ⟨rfl, v, rfl, T.mono r (RX.own (md := .sh) (H := H) kk)⟩ i, rfl⟩, h4.sublist set_sub, fun p hp => h5 p (kk p hp), fun a o q => RX.own (md := .sh) (H := H) kk a o (h6 a o q)⟩ kk
theorem Nw.rd {fm : Fm} {kp kp' : RdR} {own : List Addr} {σ : L2.St} {H H' : Hp} (at_ : At fm kp L σ H own) (k : ∀ a o, kp' a o → RD fm own H a o) (s : Same H H') : ∀ a o, Nw false kp' H H' a o → RD fm own H' a o := fun a o r => by
  rcases r with ⟨_, r⟩ | ⟨r, n⟩
  · exact RD.same s a o (k a o r)
  · exact .inl ⟨.inl r, fun hp => (at_.new a hp).1 n, fun hz => at_.zin a hz n⟩
theorem RD.rdb {fm : Fm} {own : List Addr} {H : Hp} : Rdb fm.K (RD fm own H) H := fun a o r => r.imp (fun h => Rd.raw h.1) id
theorem evb_for {m : M (List α)} {f : β → α → M β} {h : β → M δ} {LF : β → List Slot} {Lt : β → α → List Slot} {s0 : β} {tg it : Expr} {body : List Stmt} (ok : OkS p sc NN VV GG k g) (wk : Wk L g.LX) (hI : EvI g L tg it S m) (w0 : Wk L (LF s0))
    (hG : ∀ s, EvG g tg S (LF s) (Lt s)) (hb : ∀ s d, EvB g (Lt s d) body (fun s' => .go (LF s')) (f s d)) (hr : ∀ s, EvB g (LF s) st D (h s)) (hs : ∀ x, foldedSetIterable it g.X.env x = pure x := by intro _; rfl) :
    EvB g L (.For tg it body [] pos :: st) D (m.bind fun xs => (forM f s0 xs).bind h) := by
  refine PSs.imp (pss_cons (ps_for ok.psO ok.calm hI (PG.ex hG) (PSs.ex fun s => PSs.ex (hb s)) hs) (PSs.ex hr)) fun E σ H ⟨kp, own, at_, q⟩ => ?_
  cases m with
  | ex c => exact ⟨kp, own, at_, BOk.exx wk at_ q⟩
  | no => exact q.elim
  | ok xs =>
  refine ⟨kp, own, at_, fun J H1 s1 hJ => ?_⟩
  have at1 := at_.ext s1
  obtain ⟨own0, a0, sub0⟩ := at1.weak w0
  have q : BOk g kp E D ((forM f s0 xs).bind h) := q
  have kk : ∀ a o, kp a o → RD g.fm own H1 a o := at1.kept
  have a0' : At g.fm (RD g.fm own H1) (LF s0) σ H1 own0 := ⟨a0.same, a0.zin, a0.sl, a0.nd, a0.new, fun a o z => RX.own (md := .sh) (H := H1) sub0 a o z⟩
  refine ⟨fun i m σ H => m = xs.length - i ∧ i ≤ xs.length ∧ ∃ s own', At g.fm (RD g.fm own H1) (LF s) σ H own' ∧ BOk g kp E D ((forM f s (xs.drop i)).bind h), ⟨_, rfl, Nat.zero_le _, s0, own0, a0', q⟩, ?_⟩
  rintro i m σ H ⟨rfl, hi, s, own', a', q'⟩
  have rb : Rdb g.fm.K (RD g.fm own H1) H := fun a o z => (a'.kept a o z).imp (fun h => Rd.raw h.1) id
  obtain ⟨hgo, hst⟩ := hJ H rb i
  by_cases hlt : i < xs.length
  · have he : xs[i]? = some xs[i] := by simp [hlt]
    obtain ⟨go, yl⟩ := hgo _ he
    rw [List.drop_eq_getElem_cons hlt] at q'
    refine .inr ⟨go, fun σ' H' => ∃ s own', At g.fm (RD g.fm own H1) (LF s) σ' H' own' ∧ BOk g kp E D ((forM f s (xs.drop (i + 1))).bind h), fun σ' H' ⟨s', own'', a'', q''⟩ => ⟨xs.length - (i + 1), by omega, rfl, hlt, s', own'', a'', q''⟩, fun x H' y => ?_⟩
    obtain ⟨s2, r2⟩ := yl x H' y
    refine ⟨s, _, own', xs[i], a'.ext s2, S.mono r2 (Nw.rd a' a'.kept s2), fun σ' own'' a'' _ => ⟨s, xs[i], _, own'', a'', ?_⟩⟩
    have q2 : BOk g kp E D (((f s xs[i]).bind fun s' => forM f s' (xs.drop (i + 1))).bind h) := q'
    cases hf : f s xs[i] with
    | ok s' =>
      rw [hf] at q2
      exact fun σ3 H3 own3 a3 => ⟨⟨s', own3, a3, q2⟩, ⟨s', own3, a3, q2⟩⟩
    | ex c =>
      rw [hf] at q2
      exact fun σ3 H3 own3 a3 => q2 σ3 H3 own3 (a3.keep kk)
    | no => rw [hf] at q2; exact q2
  · have e : i = xs.length := by omega
    subst e
    rw [List.drop_length] at q'
    exact .inl ⟨hst (by simp), s, kp, own', a'.keep kk, q'⟩
def Out.isRt : Out → Bool
  | .rt _ _ _ => true
  | .rtL _ _ _ => true
  | _ => false
theorem OutOk.rt {fm : Fm} {kp kp' : RdR} {E E' : Ends} (hr : E'.rt = E.rt) : ∀ {o : Out}, o.isRt = true → OutOk fm kp E o → OutOk fm kp' E' o := fun {o} hn q => by
  cases o with
  | nx L => cases hn
  | ct L => cases hn
  | go L => cases hn
  | rt b T r => exact fun v H' s r => by rw [hr]; exact q v H' s r
  | rtL b T r => exact fun p vs H' s n1 n2 h r => by rw [hr]; exact q p vs H' s n1 n2 h r
  | bad => cases hn
/-- .. that may leave the def -/
theorem evb_forF {ρ : Type} {m : M (List α)} {f : β → α → M (Fl β ρ)} {h : β → M δ} {dr : ρ → δ} {LF : β → List Slot} {Lt : β → α → List Slot} {s0 : β} {tg it : Expr} {body : List Stmt} (ok : OkS p sc NN VV GG k g) (wk : Wk L g.LX) (hI : EvI g L tg it S m) (w0 : Wk L (LF s0))
    (hG : ∀ s, EvG g tg S (LF s) (Lt s)) (hb : ∀ s d, EvB g (Lt s d) body (Fl.el (fun s' => Out.go (LF s')) fun r => D (dr r)) (f s d)) (hr : ∀ s, EvB g (LF s) st D (h s)) (hD : ∀ r, (D (dr r)).isRt = true := by intro d; first | rfl | (cases d <;> rfl)) (hs : ∀ x, foldedSetIterable it g.X.env x = pure x := by intro _; rfl) :
    EvB g L (.For tg it body [] pos :: st) D (m.bind fun xs => (forF f s0 xs).bind (Fl.el h fun r => .ok (dr r))) := by
  refine PSs.imp (pss_cons (ps_for ok.psO ok.calm hI (PG.ex hG) (PSs.ex fun s => PSs.ex (hb s)) hs) (PSs.ex hr)) fun E σ H ⟨kp, own, at_, q⟩ => ?_
  cases m with
  | ex c => exact ⟨kp, own, at_, BOk.exx wk at_ q⟩
  | no => exact q.elim
  | ok xs =>
  refine ⟨kp, own, at_, fun J H1 s1 hJ => ?_⟩
  have at1 := at_.ext s1
  obtain ⟨own0, a0, sub0⟩ := at1.weak w0
  have q : BOk g kp E D ((forF f s0 xs).bind (Fl.el h fun r => .ok (dr r))) := q
  have kk : ∀ a o, kp a o → RD g.fm own H1 a o := at1.kept
  have a0' : At g.fm (RD g.fm own H1) (LF s0) σ H1 own0 := ⟨a0.same, a0.zin, a0.sl, a0.nd, a0.new, fun a o z => RX.own (md := .sh) (H := H1) sub0 a o z⟩
  refine ⟨fun i m σ H => m = xs.length - i ∧ i ≤ xs.length ∧ ∃ s own', At g.fm (RD g.fm own H1) (LF s) σ H own' ∧ BOk g kp E D ((forF f s (xs.drop i)).bind (Fl.el h fun r => .ok (dr r))), ⟨_, rfl, Nat.zero_le _, s0, own0, a0', q⟩, ?_⟩
  rintro i m σ H ⟨rfl, hi, s, own', a', q'⟩
  have rb : Rdb g.fm.K (RD g.fm own H1) H := fun a o z => (a'.kept a o z).imp (fun h => Rd.raw h.1) id
  obtain ⟨hgo, hst⟩ := hJ H rb i
  by_cases hlt : i < xs.length
  · have he : xs[i]? = some xs[i] := by simp [hlt]
    obtain ⟨go, yl⟩ := hgo _ he
    rw [List.drop_eq_getElem_cons hlt] at q'
    refine .inr ⟨go, fun σ' H' => ∃ s own', At g.fm (RD g.fm own H1) (LF s) σ' H' own' ∧ BOk g kp E D ((forF f s (xs.drop (i + 1))).bind (Fl.el h fun r => .ok (dr r))), fun σ' H' ⟨s', own'', a'', q''⟩ => ⟨xs.length - (i + 1), by omega, rfl, hlt, s', own'', a'', q''⟩, fun x H' y => ?_⟩
    obtain ⟨s2, r2⟩ := yl x H' y
    refine ⟨s, _, own', xs[i], a'.ext s2, S.mono r2 (Nw.rd a' a'.kept s2), fun σ' own'' a'' _ => ⟨s, xs[i], _, own'', a'', ?_⟩⟩
    have q2 : BOk g kp E D (((f s xs[i]).bind (Fl.el (fun s' => forF f s' (xs.drop (i + 1))) fun r => .ok (.rt r))).bind (Fl.el h fun r => .ok (dr r))) := q'
    cases hf : f s xs[i] with
    | ok s' =>
      rw [hf] at q2
      cases s' with
      | nx s' => exact fun σ3 H3 own3 a3 => ⟨⟨s', own3, a3, q2⟩, ⟨s', own3, a3, q2⟩⟩
      | rt r =>
        have q2 : OutOk g.fm kp E (D (dr r)) := q2
        show OutOk g.fm _ _ (D (dr r))
        refine OutOk.rt (E := E) ?_ (hD r) q2
        rfl
    | ex c =>
      rw [hf] at q2
      exact fun σ3 H3 own3 a3 => q2 σ3 H3 own3 (a3.keep kk)
    | no => rw [hf] at q2; exact q2
  · have e : i = xs.length := by omega
    subst e
    rw [List.drop_length] at q'
    exact .inl ⟨hst (by simp), s, kp, own', a'.keep kk, q'⟩
/-- while: fuel says how many turns at most -/
def whileM {β : Type} (t : β → M Bool) (f : β → M β) : Nat → β → M β
  | 0, _ => .no
  | n + 1, s => (t s).bind fun c => if c = true then (f s).bind (whileM t f n) else .ok s
def whileF {β ρ : Type} (t : β → M Bool) (f : β → M (Fl β ρ)) : Nat → β → M (Fl β ρ)
  | 0, _ => .no
  | n + 1, s => (t s).bind fun c => if c = true then (f s).bind (Fl.el (whileF t f n) fun r => .ok (.rt r)) else .ok (.nx s)
theorem PT.ex {X : Cx} {ι : Type} {e : Expr} {t : ι → TT} (h : ∀ d, PT X e (t d)) : PT X e (fun σ H Q => ∃ d, t d σ H Q) := ⟨fun pins s σ H Q I ⟨d, q⟩ => (h d).run pins s σ H Q I q⟩
theorem evb_while {n : Nat} {t : β → M Bool} {f : β → M β} {h : β → M δ} {LF : β → List Slot} {s0 : β} {body : List Stmt} (ok : OkS p sc NN VV GG k g) (wk : ∀ s, Wk (LF s) g.LX) (w0 : Wk L (LF s0))
    (hc : ∀ s, EvT g (LF s) c (t s)) (hb : ∀ s, EvB g (LF s) body (fun s' => .go (LF s')) (f s)) (hr : ∀ s, EvB g (LF s) st D (h s)) :
    EvB g L (.While c body [] pos :: st) D ((whileM t f n s0).bind h) := by
  refine PSs.imp (pss_cons (ps_while ok.psO (PT.ex hc) (PSs.ex hb)) (PSs.ex hr)) fun E σ H ⟨kp, own, at_, q⟩ => ?_
  obtain ⟨own0, a0, _⟩ := at_.weak w0
  refine ⟨fun m σ H => ∃ s own', At g.fm kp (LF s) σ H own' ∧ BOk g kp E D ((whileM t f m s).bind h), ⟨n, s0, own0, a0, q⟩, ?_⟩
  rintro m σ H ⟨s, own', a', q'⟩
  cases m with
  | zero => exact q'.elim
  | succ m =>
  refine ⟨s, tT_iff.mpr ⟨kp, own', a', ?_⟩⟩
  have q2 : BOk g kp E D (((t s).bind fun c => if c = true then (f s).bind (whileM t f m) else .ok s).bind h) := q'
  cases ht : t s with
  | ok c =>
    rw [ht] at q2
    intro H1 s1
    cases c with
    | true =>
      rw [if_pos rfl]
      refine ⟨fun σ' H' => ∃ s own', At g.fm kp (LF s) σ' H' own' ∧ BOk g kp E D ((whileM t f m s).bind h), fun σ' H' z => ⟨m, Nat.lt_succ_self m, z⟩, s, kp, own', a'.ext s1, ?_⟩
      have q3 : BOk g kp E D (((f s).bind (whileM t f m)).bind h) := q2
      cases hf : f s with
      | ok s' => rw [hf] at q3; exact fun σ3 H3 own3 a3 => ⟨⟨s', own3, a3, q3⟩, ⟨s', own3, a3, q3⟩⟩
      | ex c => rw [hf] at q3; exact q3
      | no => rw [hf] at q3; exact q3
    | false => exact ⟨s, kp, own', a'.ext s1, q2⟩
  | ex c => rw [ht] at q2; exact BOk.exx (wk s) a' q2
  | no => rw [ht] at q2; exact q2
theorem evb_whileF {ρ : Type} {n : Nat} {t : β → M Bool} {f : β → M (Fl β ρ)} {h : β → M δ} {dr : ρ → δ} {LF : β → List Slot} {s0 : β} {body : List Stmt} (ok : OkS p sc NN VV GG k g) (wk : ∀ s, Wk (LF s) g.LX) (w0 : Wk L (LF s0))
    (hc : ∀ s, EvT g (LF s) c (t s)) (hb : ∀ s, EvB g (LF s) body (Fl.el (fun s' => Out.go (LF s')) fun r => D (dr r)) (f s)) (hr : ∀ s, EvB g (LF s) st D (h s)) (hD : ∀ r, (D (dr r)).isRt = true := by intro d; first | rfl | (cases d <;> rfl)) :
    EvB g L (.While c body [] pos :: st) D ((whileF t f n s0).bind (Fl.el h fun r => .ok (dr r))) := by
  refine PSs.imp (pss_cons (ps_while ok.psO (PT.ex hc) (PSs.ex hb)) (PSs.ex hr)) fun E σ H ⟨kp, own, at_, q⟩ => ?_
  obtain ⟨own0, a0, _⟩ := at_.weak w0
  refine ⟨fun m σ H => ∃ s own', At g.fm kp (LF s) σ H own' ∧ BOk g kp E D ((whileF t f m s).bind (Fl.el h fun r => .ok (dr r))), ⟨n, s0, own0, a0, q⟩, ?_⟩
  rintro m σ H ⟨s, own', a', q'⟩
  cases m with
  | zero => exact q'.elim
  | succ m =>
  refine ⟨s, tT_iff.mpr ⟨kp, own', a', ?_⟩⟩
  have q2 : BOk g kp E D (((t s).bind fun c => if c = true then (f s).bind (Fl.el (whileF t f m) fun r => .ok (.rt r)) else .ok (.nx s)).bind (Fl.el h fun r => .ok (dr r))) := q'
  cases ht : t s with
  | ok c =>
    rw [ht] at q2
    intro H1 s1
    cases c with
    | true =>
      rw [if_pos rfl]
      refine ⟨fun σ' H' => ∃ s own', At g.fm kp (LF s) σ' H' own' ∧ BOk g kp E D ((whileF t f m s).bind (Fl.el h fun r => .ok (dr r))), fun σ' H' z => ⟨m, Nat.lt_succ_self m, z⟩, s, kp, own', a'.ext s1, ?_⟩
      have q3 : BOk g kp E D (((f s).bind (Fl.el (whileF t f m) fun r => .ok (.rt r))).bind (Fl.el h fun r => .ok (dr r))) := q2
      cases hf : f s with
      | ok s' =>
        rw [hf] at q3
        cases s' with
        | nx s' => exact fun σ3 H3 own3 a3 => ⟨⟨s', own3, a3, q3⟩, ⟨s', own3, a3, q3⟩⟩
        | rt r =>
          have q3 : OutOk g.fm kp E (D (dr r)) := q3
          show OutOk g.fm _ _ (D (dr r))
          refine OutOk.rt (E := E) ?_ (hD r) q3
          rfl
      | ex c => rw [hf] at q3; exact q3
      | no => rw [hf] at q3; exact q3
    | false => exact ⟨s, kp, own', a'.ext s1, q2⟩
  | ex c => rw [ht] at q2; exact BOk.exx (wk s) a' q2
  | no => rw [ht] at q2; exact q2
end
end Hd

namespace Hd
open PySem PySem.Spec L2
/-! ### a def and its calls -/
def RetOk (fm : Fm) (Q : VK) : Out → Prop
  | .rt md T r => ∀ v H', Same fm.H0 H' → T.rep r v (RT fm H' md) → Q v H'
  | .rtL md T r => ∀ p vs H', Same fm.H0 H' → ¬ fm.z p → fm.H0 p = none → H' p = some (.lst vs) → Reps T (RT fm H' md (some p)) r vs → Q (.ref p) H'
  | _ => False
/-- what a def promises: it comes to F -/
def spM (p : Pr) {δ ρ : Type} (A : Ar δ) (D : ρ → Out) (F : δ → M ρ) : Sp := fun vs H Q E => ∃ d z, ((∀ a, z a → H a ≠ none) ∧ ∀ P, p.T = some P → LamX.TabS H P lamQ) ∧ A.rep d vs (RD ⟨p.K, H, z⟩ [] H) ∧
  match F d with
  | .ok r => RetOk ⟨p.K, H, z⟩ Q (D r)
  | .ex c => ∀ H', Same H H' → E (.ref (p.C c)) none H'
  | .no => False
/-- the slots of the arguments -/
inductive ArS : {δ : Type} → Ar δ → Nat → (δ → List Slot) → Prop where
  | nil : ArS aNil 0 (fun _ => [])
  | cons {α δ : Type} {T : Ty α} {A : Ar δ} {n : Nat} {f : δ → List Slot} : ArS A n f → ArS (aCons T A) (n + 1) (fun d => sV false T d.1 :: f d.2)
theorem ArS.all {H : Hp} {R : Bool → RdR} {δ : Type} {A : Ar δ} {n : Nat} {f : δ → List Slot} (s : ArS A n f) : ∀ {d : δ} {vs : List V}, A.rep d vs (R false) → vs.length = n ∧ AllS H R (f d) (vs.map some) (List.replicate n []) := by
  induction s with
  | nil => intro d vs h; cases (show vs = [] from h); exact ⟨rfl, .nil⟩
  | cons _ ih =>
    intro d vs h
    obtain ⟨v, r, rfl, h1, h2⟩ := h
    obtain ⟨e, h3⟩ := ih h2
    exact ⟨by simp [e], .cons ⟨rfl, v, rfl, h1⟩ h3⟩
theorem AllS.append {H : Hp} {R : Bool → RdR} {L L' : List Slot} {σ σ' : L2.St} {Fs Fs' : List (List Addr)} (h : AllS H R L σ Fs) (h' : AllS H R L' σ' Fs') : AllS H R (L ++ L') (σ ++ σ') (Fs ++ Fs') := by
  induction h with
  | nil => exact h'
  | cons r _ ih => exact .cons r ih
theorem AllS.anys {H : Hp} {R : Bool → RdR} : ∀ n, AllS H R (List.replicate n sAny) (List.replicate n none) (List.replicate n [])
  | 0 => .nil
  | n + 1 => .cons rfl (AllS.anys n)
theorem flat_rep (n : Nat) : (List.replicate n ([] : List Addr)).flatten = [] := by induction n with
  | zero => rfl
  | succ n ih => simp
structure Sc (st : Stmt) (NN VV ps GG : List Str) : Prop where
  S : FnScope NN ps (defScope st)
  vis : VV.all (seenB (defScope st)) = true
  loc : VV.all (locB (defScope st)) = true
  gl : GG.all (glB (defScope st)) = true
section
variable {p : Pr} {sc : Scope} {NN VV GG : List Str} {k : Nat} {g : G} {L L' : List Slot} {a b c e e' : Expr} {es : List Expr} {md md' : Md} {α β γ δ ρ : Type} {S : Ty α} {T : Ty β} {U : Ty γ} {A : Ar δ} {pos : Pos}
/-- a def's body, as a judgement for all its arguments -/
def Body (p : Pr) (st : Stmt) (NN VV GG : List Str) (k : Nat) (L0 : δ → List Slot) (D : ρ → Out) (F : δ → M ρ) : Prop :=
  ∀ g, OkS p (defScope st) NN VV GG k g → g.LX = List.replicate NN.length sAny → ∀ d, EvB g (L0 d) (defBody st) D (F d)
/-- how Ends take a block's end that the promise tells as D -/
theorem fn_gen {x qual : Str} {st : Stmt} {f : Addr} {fd : FuncData} {ps : List Str} {L0 : δ → List Slot} {n m : Nat} {D D' : ρ → Out} {F : δ → M ρ} (hF : FunD p.K x qual (defArgs st) (defBody st) (defScope st) [] [] f fd) (hS : Sc st NN VV ps GG) (ha : ArS A n L0) (hn : ps.length = n) (hm : n + m = NN.length)
    (hD : ∀ (r : ρ) (fm : Fm) (Q : VK), RetOk fm Q (D r) → OutOk fm (fun _ _ => False) { nx := fun _ H' => Q .non H', rt := Q } (D' r))
    (hb : Body p st NN VV GG k (fun d => L0 d ++ List.replicate m sAny) D' F) :
    FnOk p.P p.w p.K p.mg p.base (L2.CX p.P p.w) (k + 1) f fd ps (spM p A D F) := by
  refine hF.ok hS.S (fun vs H Q E h => ?_) (fun cdv A' outer s H vs Q E hr h => ?_)
  · obtain ⟨d, z, hz, hrep, _⟩ := h
    exact (ha.all (H := H) (R := fun _ => RD ⟨p.K, H, z⟩ [] H) hrep).1.trans hn.symm
  · obtain ⟨d, z, ⟨hz, htab⟩, hrep, q⟩ := h
    have hlen : vs.length = n := (ha.all (H := H) (R := fun _ => RD ⟨p.K, H, z⟩ [] H) hrep).1
    let X : Cx := cxOf (L2.CX p.P p.w) p.P p.w p.K p.mg p.base NN qual (defScope st) f cdv A' outer s H E
    let g : G := ⟨X, ⟨p.K, H, z⟩, fun c _ H' => E (.ref (p.C c)) none H', List.replicate NN.length sAny⟩
    have hN : ∀ {j : Nat} {y : Str}, VV[j]? = some y → y ∈ VV := fun e => List.mem_of_getElem? e
    have ok : OkS p (defScope st) NN VV GG k g :=
      { prog := rfl, w := rfl, K := rfl, mg := rfl, base := rfl, N := rfl, fmK := rfl, tab := htab, room := hr, nd := hS.S.nd
        vis := fun e => let h := seenB_v (List.all_eq_true.mp hS.vis _ (hN e)); ⟨h.2, h.1⟩
        gl := fun e => let h := glB_v (List.all_eq_true.mp hS.gl _ (List.mem_of_getElem? e)); ⟨h.2, h.1⟩
        tk := Takes.imp (takes_of (X := X) rfl rfl rfl (E := E) rfl) (fun cls d σ H ⟨c, e1, e2, h⟩ => by subst e1; subst e2; exact h)
        calm := rfl
        blk := fun h => blkOk_by h
        loc := fun e => locB_v (List.all_eq_true.mp hS.loc _ (hN e))
        fnT := fun _ => rfl
        psO := passes_of (X := X) rfl
        scp := rfl
        stk := rfl
        frm := rfl
        exn := rfl }
    refine ⟨_, hb g ok rfl d, (fun _ _ => False), [], ?_, ?_⟩
    · refine ⟨Same.refl H, hz, ⟨List.replicate n [] ++ List.replicate m [], ?_, by simp [flat_rep]⟩, List.nodup_nil, (fun _ h => nomatch h), fun _ _ h => h.elim⟩
      have h1 := (ha.all (H := H) (R := RB ⟨p.K, H, z⟩ [] H) hrep).2
      have e : L2.start NN vs = vs.map some ++ List.replicate m none := by
        unfold L2.start
        rw [show NN.length - vs.length = m by omega]
      rw [e]
      exact h1.append (AllS.anys m)
    · cases hF' : F d with
      | ok r =>
        rw [hF'] at q
        exact hD r _ _ q
      | ex c =>
        rw [hF'] at q
        exact fun σ' H' own a' => q H' a'.same
      | no => rw [hF'] at q; exact q
theorem fn_rt {x qual : Str} {st : Stmt} {f : Addr} {fd : FuncData} {ps : List Str} {L0 : δ → List Slot} {n m : Nat} {bm : Bool} {T : Ty ρ} {F : δ → M ρ} (hF : FunD p.K x qual (defArgs st) (defBody st) (defScope st) [] [] f fd) (hS : Sc st NN VV ps GG) (ha : ArS A n L0) (hn : ps.length = n) (hm : n + m = NN.length)
    (hb : Body p st NN VV GG k (fun d => L0 d ++ List.replicate m sAny) (fun r => .rt bm T r) F) : FnOk p.P p.w p.K p.mg p.base (L2.CX p.P p.w) (k + 1) f fd ps (spM p A (fun r => .rt bm T r) F) :=
  fn_gen (D' := fun r => .rt bm T r) hF hS ha hn hm (fun r fm Q h => h) hb
theorem fn_rtL {x qual : Str} {st : Stmt} {f : Addr} {fd : FuncData} {ps : List Str} {L0 : δ → List Slot} {n m : Nat} {bm : Bool} {F : δ → M (List α)} (hF : FunD p.K x qual (defArgs st) (defBody st) (defScope st) [] [] f fd) (hS : Sc st NN VV ps GG) (ha : ArS A n L0) (hn : ps.length = n) (hm : n + m = NN.length)
    (hb : Body p st NN VV GG k (fun d => L0 d ++ List.replicate m sAny) (fun r => .rtL bm S r) F) : FnOk p.P p.w p.K p.mg p.base (L2.CX p.P p.w) (k + 1) f fd ps (spM p A (fun r => .rtL bm S r) F) :=
  fn_gen (D' := fun r => .rtL bm S r) hF hS ha hn hm (fun r fm Q h => h) hb
/-- a def that hands back None by coming to its end -/
theorem fn_nx {x qual : Str} {st : Stmt} {f : Addr} {fd : FuncData} {ps : List Str} {L0 : δ → List Slot} {n m : Nat} {LE : List Slot} {F : δ → M Unit} (hF : FunD p.K x qual (defArgs st) (defBody st) (defScope st) [] [] f fd) (hS : Sc st NN VV ps GG) (ha : ArS A n L0) (hn : ps.length = n) (hm : n + m = NN.length)
    (hb : Body p st NN VV GG k (fun d => L0 d ++ List.replicate m sAny) (fun _ => .nx LE) F) : FnOk p.P p.w p.K p.mg p.base (L2.CX p.P p.w) (k + 1) f fd ps (spM p A (fun r => .rt false tNone r) F) :=
  fn_gen (D' := fun _ => .nx LE) hF hS ha hn hm (fun r fm Q h => fun σ H' own at_ => h .non H' at_.same rfl) hb

/-- a def, as its callers know it -/
structure Fn (p : Pr) (k : Nat) (x : Str) (ps : List Str) (sp : Sp) : Prop where
  ex : ∃ (f : Addr) (fd : FuncData), FnOk p.P p.w p.K p.mg p.base (L2.CX p.P p.w) k f fd ps sp ∧ p.mg x = some (.ref f) ∧ PySem.W.keepIn p.K (.ref f) = true ∧ Binds p.K fd ps []
theorem tk_at (ok : Ok p sc NN VV GG k g) (σ : L2.St) : PassesAt (L2.CX g.X.prog g.X.w) g.X σ (fun cls d H => ∃ c, cls = .ref (p.C c) ∧ d = none ∧ g.W c σ H) := passAt ok.tk σ
theorem args_in {own : List Addr} {H H1 : Hp} {d : δ} {vs : List V} {fm : Fm} (r : A.rep d vs (RX fm own H H1 md)) : A.rep d vs (RD ⟨fm.K, H1, fun a => a ∈ own ∨ fm.z a⟩ [] H1) :=
  A.mono r fun a o z => by
    rcases RX.sh a o z with z | z
    · exact .inl ⟨z.1, (fun y => nomatch y), fun y => y.elim z.2.1 z.2.2⟩
    · exact .inr z
/-- how new a call's answer is -/
inductive CaMd : Bool → Md → Prop where
  | sh : CaMd false .sh
  | fx {x : Md} : CaMd true x
theorem CaMd.rx {fm : Fm} {own : List Addr} {H H1 H' : Hp} {bm : Bool} {q : Option Addr} (h : CaMd bm md) (s : Same H H1) (s0 : Same fm.H0 H) : ∀ a o, RT ⟨fm.K, H1, fun a => a ∈ own ∨ fm.z a⟩ H' bm q a o → RX fm (q.toList ++ own) H H' md a o := fun a o r => by
  cases h with
  | sh =>
    have r : RX ⟨fm.K, H1, fun a => a ∈ own ∨ fm.z a⟩ q.toList H' H' .sh a o := r
    rcases r with ⟨r1, r2, r3⟩ | r
    · exact .inl ⟨r1, fun y => (List.mem_append.mp y).elim r2 fun y => r3 (.inl y), fun y => r3 (.inr y)⟩
    · exact .inr r
  | fx =>
    have r : RX ⟨fm.K, H1, fun a => a ∈ own ∨ fm.z a⟩ q.toList H' H' .f0 a o := r
    obtain ⟨r1, r2, r3, r4⟩ := r
    exact RX.fx md a o ⟨r1, fun y => (List.mem_append.mp y).elim r2 fun y => r3 (.inl y), fun y => r3 (.inr y), s0.free (s.free r4), s.free r4⟩
theorem ev_call {x : Str} {j kf : Nat} {ps : List Str} {bm : Bool} {T : Ty ρ} {F : δ → M ρ} {m : M δ} {pp : Pos} (ok : Ok p sc NN VV GG k g) (hf : Fn p kf x ps (spM p A (fun r => .rt bm T r) F)) (hk : kf ≤ k) (hG : GG[j]? = some x) (hc : CaMd bm md')
    (ha : EvA g L (e :: es) md A m) (he : starEach (e :: es) g.X.env = (false, eval e g.X.env) :: starEach es g.X.env := by rfl) (hpl : (backTo pos (starEach es g.X.env)).any (·.1) = false := by rfl) :
    EvE g L (.Call (.Name x pp) (e :: es) [] pos) md' T (m.bind F) := by
  obtain ⟨f, fd, hF, hm, hkp, hbd⟩ := hf.ex
  obtain ⟨hg, ho⟩ := ok.gl hG
  rw [← ok.prog, ← ok.w, ← ok.base] at hF
  have hF' : FnOk g.X.prog g.X.w g.X.K g.X.mg g.X.base (L2.CX g.X.prog g.X.w) kf f fd ps (spM p A (fun r => .rt bm T r) F) := by rw [ok.K, ok.mg]; exact hF
  refine PE.imp (pe_callS hF' (ok.room.mono hk) hg (by rw [ok.mg]; exact hm) (by rw [ok.K]; exact hkp) (by rw [ok.K]; exact hbd) (tk_at ok) ha (okName_d ho).1 he hpl) fun σ H Q q => ?_
  obtain ⟨kp, own, at_, q⟩ := tE_iff.mp q
  refine subA finE (Same.refl H) at_ q fun d vs H1 s1 r1 at1 q1 => ⟨d, fun a => a ∈ own ∨ g.fm.z a, ⟨fun a z => ?_, fun P e => at1.same.tab P (ok.tab P e)⟩, ?_, ?_⟩
  · rcases z with z | z
    · exact (at1.new a z).1
    · exact at1.zin a z
  · rw [← ok.fmK]; exact args_in r1
  · rw [← ok.fmK]
    cases hd : F d with
    | ok r =>
      rw [hd] at q1
      exact fun v H' s r => q1 v H' (s1.trans s) (T.mono r (hc.rx s1 at_.same))
    | ex c =>
      rw [hd] at q1
      exact fun H' s => ⟨c, rfl, rfl, q1 H' (s1.trans s)⟩
    | no => rw [hd] at q1; exact q1
theorem evl_call {x : Str} {j kf : Nat} {ps : List Str} {bm : Bool} {F : δ → M (List α)} {m : M δ} {pp : Pos} (ok : Ok p sc NN VV GG k g) (hf : Fn p kf x ps (spM p A (fun r => .rtL bm S r) F)) (hk : kf ≤ k) (hG : GG[j]? = some x) (hc : CaMd bm md')
    (ha : EvA g L (e :: es) md A m) (he : starEach (e :: es) g.X.env = (false, eval e g.X.env) :: starEach es g.X.env := by rfl) (hpl : (backTo pos (starEach es g.X.env)).any (·.1) = false := by rfl) :
    EvL g L (.Call (.Name x pp) (e :: es) [] pos) md' S (m.bind F) := by
  obtain ⟨f, fd, hF, hm, hkp, hbd⟩ := hf.ex
  obtain ⟨hg, ho⟩ := ok.gl hG
  rw [← ok.prog, ← ok.w, ← ok.base] at hF
  have hF' : FnOk g.X.prog g.X.w g.X.K g.X.mg g.X.base (L2.CX g.X.prog g.X.w) kf f fd ps (spM p A (fun r => .rtL bm S r) F) := by rw [ok.K, ok.mg]; exact hF
  refine PE.imp (pe_callS hF' (ok.room.mono hk) hg (by rw [ok.mg]; exact hm) (by rw [ok.K]; exact hkp) (by rw [ok.K]; exact hbd) (tk_at ok) ha (okName_d ho).1 he hpl) fun σ H Q q => ?_
  obtain ⟨kp, own, at_, q⟩ := tL_iff.mp q
  refine subA finL (Same.refl H) at_ q fun d vs H1 s1 r1 at1 q1 => ⟨d, fun a => a ∈ own ∨ g.fm.z a, ⟨fun a z => ?_, fun P e => at1.same.tab P (ok.tab P e)⟩, ?_, ?_⟩
  · rcases z with z | z
    · exact (at1.new a z).1
    · exact at1.zin a z
  · rw [← ok.fmK]; exact args_in r1
  · rw [← ok.fmK]
    cases hd : F d with
    | ok r =>
      rw [hd] at q1
      exact fun p' vs' H' s n1 n2 h' r => q1 p' vs' H' (s1.trans s) (s1.free n2) h' (r.mono (hc.rx (q := some p') s1 at_.same))
    | ex c =>
      rw [hd] at q1
      exact fun H' s => ⟨c, rfl, rfl, q1 H' (s1.trans s)⟩
    | no => rw [hd] at q1; exact q1
/-! ### raise -/
/-- an own class of refusals -/
structure ExF (p : Pr) (x : Str) (c : Ec) : Prop where
  xP : PySem.W.excIn p.K (p.C c) [.type "ValueError", .type "Exception", .type "BaseException", .type "object"] "ValueError.__new__" = true
  gP : p.mg x = some (.ref (p.C c))
  kP : PySem.W.keepIn p.K (.ref (p.C c)) = true
  bP : PySem.W.subIn p.K (.ref (p.C c)) (.type "BaseException") = some true
  tP : PySem.W.typeIn p.K (.ref (p.C c)) = some (.type "type")
variable {st : List Stmt} {D : δ → Out} {d : δ}
theorem evb_raise {x : Str} {c : Ec} {j jj : Nat} {msg : Str} {pp p2 p3 : Pos} (ok : OkS p sc NN VV GG k g) (wk : Wk L g.LX) (X : ExF p x c) (hG : GG[j]? = some x) :
    EvB g L (.Raise (some (.Call (.Name x pp) [.Constant (.str msg) jj p2] [] p3)) none pos :: st) D (.ex c) := by
  obtain ⟨hg, ho⟩ := ok.gl hG
  refine PSs.imp (PSs.head (ps_raise ok.calm ok.tk (pmk_own PySem.F.excBase_ValueError (by rw [ok.K]; exact X.xP) (by rw [ok.mg]; exact X.gP) (by rw [ok.K]; exact X.kP) (raises_own (by rw [ok.K]; exact X.bP) (by rw [ok.K]; exact X.tP)) hg (okName_d ho).1))) fun E σ H ⟨kp, own, at_, q⟩ => ?_
  exact ⟨c, rfl, rfl, BOk.exx wk at_ q H (Same.refl H)⟩
end
end Hd

namespace Hd
open PySem PySem.Spec L2
section
variable {p : Pr} {sc : Scope} {NN VV GG : List Str} {k : Nat} {g : G} {L L' : List Slot} {a b c e e' : Expr} {es : List Expr} {md md' : Md} {α β γ δ ρ : Type} {S : Ty α} {T : Ty β} {U : Ty γ} {A : Ar δ} {pos : Pos} {K : PySem.W.Frag}
/-! ### whole numbers -/
def mulM (x y : Int) : M Int := if x.natAbs < 2 ^ 10000 ∧ y.natAbs < 2 ^ 10000 then .ok (x * y) else .no
def modM (x y : Int) : M Int := if 0 < y then .ok (x % y) else .no
def divM (x y : Int) : M Int := if 0 < y ∧ y.natAbs < 2 ^ 1000 then .ok (x / y) else .no
theorem o_add : Op2 K (rI0 fun i j => .int (i + j)) tInt tInt tInt (fun x y => .ok (x + y)) true := ⟨fun rb rx ry q => ⟨_, _, rx, ry, q _ _ (Same.refl _) rfl⟩⟩
theorem o_sub : Op2 K (rI0 fun i j => .int (i - j)) tInt tInt tInt (fun x y => .ok (x - y)) true := ⟨fun rb rx ry q => ⟨_, _, rx, ry, q _ _ (Same.refl _) rfl⟩⟩
theorem o_mul : Op2 K (rI CMulW fun i j => .int (i * j)) tInt tInt tInt mulM true := ⟨fun {d e x y R H Q} rb rx ry q => by
  unfold mulM at q
  split at q
  · rename_i h
    exact ⟨_, _, rx, ry, wide_mul h.1 h.2 (by decide) (by decide) (by decide), q _ _ (Same.refl _) rfl⟩
  · exact q.elim⟩
theorem o_mod : Op2 K (rI (fun _ j => 0 < j) fun i j => .int (i % j)) tInt tInt tInt modM true := ⟨fun {d e x y R H Q} rb rx ry q => by
  unfold modM at q
  split at q
  · rename_i h
    exact ⟨_, _, rx, ry, h, q _ _ (Same.refl _) rfl⟩
  · exact q.elim⟩
theorem o_div : Op2 K (rI CDivW fun i j => .int (i / j)) tInt tInt tInt divM true := ⟨fun {d e x y R H Q} rb rx ry q => by
  unfold divM at q
  split at q
  · rename_i h
    exact ⟨_, _, rx, ry, wide_div h.1 h.2 (by decide) (by decide), q _ _ (Same.refl _) rfl⟩
  · exact q.elim⟩
theorem mulM_ne {x y : Int} {c : Ec} : mulM x y ≠ .ex c := by unfold mulM; split <;> exact fun h => nomatch h
theorem modM_ne {x y : Int} {c : Ec} : modM x y ≠ .ex c := by unfold modM; split <;> exact fun h => nomatch h
theorem divM_ne {x y : Int} {c : Ec} : divM x y ≠ .ex c := by unfold divM; split <;> exact fun h => nomatch h
variable {m1 m2 : M Int} {x y : Int}
theorem ev_add (ok : Ok p sc NN VV GG k g) (ha : EvE g L a md tInt m1) (hb : EvE g L b md tInt m2) : EvE g L (.BinOp a .Add b pos) md' tInt (m1.bind fun x => m2.bind fun y => .ok (x + y)) := ev_op2 ok op_add o_add (fun _ _ _ h => nomatch h) .fresh ha hb
theorem ev_addP (ok : Ok p sc NN VV GG k g) (ha : EvE g L a md tInt (.ok x)) (hb : EvE g L b md tInt (.ok y)) : EvE g L (.BinOp a .Add b pos) md' tInt (.ok (x + y)) := ev_add ok ha hb
theorem ev_subt (ok : Ok p sc NN VV GG k g) (ha : EvE g L a md tInt m1) (hb : EvE g L b md tInt m2) : EvE g L (.BinOp a .Sub b pos) md' tInt (m1.bind fun x => m2.bind fun y => .ok (x - y)) := ev_op2 ok op_sub o_sub (fun _ _ _ h => nomatch h) .fresh ha hb
theorem ev_subtP (ok : Ok p sc NN VV GG k g) (ha : EvE g L a md tInt (.ok x)) (hb : EvE g L b md tInt (.ok y)) : EvE g L (.BinOp a .Sub b pos) md' tInt (.ok (x - y)) := ev_subt ok ha hb
theorem ev_mul (ok : Ok p sc NN VV GG k g) (ha : EvE g L a md tInt m1) (hb : EvE g L b md tInt m2) : EvE g L (.BinOp a .Mult b pos) md' tInt (m1.bind fun x => m2.bind fun y => mulM x y) := ev_op2 ok op_mulW o_mul (fun _ _ _ => mulM_ne) .fresh ha hb
theorem ev_mulP (ok : Ok p sc NN VV GG k g) (ha : EvE g L a md tInt (.ok x)) (hb : EvE g L b md tInt (.ok y)) : EvE g L (.BinOp a .Mult b pos) md' tInt (mulM x y) := ev_mul ok ha hb
theorem ev_mod (ok : Ok p sc NN VV GG k g) (ha : EvE g L a md tInt m1) (hb : EvE g L b md tInt m2) : EvE g L (.BinOp a .Mod b pos) md' tInt (m1.bind fun x => m2.bind fun y => modM x y) := ev_op2 ok op_mod o_mod (fun _ _ _ => modM_ne) .fresh ha hb
theorem ev_modP (ok : Ok p sc NN VV GG k g) (ha : EvE g L a md tInt (.ok x)) (hb : EvE g L b md tInt (.ok y)) : EvE g L (.BinOp a .Mod b pos) md' tInt (modM x y) := ev_mod ok ha hb
theorem ev_div (ok : Ok p sc NN VV GG k g) (ha : EvE g L a md tInt m1) (hb : EvE g L b md tInt m2) : EvE g L (.BinOp a .FloorDiv b pos) md' tInt (m1.bind fun x => m2.bind fun y => divM x y) := ev_op2 ok op_fdivW o_div (fun _ _ _ => divM_ne) .fresh ha hb
theorem ev_divP (ok : Ok p sc NN VV GG k g) (ha : EvE g L a md tInt (.ok x)) (hb : EvE g L b md tInt (.ok y)) : EvE g L (.BinOp a .FloorDiv b pos) md' tInt (divM x y) := ev_div ok ha hb
/-- the one number c -/
def tLit (c : Int) : Ty Unit := ⟨fun _ v _ => v = .int c, fun h _ => h⟩
theorem ev_lit (h : EvE g L e md tInt (.ok x)) : EvE g L e md (tLit x) (.ok ()) := ev_asP (fun v R r => r) h
theorem ev_mulC (ok : Ok p sc NN VV GG k g) (hc : y.natAbs < 2 ^ 64) (ha : EvE g L a md tInt m1) (hb : EvE g L b md tInt (.ok y)) : EvE g L (.BinOp a .Mult b pos) md' tInt (m1.bind fun x => .ok (x * y)) :=
  ev_op2 (f := fun x _ => .ok (x * y)) ok op_mul ⟨fun rb rx ry q => ⟨_, _, rx, ry, .inr ⟨by omega, by omega⟩, q _ _ (Same.refl _) rfl⟩⟩ (fun _ _ _ h => nomatch h) (.fresh : MdOk true md md') ha (ev_lit hb)
theorem ev_mulCP (ok : Ok p sc NN VV GG k g) (hc : y.natAbs < 2 ^ 64) (ha : EvE g L a md tInt (.ok x)) (hb : EvE g L b md tInt (.ok y)) : EvE g L (.BinOp a .Mult b pos) md' tInt (.ok (x * y)) := ev_mulC ok hc ha hb
theorem ev_mulL (ok : Ok p sc NN VV GG k g) (hc : x.natAbs < 2 ^ 64) (ha : EvE g L a md tInt (.ok x)) (hb : EvE g L b md tInt m2) : EvE g L (.BinOp a .Mult b pos) md' tInt (m2.bind fun y => .ok (x * y)) :=
  ev_op2 (f := fun _ y => .ok (x * y)) (m1 := .ok ()) ok op_mul ⟨fun rb rx ry q => ⟨_, _, rx, ry, .inl ⟨by omega, by omega⟩, q _ _ (Same.refl _) rfl⟩⟩ (fun _ _ _ h => nomatch h) (.fresh : MdOk true md md') (ev_lit ha) hb
theorem ev_mulLP (ok : Ok p sc NN VV GG k g) (hc : x.natAbs < 2 ^ 64) (ha : EvE g L a md tInt (.ok x)) (hb : EvE g L b md tInt (.ok y)) : EvE g L (.BinOp a .Mult b pos) md' tInt (.ok (x * y)) := ev_mulL ok hc ha hb
theorem ev_modC (ok : Ok p sc NN VV GG k g) (hc : 0 < y) (ha : EvE g L a md tInt m1) (hb : EvE g L b md tInt (.ok y)) : EvE g L (.BinOp a .Mod b pos) md' tInt (m1.bind fun x => .ok (x % y)) :=
  ev_op2 (f := fun x _ => .ok (x % y)) ok op_mod ⟨fun rb rx ry q => ⟨_, _, rx, ry, hc, q _ _ (Same.refl _) rfl⟩⟩ (fun _ _ _ h => nomatch h) (.fresh : MdOk true md md') ha (ev_lit hb)
theorem ev_modCP (ok : Ok p sc NN VV GG k g) (hc : 0 < y) (ha : EvE g L a md tInt (.ok x)) (hb : EvE g L b md tInt (.ok y)) : EvE g L (.BinOp a .Mod b pos) md' tInt (.ok (x % y)) := ev_modC ok hc ha hb
theorem ev_divC (ok : Ok p sc NN VV GG k g) (hc : 0 < y) (hb' : y.natAbs < 2 ^ 1000) (ha : EvE g L a md tInt m1) (hb : EvE g L b md tInt (.ok y)) : EvE g L (.BinOp a .FloorDiv b pos) md' tInt (m1.bind fun x => .ok (x / y)) :=
  ev_op2 (f := fun x _ => .ok (x / y)) ok op_fdivW ⟨fun rb rx ry q => ⟨_, _, rx, ry, wide_div hc hb' (by decide) (by decide), q _ _ (Same.refl _) rfl⟩⟩ (fun _ _ _ h => nomatch h) (.fresh : MdOk true md md') ha (ev_lit hb)
theorem ev_divCP (ok : Ok p sc NN VV GG k g) (hc : 0 < y) (hb' : y.natAbs < 2 ^ 1000) (ha : EvE g L a md tInt (.ok x)) (hb : EvE g L b md tInt (.ok y)) : EvE g L (.BinOp a .FloorDiv b pos) md' tInt (.ok (x / y)) := ev_divC ok hc hb' ha hb
/-- a written power -/
theorem ev_powC {n : Nat} (ok : Ok p sc NN VV GG k g) (hx : x.natAbs < 2 ^ 64) (hy : n ≤ 1000000) (ha : EvE g L a md tInt (.ok x)) (hb : EvE g L b md tInt (.ok (n : Int))) : EvE g L (.BinOp a .Pow b pos) md' tInt (.ok (x ^ n)) :=
  ev_op2 (f := fun _ _ => .ok (x ^ n)) (m1 := .ok ()) (m2 := .ok ()) ok op_pow ⟨fun rb rx ry q => ⟨_, _, rx, ry, ⟨by omega, by omega, hx⟩, q _ _ (Same.refl _) (by show V.int (x ^ ((n : Int)).toNat) = V.int (x ^ n); rw [Int.toNat_natCast])⟩⟩ (fun _ _ _ h => nomatch h) (.fresh : MdOk true md md') (ev_lit ha) (ev_lit hb)
theorem ev_neg (ok : Ok p sc NN VV GG k g) (ha : EvE g L a md tInt m1) : EvE g L (.UnaryOp .USub a pos) md' tInt (m1.bind fun x => .ok (-x)) :=
  ev_un ok un_neg (f := fun x => .ok (-x)) (fr := true) ⟨fun rb rx q => ⟨_, rx, q _ _ (Same.refl _) rfl⟩⟩ (fun _ _ h => nomatch h) .fresh ha
theorem ev_negP (ok : Ok p sc NN VV GG k g) (ha : EvE g L a md tInt (.ok x)) : EvE g L (.UnaryOp .USub a pos) md' tInt (.ok (-x)) := ev_neg ok ha
/-! ### comparisons -/
/-- a comparison that always tells -/
structure CmpOk (p : Pr) (X : Cx) (op : CmpOp) (S : Ty α) (T : Ty β) (f : α → β → Bool) : Prop where
  ex : ∃ r, OpR X (compareOp op) r ∧ Op2 p.K r S T tBool (fun x y => .ok (f x y)) true
section
variable {op : CmpOp} {f : α → β → Bool} {ma : M α} {mb : M β} {da : α} {db : β}
theorem ev_c (ok : Ok p sc NN VV GG k g) (F : CmpOk p g.X op S T f) (ha : EvE g L a md S ma) (hb : EvE g L b md T mb) (hk : behindInMarks op b = false := by first | exact nomark _ (by decide) (by decide) | rfl) : EvE g L (.Compare a [op] [b] pos) md' tBool (ma.bind fun x => mb.bind fun y => .ok (f x y)) := by
  obtain ⟨r, h1, h2⟩ := F.ex
  exact ev_cmp ok h1 h2 (fun _ _ _ h => nomatch h) .fresh ha hb hk
theorem ev_cP (ok : Ok p sc NN VV GG k g) (F : CmpOk p g.X op S T f) (ha : EvE g L a md S (.ok da)) (hb : EvE g L b md T (.ok db)) (hk : behindInMarks op b = false := by first | exact nomark _ (by decide) (by decide) | rfl) : EvE g L (.Compare a [op] [b] pos) md' tBool (.ok (f da db)) := ev_c ok F ha hb hk
theorem evt_c (ok : Ok p sc NN VV GG k g) (F : CmpOk p g.X op S T f) (ha : EvE g L a md S ma) (hb : EvE g L b md T mb) (hk : behindInMarks op b = false := by first | exact nomark _ (by decide) (by decide) | rfl) : EvT g L (.Compare a [op] [b] pos) (ma.bind fun x => mb.bind fun y => .ok (f x y)) := by
  obtain ⟨r, h1, h2⟩ := F.ex
  exact evt_cmp ok h1 h2 (fun _ _ _ h => nomatch h) ha hb hk
theorem evt_cP (ok : Ok p sc NN VV GG k g) (F : CmpOk p g.X op S T f) (ha : EvE g L a md S (.ok da)) (hb : EvE g L b md T (.ok db)) (hk : behindInMarks op b = false := by first | exact nomark _ (by decide) (by decide) | rfl) : EvT g L (.Compare a [op] [b] pos) (.ok (f da db)) := evt_c ok F ha hb hk
end
variable {X : Cx}
theorem c_lt : CmpOk p X .Lt tInt tInt (fun x y => decide (x < y)) := ⟨_, op_lt, ⟨fun rb rx ry q => ⟨_, _, rx, ry, q _ _ (Same.refl _) rfl⟩⟩⟩
theorem c_le : CmpOk p X .LtE tInt tInt (fun x y => decide (x ≤ y)) := ⟨_, op_le, ⟨fun rb rx ry q => ⟨_, _, rx, ry, q _ _ (Same.refl _) rfl⟩⟩⟩
theorem c_gt : CmpOk p X .Gt tInt tInt (fun x y => decide (y < x)) := ⟨_, op_gt, ⟨fun rb rx ry q => ⟨_, _, rx, ry, q _ _ (Same.refl _) rfl⟩⟩⟩
theorem c_ge : CmpOk p X .GtE tInt tInt (fun x y => decide (y ≤ x)) := ⟨_, op_ge, ⟨fun rb rx ry q => ⟨_, _, rx, ry, q _ _ (Same.refl _) rfl⟩⟩⟩
/-- kinds that are told apart by value -/
structure Scal (S : Ty α) : Prop where
  sc : ∀ {d e v w R}, S.rep d v R → S.rep e w R → scal v w = true ∧ (v = w ↔ d = e)
theorem s_int : Scal tInt := ⟨fun {d e v w R} h1 h2 => by cases h1; cases h2; exact ⟨rfl, fun h => by injection h, fun h => by rw [h]⟩⟩
theorem s_bool : Scal tBool := ⟨fun {d e v w R} h1 h2 => by cases h1; cases h2; exact ⟨rfl, fun h => by injection h, fun h => by rw [h]⟩⟩
theorem s_str : Scal tStr := ⟨fun {d e v w R} h1 h2 => by cases h1.1; cases h2.1; exact ⟨rfl, fun h => toS_inj (by injection h), fun h => by rw [h]⟩⟩
theorem c_eq [DecidableEq α] (h : Scal S) : CmpOk p X .Eq S S (fun x y => decide (x = y)) := ⟨_, op_eq, ⟨fun {d e x y R H Q} rb rx ry q => by
  obtain ⟨h1, h2⟩ := h.sc rx ry
  refine ⟨h1, q _ _ (Same.refl _) ?_⟩
  show _ = V.bl _
  congr 1
  exact decide_eq_decide.mpr h2⟩⟩
theorem c_ne [DecidableEq α] (h : Scal S) : CmpOk p X .NotEq S S (fun x y => !decide (x = y)) := ⟨_, op_ne, ⟨fun {d e x y R H Q} rb rx ry q => by
  obtain ⟨h1, h2⟩ := h.sc rx ry
  refine ⟨h1, q _ _ (Same.refl _) ?_⟩
  show _ = V.bl _
  congr 2
  exact decide_eq_decide.mpr h2⟩⟩
/-- .. with a heap: lists, tuples -/
structure Deep (S : Ty α) where
  pd : α → PyData
  dp : Nat
  rep : ∀ {K d v R H}, Rdb K R H → S.rep d v R → Dp K H v (pd d) ∧ (pd d).canLay0 = true
  dep : ∀ d, (pd d).depth ≤ dp
  eqv : ∀ d e, PyData.eqv (pd d) (pd e) = true ↔ d = e
theorem Deep.sh {D : Deep S} (h : D.dp ≤ 64) {d : α} (hl : (D.pd d).canLay0 = true) : SeqAt.shaped (D.pd d) = true := by
  unfold SeqAt.shaped
  rw [hl, Bool.true_and]
  exact decide_eq_true (Nat.le_trans (D.dep d) h)
theorem Deep.bq [DecidableEq α] (D : Deep S) (d e : α) : PyData.eqv (D.pd d) (D.pd e) = decide (d = e) := by
  cases hh : PyData.eqv (D.pd d) (D.pd e) with
  | true => exact (decide_eq_true ((D.eqv d e).mp hh)).symm
  | false => exact (decide_eq_false fun z => by rw [(D.eqv d e).mpr z] at hh; cases hh).symm
theorem c_eqD [DecidableEq α] (ok : Ok p sc NN VV GG k g) (D : Deep S) (hd : D.dp ≤ 64) : CmpOk p g.X .Eq S S (fun x y => decide (x = y)) := ⟨rEqD p.K, by rw [← ok.K]; exact op_eqD ok.room.units, ⟨fun {d e x y R H Q} rb rx ry q => by
  obtain ⟨a1, a2⟩ := D.rep rb rx
  obtain ⟨b1, b2⟩ := D.rep rb ry
  exact ⟨_, _, a1, b1, D.sh hd a2, D.sh hd b2, q _ _ (Same.refl _) (by show _ = V.bl _; rw [D.bq])⟩⟩⟩
theorem c_neD [DecidableEq α] (ok : Ok p sc NN VV GG k g) (D : Deep S) (hd : D.dp ≤ 64) : CmpOk p g.X .NotEq S S (fun x y => !decide (x = y)) := ⟨rNeD p.K, by rw [← ok.K]; exact op_neD ok.room.units, ⟨fun {d e x y R H Q} rb rx ry q => by
  obtain ⟨a1, a2⟩ := D.rep rb rx
  obtain ⟨b1, b2⟩ := D.rep rb ry
  exact ⟨_, _, a1, b1, D.sh hd a2, D.sh hd b2, q _ _ (Same.refl _) (by show _ = V.bl _; rw [D.bq])⟩⟩⟩
def dInt : Deep tInt := ⟨.int, 0, fun rb h => by cases h; exact ⟨.int _, rfl⟩, fun _ => by simp [PyData.depth], fun d e => by simp [PyData.eqv]⟩
def dBool : Deep tBool := ⟨.bool, 0, fun rb h => by cases h; exact ⟨.bl _, rfl⟩, fun _ => by simp [PyData.depth], fun d e => by simp [PyData.eqv]⟩
def dStr : Deep tStr := ⟨fun x => .str (toS x), 0, fun {K d v R H} rb h => by
    obtain ⟨rfl, h⟩ := h
    refine ⟨.str _, ?_⟩
    show PyData.strOk (toS d) = true
    simp only [PyData.strOk, toS, List.all_toArray, List.all_eq_true, decide_eq_true_eq]
    exact h.2, fun _ => by simp [PyData.depth], fun d e => by
    simp only [PyData.eqv, beq_iff_eq]
    exact ⟨toS_inj, fun h => by rw [h]⟩⟩
theorem eqvAll_map {pd : α → PyData} (h : ∀ d e, PyData.eqv (pd d) (pd e) = true ↔ d = e) : ∀ ds es : List α, PyData.eqvAll (ds.map pd) (es.map pd) = true ↔ ds = es
  | [], [] => by simp [PyData.eqvAll]
  | [], _ :: _ => by simp [PyData.eqvAll]
  | _ :: _, [] => by simp [PyData.eqvAll]
  | d :: ds, e :: es => by simp [PyData.eqvAll, h d e, eqvAll_map h ds es]
theorem depthAll_map {pd : α → PyData} {n : Nat} (h : ∀ d, (pd d).depth ≤ n) : ∀ ds : List α, PyData.depthAll (ds.map pd) ≤ n
  | [] => by simp [PyData.depthAll]
  | d :: ds => by simp only [List.map_cons, PyData.depthAll]; have := h d; have := depthAll_map h ds; omega
theorem Deep.all (D : Deep S) {R : RdR} {H : Hp} (rb : Rdb K R H) {ds : List α} {vs : List V} (r : Reps S R ds vs) : DpAll K H vs (ds.map D.pd) ∧ PyData.canLayAll0 (ds.map D.pd) = true := by
  induction r with
  | nil => exact ⟨.nil, rfl⟩
  | cons r _ ih =>
    obtain ⟨h1, h2⟩ := D.rep rb r
    exact ⟨.cons h1 ih.1, by simp only [List.map_cons, PyData.canLayAll0, h2, ih.2, Bool.and_self]⟩
def dList (D : Deep S) : Deep (tList S) := ⟨fun ds => .list (ds.map D.pd), D.dp + 1, fun {K ds v R H} rb ⟨a, vs, e, h, r⟩ => by
    subst e
    obtain ⟨h1, h2⟩ := D.all rb r
    exact ⟨.lst (.inl ((rb _ _ h).resolve_right fun z => z)) h1, h2⟩, fun ds => by simp only [PyData.depth]; have := depthAll_map D.dep ds; omega, fun d e => by
    simp only [PyData.eqv]
    exact eqvAll_map D.eqv d e⟩
def dTupL (D : Deep S) : Deep (tTupL S) := ⟨fun ds => .tuple (ds.map D.pd), D.dp + 1, fun {K ds v R H} rb ⟨a, vs, e, h, r⟩ => by
    subst e
    obtain ⟨h1, h2⟩ := D.all rb r
    exact ⟨.tup ((rb _ _ h).imp id id) h1, h2⟩, fun ds => by simp only [PyData.depth]; have := depthAll_map D.dep ds; omega, fun d e => by
    simp only [PyData.eqv]
    exact eqvAll_map D.eqv d e⟩
/-! ### subscripts -/
def getM {α : Type} (xs : List α) (i : Int) : M α := match L2.atI xs i with | some d => .ok d | none => .no
def getS (x : Tx) (i : Int) : M Tx := match L2.atI x i with | some c => .ok [c] | none => .no
theorem getM_ne {xs : List α} {i : Int} {c : Ec} : getM xs i ≠ .ex c := by unfold getM; split <;> exact fun h => nomatch h
theorem getS_ne {x : Tx} {i : Int} {c : Ec} : getS x i ≠ .ex c := by unfold getS; split <;> exact fun h => nomatch h
theorem Reps.at {R : RdR} {ds : List α} {vs : List V} (r : Reps S R ds vs) {i : Int} {d : α} (h : L2.atI ds i = some d) : ∃ v, L2.atI vs i = some v ∧ S.rep d v R := by
  unfold L2.atI at h ⊢
  rw [r.length] at h
  cases hj : L2.ixN vs.length i with
  | none => rw [hj] at h; cases h
  | some j => rw [hj] at h; exact r.get h
theorem sq_of {R : RdR} {H : Hp} {a : Addr} {vs : List V} (rb : Rdb K R H) (h : R a (.lst vs)) : SqL K H a vs := .inl ((rb _ _ h).resolve_right fun z => z)
theorem rd_of {R : RdR} {H : Hp} {a : Addr} {vs : List V} (rb : Rdb K R H) (h : R a (.lst vs)) : Rd H a (.lst vs) := (rb _ _ h).resolve_right fun z => z
theorem st_of {R : RdR} {H : Hp} {a : Addr} {vs : List V} (rb : Rdb K R H) (h : R a (.tup vs)) : SqT K H a vs := (rb _ _ h).imp id id
theorem Nw.old {fr : Bool} {R : RdR} {H : Hp} (h : fr = false) : ∀ a o, R a o → Nw fr R H H a o := fun _ _ r => .inl ⟨h, r⟩
theorem o_ixL : Op2 K (rIxL K) (tList S) tInt S getM false := ⟨fun {d e x y R H Q} rb ⟨a, vs, ex, h, r⟩ ry q => by
  unfold getM at q
  cases hj : L2.atI d e with
  | none => rw [hj] at q; exact q.elim
  | some u =>
    rw [hj] at q
    obtain ⟨v, h1, h2⟩ := r.at hj
    exact ⟨a, vs, e, v, ex, ry, sq_of rb h, h1, q _ _ (Same.refl _) (S.mono h2 (Nw.old rfl))⟩⟩
theorem o_ixT : Op2 K (rIxT K) (tTupL S) tInt S getM false := ⟨fun {d e x y R H Q} rb ⟨a, vs, ex, h, r⟩ ry q => by
  unfold getM at q
  cases hj : L2.atI d e with
  | none => rw [hj] at q; exact q.elim
  | some u =>
    rw [hj] at q
    obtain ⟨v, h1, h2⟩ := r.at hj
    exact ⟨a, vs, e, v, ex, ry, st_of rb h, h1, q _ _ (Same.refl _) (S.mono h2 (Nw.old rfl))⟩⟩
theorem atI_mem {xs : List α} {i : Int} {d : α} (h : L2.atI xs i = some d) : d ∈ xs := by
  unfold L2.atI at h
  cases hj : L2.ixN xs.length i with
  | none => rw [hj] at h; cases h
  | some j => rw [hj] at h; exact List.mem_of_getElem? h
theorem o_ixS : Op2 K rIxS tStr tInt tStr getS true := ⟨fun {d e x y R H Q} rb rx ry q => by
  unfold getS at q
  cases hj : L2.atI d e with
  | none => rw [hj] at q; exact q.elim
  | some u =>
    rw [hj] at q
    refine ⟨toS d, e, u, rx.1, ry, by rw [toS_len]; exact rx.2.1, by rw [show (toS d).cps.toList = d from by simp [toS]]; exact hj, q _ _ (Same.refl _) ⟨rfl, (by show 1 ≤ sizeLine; decide), fun c hc => by rw [List.mem_singleton.mp hc]; exact rx.2.2 _ (atI_mem hj)⟩⟩⟩
section
variable {mx : M (List α)} {mi : M Int} {xs : List α} {i : Int} {mt : M Tx} {t : Tx}
theorem ev_ixL (ok : Ok p sc NN VV GG k g) (ha : EvE g L a md (tList S) mx) (hb : EvE g L b md tInt mi) (hs : PlainIx b := by exact fun _ _ => rfl) : EvE g L (.Subscript a b pos) md S (mx.bind fun xs => mi.bind fun i => getM xs i) := ev_ix (r := rIxL p.K) ok (by rw [← ok.K]; exact ix_list) o_ixL (fun _ _ _ => getM_ne) .same ha hb hs
theorem ev_ixLP (ok : Ok p sc NN VV GG k g) (ha : EvE g L a md (tList S) (.ok xs)) (hb : EvE g L b md tInt (.ok i)) (hs : PlainIx b := by exact fun _ _ => rfl) : EvE g L (.Subscript a b pos) md S (getM xs i) := ev_ixL ok ha hb hs
theorem ev_ixS (ok : Ok p sc NN VV GG k g) (ha : EvE g L a md tStr mt) (hb : EvE g L b md tInt mi) (hs : PlainIx b := by exact fun _ _ => rfl) : EvE g L (.Subscript a b pos) md' tStr (mt.bind fun xs => mi.bind fun i => getS xs i) := ev_ix (r := rIxS) ok ix_str o_ixS (fun _ _ _ => getS_ne) .fresh ha hb hs
theorem ev_ixSP (ok : Ok p sc NN VV GG k g) (ha : EvE g L a md tStr (.ok t)) (hb : EvE g L b md tInt (.ok i)) (hs : PlainIx b := by exact fun _ _ => rfl) : EvE g L (.Subscript a b pos) md' tStr (getS t i) := ev_ixS ok ha hb hs
end
/-! ### len -/
theorem ev_lenL {j : Nat} {mx : M (List α)} {pp : Pos} (ok : Ok p sc NN VV GG k g) (hG : GG[j]? = some "len") (hmg : p.mg "len" = none) (ha : EvE g L e md (tList S) mx) (hs : starEach [e] g.X.env = (false, eval e g.X.env) :: starEach [] g.X.env := by rfl) : EvE g L (.Call (.Name "len" pp) [e] [] pos) md' tInt (mx.bind fun xs => .ok (xs.length : Int)) := by
  have h := ev_callB (md' := md') (U := tInt) (A := aCons (tList S) aNil) (f := fun d => .ok (d.1.length : Int)) (fr := true) (pos := pos) (pp := pp) ok call_len_seq ⟨fun {d xs R H Q} rb ⟨v, r, e1, ⟨a, vs, e2, h, rr⟩, e3⟩ q => by
    subst e1; cases (show r = [] from e3)
    exact ⟨a, vs, by rw [e2], .inl (by rw [ok.K]; exact sq_of rb h), q _ _ (Same.refl _) (by show _ = V.int _; rw [rr.length])⟩⟩ (fun _ _ h => nomatch h) .fresh hG hmg PySem.boot_len (eva_cons ha eva_nil hs) hs rfl
  have e : (mx.bind fun d => (M.ok ()).bind fun e => M.ok (d, e)).bind (fun d => M.ok (d.1.length : Int)) = mx.bind fun xs => .ok (xs.length : Int) := by cases mx <;> rfl
  rwa [e] at h
theorem ev_lenLP {j : Nat} {xs : List α} {pp : Pos} (ok : Ok p sc NN VV GG k g) (hG : GG[j]? = some "len") (hmg : p.mg "len" = none) (ha : EvE g L e md (tList S) (.ok xs)) (hs : starEach [e] g.X.env = (false, eval e g.X.env) :: starEach [] g.X.env := by rfl) : EvE g L (.Call (.Name "len" pp) [e] [] pos) md' tInt (.ok (xs.length : Int)) := ev_lenL ok hG hmg ha hs
theorem ev_lenS {j : Nat} {mx : M Tx} {pp : Pos} (ok : Ok p sc NN VV GG k g) (hG : GG[j]? = some "len") (hmg : p.mg "len" = none) (ha : EvE g L e md tStr mx) (hs : starEach [e] g.X.env = (false, eval e g.X.env) :: starEach [] g.X.env := by rfl) : EvE g L (.Call (.Name "len" pp) [e] [] pos) md' tInt (mx.bind fun xs => .ok (xs.length : Int)) := by
  have h := ev_callB (md' := md') (U := tInt) (A := aCons tStr aNil) (f := fun d => .ok (d.1.length : Int)) (fr := true) (pos := pos) (pp := pp) ok call_len_str ⟨fun {d xs R H Q} rb ⟨v, r, e1, e2, e3⟩ q => by
    subst e1; cases (show r = [] from e3)
    exact ⟨toS d.1, by rw [e2.1], by rw [toS_len]; exact e2.2.1, q _ _ (Same.refl _) (by show _ = V.int _; rw [toS_len])⟩⟩ (fun _ _ h => nomatch h) .fresh hG hmg PySem.boot_len (eva_cons ha eva_nil hs) hs rfl
  have e : (mx.bind fun d => (M.ok ()).bind fun e => M.ok (d, e)).bind (fun d => M.ok (d.1.length : Int)) = mx.bind fun xs => .ok (xs.length : Int) := by cases mx <;> rfl
  rwa [e] at h
theorem ev_lenSP {j : Nat} {xs : Tx} {pp : Pos} (ok : Ok p sc NN VV GG k g) (hG : GG[j]? = some "len") (hmg : p.mg "len" = none) (ha : EvE g L e md tStr (.ok xs)) (hs : starEach [e] g.X.env = (false, eval e g.X.env) :: starEach [] g.X.env := by rfl) : EvE g L (.Call (.Name "len" pp) [e] [] pos) md' tInt (.ok (xs.length : Int)) := ev_lenS ok hG hmg ha hs
/-! ### texts -/
def catS (x y : Tx) : M Tx := if x.length + y.length ≤ sizeLine then .ok (x ++ y) else .no
theorem catS_ne {x y : Tx} {c : Ec} : catS x y ≠ .ex c := by unfold catS; split <;> exact fun h => nomatch h
theorem toS_app (x y : Tx) : toS (x ++ y) = toS x ++ toS y := by
  show (⟨(x ++ y).toArray⟩ : Str) = _
  rw [← List.append_toArray]
  rfl
theorem ev_catS {ma mb : M Tx} (ok : Ok p sc NN VV GG k g) (ha : EvE g L a md tStr ma) (hb : EvE g L b md tStr mb) : EvE g L (.BinOp a .Add b pos) md' tStr (ma.bind fun x => mb.bind fun y => catS x y) :=
  ev_op2 (fr := true) ok op_add_str ⟨fun {d e x y R H Q} rb rx ry q => by
    unfold catS at q
    split at q
    · rename_i h
      exact ⟨_, _, rx.1, ry.1, by rw [toS_len, toS_len]; exact h, q _ _ (Same.refl _) ⟨by rw [toS_app], by rw [List.length_append]; exact h, fun c hc => (List.mem_append.mp hc).elim (rx.2.2 c) (ry.2.2 c)⟩⟩
    · exact q.elim⟩ (fun _ _ _ => catS_ne) .fresh ha hb
theorem ev_catSP {x y : Tx} (ok : Ok p sc NN VV GG k g) (ha : EvE g L a md tStr (.ok x)) (hb : EvE g L b md tStr (.ok y)) : EvE g L (.BinOp a .Add b pos) md' tStr (catS x y) := ev_catS ok ha hb
/-! ### isinstance: known kinds -/
structure IsT (S : Ty α) (ty : String) : Prop where
  t : ∀ {K d v R H}, Rdb K R H → S.rep d v R → TyX K H v (.type ty)
/-! ### list(..) -/
theorem evl_copy {j : Nat} {mx : M (List α)} {pp : Pos} (ok : Ok p sc NN VV GG k g) (hG : GG[j]? = some "list") (hmg : p.mg "list" = none) (ha : EvE g L e md (tList S) mx) (hs : starEach [e] g.X.env = (false, eval e g.X.env) :: starEach [] g.X.env := by rfl) : EvL g L (.Call (.Name "list" pp) [e] [] pos) md S mx := by
  obtain ⟨hg, ho⟩ := ok.gl hG
  obtain ⟨h1, _, h3⟩ := okName_d ho
  refine PE.imp (pe_callTy call_list_of hg (by rw [ok.mg]; exact hmg) (by decide +kernel) (eva_cons ha eva_nil hs) h3 h1 hs rfl) fun σ H Q q => ?_
  obtain ⟨kp, own, at_, q⟩ := tL_iff.mp q
  refine tA_iff.mpr ⟨kp, own, at_, ?_⟩
  cases mx with
  | ok d =>
    rintro vs H1 s1 ⟨v, r, rfl, ⟨a, ws, rfl, h, rr⟩, e3⟩
    cases (show r = [] from e3)
    exact ⟨a, ws, rfl, .inl ((ok.fmK.trans ok.K.symm) ▸ RX.list h), fun l hl => q l ws _ (s1.trans (newSame hl)) (s1.free hl) upd_same (rr.mono (RX.add hl))⟩
  | ex c => exact q
  | no => exact q
end
end Hd

namespace Hd
open PySem PySem.Spec L2
section
variable {p : Pr} {sc : Scope} {NN VV GG : List Str} {k : Nat} {g : G} {L L' : List Slot} {a b c e e' : Expr} {es : List Expr} {md md' : Md} {α β γ δ ρ : Type} {S : Ty α} {T : Ty β} {U : Ty γ} {A : Ar δ} {pos : Pos} {K : PySem.W.Frag} {tg : Expr}
/-! ### isinstance of known kinds -/
theorem RX.tyx {R : RdR} {H : Hp} {a : Addr} {vs : List V} (rb : Rdb K R H) (h : R a (.lst vs)) : TyX K H (.ref a) (.type "list") := by
  rcases rb _ _ h with (h | ⟨o, h⟩) | h
  · exact .base (.lst h)
  · exact .base (.frz h)
  · exact h.elim
theorem RX.tyt {R : RdR} {H : Hp} {a : Addr} {vs : List V} (rb : Rdb K R H) (h : R a (.tup vs)) : TyX K H (.ref a) (.type "tuple") := by
  rcases rb _ _ h with (h | ⟨o, h⟩) | h
  · exact .base (.tup h)
  · exact .fTuple h
  · obtain ⟨o, its, n, h1, h2, _⟩ := (show ∃ (o : Obj) (its : Array Value) (n : Nat), K.lookup a = some o ∧ o.cls = .type "tuple" ∧ o.data = .seq its n ∧ its.size ≤ sizeLine ∧ Vals vs its.toList from h)
    exact .kTuple h1 h2
theorem i_int : IsT tInt "int" := ⟨fun rb h => by cases h; exact .base (.int _)⟩
theorem i_bool : IsT tBool "bool" := ⟨fun rb h => by cases h; exact .base (.bl _)⟩
theorem i_str : IsT tStr "str" := ⟨fun rb h => by cases h.1; exact .base (.str _)⟩
theorem i_none : IsT tNone "NoneType" := ⟨fun rb h => by cases h; exact .base .non⟩
theorem i_list : IsT (tList S) "list" := ⟨fun rb ⟨a, vs, e, h, _⟩ => by subst e; exact RX.tyx rb h⟩
theorem i_tupL : IsT (tTupL S) "tuple" := ⟨fun rb ⟨a, vs, e, h, _⟩ => by subst e; exact RX.tyt rb h⟩
theorem i_tup : IsT (tTup A) "tuple" := ⟨fun rb ⟨a, vs, e, h, _⟩ => by subst e; exact RX.tyt rb h⟩
/-- a built-in class by its name -/
def tTy (n : String) : Ty Unit := ⟨fun _ v _ => v = .ty n, fun h _ => h⟩
theorem ev_ty {j : Nat} {x : Str} {n : String} (ok : Ok p sc NN VV GG k g) (hG : GG[j]? = some x) (hmg : p.mg x = none) (hv : bootBuiltins x = some (.type n)) : EvE g L (.Name x pos) md (tTy n) (.ok ()) := by
  obtain ⟨hg, ho⟩ := ok.gl hG
  obtain ⟨h1, _, h3⟩ := okName_d ho
  exact PE.imp (pe_bltn (v := .ty n) hg (by rw [ok.mg]; exact hmg) hv rfl h3 h1) fun σ H Q ⟨kp, own, at_, q⟩ => q _ H (Same.refl H) rfl
theorem ev_isi {j : Nat} {ty n : String} {r : Bool} {m : M α} {pp : Pos} (ok : Ok p sc NN VV GG k g) (hG : GG[j]? = some "isinstance") (hmg : p.mg "isinstance" = none) (hT : IsT S ty) (hr : kitB ty n = some r) (ha : EvE g L a md S m) (hb : EvE g L b md (tTy n) (.ok ()))
    (hs1 : starEach (a :: [b]) g.X.env = (false, eval a g.X.env) :: starEach [b] g.X.env := by rfl) (hs2 : starEach [b] g.X.env = (false, eval b g.X.env) :: starEach [] g.X.env := by rfl) (hpl : (backTo pos (starEach [b] g.X.env)).any (·.1) = false := by rfl) :
    EvE g L (.Call (.Name "isinstance" pp) [a, b] [] pos) md' tBool (m.bind fun _ => .ok r) := by
  have h := ev_callB (md' := md') (U := tBool) (A := aCons S (aCons (tTy n) aNil)) (f := fun _ => .ok r) (fr := true) (pos := pos) (pp := pp) ok (id := "isinstance") call_isi ⟨fun {d xs R H Q} rb ⟨v, w, e1, h1, v2, w2, e2, h2, e3⟩ q => by
    subst e1; subst e2; cases (show w2 = [] from e3); cases h2
    exact ⟨v, .ty n, .type ty, .type n, r, rfl, .ty n, hT.t (by rw [ok.K]; exact rb) h1, kit_ty hr, q _ _ (Same.refl _) rfl⟩⟩ (fun _ _ h => nomatch h) .fresh hG hmg (by decide +kernel) (eva_cons ha (eva_cons hb eva_nil hs2) hs1) hs1 hpl
  have e : (m.bind fun d => ((M.ok ()).bind fun d => (M.ok ()).bind fun e => M.ok (d, e)).bind fun e => M.ok (d, e)).bind (fun d => M.ok r) = m.bind fun _ => .ok r := by cases m <;> rfl
  rwa [e] at h
theorem ev_isiP {j : Nat} {ty n : String} {r : Bool} {d : α} {pp : Pos} (ok : Ok p sc NN VV GG k g) (hG : GG[j]? = some "isinstance") (hmg : p.mg "isinstance" = none) (hT : IsT S ty) (hr : kitB ty n = some r) (ha : EvE g L a md S (.ok d)) (hb : EvE g L b md (tTy n) (.ok ()))
    (hs1 : starEach (a :: [b]) g.X.env = (false, eval a g.X.env) :: starEach [b] g.X.env := by rfl) (hs2 : starEach [b] g.X.env = (false, eval b g.X.env) :: starEach [] g.X.env := by rfl) (hpl : (backTo pos (starEach [b] g.X.env)).any (·.1) = false := by rfl) :
    EvE g L (.Call (.Name "isinstance" pp) [a, b] [] pos) md' tBool (.ok r) := ev_isi ok hG hmg hT hr ha hb hs1 hs2 hpl
/-! ### what a for walks -/
theorem evi_list {m : M (List α)} (ok : Ok p sc NN VV GG k g) (he : EvE g L e md (tList S) m) : EvI g L tg e S m := by
  refine PI.imp (pi_list he) fun σ H R ⟨kp, own, at_, q⟩ => ?_
  refine tE_iff.mpr ⟨kp, own, at_, ?_⟩
  cases m with
  | ok xs =>
    rintro v H' s ⟨a, vs, rfl, h, r⟩
    have hk : RD g.fm own H' a (.lst vs) := RX.sh a _ h
    refine ⟨a, rfl, ⟨vs, (ok.fmK.trans ok.K.symm) ▸ RX.list h⟩, ?_⟩
    rw [show Itl g.X.K a = Itl g.fm.K a from by rw [ok.K, ok.fmK]]
    refine q (Itl g.fm.K a) H' s fun H2 rb i => ?_
    have hs : SqL g.fm.K H2 a vs := sq_of rb hk
    refine ⟨fun d hd => ?_, fun hn => ⟨vs, hs, ?_⟩⟩
    · obtain ⟨v, h1, h2⟩ := r.get hd
      refine ⟨⟨vs, v, hs, h1⟩, fun x H3 ⟨e, hx⟩ => ?_⟩
      subst e
      have := hx vs hs
      rw [h1] at this
      cases this
      exact ⟨Same.refl _, S.mono h2 fun a o z => .inl ⟨rfl, RX.sh a o z⟩⟩
    · rw [List.getElem?_eq_none_iff, r.length] at hn
      exact hn
  | ex c => exact q
  | no => exact q
theorem evi_str {m : M Tx} (he : EvE g L e md tStr m) : EvI g L tg e tStr (m.bind fun x => .ok (x.map fun c => [c])) := by
  refine PI.imp (pi_str he) fun σ H R ⟨kp, own, at_, q⟩ => ?_
  refine tE_iff.mpr ⟨kp, own, at_, ?_⟩
  cases m with
  | ok xs =>
    rintro v H' s ⟨rfl, hok⟩
    refine ⟨toS xs, rfl, q (Its (toS xs)) H' s fun H2 rb i => ?_⟩
    refine ⟨fun d hd => ?_, fun hn => ?_⟩
    · rw [List.getElem?_map] at hd
      cases hi : xs[i]? with
      | none => rw [hi] at hd; cases hd
      | some c =>
        rw [hi] at hd
        cases hd
        have hlt := (List.getElem?_eq_some_iff.mp hi).1
        refine ⟨by show i < xs.toArray.size; simpa using hlt, fun x H3 ⟨e, c', h1, h2⟩ => ?_⟩
        subst e
        have : c' = c := by
          have h1' : xs.toArray[i]? = some c' := h1
          rw [List.getElem?_toArray, hi] at h1'
          exact (Option.some.inj h1').symm
        subst this
        exact ⟨Same.refl _, h2, by show 1 ≤ sizeLine; decide, fun c2 hc2 => by rw [List.mem_singleton.mp hc2]; exact hok.2 _ (List.mem_of_getElem? hi)⟩
    · rw [List.getElem?_eq_none_iff, List.length_map] at hn
      show xs.toArray.size ≤ i
      simpa using hn
  | ex c => exact q
  | no => exact q
/-- the whole numbers from lo on, n many -/
def upFrom (lo : Int) : Nat → List Int
  | 0 => []
  | n + 1 => lo :: upFrom (lo + 1) n
theorem upFrom_get (n : Nat) : ∀ (lo : Int) (i : Nat), (upFrom lo n)[i]? = if i < n then some (lo + i) else none := by
  induction n with
  | zero => intro lo i; simp [upFrom]
  | succ n ih =>
    intro lo i
    cases i with
    | zero => simp [upFrom]
    | succ i =>
      rw [upFrom, List.getElem?_cons_succ, ih]
      by_cases h : i < n
      · rw [if_pos h, if_pos (by omega)]
        congr 1
        push_cast
        omega
      · rw [if_neg h, if_neg (by omega)]
theorem upFrom_len (n : Nat) : ∀ lo : Int, (upFrom lo n).length = n := by
  induction n with
  | zero => intro lo; rfl
  | succ n ih => intro lo; simp [upFrom, ih]
/-- range(lo, hi) -/
def rangeM (lo hi : Int) : M (List Int) := if -(2 ^ 62) ≤ lo ∧ lo < 2 ^ 62 ∧ -(2 ^ 62) ≤ hi ∧ hi < 2 ^ 62 then .ok (upFrom lo (hi - lo).toNat) else .no
theorem itr_ok {kp : RdR} {lo : Int} {n : Nat} : ItOk K kp (Itr lo n) tInt (upFrom lo n) := fun H rb i => by
  rw [upFrom_get]
  refine ⟨fun d hd => ?_, fun hn => ?_⟩
  · by_cases h : i < n
    · rw [if_pos h] at hd
      cases hd
      exact ⟨h, fun x H' ⟨e, hx⟩ => by subst e; exact ⟨Same.refl _, hx⟩⟩
    · rw [if_neg h] at hd; cases hd
  · by_cases h : i < n
    · rw [if_pos h] at hn; cases hn
    · exact Nat.le_of_not_lt h
theorem evi_range1 {j : Nat} {m : M Int} {pp : Pos} (ok : Ok p sc NN VV GG k g) (hG : GG[j]? = some "range") (hmg : p.mg "range" = none) (ha : EvE g L a md tInt m) (hs : starEach [a] g.X.env = (false, eval a g.X.env) :: starEach [] g.X.env := by rfl) :
    EvI g L tg (.Call (.Name "range" pp) [a] [] pos) tInt (m.bind fun n => rangeM 0 n) := by
  obtain ⟨hg, ho⟩ := ok.gl hG
  refine PI.imp (pi_range1 hg (by rw [ok.mg]; exact hmg) (eva_cons ha eva_nil hs) hs) fun σ H R ⟨kp, own, at_, q⟩ => ?_
  refine tA_iff.mpr ⟨kp, own, at_, ?_⟩
  cases m with
  | ok n =>
    rintro vs H' s ⟨v, r, rfl, rfl, e3⟩
    cases (show r = [] from e3)
    simp only [M.bind_ok] at q
    unfold rangeM at q
    split at q
    · rename_i xs h1
      split at h1
      · rename_i h
        cases h1
        refine ⟨n, rfl, h.2.2.1, h.2.2.2, q _ H' s ?_⟩
        rw [Int.sub_zero]
        exact itr_ok
      · cases h1
    · rename_i h1; split at h1 <;> cases h1
    · exact q.elim
  | ex c => exact q
  | no => exact q
theorem evi_range2 {j : Nat} {m1 m2 : M Int} {pp : Pos} (ok : Ok p sc NN VV GG k g) (hG : GG[j]? = some "range") (hmg : p.mg "range" = none) (ha : EvE g L a md tInt m1) (hb : EvE g L b md tInt m2)
    (hs1 : starEach [a, b] g.X.env = (false, eval a g.X.env) :: starEach [b] g.X.env := by rfl) (hs2 : starEach [b] g.X.env = (false, eval b g.X.env) :: starEach [] g.X.env := by rfl) :
    EvI g L tg (.Call (.Name "range" pp) [a, b] [] pos) tInt (m1.bind fun lo => m2.bind fun hi => rangeM lo hi) := by
  obtain ⟨hg, ho⟩ := ok.gl hG
  refine PI.imp (pi_range2 hg (by rw [ok.mg]; exact hmg) (eva_cons ha (eva_cons hb eva_nil hs2) hs1) (by rw [hs1, hs2]; rfl) (by rw [hs2]; rfl)) fun σ H R ⟨kp, own, at_, q⟩ => ?_
  refine tA_iff.mpr ⟨kp, own, at_, ?_⟩
  cases m1 with
  | ok lo =>
    cases m2 with
    | ok hi =>
      rintro vs H' s ⟨v, r, rfl, rfl, v2, r2, rfl, rfl, e3⟩
      cases (show r2 = [] from e3)
      simp only [M.bind_ok] at q
      unfold rangeM at q
      split at q
      · rename_i xs h1
        split at h1
        · rename_i h
          cases h1
          exact ⟨lo, hi, rfl, h, q _ H' s itr_ok⟩
        · cases h1
      · rename_i h1; split at h1 <;> cases h1
      · exact q.elim
    | ex c => exact q
    | no => exact q
  | ex c => exact q
  | no => exact q
/-! ### changing a list of one's own -/
theorem At.mut {fm : Fm} {kp : RdR} {σ : L2.St} {H : Hp} {own : List Addr} {b : Bool} {ds : List α} {i : Nat} (h : At fm kp L σ H own) (hL : L[i]? = some (sOwn b S ds)) :
    ∃ p vs, σ[i]? = some (some (.ref p)) ∧ H p = some (.lst vs) ∧ Reps S (RB fm own H b) ds vs ∧ ∀ ds' vs', Reps S (RB fm own H b) ds' vs' → At fm kp (L.set i (sOwn b S ds')) σ (upd H p (.lst vs')) own := by
  obtain ⟨h1, h2, ⟨Fs, h3, rfl⟩, h4, h5, h6⟩ := h
  obtain ⟨v, F, e1, e2, q, vs, rfl, rfl, hp, r⟩ := h3.get hL
  have qin : q ∈ Fs.flatten := List.mem_flatten.mpr ⟨[q], List.mem_of_getElem? e2, by simp⟩
  refine ⟨q, vs, e1, hp, r, fun ds' vs' r' => ?_⟩
  have key : ∀ (md : Md) a o, RX fm Fs.flatten H H md a o → RX fm Fs.flatten (upd H q (.lst vs')) (upd H q (.lst vs')) md a o ∨ md = .fx := fun md a o z => by
    cases md with
    | sh =>
      rcases z with z | z
      · have n : a ≠ q := fun e => z.2.1 (by rw [e]; exact qin)
        refine .inl (.inl ⟨?_, z.2⟩)
        unfold Rd
        rw [cl_upd_ne n]
        exact z.1
      · exact .inl (.inr z)
    | f0 =>
      have n : a ≠ q := fun e => z.2.1 (by rw [e]; exact qin)
      exact .inl ⟨by rw [cl_upd_ne n]; exact z.1, z.2⟩
    | fx => exact .inr rfl
  have keyB : ∀ (b : Bool) a o, RB fm Fs.flatten H b a o → RB fm Fs.flatten (upd H q (.lst vs')) b a o := fun b a o z => by
    cases b with
    | false => exact (key .sh a o z).resolve_right (fun e => nomatch e)
    | true => exact (key .f0 a o z).resolve_right (fun e => nomatch e)
  have up : ∀ a, H a ≠ none → upd H q (.lst vs') a ≠ none := fun a n => by
    by_cases e : a = q
    · rw [e, upd_same]; exact fun z => by cases z
    · rw [upd_ne e]; exact n
  refine ⟨h1.wr (h5 q qin).2.1 hp (fun _ z => nomatch z) rfl, fun a z => up a (h2 a z), ⟨Fs, ?_, rfl⟩, h4, fun x hx => ⟨up x (h5 x hx).1, (h5 x hx).2⟩, fun a o z => (key .sh a o (h6 a o z)).resolve_right (fun e => nomatch e)⟩
  · -- the slots
    have gen : ∀ {L : List Slot} {σ : L2.St} {Fs' : List (List Addr)}, AllS H (RB fm Fs.flatten H) L σ Fs' → Fs'.flatten.Nodup → ∀ {i : Nat}, Fs'[i]? = some [q] → L[i]? = some (sOwn b S ds) → σ[i]? = some (some (V.ref q)) →
        AllS (upd H q (.lst vs')) (RB fm Fs.flatten (upd H q (.lst vs'))) (L.set i (sOwn b S ds')) σ Fs' := by
      intro L σ Fs' hA
      induction hA with
      | nil => intro _ i e _ _; simp at e
      | @cons sl L v σ F Fs' r t ih =>
        intro nd i e eL eσ
        rw [List.flatten_cons, List.nodup_append] at nd
        cases i with
        | zero =>
          simp at e eL eσ
          subst e; subst eL; subst eσ
          refine .cons ⟨q, vs', rfl, rfl, upd_same, r'.mono (keyB b)⟩ (t.st keyB fun x hx => ?_)
          exact upd_ne fun z => nd.2.2 q (by simp) x hx z.symm
        | succ i =>
          have e' : Fs'[i]? = some [q] := by simpa using e
          refine .cons (sl.st r keyB fun x hx => upd_ne fun z => nd.2.2 x hx q (List.mem_flatten.mpr ⟨[q], List.mem_of_getElem? e', by simp⟩) z) (ih nd.2.1 e' (by simpa using eL) (by simpa using eσ))
    exact gen h3 h4 e2 hL e1
def lim : Nat := sizeLine
def pushM {α : Type} (xs : List α) (d : α) : M (List α) := if xs.length < sizeLine then .ok (xs ++ [d]) else .no
def setM {α : Type} (xs : List α) (i : Int) (d : α) : M (List α) := match L2.ixN xs.length i with | some j => .ok (xs.set j d) | none => .no
variable {st : List Stmt} {D : δ → Out} {i j : Nat} {x : Str}
theorem evb_append {bb : Bool} {ds : List α} {m : M α} {f : List α → M δ} {p1 ap cp : Pos} (ok : OkS p sc NN VV GG k g) (wk : Wk L g.LX) (hN : NN[i]? = some x) (hV : VV[j]? = some x) (hL : L[i]? = some (sOwn bb S ds)) (hb : SlB md bb)
    (he : EvE g L e md S m) (hr : ∀ ds', EvB g (L.set i (sOwn bb S ds')) st D (f ds'))
    (hs : swapsWith (.Call (.Attribute (.Name x p1) "append" ap) [e] [] cp) none pos.line g.X.env = pure false := by rfl)
    (hbase : attributeBase (.Name x p1) "append" g.X.env (eval (.Name x p1) g.X.env) = eval (.Name x p1) g.X.env := by rfl)
    (hfew : ((backTo cp (starEach [e] g.X.env)).all (fun x => !x.1) && (backToKw cp (keywordEach [] g.X.env)).all (fun x => x.1.isSome)
      && decide (([e] : List Expr).length + ([] : List Keyword).length + (if ([] : List Keyword).isEmpty then 0 else 1) < 30)) = true := by rfl)
    (hline : (ap.endLine == cp.line) = true := by rfl) (hst : starEach [e] g.X.env = (false, eval e g.X.env) :: starEach [] g.X.env := by rfl) (hpl : (backTo cp (starEach [] g.X.env)).any (·.1) = false := by rfl) :
    EvB g L (.Expr (.Call (.Attribute (.Name x p1) "append" ap) [e] [] cp) pos :: st) D (m.bind fun d => (pushM ds d).bind f) := by
  obtain ⟨hv, ho⟩ := ok.vis hV
  obtain ⟨h1, h2, _⟩ := okName_d ho
  refine PSs.imp (pss_cons (ps_expr (pe_bm PySem.F.plainAttrs_list PySem.F.slot_list_append PySem.F.type_list_append mt_append (pe_var (i := i) (by rw [ok.N]; exact hN) hv h1 h2) (pa_cons he pa_nil hst) (hbase := hbase) (hfew := hfew) (hline := hline) (hs := hst) (hplain := hpl)) hs) (PSs.ex hr)) fun E σ H ⟨kp, own, at_, q⟩ => ?_
  obtain ⟨p', vs, e1, hp, r, mu⟩ := at_.mut hL
  refine ⟨_, e1, Or.inl ⟨rfl, _, SqL.of hp⟩, tE_iff.mpr ⟨kp, own, at_, ?_⟩⟩
  cases m with
  | ok d =>
    intro v H1 s1 r1
    have a1 := at_.ext s1
    obtain ⟨p2, vs2, e12, hp2, rr2, mu2⟩ := a1.mut hL
    rw [e1] at e12
    cases e12
    have q : BOk g kp E D ((pushM ds d).bind f) := q
    unfold pushM at q
    split at q
    · rename_i hlt
      refine ⟨_, vs2, v, rfl, rfl, hp2, by rw [← rr2.length]; exact hlt, ds ++ [d], kp, own, mu2 _ _ (rr2.append (.cons (S.mono r1 hb.rb) .nil)), q⟩
    · exact q.elim
  | ex c => exact BOk.exx wk at_ q
  | no => exact q
theorem evb_setitem {bb : Bool} {ds : List α} {m : M α} {mi : M Int} {f : List α → M δ} {ix : Expr} {p1 p2 : Pos} (ok : OkS p sc NN VV GG k g) (wk : Wk L g.LX) (hN : NN[i]? = some x) (hV : VV[j]? = some x) (hL : L[i]? = some (sOwn bb S ds)) (hb : SlB md bb)
    (he : EvE g L e md S m) (hi : EvE g L ix md' tInt mi) (hr : ∀ ds', EvB g (L.set i (sOwn bb S ds')) st D (f ds'))
    (hs : swapsWith e (some (.Subscript (.Name x p1) ix p2)) pos.line g.X.env = pure false := by rfl)
    (hsub : ∀ v, assign (.Subscript (.Name x p1) ix p2) g.X.env v = (do
      let ov ← holding [v] (eval (.Name x p1) g.X.env)
      let iv ← holding [v, ov] (eval ix g.X.env)
      standAt p2
      holding [v, ov, iv] (setItem ov iv v)
      release [v, ov, iv] []) := by intro _; rfl)
    (hs' : swapsWithSole [.Subscript (.Name x p1) ix p2] e pos.line g.X.env = pure false := by rfl) (hw : swappedStores [.Subscript (.Name x p1) ix p2] e g.X.env = pure none := by rfl) (ha1 : (assignEach [.Subscript (.Name x p1) ix p2] g.X.env).map (·.2) = [assign (.Subscript (.Name x p1) ix p2) g.X.env] := by rfl) :
    EvB g L (.Assign [.Subscript (.Name x p1) ix p2] e pos :: st) D (m.bind fun d => mi.bind fun i => (setM ds i d).bind f) := by
  obtain ⟨hv, ho⟩ := ok.vis hV
  obtain ⟨h1, h2, _⟩ := okName_d ho
  refine PSs.imp (pss_cons (ps_asg he (pg_sub (pe_var (i := i) (by rw [ok.N]; exact hN) hv h1 h2) hi set_list hsub) hs' hw ha1) (PSs.ex hr)) fun E σ H ⟨kp, own, at_, q⟩ => ?_
  refine tE_iff.mpr ⟨kp, own, at_, ?_⟩
  cases m with
  | ok d =>
    intro v H1 s1 r1
    have a1 := at_.ext s1
    obtain ⟨p', vs, e1, hp, r, mu⟩ := a1.mut hL
    refine ⟨_, e1, tE_iff.mpr ⟨kp, own, a1, ?_⟩⟩
    cases mi with
    | ok n =>
      intro v2 H2 s2 r2
      have a2 := a1.ext s2
      obtain ⟨p2, vs2, e12, hp2, rr2, mu2⟩ := a2.mut hL
      rw [e1] at e12
      cases e12
      have q : BOk g kp E D ((setM ds n d).bind f) := q
      unfold setM at q
      split at q
      · rename_i jj hj
        refine ⟨_, vs2, n, jj, rfl, r2, hp2, by rw [← rr2.length]; exact hj, ds.set jj d, kp, own, mu2 _ _ (rr2.set (S.mono r1 fun a o z => RB.same s2 bb a o (hb.rb a o z)) jj), q⟩
      · exact q.elim
    | ex c => exact BOk.exx wk a1 q
    | no => exact q
  | ex c => exact BOk.exx wk at_ q
  | no => exact q
end
end Hd

namespace Hd
open PySem PySem.Spec L2
section
variable {p : Pr} {sc : Scope} {NN VV GG VV' GG' : List Str} {k : Nat} {g : G} {L L' : List Slot} {a b c e e' : Expr} {es : List Expr} {md md' : Md} {α β γ δ ρ : Type} {S : Ty α} {T : Ty β} {U : Ty γ} {A : Ar δ} {pos : Pos} {K : PySem.W.Frag} {tg : Expr}
/-! ### several targets -/
def tGs (fm : Fm) (A : Ar δ) (L : List Slot) (Lt : δ → List Slot) : TGs := fun vs σ H Q => ∃ kp own d, At fm kp L σ H own ∧ A.rep d vs (RD fm own H) ∧ ∀ σ' own', At fm kp (Lt d) σ' H own' → (∀ p ∈ own', p ∈ own) → Q σ' H
def EvGs (g : G) (es : List Expr) (A : Ar δ) (L : List Slot) (Lt : δ → List Slot) : Prop := PGs g.X es (tGs g.fm A L Lt)
theorem PGs.imp {X : Cx} {es : List Expr} {t t' : TGs} (h : PGs X es t) (k : ∀ v σ H Q, t' v σ H Q → t v σ H Q) : PGs X es t' := ⟨fun pins s σ H v u Q I r q => h.run pins s σ H v u Q I r (k _ _ _ _ q)⟩
theorem PGs.ex {X : Cx} {ι : Type} {es : List Expr} {t : ι → TGs} (h : ∀ d, PGs X es (t d)) : PGs X es (fun v σ H Q => ∃ d, t d v σ H Q) := ⟨fun pins s σ H v u Q I r ⟨d, q⟩ => (h d).run pins s σ H v u Q I r q⟩
theorem evgs_nil : EvGs g [] aNil L (fun _ => L) := by
  refine PGs.imp pgs_nil fun v σ H Q ⟨kp, own, d, at_, r, q⟩ => ⟨r, q σ own at_ fun _ h => h⟩
theorem evgs_cons {Lt1 : α → List Slot} {Lt2 : α → δ → List Slot} (h1 : EvG g e S L Lt1) (h2 : ∀ d, EvGs g es A (Lt1 d) (Lt2 d)) (hs : (assignEach (e :: es) g.X.env).map (·.2) = assign e g.X.env :: (assignEach es g.X.env).map (·.2) := by rfl) :
    EvGs g (e :: es) (aCons S A) L (fun d => Lt2 d.1 d.2) := by
  refine PGs.imp (pgs_cons h1 (PGs.ex h2) hs) fun vs σ H Q ⟨kp, own, d, at_, ⟨v, r, e1, r1, r2⟩, q⟩ => ?_
  refine ⟨v, r, e1, kp, own, d.1, at_, r1, fun σ' own' a' sub => ⟨d.1, kp, own', d.2, a', A.mono r2 (RX.own (md := .sh) (H := H) sub), fun σ2 own2 a2 sub2 => q σ2 own2 a2 fun p hp => sub p (sub2 p hp)⟩⟩
theorem evg_tup {Lt : δ → List Slot} {n k' : Nat} (ok : Ok p sc NN VV GG k g) (hl : ∀ {d vs R}, A.rep d vs R → vs.length = n) (h : EvGs g es A L Lt)
    (hn : (assignEach es g.X.env).length = n := by rfl) (hst : (assignEach es g.X.env).findIdx? (·.1) = none := by rfl) : EvG g (.Tuple es k' pos) (tTup A) L Lt := by
  refine PG.imp (pg_tup ok.calm h hn hst) fun v σ H Q ⟨kp, own, d, at_, ⟨a, vs, e, hr, rr⟩, q⟩ => ?_
  subst e
  exact ⟨a, vs, rfl, (ok.fmK.trans ok.K.symm) ▸ RX.tup (md := .sh) (H := H) hr, hl rr, kp, own, d, at_, rr, q⟩
theorem len0 {d : Unit} {vs : List V} {R : RdR} (h : aNil.rep d vs R) : vs.length = 0 := by cases (show vs = [] from h); rfl
theorem lenS {n : Nat} (h : ∀ {d vs R}, A.rep d vs R → vs.length = n) {d : α × δ} {vs : List V} {R : RdR} (q : (aCons S A).rep d vs R) : vs.length = n + 1 := by
  obtain ⟨v, r, e, _, h2⟩ := q
  rw [e, List.length_cons, h h2]
variable {st : List Stmt} {D : δ → Out} {i j : Nat} {x : Str}
/-- a, b = e -/
theorem evb_asg {m : M α} {Lt : α → List Slot} {f : α → M δ} (ok : OkS p sc NN VV GG k g) (wk : Wk L g.LX) (he : EvE g L e md S m) (hG : EvG g tg S L Lt) (hr : ∀ d, EvB g (Lt d) st D (f d))
    (hs : swapsWithSole [tg] e pos.line g.X.env = pure false := by rfl) (hw : swappedStores [tg] e g.X.env = pure none := by rfl) (h1 : (assignEach [tg] g.X.env).map (·.2) = [assign tg g.X.env] := by rfl) :
    EvB g L (.Assign [tg] e pos :: st) D (m.bind f) := by
  refine PSs.imp (pss_cons (ps_asg he hG hs hw h1) (PSs.ex hr)) fun E σ H ⟨kp, own, at_, q⟩ => ?_
  refine tE_iff.mpr ⟨kp, own, at_, ?_⟩
  cases m with
  | ok d => exact fun v H' s r => ⟨kp, own, d, at_.ext s, S.mono r RX.sh, fun σ' own' a' _ => ⟨d, kp, own', a', q⟩⟩
  | ex c => exact BOk.exx wk at_ q
  | no => exact q
/-! ### comprehensions -/
def compG {α β : Type} (h : α → M (Option β)) : List α → M (List β)
  | [] => .ok []
  | x :: r => (h x).nox.bind fun o => (compG h r).bind fun l => .ok (o.toList ++ l)
def compM {α β : Type} (h : α → M (Option β)) (xs : List α) : M (List β) := if xs.length ≤ sizeLine then compG h xs else .no
theorem At.setAny {fm : Fm} {kp : RdR} {σ : L2.St} {H : Hp} {own : List Addr} (h : At fm kp L σ H own) : ∃ own', At fm kp (L.set i sAny) (σ.set i none) H own' ∧ ∀ p ∈ own', p ∈ own := by
  obtain ⟨h1, h2, ⟨Fs, h3, rfl⟩, h4, h5, h6⟩ := h
  have kk : ∀ p ∈ (Fs.set i []).flatten, p ∈ Fs.flatten := fun p hp => (set_sub (i := i)).subset hp
  exact ⟨_, ⟨h1, h2, ⟨Fs.set i [], (h3.st (RB.own kk) fun _ _ => rfl).set (s := sAny) rfl i, rfl⟩, h4.sublist set_sub, fun p hp => h5 p (kk p hp), fun a o q => RX.own (md := .sh) (H := H) kk a o (h6 a o q)⟩, kk⟩
theorem At.setSh {fm : Fm} {kp : RdR} {σ : L2.St} {H : Hp} {own : List Addr} {d : α} {v : V} (h : At fm kp L σ H own) (r : S.rep d v (RD fm own H)) : ∃ own', At fm kp (L.set i (sV false S d)) (σ.set i (some v)) H own' ∧ ∀ p ∈ own', p ∈ own := by
  obtain ⟨h1, h2, ⟨Fs, h3, rfl⟩, h4, h5, h6⟩ := h
  have kk : ∀ p ∈ (Fs.set i []).flatten, p ∈ Fs.flatten := fun p hp => (set_sub (i := i)).subset hp
  exact ⟨_, ⟨h1, h2, ⟨Fs.set i [], (h3.st (RB.own kk) fun _ _ => rfl).set (s := sV false S d) ⟨rfl, v, rfl, S.mono r (RX.own (md := .sh) (H := H) kk)⟩ i, rfl⟩, h4.sublist set_sub, fun p hp => h5 p (kk p hp), fun a o q => RX.own (md := .sh) (H := H) kk a o (h6 a o q)⟩, kk⟩
theorem lookup_rl {env : Env} {x : Str} : ∀ {names : List (Str × NameKind)} {kd : NameKind}, names.lookup x = some kd →
    (names.map fun (n, k) => if (k == NameKind.free && env.scope.kind == .function && env.kindOf n == some .cell) then (n, NameKind.cell) else (n, k)).lookup x = some kd ∨
      (kd = .free ∧ (names.map fun (n, k) => if (k == NameKind.free && env.scope.kind == .function && env.kindOf n == some .cell) then (n, NameKind.cell) else (n, k)).lookup x = some .cell)
  | [], _, h => by simp at h
  | (n, k') :: r, kd, h => by
    rw [List.lookup_cons] at h
    rw [List.map_cons]
    by_cases e : x == n
    · rw [e] at h
      cases h
      dsimp only
      split
      · rename_i hh
        refine .inr ⟨?_, by rw [List.lookup_cons, e]⟩
        simp only [Bool.and_eq_true, beq_iff_eq] at hh
        exact hh.1.1
      · exact .inl (by rw [List.lookup_cons, e])
    · have e : (x == n) = false := by simpa using e
      rw [e] at h
      dsimp only
      have ih := lookup_rl (env := env) (x := x) (names := r) h
      split <;> (rw [List.lookup_cons, e]; exact ih)
theorem vis_rl {scope : Scope} {env : Env} {x : Str} (h : Vis scope x) : Vis (relabel scope env) x := by
  rcases h with h | h | h <;> rcases lookup_rl (env := env) h with q | ⟨q, q2⟩
  · exact .inl q
  · cases q
  · exact .inr (.inl q)
  · cases q
  · exact .inr (.inr q)
  · exact .inr (.inl q2)
theorem gl_rl {scope : Scope} {env : Env} {x : Str} (h : scope.names.lookup x = some .globalImplicit) : (relabel scope env).names.lookup x = some .globalImplicit := by
  rcases lookup_rl (env := env) h with q | ⟨q, q2⟩
  · exact q
  · cases q
theorem _root_.L2.BlkOk.relab {N : List Str} {sc scope : Scope} {env : Env} {own : List (Str × Nat)} (h : BlkOk N sc scope own) : BlkOk N (relabel sc env) scope own :=
  ⟨h.kind, h.uniq, h.ix, fun y hy e => by
    rcases h.free y hy e with q | q <;> rcases lookup_rl (env := env) q with z | ⟨z, z2⟩
    · exact .inl z
    · cases z
    · exact .inr z
    · exact .inl z2, h.own⟩
/-- where the inner part of a comprehension stands -/
theorem blk_ok (ok : Ok p sc NN VV GG k g) {scope : Scope} {s : Shared} {H : Hp} {C : Addr} {cl : List (Str × Addr)} {fp : List Addr} {fm : Fm} (hK : fm.K = p.K ∧ ∀ P, p.T = some P → LamX.TabS fm.H0 P lamQ) (hv : VV'.all (seenB scope) = true) (hg : GG'.all (glB scope) = true) :
    Ok p scope NN VV' GG' k ⟨g.X.blk s H scope (compEnvC scope cl C g.X.env) fp, fm, fun _ _ _ => False, []⟩ :=
  { prog := ok.prog, w := ok.w, K := ok.K, mg := ok.mg, base := ok.base, N := ok.N, fmK := hK.1, tab := hK.2, room := ok.room, nd := ok.nd
    vis := fun e => let h := seenB_v (List.all_eq_true.mp hv _ (List.mem_of_getElem? e)); ⟨vis_rl h.2, h.1⟩
    gl := fun e => let h := glB_v (List.all_eq_true.mp hg _ (List.mem_of_getElem? e)); ⟨gl_rl h.2, h.1⟩
    tk := Takes.imp takes0 (fun cls d σ H ⟨c, e1, e2, h⟩ => h)
    calm := ok.calm
    blk := fun h => (blkOk_by h).relab }
theorem wipe1 {σ : L2.St} {v : V} : wipe ((wipe σ [i]).set i (some v)) [i] = wipe σ [i] := by
  show ((σ.set i none).set i (some v)).set i none = σ.set i none
  rw [List.set_set, List.set_set]
def NoOwn (s : Slot) : Prop := ∀ {v H R F}, s.ok v H R F → F = []
theorem no_any : NoOwn sAny := fun h => h
theorem no_v {b : Bool} {d : α} : NoOwn (sV b S d) := fun h => h.1
theorem At.setN {fm : Fm} {kp : RdR} {σ : L2.St} {H : Hp} {own : List Addr} {s s' : Slot} {v : Option V} (h : At fm kp L σ H own) (hL : L[i]? = some s) (hs : NoOwn s) (r : s'.ok v H (RB fm own H) []) : At fm kp (L.set i s') (σ.set i v) H own := by
  obtain ⟨h1, h2, ⟨Fs, h3, rfl⟩, h4, h5, h6⟩ := h
  obtain ⟨v0, F, e1, e2, r0⟩ := h3.get hL
  have e : (Fs.set i []).flatten = Fs.flatten := set_same_nil (by rw [e2, hs r0])
  exact ⟨h1, h2, ⟨Fs.set i [], h3.set r i, e.symm⟩, h4, h5, h6⟩
theorem PTs.ex {X : Cx} {ι : Type} {ifs : List Expr} {t : ι → TT} (h : ∀ d, PTs X ifs (t d)) : PTs X ifs (fun σ H Q => ∃ d, t d σ H Q) := ⟨fun pins s σ H Q I ⟨d, q⟩ => (h d).run pins s σ H Q I q⟩
theorem PE.ex {X : Cx} {ι : Type} {e : Expr} {t : ι → TE} (h : ∀ d, PE X e (t d)) : PE X e (fun σ H Q => ∃ d, t d σ H Q) := ⟨fun pins s σ H Q I ⟨d, q⟩ => (h d).run pins s σ H Q I q⟩
theorem M.bind_assoc {α β γ : Type} (m : M α) (f : α → M β) (h : β → M γ) : (m.bind f).bind h = m.bind fun x => (f x).bind h := by cases m <;> rfl
theorem PS.imp {X : Cx} {e : Stmt} {t t' : TS} (h : PS X e t) (k : ∀ E σ H, t' E σ H → t E σ H) : PS X e t' := ⟨fun pins s σ H D I q => h.run pins s σ H D I (k _ _ _ q)⟩
/-- [elt for x in it if c] -/
theorem evl_lc2 {scope : Scope} {it elt : Expr} {m : M (List α)} {cm : α → M Bool} {f : α → M β} {tp : Pos} {ifs : List Expr} {s₀ : Slot} (ok : Ok p sc NN VV GG k g) (hI : EvI g L (.Name x tp) it S m) (hN : NN[i]? = some x) (hLi : L[i]? = some s₀) (hs₀ : NoOwn s₀) (hb : blkC NN sc scope [(x, i)] = true)
    (hv : VV'.all (seenB scope) = true) (hg : GG'.all (glB scope) = true) (hx : locB scope x = true)
    (hc : ∀ g', Ok p scope NN VV' GG' k g' → ∀ d, PTs g'.X ifs (tT g'.fm g'.W (L.set i (sV false S d)) (cm d)))
    (he : ∀ g', Ok p scope NN VV' GG' k g' → ∀ d, EvE g' (L.set i (sV false S d)) elt md T (f d)) (hs : ∀ x, foldedSetIterable it g.X.env x = pure x := by intro _; rfl) :
    (EvL g L (.ListComp elt [⟨.Name x tp, it, ifs, 0⟩] scope pos) md T (m.bind fun xs => compM (fun d => (cm d).bind fun c => if c = true then (f d).bind fun y => .ok (some y) else .ok none) xs)) ∧
    (∀ {y : Str} {i2 : Nat} {py spos : Pos}, NN[i2]? = some y → g.X.env.scope.names.lookup y = some .local → swapsWith (.ListComp elt [⟨.Name x tp, it, ifs, 0⟩] scope pos) (some (.Name y py)) spos.line g.X.env = pure true →
      PS g.X (.Assign [.Name y py] (.ListComp elt [⟨.Name x tp, it, ifs, 0⟩] scope pos) spos) (tAsg (tL g.fm g.W L md T (m.bind fun xs => compM (fun d => (cm d).bind fun c => if c = true then (f d).bind fun y => .ok (some y) else .ok none) xs)) (gName i2))) := by
  have loc : ∀ (s : Shared) (H : Hp) (C : Addr) (cl : List (Str × Addr)) (fp : List Addr), L2.Loc (g.X.blk s H scope (compEnvC scope cl C g.X.env) fp).env.scope x ∧ ((g.X.blk s H scope (compEnvC scope cl C g.X.env) fp).fn x = true ∨ (g.X.blk s H scope (compEnvC scope cl C g.X.env) fp).env.scope.names.lookup x = some .local) := by
    intro s H C cl fp
    rcases locB_v hx with h | h
    · have q : (relabel scope g.X.env).names.lookup x = some .local := by
        rcases lookup_rl (env := g.X.env) h with q | ⟨q, _⟩
        · exact q
        · cases q
      exact ⟨.inl q, .inr q⟩
    · have q : (relabel scope g.X.env).names.lookup x = some .cell := by
        rcases lookup_rl (env := g.X.env) h with q | ⟨q, _⟩
        · exact q
        · cases q
      refine ⟨.inr q, .inl ?_⟩
      show (scope.names.lookup x == some .cell) = true
      rw [h]; rfl
  have BODY : ∀ σ H Q, tL g.fm g.W L md T (m.bind fun xs => compM (fun d => (cm d).bind fun c => if c = true then (f d).bind fun y => .ok (some y) else .ok none) xs) σ H Q →
      tLc (tI g.fm g.W L S m) (gName i) (fun σ H Q => ∃ z : {fm' : Fm // fm'.K = p.K ∧ ∀ P, p.T = some P → LamX.TabS fm'.H0 P lamQ} × α, tT z.1.1 (fun _ _ _ => False) (L.set i (sV false S z.2)) (cm z.2) σ H Q)
        (fun σ H Q => ∃ z : {fm' : Fm // fm'.K = p.K ∧ ∀ P, p.T = some P → LamX.TabS fm'.H0 P lamQ} × α, tE z.1.1 (fun _ _ _ => False) (L.set i (sV false S z.2)) md T (f z.2) σ H Q) ([(x, i)].map (·.2)) σ H Q := by
    intro σ H Q q
    obtain ⟨kp, own, at_, q⟩ := tL_iff.mp q
    cases m with
    | ex c => exact ⟨kp, own, at_, q⟩
    | no => exact q.elim
    | ok xs =>
    refine ⟨kp, own, at_, fun J H1 s1 hJ D hD => ?_⟩
    have at1 := at_.ext s1
    have hHD : H D = none := s1.free hD
    -- the inner frame
    let fm' : Fm := ⟨g.fm.K, g.fm.H0, fun a => a = D ∨ g.fm.z a⟩
    let hh : α → M (Option β) := fun d => (cm d).bind fun c => if c = true then (f d).bind fun y => .ok (some y) else .ok none
    have q : FinL g.fm g.W own σ H md T Q (compM hh xs) := q
    unfold compM at q
    split at q
    case isFalse => exact q.elim
    rename_i hlen
    have aw : At g.fm kp (L.set i sAny) (σ.set i none) H1 own := at1.setN hLi hs₀ rfl
    have rdD : ∀ (md : Md) (H0 : Hp) a o, RX g.fm own H0 H1 md a o → RX fm' own H0 (upd H1 D (.lst [])) md a o := fun md H0 a o z => by
      have z2 := RX.add (o' := .lst []) hD a o z
      cases md with
      | sh => exact z2.imp (fun ⟨a1, a2, a3⟩ => ⟨a1, fun y => a2 (List.mem_cons_of_mem _ y), fun y => y.elim (fun e => a2 (by rw [e]; exact List.mem_cons_self)) a3⟩) id
      | f0 => exact ⟨z2.1, fun y => z2.2.1 (List.mem_cons_of_mem _ y), fun y => y.elim (fun e => z2.2.1 (by rw [e]; exact List.mem_cons_self)) z2.2.2.1, z2.2.2.2⟩
      | fx => exact ⟨z2.1, fun y => z2.2.1 (List.mem_cons_of_mem _ y), fun y => y.elim (fun e => z2.2.1 (by rw [e]; exact List.mem_cons_self)) z2.2.2.1, z2.2.2.2⟩
    have a0 : At fm' (RD g.fm own H1) (L.set i sAny) (wipe σ [i]) (upd H1 D (.lst [])) own := by
      obtain ⟨h1, h2, ⟨Fs, h3, e⟩, h4, h5, h6⟩ := aw
      refine ⟨h1.trans (newSame hD), fun a z => ?_, ⟨Fs, h3.st (fun b a o z => ?_) fun y hy => ?_, e⟩, h4, fun y hy => ⟨fun n => (h5 y hy).1 ((newSame hD).free n), (h5 y hy).2.1, fun z => z.elim (fun e => (h5 y hy).1 (by rw [e]; exact hD)) (h5 y hy).2.2⟩, fun a o z => rdD .sh H1 a o z⟩
      · rcases z with z | z
        · rw [z, upd_same]; exact fun n => by cases n
        · exact fun n => h2 a z ((newSame hD).free n)
      · cases b with
        | false => exact rdD .sh H1 a o z
        | true => exact rdD .f0 H1 a o z
      · exact upd_ne fun e' => (h5 y (by rw [e]; exact hy)).1 (by rw [e']; exact hD)
    have upR : ∀ (md : Md) {H5 : Hp} {vs' : List V}, ∀ a o, RX g.fm (D :: own) H H5 md a o → RX g.fm (D :: own) H (upd H5 D (.lst vs')) md a o := fun md {H5 vs'} a o z => by
      have ne : a ∉ D :: own → a ≠ D := fun h e => h (by rw [e]; exact List.mem_cons_self)
      cases md with
      | sh =>
        refine z.imp (fun ⟨a1, a2, a3⟩ => ⟨?_, a2, a3⟩) id
        unfold Rd
        rw [cl_upd_ne (ne a2)]
        exact a1
      | f0 => exact ⟨by rw [cl_upd_ne (ne z.2.1)]; exact z.1, z.2⟩
      | fx => exact ⟨by rw [cl_upd_ne (ne z.2.1)]; exact z.1, z.2⟩
    refine ⟨fun n mm H' => mm = xs.length - n ∧ n ≤ xs.length ∧ ∃ vs ds, H' D = some (.lst vs) ∧ vs.length ≤ n ∧ Same H H' ∧ Reps T (RX g.fm (D :: own) H H' md) ds vs ∧ At fm' (RD g.fm own H1) (L.set i sAny) (wipe σ [i]) H' own ∧
      FinL g.fm g.W own σ H md T Q ((compG hh (xs.drop n)).bind fun l => .ok (ds ++ l)), ⟨_, rfl, Nat.zero_le _, [], [], upd_same, Nat.zero_le _, s1.trans (newSame hD), .nil, a0, ?_⟩, ?_⟩
    · rw [List.drop_zero]
      have e : ((compG hh xs).bind fun l => M.ok ([] ++ l)) = compG hh xs := by cases compG hh xs <;> rfl
      rw [e]; exact q
    rintro n mm H' ⟨rfl, hn, vs, ds, hDv, hvl, sH, rr, a', q'⟩
    have rb : Rdb g.fm.K (RD g.fm own H1) H' := fun a o z => (a'.kept a o z).imp (fun h => Rd.raw h.1) id
    obtain ⟨hgo, hst⟩ := hJ H' rb n
    by_cases hlt : n < xs.length
    · have hx' : xs[n]? = some xs[n] := by simp [hlt]
      obtain ⟨go, yl⟩ := hgo _ hx'
      refine .inr ⟨go, fun H6 => ∃ vs ds, H6 D = some (.lst vs) ∧ vs.length ≤ n + 1 ∧ Same H H6 ∧ Reps T (RX g.fm (D :: own) H H6 md) ds vs ∧ At fm' (RD g.fm own H1) (L.set i sAny) (wipe σ [i]) H6 own ∧
        FinL g.fm g.W own σ H md T Q ((compG hh (xs.drop (n + 1))).bind fun l => .ok (ds ++ l)), fun H6 z => ⟨xs.length - (n + 1), by omega, rfl, hlt, z⟩, fun y H3 hy => ?_⟩
      obtain ⟨s3, r3⟩ := yl y H3 hy
      have a3 := a'.ext s3
      have ry : S.rep xs[n] y (RD fm' own H3) := S.mono r3 (Nw.rd a' a'.kept s3)
      have hLw : (L.set i sAny)[i]? = some sAny := by
        have hlt' := (List.getElem?_eq_some_iff.mp hLi).1
        rw [List.getElem?_set_self hlt']
      have a4 : At fm' (RD g.fm own H1) (L.set i (sV false S xs[n])) ((wipe σ [i]).set i (some y)) H3 own := by
        have := a3.setN (s' := sV false S xs[n]) (v := some y) hLw no_any ⟨rfl, y, rfl, ry⟩
        rwa [List.set_set] at this
      rw [List.drop_eq_getElem_cons hlt] at q'
      refine ⟨wipe1, ⟨⟨fm', ok.fmK, ok.tab⟩, xs[n]⟩, _, own, a4, ?_⟩
      have q2 : FinL g.fm g.W own σ H md T Q (((hh xs[n]).nox.bind fun o => (compG hh (xs.drop (n + 1))).bind fun l => .ok (o.toList ++ l)).bind fun l => .ok (ds ++ l)) := q'
      cases hcm : cm xs[n] with
      | ex c => rw [show hh xs[n] = .ex c from by show (cm xs[n]).bind _ = _; rw [hcm]; rfl] at q2; exact q2.elim
      | no => rw [show hh xs[n] = .no from by show (cm xs[n]).bind _ = _; rw [hcm]; rfl] at q2; exact q2.elim
      | ok c =>
        intro H4 s4
        cases c with
        | false =>
          rw [show hh xs[n] = .ok none from by show (cm xs[n]).bind _ = _; rw [hcm]; rfl] at q2
          refine (if_neg (by decide)).mpr ?_
          have a5 : At fm' (RD g.fm own H1) (L.set i sAny) (wipe σ [i]) H4 own := a3.ext s4
          refine ⟨vs, ds, s4.keep _ _ (s3.keep _ _ hDv rfl) rfl, Nat.le_succ_of_le hvl, (sH.trans s3).trans s4, rr.mono (RX.same (s3.trans s4)), a5, ?_⟩
          have e : (((M.ok (none : Option β)).nox.bind fun o => (compG hh (xs.drop (n + 1))).bind fun l => M.ok (o.toList ++ l)).bind fun l => M.ok (ds ++ l)) = (compG hh (xs.drop (n + 1))).bind fun l => M.ok (ds ++ l) := by
            cases compG hh (xs.drop (n + 1)) <;> rfl
          rw [e] at q2; exact q2
        | true =>
          refine (if_pos rfl).mpr ⟨⟨⟨fm', ok.fmK, ok.tab⟩, xs[n]⟩, _, own, a4.ext s4, ?_⟩
          cases hf : f xs[n] with
          | ex c => rw [show hh xs[n] = .ex c from by show (cm xs[n]).bind _ = _; rw [hcm]; show (f xs[n]).bind _ = _; rw [hf]; rfl] at q2; exact q2.elim
          | no => rw [show hh xs[n] = .no from by show (cm xs[n]).bind _ = _; rw [hcm]; show (f xs[n]).bind _ = _; rw [hf]; rfl] at q2; exact q2.elim
          | ok w =>
            rw [show hh xs[n] = .ok (some w) from by show (cm xs[n]).bind _ = _; rw [hcm]; show (f xs[n]).bind _ = _; rw [hf]; rfl] at q2
            intro v H5 s5 r5
            have s35 : Same H' H5 := (s3.trans s4).trans s5
            have sHH5 : Same H H5 := sH.trans s35
            have nw : ∀ a o, RX fm' own H4 H5 md a o → RX g.fm (D :: own) H H5 md a o := fun a o z => by
              have nd : ¬ fm'.z a → a ≠ D ∧ ¬ g.fm.z a := fun h => ⟨fun e => h (.inl e), fun e => h (.inr e)⟩
              cases md with
              | sh => exact z.imp (fun ⟨a1, a2, a3⟩ => ⟨a1, fun y => (List.mem_cons.mp y).elim (nd a3).1 a2, (nd a3).2⟩) id
              | f0 => exact ⟨z.1, fun y => (List.mem_cons.mp y).elim (nd z.2.2.1).1 z.2.1, (nd z.2.2.1).2, z.2.2.2⟩
              | fx => exact ⟨z.1, fun y => (List.mem_cons.mp y).elim (nd z.2.2.1).1 z.2.1, (nd z.2.2.1).2, z.2.2.2.1, ((sH.trans s3).trans s4).free z.2.2.2.2⟩
            refine ⟨vs, s35.keep _ _ hDv rfl, by omega, vs ++ [v], ds ++ [w], upd_same, by rw [List.length_append, List.length_singleton]; omega, sHH5.wr hHD (s35.keep _ _ hDv rfl) (fun _ z => nomatch z) rfl, ?_, ?_, ?_⟩
            · exact ((rr.mono (RX.same s35)).append (.cons (T.mono r5 nw) .nil)).mono (upR md)
            · -- the slots at the changed heap
              have a5 : At fm' (RD g.fm own H1) (L.set i sAny) (wipe σ [i]) H5 own := a'.ext s35
              obtain ⟨h1, h2, ⟨Fs, h3, e⟩, h4, h5, h6⟩ := a5
              have ne : ∀ {a : Addr}, ¬ fm'.z a → a ≠ D := fun h e => h (.inl e)
              have k0 : ∀ (md : Md) a o, RX fm' own H5 H5 md a o → md = .fx ∨ RX fm' own (upd H5 D (.lst (vs ++ [v]))) (upd H5 D (.lst (vs ++ [v]))) md a o := fun md a o z => by
                cases md with
                | sh =>
                  refine .inr (z.imp (fun ⟨a1, a2, a3⟩ => ⟨?_, a2, a3⟩) id)
                  unfold Rd
                  rw [cl_upd_ne (ne a3)]
                  exact a1
                | f0 => exact .inr ⟨by rw [cl_upd_ne (ne z.2.2.1)]; exact z.1, z.2⟩
                | fx => exact .inl rfl
              have up : ∀ a, H5 a ≠ none → upd H5 D (.lst (vs ++ [v])) a ≠ none := fun a hne => by
                by_cases e : a = D
                · rw [e, upd_same]; exact fun z => by cases z
                · rw [upd_ne e]; exact hne
              refine ⟨h1.wr (at_.same.free hHD) (s35.keep _ _ hDv rfl) (fun _ z => nomatch z) rfl, fun a z => up a (h2 a z), ⟨Fs, h3.st (fun b a o z => ?_) fun y hy => ?_, e⟩, h4, fun y hy => ⟨up y (h5 y hy).1, (h5 y hy).2⟩, fun a o z => (k0 .sh a o (h6 a o z)).resolve_left fun e => nomatch e⟩
              · cases b with
                | false => exact (k0 .sh a o z).resolve_left fun e => nomatch e
                | true => exact (k0 .f0 a o z).resolve_left fun e => nomatch e
              · exact upd_ne (ne (h5 y (by rw [e]; exact hy)).2.2)
            · have e : (((M.ok (some w)).nox.bind fun o => (compG hh (xs.drop (n + 1))).bind fun l => M.ok (o.toList ++ l)).bind fun l => M.ok (ds ++ l)) = (compG hh (xs.drop (n + 1))).bind fun l => M.ok ((ds ++ [w]) ++ l) := by
                cases compG hh (xs.drop (n + 1)) <;> simp [M.nox, M.bind]
              rw [e] at q2; exact q2
    · have e : n = xs.length := by omega
      subst e
      rw [List.drop_length] at q'
      refine .inl ⟨hst (by simp), ?_⟩
      have q2 : FinL g.fm g.W own σ H md T Q (.ok (ds ++ [])) := q'
      rw [List.append_nil] at q2
      exact q2 D vs H' sH hHD hDv rr
  refine ⟨PE.imp (pe_lc (own := [(x, i)]) ok.calm (by rw [ok.N]; exact ok.nd) hI (by rw [ok.N]; exact ok.blk hb) (fun s H C cl fp => pg_name (i := i) (by show g.X.N.Nodup; rw [ok.N]; exact ok.nd) (by show g.X.N[i]? = _; rw [ok.N]; exact hN) (loc s H C cl fp).1 (loc s H C cl fp).2)
    (fun s H C cl fp => PTs.ex (t := fun (z : {fm' : Fm // fm'.K = p.K ∧ ∀ P, p.T = some P → LamX.TabS fm'.H0 P lamQ} × α) => tT z.1.1 (fun _ _ _ => False) (L.set i (sV false S z.2)) (cm z.2)) fun z => hc ⟨g.X.blk s H scope (compEnvC scope cl C g.X.env) fp, z.1.1, fun _ _ _ => False, []⟩ (blk_ok ok z.1.2 hv hg) z.2) (fun s H C cl fp => PE.ex (t := fun (z : {fm' : Fm // fm'.K = p.K ∧ ∀ P, p.T = some P → LamX.TabS fm'.H0 P lamQ} × α) => tE z.1.1 (fun _ _ _ => False) (L.set i (sV false S z.2)) md T (f z.2)) fun z => he ⟨g.X.blk s H scope (compEnvC scope cl C g.X.env) fp, z.1.1, fun _ _ _ => False, []⟩ (blk_ok ok z.1.2 hv hg) z.2) hs) BODY, fun {y i2 py spos} hy hyl hsw => ?_⟩
  exact PS.imp (ps_setLc (own := [(x, i)]) ok.calm (by rw [ok.N]; exact ok.nd) (by rw [ok.N]; exact hy) hyl hsw hI (by rw [ok.N]; exact ok.blk hb) (fun s H C cl fp => pg_name (i := i) (by show g.X.N.Nodup; rw [ok.N]; exact ok.nd) (by show g.X.N[i]? = _; rw [ok.N]; exact hN) (loc s H C cl fp).1 (loc s H C cl fp).2)
    (fun s H C cl fp => PTs.ex (t := fun (z : {fm' : Fm // fm'.K = p.K ∧ ∀ P, p.T = some P → LamX.TabS fm'.H0 P lamQ} × α) => tT z.1.1 (fun _ _ _ => False) (L.set i (sV false S z.2)) (cm z.2)) fun z => hc ⟨g.X.blk s H scope (compEnvC scope cl C g.X.env) fp, z.1.1, fun _ _ _ => False, []⟩ (blk_ok ok z.1.2 hv hg) z.2) (fun s H C cl fp => PE.ex (t := fun (z : {fm' : Fm // fm'.K = p.K ∧ ∀ P, p.T = some P → LamX.TabS fm'.H0 P lamQ} × α) => tE z.1.1 (fun _ _ _ => False) (L.set i (sV false S z.2)) md T (f z.2)) fun z => he ⟨g.X.blk s H scope (compEnvC scope cl C g.X.env) fp, z.1.1, fun _ _ _ => False, []⟩ (blk_ok ok z.1.2 hv hg) z.2) hs) fun E σ H q => BODY σ H _ q
/-- [elt for x in it if c] -/
theorem evl_lc {scope : Scope} {it elt : Expr} {m : M (List α)} {cm : α → M Bool} {f : α → M β} {tp : Pos} {ifs : List Expr} {s₀ : Slot} (ok : Ok p sc NN VV GG k g) (hI : EvI g L (.Name x tp) it S m) (hN : NN[i]? = some x) (hLi : L[i]? = some s₀) (hs₀ : NoOwn s₀) (hb : blkC NN sc scope [(x, i)] = true)
    (hv : VV'.all (seenB scope) = true) (hg : GG'.all (glB scope) = true) (hx : locB scope x = true)
    (hc : ∀ g', Ok p scope NN VV' GG' k g' → ∀ d, PTs g'.X ifs (tT g'.fm g'.W (L.set i (sV false S d)) (cm d)))
    (he : ∀ g', Ok p scope NN VV' GG' k g' → ∀ d, EvE g' (L.set i (sV false S d)) elt md T (f d)) (hs : ∀ x, foldedSetIterable it g.X.env x = pure x := by intro _; rfl) :
    EvL g L (.ListComp elt [⟨.Name x tp, it, ifs, 0⟩] scope pos) md T (m.bind fun xs => compM (fun d => (cm d).bind fun c => if c = true then (f d).bind fun y => .ok (some y) else .ok none) xs) := (evl_lc2 ok hI hN hLi hs₀ hb hv hg hx hc he hs).1
end
end Hd

namespace Hd
open PySem PySem.Spec L2
section
variable {p : Pr} {sc : Scope} {NN VV GG VV' GG' : List Str} {k : Nat} {g : G} {L L' : List Slot} {a b c e e' : Expr} {es : List Expr} {md md' : Md} {α β γ δ ρ : Type} {S : Ty α} {T : Ty β} {U : Ty γ} {A : Ar δ} {pos : Pos} {K : PySem.W.Frag} {tg : Expr} {i j : Nat} {x : Str}
/-- all slots forgotten -/
theorem wkX {n : Nat} (h : g.LX = List.replicate n sAny) (e : L.length = n) : Wk L g.LX := h ▸ Wk.anys e
theorem ev_gint {i : Int} (ok : Ok p sc NN VV GG k g) (hG : GG[j]? = some x) (h : ∃ t, p.mg x = some (.int i t)) : EvE g L (.Name x pos) md tInt (.ok i) := by
  obtain ⟨t, h⟩ := h
  exact ev_glob (v := .int i) ok hG h ⟨t, rfl⟩ (fun _ => rfl)
theorem ev_gstr {s : String} (ok : Ok p sc NN VV GG k g) (hG : GG[j]? = some x) (h : ∃ t, p.mg x = some (.str (Str.ofString s) t)) (hl : okTxB (tx s) = true) : EvE g L (.Name x pos) md tStr (.ok (tx s)) := by
  obtain ⟨t, h⟩ := h
  exact ev_glob (v := .str (Str.ofString s)) ok hG h ⟨t, rfl⟩ (fun _ => ⟨by rw [toS_tx], okTx_of hl⟩)
/-! ### built-ins of one, of two arguments -/
theorem ev_b1 {id : String} {r : List V → Hp → VK → Prop} {f : α → M γ} {fr : Bool} {m : M α} {pp : Pos} (ok : Ok p sc NN VV GG k g) (hc : CallR g.X (.builtin id) r)
    (F : ∀ {d v R H Q}, Rdb p.K R H → S.rep d v R → OpEnd U fr R H Q (f d) → r [v] H Q) (hne : ∀ d c, f d ≠ .ex c) (hm : MdOk fr md md')
    (hG : GG[j]? = some x) (hmg : p.mg x = none) (hv : bootBuiltins x = some (.builtin id)) (ha : EvE g L e md S m) (hs : starEach [e] g.X.env = (false, eval e g.X.env) :: starEach [] g.X.env := by rfl) : EvE g L (.Call (.Name x pp) [e] [] pos) md' U (m.bind f) := by
  have h := ev_callB (md' := md') (U := U) (A := aCons S aNil) (f := fun d => f d.1) (fr := fr) (pos := pos) (pp := pp) ok hc ⟨fun {d xs R H Q} rb ⟨v, r, e1, h1, e3⟩ q => by
    subst e1; cases (show r = [] from e3); exact F rb h1 q⟩ (fun d c => hne d.1 c) hm hG hmg hv (eva_cons ha eva_nil hs) hs rfl
  have e : (m.bind fun d => (M.ok ()).bind fun e => M.ok (d, e)).bind (fun d => f d.1) = m.bind f := by cases m <;> rfl
  rwa [e] at h
theorem ev_t1 {id : String} {r : List V → Hp → VK → Prop} {f : α → M γ} {fr : Bool} {m : M α} {pp : Pos} (ok : Ok p sc NN VV GG k g) (hc : CallR g.X (.type id) r)
    (F : ∀ {d v R H Q}, Rdb p.K R H → S.rep d v R → OpEnd U fr R H Q (f d) → r [v] H Q) (hne : ∀ d c, f d ≠ .ex c) (hm : MdOk fr md md')
    (hG : GG[j]? = some x) (hmg : p.mg x = none) (hv : bootBuiltins x = some (.type id)) (ha : EvE g L e md S m) (hs : starEach [e] g.X.env = (false, eval e g.X.env) :: starEach [] g.X.env := by rfl) : EvE g L (.Call (.Name x pp) [e] [] pos) md' U (m.bind f) := by
  have h := ev_callTy (md' := md') (U := U) (A := aCons S aNil) (f := fun d => f d.1) (fr := fr) (pos := pos) (pp := pp) ok hc ⟨fun {d xs R H Q} rb ⟨v, r, e1, h1, e3⟩ q => by
    subst e1; cases (show r = [] from e3); exact F rb h1 q⟩ (fun d c => hne d.1 c) hm hG hmg hv (eva_cons ha eva_nil hs) hs rfl
  have e : (m.bind fun d => (M.ok ()).bind fun e => M.ok (d, e)).bind (fun d => f d.1) = m.bind f := by cases m <;> rfl
  rwa [e] at h
theorem ev_b2 {id : String} {r : List V → Hp → VK → Prop} {f : α → β → M γ} {fr : Bool} {m1 : M α} {m2 : M β} {pp : Pos} (ok : Ok p sc NN VV GG k g) (hc : CallR g.X (.builtin id) r)
    (F : ∀ {d e v w R H Q}, Rdb p.K R H → S.rep d v R → T.rep e w R → OpEnd U fr R H Q (f d e) → r [v, w] H Q) (hne : ∀ d e c, f d e ≠ .ex c) (hm : MdOk fr md md')
    (hG : GG[j]? = some x) (hmg : p.mg x = none) (hv : bootBuiltins x = some (.builtin id)) (ha : EvE g L a md S m1) (hb : EvE g L b md T m2)
    (hs1 : starEach [a, b] g.X.env = (false, eval a g.X.env) :: starEach [b] g.X.env := by rfl) (hs2 : starEach [b] g.X.env = (false, eval b g.X.env) :: starEach [] g.X.env := by rfl)
    (hpl : (backTo pos (starEach [b] g.X.env)).any (·.1) = false := by rfl) : EvE g L (.Call (.Name x pp) [a, b] [] pos) md' U (m1.bind fun d => m2.bind fun e => f d e) := by
  have h := ev_callB (md' := md') (U := U) (A := aCons S (aCons T aNil)) (f := fun d => f d.1 d.2.1) (fr := fr) (pos := pos) (pp := pp) ok hc ⟨fun {d xs R H Q} rb ⟨v, r, e1, h1, w, r2, e2, h2, e3⟩ q => by
    subst e1; subst e2; cases (show r2 = [] from e3); exact F rb h1 h2 q⟩ (fun d c => hne d.1 d.2.1 c) hm hG hmg hv (eva_cons ha (eva_cons hb eva_nil hs2) hs1) hs1 hpl
  have e : (m1.bind fun d => (m2.bind fun d => (M.ok ()).bind fun e => M.ok (d, e)).bind fun e => M.ok (d, e)).bind (fun d => f d.1 d.2.1) = m1.bind fun d => m2.bind fun e => f d e := by cases m1 <;> cases m2 <;> rfl
  rwa [e] at h
variable {m1 m2 : M Int} {pp : Pos}
theorem ev_abs (ok : Ok p sc NN VV GG k g) (hG : GG[j]? = some "abs") (hmg : p.mg "abs" = none) (ha : EvE g L a md tInt m1) (hs : starEach [a] g.X.env = (false, eval a g.X.env) :: starEach [] g.X.env := by rfl) : EvE g L (.Call (.Name "abs" pp) [a] [] pos) md' tInt (m1.bind fun x => .ok (x.natAbs : Int)) :=
  ev_b1 (fr := true) ok call_abs (fun {d v R H Q} rb h q => by
    refine ⟨d, by rw [h], q _ _ (Same.refl _) ?_⟩
    show V.int _ = V.int _
    congr 1
    split <;> omega) (fun _ _ h => nomatch h) .fresh hG hmg (by decide +kernel) ha hs
theorem ev_max2 (ok : Ok p sc NN VV GG k g) (hG : GG[j]? = some "max") (hmg : p.mg "max" = none) (ha : EvE g L a md tInt m1) (hb : EvE g L b md tInt m2)
    (hs1 : starEach [a, b] g.X.env = (false, eval a g.X.env) :: starEach [b] g.X.env := by rfl) (hs2 : starEach [b] g.X.env = (false, eval b g.X.env) :: starEach [] g.X.env := by rfl)
    (hpl : (backTo pos (starEach [b] g.X.env)).any (·.1) = false := by rfl) : EvE g L (.Call (.Name "max" pp) [a, b] [] pos) md' tInt (m1.bind fun x => m2.bind fun y => .ok (max x y)) :=
  ev_b2 (fr := true) (f := fun x y => .ok (max x y)) ok (call_max2 ok.calm) (fun {d e v w R H Q} rb h1 h2 q => by
    refine ⟨d, e, by rw [h1, h2], q _ _ (Same.refl _) ?_⟩
    show V.int _ = V.int _
    congr 1
    split <;> omega) (fun _ _ _ h => nomatch h) .fresh hG hmg (by decide +kernel) ha hb hs1 hs2 hpl
theorem ev_min2 (ok : Ok p sc NN VV GG k g) (hG : GG[j]? = some "min") (hmg : p.mg "min" = none) (ha : EvE g L a md tInt m1) (hb : EvE g L b md tInt m2)
    (hs1 : starEach [a, b] g.X.env = (false, eval a g.X.env) :: starEach [b] g.X.env := by rfl) (hs2 : starEach [b] g.X.env = (false, eval b g.X.env) :: starEach [] g.X.env := by rfl)
    (hpl : (backTo pos (starEach [b] g.X.env)).any (·.1) = false := by rfl) : EvE g L (.Call (.Name "min" pp) [a, b] [] pos) md' tInt (m1.bind fun x => m2.bind fun y => .ok (min x y)) :=
  ev_b2 (fr := true) (f := fun x y => .ok (min x y)) ok (call_min2 ok.calm) (fun {d e v w R H Q} rb h1 h2 q => by
    refine ⟨d, e, by rw [h1, h2], q _ _ (Same.refl _) ?_⟩
    show V.int _ = V.int _
    congr 1
    split <;> omega) (fun _ _ _ h => nomatch h) .fresh hG hmg (by decide +kernel) ha hb hs1 hs2 hpl
def bInt (b : Bool) : Int := if b then 1 else 0
theorem ev_intB {m : M Bool} (ok : Ok p sc NN VV GG k g) (hG : GG[j]? = some "int") (hmg : p.mg "int" = none) (ha : EvE g L a md tBool m) (hs : starEach [a] g.X.env = (false, eval a g.X.env) :: starEach [] g.X.env := by rfl) : EvE g L (.Call (.Name "int" pp) [a] [] pos) md' tInt (m.bind fun x => .ok (bInt x)) :=
  ev_t1 (fr := true) ok call_int1 (fun {d v R H Q} rb h q => .inr ⟨d, by rw [h], q _ _ (Same.refl _) rfl⟩) (fun _ _ h => nomatch h) .fresh hG hmg (by decide +kernel) ha hs
theorem ev_intI (ok : Ok p sc NN VV GG k g) (hG : GG[j]? = some "int") (hmg : p.mg "int" = none) (ha : EvE g L a md tInt m1) (hs : starEach [a] g.X.env = (false, eval a g.X.env) :: starEach [] g.X.env := by rfl) : EvE g L (.Call (.Name "int" pp) [a] [] pos) md' tInt (m1.bind fun x => .ok x) :=
  ev_t1 (fr := true) ok call_int1 (fun {d v R H Q} rb h q => .inl ⟨d, by rw [h], q _ _ (Same.refl _) rfl⟩) (fun _ _ h => nomatch h) .fresh hG hmg (by decide +kernel) ha hs
/-! ### lists of flat things -/
theorem Reps.ints {R : RdR} {ds : List Int} {vs : List V} (r : Reps tInt R ds vs) : vs = ds.map V.int := by
  induction r with
  | nil => rfl
  | cons h _ ih => cases h; rw [ih]; rfl
theorem Reps.bools {R : RdR} {ds : List Bool} {vs : List V} (r : Reps tBool R ds vs) : vs = ds.map V.bl := by
  induction r with
  | nil => rfl
  | cons h _ ih => cases h; rw [ih]; rfl
theorem Reps.strs {R : RdR} {ds : List Tx} {vs : List V} (r : Reps tStr R ds vs) : vs = (ds.map toS).map V.str ∧ ∀ d ∈ ds, OkTx d := by
  induction r with
  | nil => exact ⟨rfl, fun _ h => nomatch h⟩
  | cons h _ ih =>
    obtain ⟨e, h⟩ := h
    subst e
    refine ⟨by rw [ih.1]; rfl, fun d hd => ?_⟩
    rcases List.mem_cons.mp hd with e | hd
    · rw [e]; exact h
    · exact ih.2 d hd
theorem ev_sum {m : M (List Int)} (ok : Ok p sc NN VV GG k g) (hG : GG[j]? = some "sum") (hmg : p.mg "sum" = none) (ha : EvE g L a md (tList tInt) m) (hs : starEach [a] g.X.env = (false, eval a g.X.env) :: starEach [] g.X.env := by rfl) : EvE g L (.Call (.Name "sum" pp) [a] [] pos) md' tInt (m.bind fun x => .ok x.sum) :=
  ev_b1 (S := tList tInt) (fr := true) ok (cr_sum ok.calm) (fun {d v R H Q} rb ⟨a, vs, e, h, r⟩ q => ⟨a, d, by rw [e], by rw [← r.ints, ok.K]; exact sq_of rb h, q _ _ (Same.refl _) rfl⟩) (fun _ _ h => nomatch h) .fresh hG hmg (by decide +kernel) ha hs
theorem ev_all {m : M (List Bool)} (ok : Ok p sc NN VV GG k g) (hG : GG[j]? = some "all") (hmg : p.mg "all" = none) (ha : EvE g L a md (tList tBool) m) (hs : starEach [a] g.X.env = (false, eval a g.X.env) :: starEach [] g.X.env := by rfl) : EvE g L (.Call (.Name "all" pp) [a] [] pos) md' tBool (m.bind fun x => .ok (x.all id)) :=
  ev_b1 (S := tList tBool) (fr := true) ok (cr_all ok.calm) (fun {d v R H Q} rb ⟨a, vs, e, h, r⟩ q => ⟨a, d, by rw [e], by rw [← r.bools, ok.K]; exact sq_of rb h, q _ _ (Same.refl _) rfl⟩) (fun _ _ h => nomatch h) .fresh hG hmg (by decide +kernel) ha hs
theorem ev_any {m : M (List Bool)} (ok : Ok p sc NN VV GG k g) (hG : GG[j]? = some "any") (hmg : p.mg "any" = none) (ha : EvE g L a md (tList tBool) m) (hs : starEach [a] g.X.env = (false, eval a g.X.env) :: starEach [] g.X.env := by rfl) : EvE g L (.Call (.Name "any" pp) [a] [] pos) md' tBool (m.bind fun x => .ok (x.any id)) :=
  ev_b1 (S := tList tBool) (fr := true) ok (cr_any ok.calm) (fun {d v R H Q} rb ⟨a, vs, e, h, r⟩ q => ⟨a, d, by rw [e], by rw [← r.bools, ok.K]; exact sq_of rb h, q _ _ (Same.refl _) rfl⟩) (fun _ _ h => nomatch h) .fresh hG hmg (by decide +kernel) ha hs
def maxM : List Int → M Int
  | [] => .no
  | x :: r => .ok (r.foldl max x)
def minM : List Int → M Int
  | [] => .no
  | x :: r => .ok (r.foldl min x)
theorem foldl_max_le : ∀ (r : List Int) (x : Int), x ≤ r.foldl max x ∧ (∀ y ∈ r, y ≤ r.foldl max x) ∧ (r.foldl max x = x ∨ r.foldl max x ∈ r)
  | [], x => ⟨Int.le_refl _, (fun _ h => nomatch h), .inl rfl⟩
  | y :: r, x => by
    obtain ⟨h1, h2, h3⟩ := foldl_max_le r (max x y)
    rw [List.foldl_cons]
    refine ⟨by omega, fun z hz => ?_, ?_⟩
    · rcases List.mem_cons.mp hz with e | hz
      · subst e; omega
      · exact h2 z hz
    · rcases h3 with h | h
      · rw [h]
        by_cases q : x ≤ y
        · exact .inr (by rw [show max x y = y by omega]; exact List.mem_cons_self)
        · exact .inl (by omega)
      · exact .inr (List.mem_cons_of_mem _ h)
theorem foldl_min_le : ∀ (r : List Int) (x : Int), r.foldl min x ≤ x ∧ (∀ y ∈ r, r.foldl min x ≤ y) ∧ (r.foldl min x = x ∨ r.foldl min x ∈ r)
  | [], x => ⟨Int.le_refl _, (fun _ h => nomatch h), .inl rfl⟩
  | y :: r, x => by
    obtain ⟨h1, h2, h3⟩ := foldl_min_le r (min x y)
    rw [List.foldl_cons]
    refine ⟨by omega, fun z hz => ?_, ?_⟩
    · rcases List.mem_cons.mp hz with e | hz
      · subst e; omega
      · exact h2 z hz
    · rcases h3 with h | h
      · rw [h]
        by_cases q : y ≤ x
        · exact .inr (by rw [show min x y = y by omega]; exact List.mem_cons_self)
        · exact .inl (by omega)
      · exact .inr (List.mem_cons_of_mem _ h)
theorem ev_max1 {m : M (List Int)} (ok : Ok p sc NN VV GG k g) (hG : GG[j]? = some "max") (hmg : p.mg "max" = none) (ha : EvE g L a md (tList tInt) m) (hs : starEach [a] g.X.env = (false, eval a g.X.env) :: starEach [] g.X.env := by rfl) : EvE g L (.Call (.Name "max" pp) [a] [] pos) md' tInt (m.bind maxM) :=
  ev_b1 (S := tList tInt) (fr := true) ok (cr_max ok.calm) (fun {d v R H Q} rb ⟨a, vs, e, h, rp⟩ q => by
    refine ⟨a, d, by rw [e], by rw [← rp.ints, ok.K]; exact sq_of rb h, ?_⟩
    cases d with
    | nil => exact q.elim
    | cons x r =>
      refine ⟨by simp, fun m hm hle => ?_⟩
      obtain ⟨h1, h2, h3⟩ := foldl_max_le r x
      have e : m = r.foldl max x := by
        have a1 : r.foldl max x ≤ m := hle _ (by rcases h3 with h | h; rw [h]; exact List.mem_cons_self; exact List.mem_cons_of_mem _ h)
        have a2 : m ≤ r.foldl max x := by rcases List.mem_cons.mp hm with e | hm; rw [e]; exact h1; exact h2 m hm
        omega
      rw [e]
      exact q _ _ (Same.refl _) rfl) (fun d c h => by cases d <;> cases h) .fresh hG hmg (by decide +kernel) ha hs
theorem ev_min1 {m : M (List Int)} (ok : Ok p sc NN VV GG k g) (hG : GG[j]? = some "min") (hmg : p.mg "min" = none) (ha : EvE g L a md (tList tInt) m) (hs : starEach [a] g.X.env = (false, eval a g.X.env) :: starEach [] g.X.env := by rfl) : EvE g L (.Call (.Name "min" pp) [a] [] pos) md' tInt (m.bind minM) :=
  ev_b1 (S := tList tInt) (fr := true) ok (cr_min ok.calm) (fun {d v R H Q} rb ⟨a, vs, e, h, rp⟩ q => by
    refine ⟨a, d, by rw [e], by rw [← rp.ints, ok.K]; exact sq_of rb h, ?_⟩
    cases d with
    | nil => exact q.elim
    | cons x r =>
      refine ⟨by simp, fun m hm hle => ?_⟩
      obtain ⟨h1, h2, h3⟩ := foldl_min_le r x
      have e : m = r.foldl min x := by
        have a1 : m ≤ r.foldl min x := hle _ (by rcases h3 with h | h; rw [h]; exact List.mem_cons_self; exact List.mem_cons_of_mem _ h)
        have a2 : r.foldl min x ≤ m := by rcases List.mem_cons.mp hm with e | hm; rw [e]; exact h1; exact h2 m hm
        omega
      rw [e]
      exact q _ _ (Same.refl _) rfl) (fun d c h => by cases d <;> cases h) .fresh hG hmg (by decide +kernel) ha hs
/-! ### texts of numbers -/
def itx (i : Int) : Tx := tx (toString i)
def strM (i : Int) : M Tx := if -(10 ^ 100) < i ∧ i < 10 ^ 100 then .ok (itx i) else .no
theorem tx_ok (s : String) (h : (Str.ofString s).length ≤ sizeLine) : OkTx (tx s) := by
  refine ⟨?_, fun c hc => ?_⟩
  · have e : (tx s).length = (Str.ofString s).length := by show (Str.ofString s).cps.toList.length = (Str.ofString s).cps.size; simp
    rw [e]; exact h
  · unfold tx at hc
    rw [PySem.Str.ofString_eq_toList] at hc
    simp only [List.mem_map] at hc
    obtain ⟨ch, _, rfl⟩ := hc
    have := ch.valid
    show ch.val.toNat < 0x110000
    rcases this with h | h
    · have : ch.val.toNat < 0xd800 := h
      omega
    · exact h.2
set_option exponentiation.threshold 3000 in
theorem ev_strI (ok : Ok p sc NN VV GG k g) (hG : GG[j]? = some "str") (hmg : p.mg "str" = none) (ha : EvE g L a md tInt m1) (hs : starEach [a] g.X.env = (false, eval a g.X.env) :: starEach [] g.X.env := by rfl) : EvE g L (.Call (.Name "str" pp) [a] [] pos) md' tStr (m1.bind strM) :=
  ev_t1 (fr := true) ok call_str_int (fun {d v R H Q} rb h q => by
    unfold strM at q
    split at q
    · rename_i hb
      have hlt : d.natAbs < 10 ^ 100 := by omega
      have hl : d.natAbs.log2 < 1920 := by
        by_cases h0 : d.natAbs = 0
        · rw [h0]; decide
        · exact (Nat.log2_lt h0).mpr (Nat.lt_of_lt_of_le hlt (by decide))
      refine ⟨d, by rw [h], hl, q _ _ (Same.refl _) ⟨?_, tx_ok _ (int_text_fits hl)⟩⟩
      show V.str _ = V.str _
      rw [show itx d = tx (toString d) from rfl, toS_tx]
    · exact q.elim) (fun d c h => by unfold strM at h; split at h <;> cases h) .fresh hG hmg (by decide +kernel) ha hs
end
end Hd

namespace Hd
open PySem PySem.Spec L2
theorem lstR {X : Cx} {pins : List (Addr × Obj)} {σ : L2.St} {H : Hp} {s : Shared} {l : Addr} {xs : List V} (I : Inv X pins σ H s) (h : Rd H l (.lst xs)) : xs.length ≤ sizeLine ∧ ∃ (its : List Value) (n : Nat), Vals xs its ∧ xs.length = its.length ∧ s.heap.get? l = some { cls := .type "list", data := .seq its.toArray n } := by
  obtain ⟨z, its, n, r, e⟩ := h.ok I.hok
  exact ⟨z, its, n, r, r.length, e⟩
def rCatR : R2 := fun x y H Q => ∃ l b xs zs, x = .ref l ∧ y = .ref b ∧ Rd H l (.lst xs) ∧ Rd H b (.lst zs) ∧ xs.length + zs.length ≤ sizeLine ∧ ∀ p, H p = none → Q (.ref p) (upd H p (.lst (xs ++ zs)))
theorem op_catR {X : Cx} : OpR X (binaryOp .Add) rCatR := by
  intro pins s σ H x y v u Q I rx ry h
  obtain ⟨l, b, xs, zs, rfl, rfl, hH, hB, hz, q⟩ := h
  cases rx
  cases ry
  obtain ⟨z, its, n, r, hl, e⟩ := lstR I hH
  obtain ⟨z2, its2, n2, r2, hl2, e2⟩ := lstR I hB
  refine PySem.P.add_list e e2 ?_ (by rw [List.size_toArray, List.size_toArray]; omega)
  have ea : its.toArray ++ its2.toArray = (its ++ its2).toArray := by simp
  rw [ea]
  exact ⟨.ref _, _, I.lnew (t' := s.toks) (r.append r2) (by rw [List.length_append]; omega), rfl, q _ I.fresh⟩
def rExtR : V → List V → Hp → VK → Prop := fun x vs H Q => ∃ l b xs zs, x = .ref l ∧ vs = [.ref b] ∧ H l = some (.lst xs) ∧ Rd H b (.lst zs) ∧ xs.length + zs.length ≤ sizeLine ∧ Q .non (upd H l (.lst (xs ++ zs)))
theorem mt_extR {X : Cx} : MtR X "list.extend" rExtR := by
  intro pins s σ H x vs v us Q I rx rv h
  obtain ⟨l, b, xs, zs, rfl, rfl, hH, hB, hz, q⟩ := h
  cases rx
  obtain ⟨u, rfl, ru⟩ := rv.one
  cases ru
  obtain ⟨z, its, n, r, hl, e⟩ := I.lstM hH
  obtain ⟨z2, its2, n2, r2, hl2, e2⟩ := lstR I hB
  have hsz : its.toArray.size + its2.toArray.size ≤ sizeLine := by rw [List.size_toArray, List.size_toArray]; omega
  have hlong : ¬ (!its.toArray.isEmpty && Builtin.List.listTooLong (its.toArray.size + its2.toArray.size)) = true := by
    rw [notLongL hsz, Bool.and_false]
    exact Bool.false_ne_true
  refine call_meets F.slot_list_extend ⟨_, e, rfl⟩ F.entry_list_extend (F.args_list_extend_2 _ _)
    (AutoSeq1.list_extend_list_list_0 l its.toArray n b its2.toArray n2 hlong (by rw [List.size_toArray]; omega) (by omega)) ⟨e, e2, ?_⟩
  refine ⟨.non, _, I.lset (its' := its ++ its2) hH e (by simp) (r.append r2) ?_, rfl, q⟩
  rw [List.length_append]
  omega
section
variable {p : Pr} {sc : Scope} {NN VV GG VV' GG' : List Str} {k : Nat} {g : G} {L L' : List Slot} {a b c e e' : Expr} {es : List Expr} {md md' : Md} {α β γ δ ρ : Type} {S : Ty α} {T : Ty β} {U : Ty γ} {A : Ar δ} {pos : Pos} {K : PySem.W.Frag} {tg : Expr} {i j : Nat} {x : Str}
/-! ### methods of texts -/
theorem ev_sm1 {id : String} {name : Str} {r : V → List V → Hp → VK → Prop} {f : Tx → β → M γ} {m1 : M Tx} {m2 : M β} {apos : Pos} (ok : Ok p sc NN VV GG k g) (slot : PySem.Slot "str" name id) (hty : typeOf (.builtin id) = pure (.type "method_descriptor")) (hmt : MtR g.X id r)
    (F : ∀ {d e y R H Q}, Rdb p.K R H → OkTx d → T.rep e y R → OpEnd U true R H Q (f d e) → r (.str (toS d)) [y] H Q) (hne : ∀ d e c, f d e ≠ .ex c) (ha : EvE g L a md tStr m1) (hb : EvE g L b md T m2)
    (hs : starEach [b] g.X.env = [(false, eval b g.X.env)] := by rfl) (hbase : attributeBase a name g.X.env (eval a g.X.env) = eval a g.X.env := by rfl) (hline : (apos.endLine == pos.line) = true := by rfl) :
    EvE g L (.Call (.Attribute a name apos) [b] [] pos) md' U (m1.bind fun d => m2.bind fun e => f d e) := by
  refine PE.imp (pe_m1 slot hty hmt ha hb hs hbase hline) fun σ H Q q => ?_
  obtain ⟨kp, own, at_, q⟩ := tE_iff.mp q
  refine sub finE (Same.refl H) at_ q fun d x H1 s1 r1 at1 q1 => ⟨⟨_, r1.1⟩, sub finE s1 at1 q1 fun e y H2 s2 r2 at2 q2 => ?_⟩
  rw [r1.1]
  rw [← ok.fmK] at F
  exact F (R := RX g.fm own H H2 md) RX.rdb r1.2 r2 (q2.fin (MdOk.fresh : MdOk true md md') (s1.trans s2) at2 (hne d e))
theorem ev_sm0 {id : String} {name : Str} {r : V → List V → Hp → VK → Prop} {f : Tx → M γ} {m1 : M Tx} {apos : Pos} (ok : Ok p sc NN VV GG k g) (slot : PySem.Slot "str" name id) (hty : typeOf (.builtin id) = pure (.type "method_descriptor")) (hmt : MtR g.X id r)
    (F : ∀ {d R H Q}, Rdb p.K R H → OkTx d → OpEnd U true R H Q (f d) → r (.str (toS d)) [] H Q) (hne : ∀ d c, f d ≠ .ex c) (ha : EvE g L a md tStr m1)
    (hbase : attributeBase a name g.X.env (eval a g.X.env) = eval a g.X.env := by rfl) (hline : (apos.endLine == pos.line) = true := by rfl) :
    EvE g L (.Call (.Attribute a name apos) [] [] pos) md' U (m1.bind f) := by
  refine PE.imp (pe_m0 slot hty hmt ha hbase hline) fun σ H Q q => ?_
  obtain ⟨kp, own, at_, q⟩ := tE_iff.mp q
  refine sub finE (Same.refl H) at_ q fun d x H1 s1 r1 at1 q1 => ⟨⟨_, r1.1⟩, ?_⟩
  rw [r1.1]
  rw [← ok.fmK] at F
  exact F (R := RX g.fm own H H1 md) RX.rdb r1.2 (q1.fin (MdOk.fresh : MdOk true md md') s1 at1 (hne d))
/-- sep.join(xs) -/
def joinM (s : Tx) (xs : List Tx) : M Tx := if (xs.map List.length).sum + xs.length * s.length ≤ 16777216 then .ok (TL.joinL s xs) else .no
theorem joinM_ne {s : Tx} {xs : List Tx} {c : Ec} : joinM s xs ≠ .ex c := by unfold joinM; split <;> exact fun h => nomatch h
theorem joinL_len (s : Tx) : ∀ xs : List Tx, (TL.joinL s xs).length ≤ (xs.map List.length).sum + xs.length * s.length
  | [] => by simp [TL.joinL]
  | [x] => by simp [TL.joinL]
  | x :: y :: r => by
    have := joinL_len s (y :: r)
    simp only [TL.joinL, List.length_append, List.map_cons, List.sum_cons, List.length_cons] at this ⊢
    rw [Nat.add_mul, Nat.add_mul] at *
    omega
theorem joinL_mem (s : Tx) {c : Nat} : ∀ xs : List Tx, c ∈ TL.joinL s xs → c ∈ s ∨ ∃ x ∈ xs, c ∈ x
  | [], h => nomatch h
  | [x], h => .inr ⟨x, List.mem_cons_self, h⟩
  | x :: y :: r, h => by
    simp only [TL.joinL, List.mem_append] at h
    rcases h with h | h | h
    · exact .inr ⟨x, List.mem_cons_self, h⟩
    · exact .inl h
    · rcases joinL_mem s (y :: r) h with h | ⟨z, hz, h⟩
      · exact .inl h
      · exact .inr ⟨z, List.mem_cons_of_mem _ hz, h⟩
theorem tl_toS (x : Tx) : TL.tl (toS x) = x := by simp [TL.tl, toS]
theorem ev_join {m1 : M Tx} {m2 : M (List Tx)} {apos : Pos} (ok : Ok p sc NN VV GG k g) (ha : EvE g L a md tStr m1) (hb : EvE g L b md (tList tStr) m2)
    (hs : starEach [b] g.X.env = [(false, eval b g.X.env)] := by rfl) (hbase : attributeBase a "join" g.X.env (eval a g.X.env) = eval a g.X.env := by rfl) (hline : (apos.endLine == pos.line) = true := by rfl) :
    EvE g L (.Call (.Attribute a "join" apos) [b] [] pos) md' tStr (m1.bind fun s => m2.bind fun xs => joinM s xs) :=
  ev_sm1 (T := tList tStr) ok PySem.F.slot_str_join PySem.F.type_str_join mt_join (fun {d e y R H Q} rb hd ⟨a, vs, ey, h, r⟩ q => by
    obtain ⟨ev, ho⟩ := r.strs
    unfold joinM at q
    split at q
    · rename_i hz
      refine ⟨toS d, a, e.map toS, rfl, by rw [ey], .inl (by rw [← ev, ok.K]; exact sq_of rb h), ?_, ?_⟩
      · rw [List.map_map, show (fun x : Str => x.length) ∘ toS = List.length from funext toS_len, List.length_map, toS_len]; exact hz
      · refine q _ _ (Same.refl _) ⟨?_, Nat.le_trans (joinL_len d e) (Nat.le_trans hz (by decide)), fun c hc => ?_⟩
        · show V.str _ = V.str _
          congr 1
          rw [TL.join_eq]
          refine TL.ext_tl ?_
          rw [TL.tl_join, tl_toS, tl_toS, List.map_map, show TL.tl ∘ toS = id from funext tl_toS, List.map_id]
        · rcases joinL_mem d e hc with h | ⟨z, hz, h⟩
          · exact hd.2 c h
          · exact (ho z hz).2 c h
    · exact q.elim) (fun _ _ _ => joinM_ne) ha hb hs hbase hline
/-! ### slices -/
def tO (fm : Fm) (W : Wx) (L : List Slot) (m : M (Option Int)) : TO := fun σ H Q => ∃ kp own, At fm kp L σ H own ∧
  match m with
  | .ok d => ∀ H', Same H H' → Q d H'
  | .ex c => ∀ H', Same H H' → W c σ H'
  | .no => False
def EvO (g : G) (L : List Slot) (e : Option Expr) (m : M (Option Int)) : Prop := PO g.X e (tO g.fm g.W L m)
theorem PO.imp {X : Cx} {e : Option Expr} {t t' : TO} (h : PO X e t) (k : ∀ σ H Q, t' σ H Q → t σ H Q) : PO X e t' := ⟨fun pins s σ H Q I q => h.run pins s σ H Q I (k _ _ _ q)⟩
theorem evo_none : EvO g L none (.ok none) := PO.imp po_none fun σ H Q ⟨kp, own, at_, q⟩ => q H (Same.refl H)
theorem evo_some {m : M Int} (h : EvE g L e md tInt m) : EvO g L (some e) (m.bind fun i => .ok (some i)) := PO.imp (po_some h) fun σ H Q q => by
  cases m with
  | ok d => obtain ⟨kp, own, at_, q⟩ := q; exact ⟨kp, own, at_, fun v H' s r => ⟨d, r, q H' s⟩⟩
  | ex c => exact q
  | no => exact q
def FinO (W : Wx) (σ : L2.St) (H : Hp) (Q : Option Int → Hp → Prop) : M (Option Int) → Prop
  | .ok d => ∀ H', Same H H' → Q d H'
  | .ex c => ∀ H', Same H H' → W c σ H'
  | .no => False
theorem tO_iff {fm : Fm} {W : Wx} {m : M (Option Int)} {σ : L2.St} {H : Hp} {Q : Option Int → Hp → Prop} : tO fm W L m σ H Q ↔ ∃ kp own, At fm kp L σ H own ∧ FinO W σ H Q m := by
  cases m <;> exact Iff.rfl
theorem subO {fm : Fm} {W : Wx} {kp : RdR} {own : List Addr} {σ : L2.St} {H0 H : Hp} {F : M β → Prop} {m : M (Option Int)} {f : Option Int → M β} {K : Option Int → Hp → Prop} (hF : Fin W σ H0 F) (s0 : Same H0 H) (at_ : At fm kp L σ H own) (q : F (m.bind f))
    (h : ∀ d H1, Same H H1 → At fm kp L σ H1 own → F (f d) → K d H1) : tO fm W L m σ H K := by
  refine tO_iff.mpr ⟨kp, own, at_, ?_⟩
  cases m with
  | ok d => exact fun H1 s => h d H1 s (at_.ext s) q
  | ex c => exact fun H' s => hF.ex q H' (s0.trans s)
  | no => exact hF.no q
def cutL {α : Type} (xs : List α) (lo hi : Option Int) : List α := (xs.drop (HT.sIx xs.length 0 lo)).take (HT.sIx xs.length xs.length hi - HT.sIx xs.length 0 lo)
theorem Reps.cut {R : RdR} {ds : List α} {vs : List V} (h : Reps S R ds vs) (lo hi : Option Int) : Reps S R (cutL ds lo hi) (L2.cutV vs lo hi) := by
  unfold cutL L2.cutV
  rw [h.length]
  exact (h.drop _).take _
theorem cutL_len {xs : List α} {lo hi : Option Int} : (cutL xs lo hi).length ≤ xs.length := by
  unfold cutL
  rw [List.length_take, List.length_drop]
  omega
theorem cutL_mem {xs : List α} {lo hi : Option Int} {d : α} (h : d ∈ cutL xs lo hi) : d ∈ xs := List.mem_of_mem_drop (List.mem_of_mem_take h)
variable {lo hi : Option Expr} {ml mh : M (Option Int)} {p2 : Pos}
theorem ev_slS {m : M Tx} (ok : Ok p sc NN VV GG k g) (ha : EvE g L a md tStr m) (hl : EvO g L lo ml) (hh : EvO g L hi mh) : EvE g L (.Subscript a (.Slice lo hi none p2) pos) md' tStr (m.bind fun x => ml.bind fun l => mh.bind fun h => .ok (cutL x l h)) := by
  refine PE.imp (pe_slice sl_str ha hl hh) fun σ H Q q => ?_
  obtain ⟨kp, own, at_, q⟩ := tE_iff.mp q
  refine sub finE (Same.refl H) at_ q fun d x H1 s1 r1 at1 q1 => subO finE s1 at1 q1 fun l H2 s2 at2 q2 => subO finE (s1.trans s2) at2 q2 fun h H3 s3 at3 q3 => ?_
  refine ⟨toS d, r1.1, by rw [toS_len]; exact r1.2.1, q3 _ H3 ((s1.trans s2).trans s3) ⟨?_, Nat.le_trans cutL_len r1.2.1, fun c hc => r1.2.2 c (cutL_mem hc)⟩⟩
  show V.str _ = V.str _
  congr 1
theorem evl_slL {m : M (List α)} (ok : Ok p sc NN VV GG k g) (ha : EvE g L a md (tList S) m) (hl : EvO g L lo ml) (hh : EvO g L hi mh) : EvL g L (.Subscript a (.Slice lo hi none p2) pos) md S (m.bind fun x => ml.bind fun l => mh.bind fun h => .ok (cutL x l h)) := by
  refine PE.imp (pe_slice sl_list ha hl hh) fun σ H Q q => ?_
  obtain ⟨kp, own, at_, q⟩ := tL_iff.mp q
  refine sub finL (Same.refl H) at_ q fun d x H1 s1 r1 at1 q1 => subO finL s1 at1 q1 fun l H2 s2 at2 q2 => subO finL (s1.trans s2) at2 q2 fun h H3 s3 at3 q3 => ?_
  obtain ⟨ad, vs, e, h1, rr⟩ := r1
  have h3 : RX g.fm own H H3 md ad (.lst vs) := RX.same (s2.trans s3) _ _ h1
  refine ⟨ad, vs, e, (ok.fmK.trans ok.K.symm) ▸ RX.list h3, fun q hq => q3 q (L2.cutV vs l h) _ (((s1.trans s2).trans s3).trans (newSame hq)) (((s1.trans s2).trans s3).free hq) upd_same ?_⟩
  exact ((rr.mono (RX.same (s2.trans s3))).cut l h).mono (RX.add hq)
/-! ### lists by operators -/
def repM {α : Type} (xs : List α) (n : Int) : M (List α) := if -(2 ^ 63) ≤ n ∧ n < 2 ^ 63 ∧ xs.length * n.toNat ≤ sizeLine then .ok (List.replicate n.toNat xs).flatten else .no
theorem Reps.rep {R : RdR} {ds : List α} {vs : List V} (h : Reps S R ds vs) : ∀ n : Nat, Reps S R (List.replicate n ds).flatten (List.replicate n vs).flatten
  | 0 => .nil
  | n + 1 => by rw [List.replicate_succ, List.flatten_cons, List.replicate_succ, List.flatten_cons]; exact h.append (Reps.rep h n)
theorem RX.drop1' {fm : Fm} {own : List Addr} {H H1 : Hp} {q : Addr} : ∀ a o, RX fm (q :: own) H H1 md a o → RX fm own H H1 md a o := RX.drop1
/-- xs * n: xs just made -/
theorem evl_rep {m : M (List α)} {mn : M Int} (ok : Ok p sc NN VV GG k g) (ha : EvL g L a md S m) (hb : EvE g L b md tInt mn) : EvL g L (.BinOp a .Mult b pos) md S (m.bind fun x => mn.bind fun n => repM x n) := by
  refine PE.imp (pe_op op_rep ha hb) fun σ H Q q => ?_
  obtain ⟨kp, own, at_, q⟩ := tL_iff.mp q
  refine tL_iff.mpr ⟨kp, own, at_, ?_⟩
  cases m with
  | ex c => exact q
  | no => exact q.elim
  | ok xs =>
  intro q1 vs H1 s1 n1 h1 r1
  have at1 := at_.ext s1
  have q' : FinL g.fm g.W own σ H md S Q (mn.bind fun n => repM xs n) := q
  refine sub finL s1 at1 q' fun n y H2 s2 r2 at2 q2 => ?_
  have q2 : FinL g.fm g.W own σ H md S Q (repM xs n) := q2
  unfold repM at q2
  split at q2
  · rename_i hz
    refine ⟨q1, n, vs, rfl, r2, s2.keep _ _ h1 rfl, hz.1, hz.2.1, by rw [← r1.length]; exact hz.2.2, fun z hz => q2 z _ _ ((s1.trans s2).trans (newSame hz)) ((s1.trans s2).free hz) upd_same ?_⟩
    exact ((r1.mono fun a o w => RX.same s2 a o (RX.drop1 a o w)).rep _).mono (RX.add hz)
  · exact q2.elim
/-- xs + ys -/
def catL {α : Type} (xs ys : List α) : M (List α) := if xs.length + ys.length ≤ sizeLine then .ok (xs ++ ys) else .no
theorem evl_cat {m1 m2 : M (List α)} (ok : Ok p sc NN VV GG k g) (ha : EvE g L a md (tList S) m1) (hb : EvE g L b md (tList S) m2) : EvL g L (.BinOp a .Add b pos) md S (m1.bind fun x => m2.bind fun y => catL x y) := by
  refine PE.imp (pe_op op_catR ha hb) fun σ H Q q => ?_
  obtain ⟨kp, own, at_, q⟩ := tL_iff.mp q
  refine sub finL (Same.refl H) at_ q fun d x H1 s1 r1 at1 q1 => sub finL s1 at1 q1 fun e y H2 s2 r2 at2 q2 => ?_
  obtain ⟨a1, vs1, rfl, h1, rr1⟩ := r1
  obtain ⟨a2, vs2, rfl, h2, rr2⟩ := r2
  unfold catL at q2
  split at q2
  · rename_i hz
    have rb : Rdb g.fm.K (RX g.fm own H H2 md) H2 := RX.rdb
    refine ⟨a1, a2, vs1, vs2, rfl, rfl, rd_of rb (RX.same s2 _ _ h1), rd_of rb h2, by rw [← rr1.length, ← rr2.length]; exact hz, fun z hz => q2 z _ _ ((s1.trans s2).trans (newSame hz)) ((s1.trans s2).free hz) upd_same ?_⟩
    exact ((rr1.mono (RX.same s2)).append rr2).mono (RX.add hz)
  · exact q2.elim
/-! ### in -/
structure FlatV (S : Ty α) : Prop where
  fl : ∀ {d v R}, S.rep d v R → flatV v = true
  eq : ∀ {d e v w R R'}, S.rep d v R → S.rep e w R' → (eqV v w = true ↔ d = e)
theorem f_int : FlatV tInt := ⟨fun h => by cases h; rfl, fun h1 h2 => by cases h1; cases h2; exact beq_iff_eq⟩
theorem f_str : FlatV tStr := ⟨fun h => by cases h.1; rfl, fun h1 h2 => by
  cases h1.1; cases h2.1
  exact ⟨fun h => toS_inj (beq_iff_eq.mp h), fun h => by rw [h]; exact beq_self_eq_true _⟩⟩
theorem f_bool : FlatV tBool := ⟨fun h => by cases h; rfl, fun h1 h2 => by cases h1; cases h2; exact beq_iff_eq⟩
theorem Reps.allFlat {R : RdR} {ds : List α} {vs : List V} (hf : FlatV S) (h : Reps S R ds vs) : vs.all flatV = true := by
  induction h with
  | nil => rfl
  | cons r _ ih => rw [List.all_cons, hf.fl r, ih]; rfl
theorem Reps.inV [DecidableEq α] {R R' : RdR} {ds : List α} {vs : List V} (hf : FlatV S) (h : Reps S R ds vs) {d : α} {v : V} (r : S.rep d v R') : L2.inV v vs = decide (d ∈ ds) := by
  induction h with
  | nil => simp [L2.inV]
  | @cons d' ds v' vs r' _ ih =>
    unfold L2.inV at ih ⊢
    rw [List.any_cons, ih]
    by_cases e : d = d'
    · have : eqV v' v = true := (hf.eq r' r).mpr e.symm
      rw [this]; simp [e]
    · have : eqV v' v = false := by
        cases q : eqV v' v with
        | true => exact absurd ((hf.eq r' r).mp q).symm e
        | false => rfl
      rw [this]; simp [e]
theorem c_in [DecidableEq α] {X : Cx} (hX : X.K = p.K) (hf : FlatV S) : CmpOk p X .In S (tList S) (fun x xs => decide (x ∈ xs)) := ⟨rIn p.K false, by rw [← hX]; exact op_in_seq, ⟨fun {d e x y R H Q} rb rx ⟨a, vs, ey, h, r⟩ q => by
  subst ey
  exact ⟨a, vs, rfl, .inl (sq_of rb h), hf.fl rx, r.allFlat hf, q _ _ (Same.refl _) (by show _ = V.bl _; rw [r.inV hf rx]; rfl)⟩⟩⟩
theorem c_notin [DecidableEq α] {X : Cx} (hX : X.K = p.K) (hf : FlatV S) : CmpOk p X .NotIn S (tList S) (fun x xs => !decide (x ∈ xs)) := ⟨rIn p.K true, by rw [← hX]; exact op_notIn_seq, ⟨fun {d e x y R H Q} rb rx ⟨a, vs, ey, h, r⟩ q => by
  subst ey
  exact ⟨a, vs, rfl, .inl (sq_of rb h), hf.fl rx, r.allFlat hf, q _ _ (Same.refl _) (by show _ = V.bl _; rw [r.inV hf rx]; rfl)⟩⟩⟩
/-- one sign in a text -/
def inSM (x s : Tx) : M Bool := match x with
  | [c] => .ok (decide (c ∈ s))
  | _ => .no
def notinSM (x s : Tx) : M Bool := match x with
  | [c] => .ok (!decide (c ∈ s))
  | _ => .no
theorem inSM_ne {x s : Tx} {c : Ec} : inSM x s ≠ .ex c := by unfold inSM; split <;> exact fun h => nomatch h
theorem notinSM_ne {x s : Tx} {c : Ec} : notinSM x s ≠ .ex c := by unfold notinSM; split <;> exact fun h => nomatch h
theorem o_inS {X : Cx} : OpR X (compareOp .In) (fun x y H Q => ∃ (c : Nat) (z : Str), x = .str ⟨#[c]⟩ ∧ y = .str z ∧ Q (.bl (decide (c ∈ z.cps.toList))) H) := op_in_sign
theorem ev_inS {m1 m2 : M Tx} (ok : Ok p sc NN VV GG k g) (ha : EvE g L a md tStr m1) (hb : EvE g L b md tStr m2) (hk : behindInMarks .In b = false := by first | exact nomark _ (by decide) (by decide) | rfl) : EvE g L (.Compare a [.In] [b] pos) md' tBool (m1.bind fun x => m2.bind fun y => inSM x y) :=
  ev_cmp (fr := true) ok op_in_sign ⟨fun {d e x y R H Q} rb rx ry q => by
    unfold inSM at q
    split at q
    · rename_i c
      exact ⟨c, toS e, rx.1, ry.1, q _ _ (Same.refl _) (by show V.bl _ = V.bl _; rw [show (toS e).cps.toList = e from tl_toS e])⟩
    · exact q.elim⟩ (fun _ _ _ => inSM_ne) .fresh ha hb hk
theorem ev_notinS {m1 m2 : M Tx} (ok : Ok p sc NN VV GG k g) (ha : EvE g L a md tStr m1) (hb : EvE g L b md tStr m2) (hk : behindInMarks .NotIn b = false := by first | exact nomark _ (by decide) (by decide) | rfl) : EvE g L (.Compare a [.NotIn] [b] pos) md' tBool (m1.bind fun x => m2.bind fun y => notinSM x y) :=
  ev_cmp (fr := true) ok op_notIn_sign ⟨fun {d e x y R H Q} rb rx ry q => by
    unfold notinSM at q
    split at q
    · rename_i c
      exact ⟨c, toS e, rx.1, ry.1, q _ _ (Same.refl _) (by show V.bl _ = V.bl _; rw [show (toS e).cps.toList = e from tl_toS e])⟩
    · exact q.elim⟩ (fun _ _ _ => notinSM_ne) .fresh ha hb hk
/-! ### tuples by place -/
inductive ArAt : {δ α : Type} → Ar δ → Int → Ty α → (δ → α) → Prop where
  | z {α δ : Type} {T : Ty α} {A : Ar δ} : ArAt (aCons T A) 0 T (fun d => d.1)
  | s {α β δ : Type} {T : Ty α} {S : Ty β} {A : Ar δ} {n : Int} {f : δ → α} : ArAt A n T f → ArAt (aCons S A) (n + 1) T (fun d => f d.2)
theorem ArAt.nat {n : Int} {f : δ → α} (h : ArAt A n S f) : 0 ≤ n := by
  induction h with
  | z => omega
  | s _ ih => omega
theorem ArAt.get {n : Int} {f : δ → α} (h : ArAt A n S f) : ∀ {d : δ} {vs : List V} {R : RdR}, A.rep d vs R → ∃ v, vs[n.toNat]? = some v ∧ S.rep (f d) v R := by
  induction h with
  | z => intro d vs R ⟨v, r, e, h1, h2⟩; subst e; exact ⟨v, rfl, h1⟩
  | s h ih =>
    intro d vs R ⟨v, r, e, h1, h2⟩
    subst e
    obtain ⟨w, h3, h4⟩ := ih h2
    have := h.nat
    refine ⟨w, ?_, h4⟩
    rename_i n _
    rw [show (n + 1).toNat = n.toNat + 1 by omega, List.getElem?_cons_succ]
    exact h3
theorem ev_ixA {n : Int} {f : δ → α} {m : M δ} (ok : Ok p sc NN VV GG k g) (hA : ArAt A n S f) (ha : EvE g L a md (tTup A) m) (hb : EvE g L b md tInt (.ok n)) (hs : PlainIx b := by exact fun _ _ => rfl) : EvE g L (.Subscript a b pos) md S (m.bind fun t => .ok (f t)) :=
  ev_ix (S := tTup A) (r := rIxT p.K) (m2 := .ok ()) (f := fun t _ => .ok (f t)) (T := tLit n) (fr := false) ok (by rw [← ok.K]; exact ix_tup) ⟨fun {d e x y R H Q} rb ⟨a, vs, ex, h, r⟩ ry q => by
    obtain ⟨v, h1, h2⟩ := hA.get r
    refine ⟨a, vs, n, v, ex, ry, st_of rb h, ?_, q _ _ (Same.refl _) (S.mono h2 (Nw.old rfl))⟩
    have := atI_nat (xs := vs) (j := n.toNat) h1
    rwa [Int.toNat_of_nonneg hA.nat] at this⟩ (fun _ _ _ h => nomatch h) .same ha (ev_lit hb) hs
/-! ### blocks -/
variable {st : List Stmt} {D : δ → Out} {d : δ}
/-- if c: raise X("..") -/
theorem evb_ifr {mc : M Bool} {m2 : M δ} {y : Str} {ec : Ec} {jj : Nat} {msg : Str} {q1 q2 q3 q4 : Pos} (ok : OkS p sc NN VV GG k g) (wk : Wk L g.LX) (X : ExF p y ec) (hG : GG[j]? = some y) (hc : EvT g L c mc) (hr : EvB g L st D m2) :
    EvB g L (.If c [.Raise (some (.Call (.Name y q1) [.Constant (.str msg) jj q2] [] q3)) none q4] [] pos :: st) D (mc.bind fun c => if c = true then .ex ec else m2) := by
  refine PSs.imp (pss_cons (ps_if hc (evb_raise (D := fun _ : Unit => Out.bad) (st := []) (pos := q4) (msg := msg) (jj := jj) (pp := q1) (p2 := q2) (p3 := q3) ok wk X hG) pss_nil) hr) fun E σ H ⟨kp, own, at_, q⟩ => ?_
  cases mc with
  | ok c =>
    refine ⟨kp, own, at_, fun H1 s => ?_⟩
    cases c with
    | true => exact ⟨kp, own, at_.ext s, q⟩
    | false => exact ⟨kp, own, at_.ext s, q⟩
  | ex c => exact ⟨kp, own, at_, BOk.exx wk at_ q⟩
  | no => exact q.elim
/-- ways that leave and ways that go on -/
theorem evb_ifF {ρ : Type} {mc : M Bool} {m1 m2 : M (Fl β ρ)} {h : β → M δ} {dr : ρ → δ} {LJ : β → List Slot} {sa sb : List Stmt} (wk : Wk L g.LX) (hc : EvT g L c mc) (ha : EvB g L sa (Fl.el (fun s => Out.nx (LJ s)) fun r => (D (dr r)).cut) m1)
    (hb : EvB g L sb (Fl.el (fun s => Out.nx (LJ s)) fun r => (D (dr r)).cut) m2) (hr : ∀ s, EvB g (LJ s) st D (h s)) (hn : ∀ r, (D (dr r)).isNx = false := by intro d; first | rfl | (cases d <;> first | rfl | (rename_i z; cases z <;> rfl))) :
    EvB g L (.If c sa sb pos :: st) D (mc.bind fun c => (if c = true then m1 else m2).bind (Fl.el h fun r => .ok (dr r))) := by
  refine PSs.imp (pss_cons (ps_if hc ha hb) (PSs.ex hr)) fun E σ H ⟨kp, own, at_, q⟩ => ?_
  have key : ∀ {m : M (Fl β ρ)} {H1 : Hp}, Same H H1 → BOk g kp E D (m.bind (Fl.el h fun r => .ok (dr r))) → tB g L (Fl.el (fun s => Out.nx (LJ s)) fun r => (D (dr r)).cut) m { E with nx := fun σ H => ∃ d, tB g (LJ d) D (h d) E σ H } σ H1 := fun {m H1} s q => by
    cases m with
    | ok d =>
      cases d with
      | nx s' => exact ⟨kp, own, at_.ext s, fun σ' H' own' a' => ⟨s', kp, own', a', q⟩⟩
      | rt r =>
        refine ⟨kp, own, at_.ext s, ?_⟩
        have q : OutOk g.fm kp E (D (dr r)) := q
        show OutOk g.fm kp _ (D (dr r)).cut
        exact OutOk.cut (E := E) (E' := { E with nx := fun σ H => ∃ d, tB g (LJ d) D (h d) E σ H }) rfl rfl (hn r) q
    | ex c => exact ⟨kp, own, at_.ext s, q⟩
    | no => exact q.elim
  cases mc with
  | ok c =>
    refine ⟨kp, own, at_, fun H1 s => ?_⟩
    cases c with
    | true => exact key s q
    | false => exact key s q
  | ex c => exact ⟨kp, own, at_, BOk.exx wk at_ q⟩
  | no => exact q.elim
end
end Hd

namespace Hd
open PySem PySem.Spec L2
section
variable {p : Pr} {sc : Scope} {NN VV GG VV' GG' : List Str} {k : Nat} {g : G} {L L' : List Slot} {a b c e e' : Expr} {es : List Expr} {md md' : Md} {α β γ δ ρ : Type} {S : Ty α} {T : Ty β} {U : Ty γ} {A : Ar δ} {pos : Pos} {K : PySem.W.Frag} {tg : Expr} {i j : Nat} {x : Str}
/-- a list of the written part -/
def KList (K : PySem.W.Frag) (a : Addr) (xs : List V) : Prop := ∃ (o : Obj) (its : Array Value) (n : Nat), K.lookup a = some o ∧ o.cls = .type "list" ∧ o.dict = none ∧ o.data = .seq its n ∧ its.size ≤ sizeLine ∧ Vals xs its.toList
/-- a list that is but read -/
def tListK {α : Type} (K : PySem.W.Frag) (T : Ty α) : Ty (List α) := ⟨fun ds v R => ∃ a vs, v = .ref a ∧ (R a (.lst vs) ∨ KList K a vs) ∧ Reps T R ds vs, fun ⟨a, vs, e, r, h⟩ s => ⟨a, vs, e, r.imp (s _ _) id, h.mono s⟩⟩
structure IsSq (K : PySem.W.Frag) (Q : Ty (List α)) (S : Ty α) : Prop where
  sq : ∀ {d v R H}, Rdb K R H → Q.rep d v R → ∃ a vs, v = .ref a ∧ SqL K H a vs ∧ Reps S R d vs
theorem sq_l : IsSq K (tList S) S := ⟨fun rb ⟨a, vs, e, h, r⟩ => ⟨a, vs, e, sq_of rb h, r⟩⟩
theorem sq_k : IsSq K (tListK K S) S := ⟨fun rb ⟨a, vs, e, h, r⟩ => ⟨a, vs, e, h.elim (sq_of rb) .inr, r⟩⟩
variable {Q : Ty (List α)}
theorem ev_ixQ {mx : M (List α)} {mi : M Int} (ok : Ok p sc NN VV GG k g) (hq : IsSq p.K Q S) (ha : EvE g L a md Q mx) (hb : EvE g L b md tInt mi) (hs : PlainIx b := by exact fun _ _ => rfl) : EvE g L (.Subscript a b pos) md S (mx.bind fun xs => mi.bind fun i => getM xs i) :=
  ev_ix (S := Q) (r := rIxL p.K) (fr := false) ok (by rw [← ok.K]; exact ix_list) ⟨fun {d e x y R H W} rb rx ry q => by
    obtain ⟨a, vs, ex, h, r⟩ := hq.sq rb rx
    unfold getM at q
    cases hj : L2.atI d e with
    | none => rw [hj] at q; exact q.elim
    | some u =>
      rw [hj] at q
      obtain ⟨v, h1, h2⟩ := r.at hj
      exact ⟨a, vs, e, v, ex, ry, h, h1, q _ _ (Same.refl _) (S.mono h2 (Nw.old rfl))⟩⟩ (fun _ _ _ => getM_ne) .same ha hb hs
theorem ev_lenQ {mx : M (List α)} {pp : Pos} (ok : Ok p sc NN VV GG k g) (hq : IsSq p.K Q S) (hG : GG[j]? = some "len") (hmg : p.mg "len" = none) (ha : EvE g L e md Q mx) (hs : starEach [e] g.X.env = (false, eval e g.X.env) :: starEach [] g.X.env := by rfl) : EvE g L (.Call (.Name "len" pp) [e] [] pos) md' tInt (mx.bind fun xs => .ok (xs.length : Int)) :=
  ev_b1 (S := Q) (fr := true) ok call_len_seq (fun {d v R H W} rb h q => by
    obtain ⟨a, vs, e, hs, r⟩ := hq.sq rb h
    exact ⟨a, vs, by rw [e], .inl (by rw [ok.K]; exact hs), q _ _ (Same.refl _) (by show _ = V.int _; rw [r.length])⟩) (fun _ _ h => nomatch h) .fresh hG hmg PySem.boot_len ha hs
theorem evi_seq {m : M (List α)} (ok : Ok p sc NN VV GG k g) (hq : IsSq p.K Q S) (he : EvE g L e md Q m) : EvI g L tg e S m := by
  refine PI.imp (pi_list he) fun σ H R ⟨kp, own, at_, q⟩ => ?_
  refine tE_iff.mpr ⟨kp, own, at_, ?_⟩
  cases m with
  | ok xs =>
    intro v H' s rx
    have rx' : Q.rep xs v (RD g.fm own H') := Q.mono rx RX.sh
    have rb0 : Rdb p.K (RD g.fm own H') H' := by rw [← ok.fmK]; exact RD.rdb
    obtain ⟨a, vs, rfl, h, r⟩ := hq.sq rb0 rx'
    refine ⟨a, rfl, ⟨vs, by rw [ok.K]; exact h⟩, ?_⟩
    rw [show Itl g.X.K a = Itl g.fm.K a from by rw [ok.K, ok.fmK]]
    refine q (Itl g.fm.K a) H' s fun H2 rb i => ?_
    obtain ⟨a', vs', e', hs, r2⟩ := hq.sq (by rw [← ok.fmK]; exact rb) rx'
    cases e'
    rw [← ok.fmK] at hs
    refine ⟨fun d hd => ?_, fun hn => ⟨vs', hs, ?_⟩⟩
    · obtain ⟨v, h1, h2⟩ := r2.get hd
      refine ⟨⟨vs', v, hs, h1⟩, fun x H3 ⟨e, hx⟩ => ?_⟩
      subst e
      have := hx vs' hs
      rw [h1] at this
      cases this
      exact ⟨Same.refl _, S.mono h2 fun a o z => .inl ⟨rfl, z⟩⟩
    · rw [List.getElem?_eq_none_iff, r2.length] at hn
      exact hn
  | ex c => exact q
  | no => exact q
variable {lo hi : Option Expr} {ml mh : M (Option Int)} {p2 : Pos}
theorem evl_slQ {m : M (List α)} (ok : Ok p sc NN VV GG k g) (hq : IsSq p.K Q S) (ha : EvE g L a md Q m) (hl : EvO g L lo ml) (hh : EvO g L hi mh) : EvL g L (.Subscript a (.Slice lo hi none p2) pos) md S (m.bind fun x => ml.bind fun l => mh.bind fun h => .ok (cutL x l h)) := by
  refine PE.imp (pe_slice sl_list ha hl hh) fun σ H W q => ?_
  obtain ⟨kp, own, at_, q⟩ := tL_iff.mp q
  refine sub finL (Same.refl H) at_ q fun d x H1 s1 r1 at1 q1 => subO finL s1 at1 q1 fun l H2 s2 at2 q2 => subO finL (s1.trans s2) at2 q2 fun h H3 s3 at3 q3 => ?_
  have r3 : Q.rep d x (RX g.fm own H H3 md) := Q.mono r1 (RX.same (s2.trans s3))
  obtain ⟨ad, vs, e, h3, rr⟩ := hq.sq (by rw [← ok.fmK]; exact RX.rdb) r3
  refine ⟨ad, vs, e, by rw [ok.K]; exact h3, fun z hz => q3 z (L2.cutV vs l h) _ (((s1.trans s2).trans s3).trans (newSame hz)) (((s1.trans s2).trans s3).free hz) upd_same ?_⟩
  exact (rr.cut l h).mono (RX.add hz)
theorem evl_copyQ {mx : M (List α)} {pp : Pos} (ok : Ok p sc NN VV GG k g) (hq : IsSq p.K Q S) (hG : GG[j]? = some "list") (hmg : p.mg "list" = none) (ha : EvE g L e md Q mx) (hs : starEach [e] g.X.env = (false, eval e g.X.env) :: starEach [] g.X.env := by rfl) : EvL g L (.Call (.Name "list" pp) [e] [] pos) md S mx := by
  obtain ⟨hg, ho⟩ := ok.gl hG
  obtain ⟨h1, _, h3⟩ := okName_d ho
  refine PE.imp (pe_callTy call_list_of hg (by rw [ok.mg]; exact hmg) (by decide +kernel) (eva_cons ha eva_nil hs) h3 h1 hs rfl) fun σ H W q => ?_
  obtain ⟨kp, own, at_, q⟩ := tL_iff.mp q
  refine tA_iff.mpr ⟨kp, own, at_, ?_⟩
  cases mx with
  | ok d =>
    rintro vs H1 s1 ⟨v, r, rfl, rx, e3⟩
    cases (show r = [] from e3)
    obtain ⟨a, ws, rfl, h, rr⟩ := hq.sq (by rw [← ok.fmK]; exact RX.rdb) rx
    exact ⟨a, ws, rfl, .inl (by rw [ok.K]; exact h), fun l hl => q l ws _ (s1.trans (newSame hl)) (s1.free hl) upd_same (rr.mono (RX.add hl))⟩
  | ex c => exact q
  | no => exact q
/-! ### tests of a comprehension -/
theorem evpts_nil : PTs g.X [] (tT g.fm g.W L (.ok true)) := ⟨fun pins s σ H Q I ⟨kp, own, at_, q⟩ => pts_nil.run pins s σ H Q I (q H (Same.refl H))⟩
theorem evpts_one {m : M Bool} (h : EvT g L c m) : PTs g.X [c] (tT g.fm g.W L m) := pts_one h
/-! ### blocks -/
variable {st : List Stmt} {D : δ → Out} {d : δ}
/-- one way leaves, the other goes on, where the block itself is a way of an if -/
theorem evb_ifxJ {mc : M Bool} {m1 : M ρ} {m2 : M δ} {dr : ρ → δ} {sa : List Stmt} (wk : Wk L g.LX) (hc : EvT g L c mc) (ha : EvB g L sa (fun d => (D (dr d)).cut) m1) (hr : EvB g L st D m2) (hn : ∀ r, (D (dr r)).isNx = false := by intro d; first | rfl | (cases d <;> first | rfl | (rename_i z; cases z <;> rfl))) :
    EvB g L (.If c sa [] pos :: st) D (mc.bind fun c => if c = true then m1.bind (fun r => .ok (dr r)) else m2) := by
  refine PSs.imp (pss_cons (ps_if hc ha pss_nil) hr) fun E σ H ⟨kp, own, at_, q⟩ => ?_
  cases mc with
  | ok c =>
    refine ⟨kp, own, at_, fun H1 s => ?_⟩
    cases c with
    | true =>
      have q : BOk g kp E D (m1.bind fun r => .ok (dr r)) := q
      refine ⟨kp, own, at_.ext s, ?_⟩
      cases m1 with
      | ok d => exact OutOk.cut (E := E) (E' := { E with nx := tB g L D m2 E }) rfl rfl (hn d) q
      | ex c => exact q
      | no => exact q
    | false => exact ⟨kp, own, at_.ext s, q⟩
  | ex c => exact ⟨kp, own, at_, BOk.exx wk at_ q⟩
  | no => exact q.elim
/-- where a loop's head knows less of a slot -/
theorem evb_weak {m : M δ} (w : Wk L L') (hr : EvB g L' st D m) : EvB g L st D m := evb_drop w hr
/-! ### perhaps None -/
structure NotNon (S : Ty α) : Prop where
  nn : ∀ {d v R}, S.rep d v R → v ≠ .non
theorem nn_int : NotNon tInt := ⟨fun h => by cases h; exact fun z => nomatch z⟩
theorem nn_bool : NotNon tBool := ⟨fun h => by cases h; exact fun z => nomatch z⟩
theorem nn_str : NotNon tStr := ⟨fun h => by cases h.1; exact fun z => nomatch z⟩
theorem nn_list : NotNon (tList S) := ⟨fun ⟨a, vs, e, _⟩ => by subst e; exact fun z => nomatch z⟩
theorem nn_tup : NotNon (tTup A) := ⟨fun ⟨a, vs, e, _⟩ => by subst e; exact fun z => nomatch z⟩
theorem ev_some {m : M α} (hn : NotNon S) (h : EvE g L e md S m) : EvE g L e md (tOpt S) (m.bind fun d => .ok (some d)) :=
  ev_as (T := tOpt S) (d2 := some) (fun d v R r => ⟨r, hn.nn r⟩) h
theorem ev_isN {m : M (Option α)} {j1 : Nat} {p1 : Pos} (ok : Ok p sc NN VV GG k g) (ha : EvE g L a md (tOpt S) m) : EvE g L (.Compare a [.Is] [.Constant .none j1 p1] pos) md' tBool (m.bind fun d => .ok d.isNone) := by
  have h := ev_cmp (pos := pos) (md' := md') (S := tOpt S) (T := tNone) (U := tBool) (fr := true) (f := fun d _ => .ok d.isNone) ok op_isN ⟨fun {d e x y R H W} rb rx ry q => ⟨ry, q _ _ (Same.refl _) (by
    show _ = V.bl _
    cases d with
    | none => cases (show x = .non from rx); rfl
    | some d => rw [decide_eq_false rx.2]; rfl)⟩⟩ (fun _ _ _ h => nomatch h) .fresh ha (ev_none (j := j1) (pos := p1)) (by first | exact nomark _ (by decide) (by decide) | rfl)
  have e : (m.bind fun d => (M.ok ()).bind fun _ => M.ok d.isNone) = m.bind fun d => .ok d.isNone := by cases m <;> rfl
  rwa [e] at h
theorem ev_notN {m : M (Option α)} {j1 : Nat} {p1 : Pos} (ok : Ok p sc NN VV GG k g) (ha : EvE g L a md (tOpt S) m) : EvE g L (.Compare a [.IsNot] [.Constant .none j1 p1] pos) md' tBool (m.bind fun d => .ok d.isSome) := by
  have h := ev_cmp (pos := pos) (md' := md') (S := tOpt S) (T := tNone) (U := tBool) (fr := true) (f := fun d _ => .ok d.isSome) ok op_notN ⟨fun {d e x y R H W} rb rx ry q => ⟨ry, q _ _ (Same.refl _) (by
    show _ = V.bl _
    cases d with
    | none => cases (show x = .non from rx); rfl
    | some d => rw [decide_eq_false rx.2]; rfl)⟩⟩ (fun _ _ _ h => nomatch h) .fresh ha (ev_none (j := j1) (pos := p1)) (by first | exact nomark _ (by decide) (by decide) | rfl)
  have e : (m.bind fun d => (M.ok ()).bind fun _ => M.ok d.isSome) = m.bind fun d => .ok d.isSome := by cases m <;> rfl
  rwa [e] at h
def unM {α : Type} : Option α → M α
  | some d => .ok d
  | none => .no
/-- what is known not to be None -/
theorem ev_un1 {m : M (Option α)} (h : EvE g L e md (tOpt S) m) : EvE g L e md S (m.bind unM) := PE.imp h fun σ H Q q => by
  obtain ⟨kp, own, at_, q⟩ := tE_iff.mp q
  refine tE_iff.mpr ⟨kp, own, at_, ?_⟩
  cases m with
  | ok d =>
    cases d with
    | none => exact q.elim
    | some d => exact fun v H' s r => q v H' s r.1
  | ex c => exact q
  | no => exact q
end
end Hd

namespace Hd
open PySem PySem.Spec L2
def fuel : Nat := 1000000000
theorem M.bok {α β : Type} (a : α) (f : α → M β) : M.bind (.ok a) f = f a := by
  have h : ∀ m : M α, m = .ok a → M.bind m f = f a := fun m e => by rw [e]; rfl
  exact h _ rfl
section
variable {p : Pr} {sc : Scope} {NN VV GG VV' GG' : List Str} {k : Nat} {g : G} {L L' : List Slot} {a b c e e' : Expr} {es : List Expr} {md md' : Md} {α β γ δ ρ : Type} {S : Ty α} {T : Ty β} {U : Ty γ} {A : Ar δ} {pos : Pos} {K : PySem.W.Frag} {tg : Expr} {i j : Nat} {x : Str}
/-- how many items -/
def LenM (n : Nat) (m : M (List α)) : Prop := ∀ ds, m = .ok ds → ds.length = n
theorem ln0 : LenM 0 (.ok ([] : List α)) := fun ds h => by cases h; rfl
theorem lnS {n : Nat} {m1 : M α} {m2 : M (List α)} (h : LenM n m2) : LenM (n + 1) (m1.bind fun d => m2.bind fun e => .ok (d :: e)) := fun ds q => by
  cases m1 with
  | ok d =>
    cases m2 with
    | ok e => cases q; rw [List.length_cons, h e rfl]
    | ex c => cases q
    | no => cases q
  | ex c => cases q
  | no => cases q
theorem evl_lstN {n : Nat} {m : M (List α)} (h : LenM n m) (hn : n ≤ 1000) (ha : EvA g L es md (aAll S) m) : EvL g L (.List es pos) md S m := evl_lst (fun ds q => by rw [h ds q]; exact hn) ha
/-! ### a comprehension given to a name -/
def isLoc (sc : Scope) (y : Str) : Bool := (match sc.kind with | .function => true | _ => false) && match sc.names.lookup y with | some .local => true | _ => false
def isCell (sc : Scope) (y : Str) : Bool := match sc.names.lookup y with | some .cell => true | _ => false
theorem isLoc_k {sc : Scope} {y : Str} (h : isLoc sc y = true) : sc.kind = .function ∧ sc.names.lookup y = some .local := by
  unfold isLoc at h
  rw [Bool.and_eq_true] at h
  obtain ⟨h1, h2⟩ := h
  constructor
  · split at h1
    · assumption
    · cases h1
  · split at h2
    · assumption
    · cases h2
theorem isCell_k {sc : Scope} {y : Str} (h : isCell sc y = true) : sc.names.lookup y = some .cell := by
  unfold isCell at h
  split at h
  · assumption
  · cases h
theorem sw_cell {elt : Expr} {gs : List Comprehension} {scope : Scope} {pos py : Pos} {y : Str} {l : Nat} {env : Env} (hy : env.scope.names.lookup y = some .cell) : swapsWith (.ListComp elt gs scope pos) (some (.Name y py)) l env = pure false := by
  have ky : env.kindOf y = some .cell := hy
  unfold swapsWith
  simp only [ky]
  have e : (some NameKind.cell == some NameKind.local) = false := rfl
  simp only [e, Bool.and_false, Bool.false_and]
theorem sw_own {elt : Expr} {gs : List Comprehension} {scope : Scope} {pos py : Pos} {y : Str} {l : Nat} {env : Env} (ha : (scope.names.any fun (n, k) => n == y && (k == .local || k == .cell)) = true) : swapsWith (.ListComp elt gs scope pos) (some (.Name y py)) l env = pure false := by
  unfold swapsWith
  simp only [ha, Bool.not_true, Bool.and_false]
variable {st : List Stmt} {D : δ → Out} {y : Str} {py spos cpos : Pos} {elt it : Expr} {ifs : List Expr} {scope : Scope} {tp : Pos} {s₀ : Slot}
theorem sw_loc (ok : OkS p sc NN VV GG k g) {gs : List Comprehension} (hy : isLoc sc y = true) (hl : (py.line == cpos.line) = true) (ha : (scope.names.any fun (n, k) => n == y && (k == .local || k == .cell)) = false) :
    g.X.env.scope.names.lookup y = some .local ∧ swapsWith (.ListComp elt gs scope cpos) (some (.Name y py)) spos.line g.X.env = pure true := by
  obtain ⟨h1, h2⟩ := isLoc_k hy
  have e1 : g.X.env.scope.kind = .function := by rw [ok.scp]; exact h1
  have e2 : g.X.env.scope.names.lookup y = some .local := by rw [ok.scp]; exact h2
  exact ⟨e2, sw_true e1 e2 hl ha⟩
/-- y = [elt for x in it if c], y its owner -/
theorem evb_ownC {m : M (List α)} {cm : α → M Bool} {f : α → M β} {h : List β → M δ} {b : Bool} {i2 : Nat} (ok : OkS p sc NN VV GG k g) (hN2 : NN[i2]? = some y) (wk : Wk L g.LX) (hbb : SlB md b) (hy : isLoc sc y = true) (hl : (py.line == cpos.line) = true) (ha : (scope.names.any fun (n, k) => n == y && (k == .local || k == .cell)) = false)
    (hI : EvI g L (.Name x tp) it S m) (hN : NN[i]? = some x) (hLi : L[i]? = some s₀) (hs₀ : NoOwn s₀) (hb : blkC NN sc scope [(x, i)] = true) (hv : VV'.all (seenB scope) = true) (hg : GG'.all (glB scope) = true) (hx : locB scope x = true)
    (hc : ∀ g', Ok p scope NN VV' GG' k g' → ∀ d, PTs g'.X ifs (tT g'.fm g'.W (L.set i (sV false S d)) (cm d))) (he : ∀ g', Ok p scope NN VV' GG' k g' → ∀ d, EvE g' (L.set i (sV false S d)) elt md T (f d))
    (hr : ∀ d, EvB g (L.set i2 (sOwn b T d)) st D (h d)) (hs : ∀ x, foldedSetIterable it g.X.env x = pure x := by intro _; rfl) :
    EvB g L (.Assign [.Name y py] (.ListComp elt [⟨.Name x tp, it, ifs, 0⟩] scope cpos) spos :: st) D ((m.bind fun xs => compM (fun d => (cm d).bind fun c => if c = true then (f d).bind fun y => .ok (some y) else .ok none) xs).bind h) := by
  obtain ⟨e1, e2⟩ := sw_loc (elt := elt) (spos := spos) (gs := [⟨.Name x tp, it, ifs, 0⟩]) ok hy hl ha
  refine PSs.imp (pss_cons ((evl_lc2 ok.toOk hI hN hLi hs₀ hb hv hg hx hc he hs).2 hN2 e1 e2) (PSs.ex hr)) fun E σ H ⟨kp, own, at_, q⟩ => ?_
  unfold tSeq tAsg
  refine tL_iff.mpr ⟨kp, own, at_, ?_⟩
  generalize (m.bind fun xs => compM (fun d => (cm d).bind fun c => if c = true then (f d).bind fun y => .ok (some y) else .ok none) xs) = mm at q ⊢
  cases mm with
  | ok d =>
    intro v vs H' s n h' r
    obtain ⟨own', a'⟩ := at_.setOwn (i := i2) (b := b) s n h' (r.mono hbb.rb)
    exact ⟨d, kp, own', a', q⟩
  | ex c => exact BOk.exx wk at_ q
  | no => exact q
theorem evb_setC {m : M (List α)} {cm : α → M Bool} {f : α → M β} {h : List β → M δ} {i2 : Nat} (ok : OkS p sc NN VV GG k g) (hN2 : NN[i2]? = some y) (wk : Wk L g.LX) (hy : isLoc sc y = true) (hl : (py.line == cpos.line) = true) (ha : (scope.names.any fun (n, k) => n == y && (k == .local || k == .cell)) = false)
    (hI : EvI g L (.Name x tp) it S m) (hN : NN[i]? = some x) (hLi : L[i]? = some s₀) (hs₀ : NoOwn s₀) (hb : blkC NN sc scope [(x, i)] = true) (hv : VV'.all (seenB scope) = true) (hg : GG'.all (glB scope) = true) (hx : locB scope x = true)
    (hc : ∀ g', Ok p scope NN VV' GG' k g' → ∀ d, PTs g'.X ifs (tT g'.fm g'.W (L.set i (sV false S d)) (cm d))) (he : ∀ g', Ok p scope NN VV' GG' k g' → ∀ d, EvE g' (L.set i (sV false S d)) elt md T (f d))
    (hr : ∀ d, EvB g (L.set i2 (sV false (tList T) d)) st D (h d)) (hs : ∀ x, foldedSetIterable it g.X.env x = pure x := by intro _; rfl) :
    EvB g L (.Assign [.Name y py] (.ListComp elt [⟨.Name x tp, it, ifs, 0⟩] scope cpos) spos :: st) D ((m.bind fun xs => compM (fun d => (cm d).bind fun c => if c = true then (f d).bind fun y => .ok (some y) else .ok none) xs).bind h) := by
  obtain ⟨e1, e2⟩ := sw_loc (elt := elt) (spos := spos) (gs := [⟨.Name x tp, it, ifs, 0⟩]) ok hy hl ha
  refine PSs.imp (pss_cons ((evl_lc2 ok.toOk hI hN hLi hs₀ hb hv hg hx hc he hs).2 hN2 e1 e2) (PSs.ex hr)) fun E σ H ⟨kp, own, at_, q⟩ => ?_
  unfold tSeq tAsg
  refine tL_iff.mpr ⟨kp, own, at_, ?_⟩
  generalize (m.bind fun xs => compM (fun d => (cm d).bind fun c => if c = true then (f d).bind fun y => .ok (some y) else .ok none) xs) = mm at q ⊢
  cases mm with
  | ok d =>
    intro v vs H' s n h' r
    obtain ⟨own', a'⟩ := (at_.ext s).setV (i := i2) (b := false) (T := tList T) (d := d) (v := .ref v) ⟨v, vs, rfl, RX.sh (H := H) _ _ (newRX' (md := .sh) at_ n h'), r.mono fun a o z => RX.sh (H := H) a o (RX.drop1 a o z)⟩
    exact ⟨d, kp, own', a', q⟩
  | ex c => exact BOk.exx wk at_ q
  | no => exact q
/-! ### what is worth a known value -/
theorem pureT {m : M Bool} {v : Bool} (h : EvT g L e m) (q : m = .ok v) : EvT g L e (.ok v) := q ▸ h
theorem pureW {m : M Bool} {v : Bool} (h : EvW g L e m) (q : m = .ok v) : EvW g L e (.ok v) := q ▸ h
theorem pureE {m : M α} {v : α} (h : EvE g L e md S m) (q : m = .ok v) : EvE g L e md S (.ok v) := q ▸ h
end
end Hd

namespace Hd
open PySem PySem.Spec L2
/-! ### the end -/
theorem fnCx {P : Program} {w : World} {K : PySem.W.Frag} {mg : Str → Option Value} {base : Heap} {CX CX' : CXT} {k : Nat} {f : Addr} {fd : FuncData} {ps : List Str} {sp : Sp} (F : FnOk P w K mg base CX k f fd ps sp)
    (h : ∀ outer H s E u s', CX outer H s E u s' → CX' outer H s E u s') : FnOk P w K mg base CX' k f fd ps sp :=
  ⟨F.len, fun A outer s H args us vs Q E hr he hb hv hs => codeAny_mono (F.run A outer s H args us vs Q E hr he hb hv hs) fun r s' q => by
    cases r with
    | error e => exact h _ _ _ _ _ _ q
    | ok fl => cases fl <;> exact q⟩
def CXw (P : Program) : CXT := fun outer H s E u s' => ∃ w, L2.CX P w outer H s E u s'
def ecName : Ec → Str
  | .weave => "WeaveError"
  | .noRow => "NoRow"
  | .tooLarge => "TooLarge"
  | .noCloth => "NoCloth"
  | .noDraft => "NoDraft"
  | .noStrand => "NoStrand"
  | .noDeed => "NoDeed"
  | .noLaying => "NoLaying"
  | .noShuttle => "NoShuttle"
  | .noColour => "NoColour"
  | .noBlock => "NoBlock"
  | .noPattern => "NoPattern"
  | .unknown => "Unknown"
  | .twice => "Twice"
theorem reps_ints {R : RdR} : ∀ ns : List Int, Reps tInt R ns (ns.map V.int)
  | [] => .nil
  | n :: r => .cons rfl (reps_ints r)
theorem law_end {l : PySem.W.OpenLaw} {k : Nat} {q : Program} {loose : List Str} {XP : (Str → Option Value) → Heap → Prop} {YP : World → Heap → Prop} {d : DefRec} {cl : List Int × Unit → M Bool}
    (hn : l.most = some 63) (hdf : d.params.defaults = []) (hr : Room k callerA)
    (F : ∀ (w : World) (mg : Str → Option Value) (fa : Addr) (h : Heap), YP w h → h.Ns mainGlobals mg → mg d.name = some (.ref fa) →
      ∃ (K : PySem.W.Frag) (fd : FuncData) (C : Ec → Addr), K.In h ∧ (∀ (s : Shared) (u : Value), BindsTo s fd ⟨[u], []⟩ [("script", u)]) ∧
        ∀ base : Heap, FnOk l.prog w K mg base (L2.CX l.prog w) k fa fd ["script"] (spM ⟨l.prog, w, K, mg, base, C, none⟩ (aCons (tListK K tInt) aNil) (fun r => .rt false tBool r) cl))
    (math : ∀ ns : List Int, ns.length ≤ 63 → cl (ns, ()) = .ok true) : PySem.W.WalkO q loose XP YP l.row.toRowW d [] (fun f vs => PySem.call f vs) := by
  refine L2.walk_ofE (CX := CXw l.prog) (x := "script") (k := k) hn (by decide) hdf hr (fun w mg fa h Y G hm => ?_) (fun H s e s' z => ?_)
  · obtain ⟨K, fd, C, KX, hb, hF⟩ := F w mg fa h Y G hm
    refine ⟨K, fd, spM ⟨l.prog, w, K, mg, h, C, none⟩ (aCons (tListK K tInt) aNil) (fun r => .rt false tBool r) cl, KX, hb, fun H a ns hl hO hS => ?_, fun base _ _ => fnCx (hF base) fun _ _ _ _ _ _ z => ⟨w, z⟩⟩
    refine ⟨(ns, ()), fun _ => False, ⟨fun _ z => z.elim, fun P e => nomatch e⟩, ⟨.ref a, [], rfl, ⟨a, ns.map V.int, rfl, hS.imp (fun r => .inl ⟨Rd.clo r, (fun z => nomatch z), fun z => z⟩) id, reps_ints ns⟩, rfl⟩, ?_⟩
    rw [math ns hl]
    exact fun v H' s r => r
  · obtain ⟨w, a, B, H', cls, d, _, _, _, _, _, _, _, z⟩ := z
    exact z
theorem exF {K : PySem.W.Frag} {h : Heap} {mg : Str → Option Value} {P : Program} {w : World} {base : Heap} {T : Option Addr} (X : K.In h) (G : h.Ns mainGlobals mg) {x : Str} {c : Ec} (e : ecName c = x) (c1 : (He.Fa.glo x).ok K = true) (c2 : (He.Fa.exc x).ok K = true) : ExF ⟨P, w, K, mg, base, fun c => He.ga K (ecName c), T⟩ x c := by
  subst e
  obtain ⟨h1, h2, h3, h4⟩ := He.exc_ok c2
  exact ⟨h1, He.glo_ok X G c1, h2, h3, h4⟩
theorem L2_bindsA {K : PySem.W.Frag} {x qual : Str} {params : Arguments} {body : List Stmt} {scope : Scope} {f : Addr} {fd : FuncData} (F : FunD K x qual params body scope [] [] f fd) (s : Shared) (v : Value)
    (h : ∀ (kV doc pm : Value) (an : Option Addr) (cdv ct : Value) (us : List Value), us.length = (["script"] : List Str).length → bindArgs (PySem.W.fnOf x qual params body scope .none kV doc pm an cdv ct) ⟨us, []⟩ = pure ((["script"] : List Str).zip us) := by
      exact fun _ _ _ _ _ _ us hl => match us, hl with | [_], _ => rfl) : BindsTo s fd ⟨[v], []⟩ [("script", v)] := F.bindsA (ps := ["script"]) h s [v] rfl
end Hd

namespace Hd
open PySem PySem.Spec L2
section
variable {p : Pr} {sc : Scope} {NN VV GG VV' GG' : List Str} {k : Nat} {g : G} {L L' : List Slot} {a b c e e' : Expr} {es : List Expr} {md md' : Md} {α β γ δ ρ : Type} {S : Ty α} {T : Ty β} {U : Ty γ} {A : Ar δ} {pos : Pos} {K : PySem.W.Frag} {tg : Expr} {i j : Nat} {x : Str} {pp : Pos}
/-! ### counting -/
theorem cnt_count (c : Nat) : ∀ l : List Nat, PyProof.Rows.cnt c l = (l.count c : Int)
  | [] => rfl
  | n :: r => by
    rw [PyProof.Rows.cnt_cons, cnt_count c r, List.count_cons]
    by_cases h : n = c
    · subst h; simp; omega
    · simp [h]
def countS (x y : Tx) : M Int := match y with
  | [c] => .ok (x.count c : Int)
  | _ => .no
theorem countS_ne {x y : Tx} {c : Ec} : countS x y ≠ .ex c := by unfold countS; split <;> exact fun h => nomatch h
theorem ev_countS {m1 m2 : M Tx} {apos : Pos} (ok : Ok p sc NN VV GG k g) (ha : EvE g L a md tStr m1) (hb : EvE g L b md tStr m2)
    (hs : starEach [b] g.X.env = [(false, eval b g.X.env)] := by rfl) (hbase : attributeBase a "count" g.X.env (eval a g.X.env) = eval a g.X.env := by rfl) (hline : (apos.endLine == pos.line) = true := by rfl) :
    EvE g L (.Call (.Attribute a "count" apos) [b] [] pos) md' tInt (m1.bind fun s => m2.bind fun y => countS s y) :=
  ev_sm1 (T := tStr) ok PySem.F.slot_str_count PySem.F.type_str_count mt_count (fun {d e y R H Q} rb hd hy q => by
    unfold countS at q
    split at q
    · rename_i c
      refine ⟨toS d, toS [c], rfl, by rw [hy.1], q _ _ (Same.refl _) ?_⟩
      show V.int _ = V.int _
      congr 1
      rw [show toS [c] = (⟨#[c]⟩ : Str) from rfl, PyProof.Rows.count_cnt, cnt_count]
      rw [show (toS d).cps.toList = d from tl_toS d]
    · exact q.elim) (fun _ _ _ => countS_ne) ha hb hs hbase hline
theorem ev_countI {m1 : M (List Int)} {m2 : M Int} {apos : Pos} (ok : Ok p sc NN VV GG k g) (ha : EvE g L a md (tList tInt) m1) (hb : EvE g L b md tInt m2)
    (hbase : attributeBase a "count" g.X.env (eval a g.X.env) = eval a g.X.env := by rfl)
    (hfew : ((backTo pos (starEach [b] g.X.env)).all (fun x => !x.1) && (backToKw pos (keywordEach [] g.X.env)).all (fun x => x.1.isSome)
      && decide (([b] : List Expr).length + ([] : List Keyword).length + (if ([] : List Keyword).isEmpty then 0 else 1) < 30)) = true := by rfl)
    (hs : starEach [b] g.X.env = (false, eval b g.X.env) :: starEach [] g.X.env := by rfl) (hline : (apos.endLine == pos.line) = true := by rfl) (hplain : (backTo pos (starEach [] g.X.env)).any (·.1) = false := by rfl) :
    EvE g L (.Call (.Attribute a "count" apos) [b] [] pos) md' tInt (m1.bind fun s => m2.bind fun y => .ok (s.count y : Int)) := by
  have h := ev_bm (md' := md') (S := tList tInt) (A := aCons tInt aNil) (U := tInt) (f := fun s y => .ok (s.count y.1 : Int)) (fr := true) ok PySem.F.plainAttrs_list PySem.F.slot_list_count PySem.F.type_list_count mt_lcount
    ⟨fun {d x R H} rb ⟨ad, vs, ex, hh, r⟩ => by subst ex; exact .inl ⟨rfl, _, sq_of rb hh⟩, fun {d e x xs R H Q} rb ⟨ad, vs, ex, hh, r⟩ ⟨v, w, e1, e2, e3⟩ q => by
      subst e1; cases (show w = [] from e3)
      exact ⟨ad, d, e.1, by rw [ex], by rw [e2], by rw [← r.ints, ok.K]; exact sq_of rb hh, q _ _ (Same.refl _) rfl⟩⟩ (fun _ _ _ h => nomatch h) .fresh ha (eva_cons hb eva_nil hs) hbase hfew hs hline hplain
  have e : (m1.bind fun d => (m2.bind fun d => (M.ok ()).bind fun e => M.ok (d, e)).bind fun e => M.ok (d.count e.1 : Int)) = m1.bind fun s => m2.bind fun y => .ok (s.count y : Int) := by cases m1 <;> cases m2 <;> rfl
  rwa [e] at h
/-- xs.index(y): the first place -/
def indexM [DecidableEq α] (xs : List α) (y : α) : M Int := if y ∈ xs then .ok (xs.idxOf y : Int) else .no
theorem indexM_ne [DecidableEq α] {xs : List α} {y : α} {c : Ec} : indexM xs y ≠ .ex c := by unfold indexM; split <;> exact fun h => nomatch h
theorem ev_index [DecidableEq α] {m1 : M (List α)} {m2 : M α} {apos : Pos} (ok : Ok p sc NN VV GG k g) (hf : FlatV S) (ha : EvE g L a md (tList S) m1) (hb : EvE g L b md S m2)
    (hbase : attributeBase a "index" g.X.env (eval a g.X.env) = eval a g.X.env := by rfl)
    (hfew : ((backTo pos (starEach [b] g.X.env)).all (fun x => !x.1) && (backToKw pos (keywordEach [] g.X.env)).all (fun x => x.1.isSome)
      && decide (([b] : List Expr).length + ([] : List Keyword).length + (if ([] : List Keyword).isEmpty then 0 else 1) < 30)) = true := by rfl)
    (hs : starEach [b] g.X.env = (false, eval b g.X.env) :: starEach [] g.X.env := by rfl) (hline : (apos.endLine == pos.line) = true := by rfl) (hplain : (backTo pos (starEach [] g.X.env)).any (·.1) = false := by rfl) :
    EvE g L (.Call (.Attribute a "index" apos) [b] [] pos) md' tInt (m1.bind fun s => m2.bind fun y => indexM s y) := by
  have h := ev_bm (md' := md') (S := tList S) (A := aCons S aNil) (U := tInt) (f := fun s y => indexM s y.1) (fr := true) ok PySem.F.plainAttrs_list PySem.F.slot_list_index PySem.F.type_list_index mt_index
    ⟨fun {d x R H} rb ⟨ad, vs, ex, hh, r⟩ => by subst ex; exact .inl ⟨rfl, _, sq_of rb hh⟩, fun {d e x xs R H Q} rb ⟨ad, vs, ex, hh, r⟩ ⟨v, w, e1, e2, e3⟩ q => by
      subst e1; cases (show w = [] from e3)
      unfold indexM at q
      split at q
      · rename_i hm
        have hlt := List.idxOf_lt_length_of_mem hm
        have hget : d[d.idxOf e.1]? = some e.1 := by rw [List.getElem?_eq_getElem hlt]; congr 1; exact List.getElem_idxOf hlt
        obtain ⟨z, hz1, hz2⟩ := r.get hget
        refine ⟨ad, vs, v, d.idxOf e.1, z, ex, rfl, by rw [ok.K]; exact sq_of rb hh, hf.fl e2, r.allFlat hf, hz1, (hf.eq hz2 e2).mpr rfl, fun m z' hm' hz' => ?_, q _ _ (Same.refl _) rfl⟩
        obtain ⟨d', hd1, hd2⟩ := r.get' hz'
        cases hq : eqV z' v with
        | false => rfl
        | true =>
          have e5 := (hf.eq hd2 e2).mp hq
          subst e5
          have hlt' : m < d.length := (List.getElem?_eq_some_iff.mp hd1).1
          have := List.not_of_lt_findIdx (xs := d) (p := (· == e.1)) (i := m) (by exact hm')
          rw [List.getElem?_eq_getElem hlt'] at hd1
          have e6 : d[m] = e.1 := Option.some.inj hd1
          simp [e6] at this
      · exact q.elim⟩ (fun _ _ _ => indexM_ne) .fresh ha (eva_cons hb eva_nil hs) hbase hfew hs hline hplain
  have e : (m1.bind fun d => (m2.bind fun d => (M.ok ()).bind fun e => M.ok (d, e)).bind fun e => indexM d e.1) = m1.bind fun s => m2.bind fun y => indexM s y := by cases m1 <;> cases m2 <;> rfl
  rwa [e] at h
/-! ### an item of an own list -/
theorem ev_ixOwn {bb : Bool} {ds : List α} {mi : M Int} {npos : Pos} (ok : Ok p sc NN VV GG k g) (hN : NN[i]? = some x) (hV : VV[j]? = some x) (hL : L[i]? = some (sOwn bb S ds)) (hb : EvE g L b .sh tInt mi) (hs : PlainIx b := by exact fun _ _ => rfl) :
    EvE g L (.Subscript (.Name x npos) b pos) .sh S (mi.bind fun i => getM ds i) := by
  obtain ⟨hv, ho⟩ := ok.vis hV
  obtain ⟨h1, h2, _⟩ := okName_d ho
  refine PE.imp (pe_ix ix_list (pe_var (i := i) (by rw [ok.N]; exact hN) hv h1 h2) hb hs) fun σ H Q q => ?_
  obtain ⟨kp, own, at_, q⟩ := tE_iff.mp q
  obtain ⟨Fs, hA, rfl⟩ := at_.sl
  obtain ⟨v, F, e1, e2, pp, vs, rfl, rfl, hp, r⟩ := hA.get hL
  refine ⟨_, e1, sub finE (Same.refl H) at_ q fun n y H2 s2 r2 at2 q2 => ?_⟩
  unfold getM at q2
  cases hj : L2.atI ds n with
  | none => rw [hj] at q2; exact q2.elim
  | some u =>
    rw [hj] at q2
    obtain ⟨w, w1, w2⟩ := r.at hj
    refine ⟨pp, vs, n, w, rfl, r2, .inl (.inl (s2.keep _ _ hp rfl)), w1, q2 w H2 s2 (S.mono w2 fun a o z => ?_)⟩
    have z1 : RX g.fm Fs.flatten H H (if bb then .f0 else .sh) a o := z
    exact RX.same s2 a o (RX.sh a o z1)
/-! ### None or a thing of a kind -/
theorem ev_isiO {ty n : String} {r : Bool} {m : M (Option α)} (ok : Ok p sc NN VV GG k g) (hG : GG[j]? = some "isinstance") (hmg : p.mg "isinstance" = none) (hT : IsT S ty) (hr : kitB ty n = some r) (hn : kitB "NoneType" n = some false) (ha : EvE g L a md (tOpt S) m) (hb : EvE g L b md (tTy n) (.ok ()))
    (hs1 : starEach (a :: [b]) g.X.env = (false, eval a g.X.env) :: starEach [b] g.X.env := by rfl) (hs2 : starEach [b] g.X.env = (false, eval b g.X.env) :: starEach [] g.X.env := by rfl) (hpl : (backTo pos (starEach [b] g.X.env)).any (·.1) = false := by rfl) :
    EvE g L (.Call (.Name "isinstance" pp) [a, b] [] pos) md' tBool (m.bind fun d => .ok (d.isSome && r)) := by
  have h := ev_callB (md' := md') (U := tBool) (A := aCons (tOpt S) (aCons (tTy n) aNil)) (f := fun d => .ok (d.1.isSome && r)) (fr := true) (pos := pos) (pp := pp) ok (id := "isinstance") call_isi ⟨fun {d xs R H Q} rb ⟨v, w, e1, h1, v2, w2, e2, h2, e3⟩ q => by
    subst e1; subst e2; cases (show w2 = [] from e3); cases h2
    obtain ⟨d1, d2⟩ := d
    cases d1 with
    | none =>
      cases (show v = .non from h1)
      exact ⟨.non, .ty n, .type "NoneType", .type n, false, rfl, .ty n, .base .non, kit_ty hn, q _ _ (Same.refl _) rfl⟩
    | some d =>
      exact ⟨v, .ty n, .type ty, .type n, r, rfl, .ty n, hT.t (by rw [ok.K]; exact rb) h1.1, kit_ty hr, q _ _ (Same.refl _) (by show V.bl r = V.bl _; simp)⟩⟩ (fun _ _ h => nomatch h) .fresh hG hmg (by decide +kernel) (eva_cons ha (eva_cons hb eva_nil hs2) hs1) hs1 hpl
  have e : (m.bind fun d => ((M.ok ()).bind fun d => (M.ok ()).bind fun e => M.ok (d, e)).bind fun e => M.ok (d, e)).bind (fun d => M.ok (d.1.isSome && r)) = m.bind fun d => .ok (d.isSome && r) := by cases m <;> rfl
  rwa [e] at h
/-! ### walks -/
theorem upFrom_get0 (n i : Nat) : (upFrom 0 n)[i]? = if i < n then some (i : Int) else none := by rw [upFrom_get]; simp
variable {Q : Ty (List α)}
theorem evi_rev {m : M (List α)} (ok : Ok p sc NN VV GG k g) (hq : IsSq p.K Q S) (hG : GG[j]? = some "reversed") (hmg : p.mg "reversed" = none) (ha : EvE g L a md Q m) (hs : starEach [a] g.X.env = (false, eval a g.X.env) :: starEach [] g.X.env := by rfl) :
    EvI g L tg (.Call (.Name "reversed" pp) [a] [] pos) S (m.bind fun xs => .ok xs.reverse) := by
  obtain ⟨hg, ho⟩ := ok.gl hG
  refine PI.imp (pi_reversed hg (by rw [ok.mg]; exact hmg) (eva_cons ha eva_nil hs) hs) fun σ H R ⟨kp, own, at_, q⟩ => ?_
  refine tA_iff.mpr ⟨kp, own, at_, ?_⟩
  cases m with
  | ok xs =>
    rintro vs H' s ⟨v, r, rfl, rx, e3⟩
    cases (show r = [] from e3)
    have rx' : Q.rep xs v (RD g.fm own H') := Q.mono rx RX.sh
    have rb0 : Rdb p.K (RD g.fm own H') H' := by rw [← ok.fmK]; exact RD.rdb
    obtain ⟨ad, vs, rfl, h, r⟩ := hq.sq rb0 rx'
    refine ⟨ad, vs, rfl, by rw [ok.K]; exact h, ?_⟩
    rw [show Itv g.X.K ad = Itv g.fm.K ad from by rw [ok.K, ok.fmK]]
    refine q _ H' s fun H2 rb i => ?_
    obtain ⟨a', vs', e', hs', r2⟩ := hq.sq (by rw [← ok.fmK]; exact rb) rx'
    cases e'
    rw [← ok.fmK] at hs'
    have hl : vs.length = xs.length := r.length.symm
    have hl' : vs'.length = xs.length := r2.length.symm
    refine ⟨fun d hd => ?_, fun hn => ?_⟩
    · have hlt : i < xs.length := by have := (List.getElem?_eq_some_iff.mp hd).1; rwa [List.length_reverse] at this
      rw [List.getElem?_reverse hlt] at hd
      obtain ⟨v, h1, h2⟩ := r2.get hd
      have h1' : vs'[vs.length - 1 - i]? = some v := by rw [hl]; exact h1
      refine ⟨⟨by rw [hl]; exact hlt, vs', v, hs', h1'⟩, fun x H3 ⟨e, hx⟩ => ?_⟩
      subst e
      have := hx vs' hs'
      rw [h1'] at this
      cases this
      exact ⟨Same.refl _, S.mono h2 fun a o z => .inl ⟨rfl, z⟩⟩
    · rw [List.getElem?_eq_none_iff, List.length_reverse] at hn
      show vs.length ≤ i
      omega
  | ex c => exact q
  | no => exact q
def enumL {α : Type} (xs : List α) : List (Int × α × Unit) := xs.mapIdx fun i d => ((i : Int), d, ())
theorem evi_enum {m : M (List α)} {elts : List Expr} {kk : Nat} {tpos : Pos} (ok : Ok p sc NN VV GG k g) (hq : IsSq p.K Q S) (hG : GG[j]? = some "enumerate") (hmg : p.mg "enumerate" = none) (ha : EvE g L a md Q m) (hs : starEach [a] g.X.env = (false, eval a g.X.env) :: starEach [] g.X.env := by rfl) :
    EvI g L (.Tuple elts kk tpos) (.Call (.Name "enumerate" pp) [a] [] pos) (tTup (aCons tInt (aCons S aNil))) (m.bind fun xs => .ok (enumL xs)) := by
  obtain ⟨hg, ho⟩ := ok.gl hG
  refine PI.imp (pi_enum hg (by rw [ok.mg]; exact hmg) (eva_cons ha eva_nil hs) hs) fun σ H R ⟨kp, own, at_, q⟩ => ?_
  refine tA_iff.mpr ⟨kp, own, at_, ?_⟩
  cases m with
  | ok xs =>
    rintro vs H' s ⟨v, r, rfl, rx, e3⟩
    cases (show r = [] from e3)
    have rx' : Q.rep xs v (RD g.fm own H') := Q.mono rx RX.sh
    have rb0 : Rdb p.K (RD g.fm own H') H' := by rw [← ok.fmK]; exact RD.rdb
    obtain ⟨ad, vs, rfl, h, r⟩ := hq.sq rb0 rx'
    refine ⟨ad, vs, rfl, by rw [ok.K]; exact h, ?_⟩
    rw [show Ite g.X.K ad = Ite g.fm.K ad from by rw [ok.K, ok.fmK]]
    refine q _ H' s fun H2 rb i => ?_
    obtain ⟨a', vs', e', hs', r2⟩ := hq.sq (by rw [← ok.fmK]; exact rb) rx'
    cases e'
    rw [← ok.fmK] at hs'
    unfold enumL
    rw [List.getElem?_mapIdx]
    refine ⟨fun d hd => ?_, fun hn => ⟨vs', hs', ?_⟩⟩
    · cases hx : xs[i]? with
      | none => rw [hx] at hd; cases hd
      | some d0 =>
        rw [hx] at hd
        cases hd
        obtain ⟨v, h1, h2⟩ := r2.get hx
        refine ⟨⟨vs', v, hs', h1⟩, fun x H3 ⟨T, y, e1, e2, e3, hy⟩ => ?_⟩
        subst e1; subst e3
        have := hy vs' hs'
        rw [h1] at this
        cases this
        refine ⟨newSame e2, T, _, rfl, .inr ⟨cl_of upd_same, e2⟩, .int (i : Nat), _, rfl, rfl, _, [], rfl, S.mono h2 fun a o z => .inl ⟨rfl, z⟩, rfl⟩
    · cases hx : xs[i]? with
      | none => rw [List.getElem?_eq_none_iff] at hx; rw [← r2.length]; exact hx
      | some d0 => rw [hx] at hn; cases hn
  | ex c => exact q
  | no => exact q
variable {Q2 : Ty (List β)}
def zipL {α β : Type} (xs : List α) (ys : List β) : List (α × β × Unit) := (xs.zip ys).map fun q => (q.1, q.2, ())
theorem evi_zip {m1 : M (List α)} {m2 : M (List β)} {elts : List Expr} {kk : Nat} {tpos : Pos} (ok : Ok p sc NN VV GG k g) (hq : IsSq p.K Q S) (hq2 : IsSq p.K Q2 T) (hG : GG[j]? = some "zip") (hmg : p.mg "zip" = none) (ha : EvE g L a md Q m1) (hb : EvE g L b md Q2 m2)
    (hs1 : starEach [a, b] g.X.env = (false, eval a g.X.env) :: starEach [b] g.X.env := by rfl) (hs2 : starEach [b] g.X.env = (false, eval b g.X.env) :: starEach [] g.X.env := by rfl) (hpl : (backTo pos (starEach [b] g.X.env)).any (·.1) = false := by rfl) :
    EvI g L (.Tuple elts kk tpos) (.Call (.Name "zip" pp) [a, b] [] pos) (tTup (aCons S (aCons T aNil))) (m1.bind fun xs => m2.bind fun ys => .ok (zipL xs ys)) := by
  obtain ⟨hg, ho⟩ := ok.gl hG
  refine PI.imp (pi_zip hg (by rw [ok.mg]; exact hmg) (eva_cons ha (eva_cons hb eva_nil hs2) hs1) hs1 hpl) fun σ H R ⟨kp, own, at_, q⟩ => ?_
  refine tA_iff.mpr ⟨kp, own, at_, ?_⟩
  cases m1 with
  | ok xs =>
    cases m2 with
    | ok ys =>
      rintro vs H' s ⟨v, r, rfl, rx, v2, r2, rfl, ry, e3⟩
      cases (show r2 = [] from e3)
      have rx' : Q.rep xs v (RD g.fm own H') := Q.mono rx RX.sh
      have ry' : Q2.rep ys v2 (RD g.fm own H') := Q2.mono ry RX.sh
      have rb0 : Rdb p.K (RD g.fm own H') H' := by rw [← ok.fmK]; exact RD.rdb
      obtain ⟨ad, vs, rfl, h, r⟩ := hq.sq rb0 rx'
      obtain ⟨bd, ws, rfl, h', r'⟩ := hq2.sq rb0 ry'
      refine ⟨ad, bd, vs, ws, rfl, by rw [ok.K]; exact h, by rw [ok.K]; exact h', ?_⟩
      rw [show Itz g.X.K ad bd = Itz g.fm.K ad bd from by rw [ok.K, ok.fmK]]
      refine q _ H' s fun H2 rb i => ?_
      obtain ⟨a', vs', e', hs', r2⟩ := hq.sq (by rw [← ok.fmK]; exact rb) rx'
      cases e'
      obtain ⟨b', ws', e'', hs'', r3⟩ := hq2.sq (by rw [← ok.fmK]; exact rb) ry'
      cases e''
      rw [← ok.fmK] at hs' hs''
      unfold zipL
      rw [List.getElem?_map]
      refine ⟨fun d hd => ?_, fun hn => ⟨vs', ws', hs', hs'', ?_⟩⟩
      · cases hx : (xs.zip ys)[i]? with
        | none => rw [hx] at hd; cases hd
        | some d0 =>
          rw [hx] at hd
          cases hd
          obtain ⟨hx1, hx2⟩ := List.getElem?_zip_eq_some.mp hx
          obtain ⟨v, h1, h2⟩ := r2.get hx1
          obtain ⟨w, h3, h4⟩ := r3.get hx2
          refine ⟨⟨vs', ws', v, w, hs', hs'', h1, h3⟩, fun x H3 ⟨T', y, z, e1, e2, e3, hy, hz⟩ => ?_⟩
          subst e1; subst e3
          have q1 := hy vs' hs'
          rw [h1] at q1
          cases q1
          have q2 := hz ws' hs''
          rw [h3] at q2
          cases q2
          refine ⟨newSame e2, T', _, rfl, .inr ⟨cl_of upd_same, e2⟩, _, _, rfl, S.mono h2 fun a o z => .inl ⟨rfl, z⟩, _, [], rfl, T.mono h4 fun a o z => .inl ⟨rfl, z⟩, rfl⟩
      · cases hx : (xs.zip ys)[i]? with
        | none =>
          rw [List.getElem?_eq_none_iff, List.length_zip] at hx
          rw [← r2.length, ← r3.length]
          omega
        | some d0 => rw [hx] at hn; cases hn
    | ex c => exact q
    | no => exact q
  | ex c => exact q
  | no => exact q
/-! ### tuples compared -/
structure DeepA (A : Ar δ) where
  pd : δ → List PyData
  dp : Nat
  rep : ∀ {K d vs R H}, Rdb K R H → A.rep d vs R → DpAll K H vs (pd d) ∧ PyData.canLayAll0 (pd d) = true
  dep : ∀ d, PyData.depthAll (pd d) ≤ dp
  eqv : ∀ d e, PyData.eqvAll (pd d) (pd e) = true ↔ d = e
def dNil : DeepA aNil := ⟨fun _ => [], 0, fun rb h => by cases (show _ = [] from h); exact ⟨.nil, rfl⟩, fun _ => by simp [PyData.depthAll], fun d e => by simp [PyData.eqvAll]⟩
def dCons (D : Deep S) (E : DeepA A) : DeepA (aCons S A) := ⟨fun d => D.pd d.1 :: E.pd d.2, max D.dp E.dp, fun {K d vs R H} rb ⟨v, r, e, h1, h2⟩ => by
    subst e
    obtain ⟨a1, a2⟩ := D.rep rb h1
    obtain ⟨b1, b2⟩ := E.rep rb h2
    exact ⟨.cons a1 b1, by simp only [PyData.canLayAll0, a2, b2, Bool.and_self]⟩, fun d => by
    have h1 := D.dep d.1
    have h2 := E.dep d.2
    simp only [PyData.depthAll]
    omega, fun d e => by
    simp only [PyData.eqvAll, Bool.and_eq_true, D.eqv, E.eqv]
    exact ⟨fun h => Prod.ext h.1 h.2, fun h => by rw [h]; exact ⟨rfl, rfl⟩⟩⟩
def dTup (E : DeepA A) : Deep (tTup A) := ⟨fun d => .tuple (E.pd d), E.dp + 1, fun {K ds v R H} rb ⟨a, vs, e, h, r⟩ => by
    subst e
    obtain ⟨h1, h2⟩ := E.rep rb r
    exact ⟨.tup ((rb _ _ h).imp id id) h1, h2⟩, fun ds => by simp only [PyData.depth]; have := E.dep ds; omega, fun d e => by
    simp only [PyData.eqv]
    exact E.eqv d e⟩
/-! ### a < b < c -/
structure ChI (op : CmpOp) (f : Int → Int → Bool) : Prop where
  ex : ∀ {K : PySem.W.Frag} {X : Cx}, ∃ r, OpR X (compareOp op) r ∧ Op2 K r tInt tInt tBool (fun x y => .ok (f x y)) false
theorem ch_lt : ChI .Lt (fun x y => decide (x < y)) := ⟨⟨_, op_lt, ⟨fun rb rx ry q => ⟨_, _, rx, ry, q _ _ (Same.refl _) rfl⟩⟩⟩⟩
theorem ch_le : ChI .LtE (fun x y => decide (x ≤ y)) := ⟨⟨_, op_le, ⟨fun rb rx ry q => ⟨_, _, rx, ry, q _ _ (Same.refl _) rfl⟩⟩⟩⟩
theorem evt_chainI {op op' : CmpOp} {f f' : Int → Int → Bool} {m1 m2 m3 : M Int} {d1 d2 d3 : Int} (ok : Ok p sc NN VV GG k g) (F : ChI op f) (F' : ChI op' f') (ha : EvE g L a md tInt m1) (hb : EvE g L b md tInt m2) (hc : EvE g L c md tInt m3) (e1 : m1 = .ok d1) (e2 : m2 = .ok d2) (e3 : m3 = .ok d3)
    (hm : lastMarks [op, op'] [b, c] = false := by with_unfolding_all rfl) : EvT g L (.Compare a [op, op'] [b, c] pos) (.ok (f d1 d2 && f' d2 d3)) := by
  subst e1; subst e2; subst e3
  obtain ⟨r, h1, h2⟩ := F.ex (K := p.K) (X := g.X)
  obtain ⟨r', h1', h2'⟩ := F'.ex (K := p.K) (X := g.X)
  exact evt_chain ok h1 h1' h2 h2' ha hb hc hm
/-! ### xs.extend(ys) -/
variable {st : List Stmt} {D : δ → Out} {d : δ}
theorem evb_extend {bb : Bool} {ds : List α} {m : M (List α)} {f : List α → M δ} {p1 ap cp : Pos} (ok : OkS p sc NN VV GG k g) (wk : Wk L g.LX) (hN : NN[i]? = some x) (hV : VV[j]? = some x) (hL : L[i]? = some (sOwn bb S ds)) (hb : SlB md bb)
    (he : EvE g L e md (tList S) m) (hr : ∀ ds', EvB g (L.set i (sOwn bb S ds')) st D (f ds'))
    (hs : swapsWith (.Call (.Attribute (.Name x p1) "extend" ap) [e] [] cp) none pos.line g.X.env = pure false := by rfl)
    (hbase : attributeBase (.Name x p1) "extend" g.X.env (eval (.Name x p1) g.X.env) = eval (.Name x p1) g.X.env := by rfl)
    (hfew : ((backTo cp (starEach [e] g.X.env)).all (fun x => !x.1) && (backToKw cp (keywordEach [] g.X.env)).all (fun x => x.1.isSome)
      && decide (([e] : List Expr).length + ([] : List Keyword).length + (if ([] : List Keyword).isEmpty then 0 else 1) < 30)) = true := by rfl)
    (hline : (ap.endLine == cp.line) = true := by rfl) (hst : starEach [e] g.X.env = (false, eval e g.X.env) :: starEach [] g.X.env := by rfl) (hpl : (backTo cp (starEach [] g.X.env)).any (·.1) = false := by rfl) :
    EvB g L (.Expr (.Call (.Attribute (.Name x p1) "extend" ap) [e] [] cp) pos :: st) D (m.bind fun d => (catL ds d).bind f) := by
  obtain ⟨hv, ho⟩ := ok.vis hV
  obtain ⟨h1, h2, _⟩ := okName_d ho
  refine PSs.imp (pss_cons (ps_expr (pe_bm PySem.F.plainAttrs_list PySem.F.slot_list_extend PySem.F.type_list_extend mt_extR (pe_var (i := i) (by rw [ok.N]; exact hN) hv h1 h2) (pa_cons he pa_nil hst) (hbase := hbase) (hfew := hfew) (hline := hline) (hs := hst) (hplain := hpl)) hs) (PSs.ex hr)) fun E σ H ⟨kp, own, at_, q⟩ => ?_
  obtain ⟨p', vs, e1, hp, r, mu⟩ := at_.mut hL
  refine ⟨_, e1, Or.inl ⟨rfl, _, SqL.of hp⟩, tE_iff.mpr ⟨kp, own, at_, ?_⟩⟩
  cases m with
  | ok d =>
    rintro v H1 s1 ⟨ad, ws, rfl, h3, r3⟩
    have a1 := at_.ext s1
    obtain ⟨p2, vs2, e12, hp2, rr2, mu2⟩ := a1.mut hL
    rw [e1] at e12
    cases e12
    have q : BOk g kp E D ((catL ds d).bind f) := q
    unfold catL at q
    split at q
    · rename_i hlt
      have rb : Rdb g.fm.K (RX g.fm own H H1 md) H1 := RX.rdb
      refine ⟨_, ad, vs2, ws, rfl, rfl, hp2, rd_of rb h3, by rw [← rr2.length, ← r3.length]; exact hlt, ds ++ d, kp, own, mu2 _ _ (rr2.append (r3.mono hb.rb)), q⟩
    · exact q.elim
  | ex c => exact BOk.exx wk at_ q
  | no => exact q
end
end Hd

namespace Hd
open PySem PySem.Spec L2
/-! ### a caught refusal, kept as a value (the rule for the statement goes the way of the layer's ps_try_as; here what was caught stays known behind the suite) -/
def ExQ (cls : Value) (a : Addr) : HO := .ext fun h => ∃ (oe : Obj) (vs : Array Value), h.get? a = some oe ∧ Zc cls none oe ∧ oe.data = .fields vs
theorem exQ_ok {P : Program} {w : World} {H : Hp} {h : Heap} {a : Addr} {cls : Value} {oe : Obj} {vs : Array Value} (e : h.get? a = some oe) (z : Zc cls none oe) (dd : oe.data = .fields vs) : ObjOk P w H h a (ExQ cls a) :=
  ⟨⟨oe, vs, e, z, dd⟩, ⟨oe, e⟩, fun _ _ ⟨o, v, q, r⟩ k => ⟨o, v, k o q, r⟩⟩
section
variable {X : Cx} {pins : List (Addr × Obj)} {σ : L2.St} {H : Hp} {s : Shared}
theorem track {a : Addr} {oe : Obj} {vs : Array Value} {cls : Value} (I : Inv X pins σ H s) (he : s.heap.get? a = some oe) (hz : Zc cls none oe) (hd : oe.data = .fields vs) (na : H a = none) (nL : a ≠ X.env.locals)
    (nC : ∀ y z, X.env.cells.lookup y = some z → z ≠ a) (nP : ∀ r ∈ X.pn ++ pins, r.1 ≠ a) (n0 : X.s_0.heap.get? a = none) : Inv X pins σ (upd H a (ExQ cls a)) s := by
  have ne : ∀ {b : Addr} {u : HO}, H b = some u → b ≠ a := fun e z => by rw [z, na] at e; cases e
  refine ⟨I.ok, I.os, I.bare, ⟨I.base.keep, I.base.slot, fun b o e n hx => ?_, I.base.there, fun b xs e => ?_, fun b o u e => ?_, fun b ps e => ?_⟩, I.loc, I.cell, ?_, fun y z e => ?_, fun r hr => ?_, fun b o e => ?_, I.len⟩
  · rw [upd_ne (fun z => by rw [z, n0] at e; cases e)]; exact I.base.free b o e n hx
  · have := I.base.tups b xs e
    rw [upd_ne (ne this)]; exact this
  · have := I.base.frzs b o u e
    rw [upd_ne (ne this)]; exact this
  · obtain ⟨more, this⟩ := I.base.tbls b ps e
    exact ⟨more, by rw [upd_ne (ne this)]; exact this⟩
  · rw [upd_ne (Ne.symm nL)]; exact I.free
  · rw [upd_ne (nC y z e)]; exact I.freeC y z e
  · obtain ⟨p1, p2, p3⟩ := I.pin r hr
    exact ⟨p1, by rw [upd_ne (nP r hr)]; exact p2, p3⟩
  · by_cases hb : b = a
    · subst hb
      rw [upd_same] at e
      cases e
      exact exQ_ok he hz hd
    · rw [upd_ne hb] at e
      exact (I.hok b o e).stay (fun c v _ q => q) (fun c q => by rw [upd_ne (ne q)]; exact q) fun c xs q => by rw [upd_ne (ne q)]; exact q
end
/-- what the clause wishes of an exception of the body -/
def wKp (K : PySem.W.Frag) (c : Value) (i : Nat) (ts : Addr → Value → Option Addr → TS) (Wout : WX) (D : Ends) : WX := fun cls dd σ H =>
  ∃ b, PySem.W.exmOne K cls c = some b ∧ (b = true → dd = none ∧ ∀ a, H a = none → ts a cls dd { nx := fun τ Hq => D.nx (τ.set i none) (upd Hq a (ExQ cls a)), rt := fun _ _ => False, bk := fun _ _ => False, ct := fun _ _ => False } (σ.set i (some (.ref a))) H) ∧ (b = false → Wout cls dd σ H)
section
variable {Y : Cx} {x n : Str} {c : Value} {i : Nat} {body suite : List Stmt} {b₀ : Stmt} {np pos pos' : Pos} {tb : WX → TS} {ts : Addr → Value → Option Addr → TS} {Wout : WX}
theorem ps_keep (hs : Y.stack = Y.env :: Y.outer) (hf : Y.env.frame = some Y.env.locals) (hex : Y.ex = []) (hN : Y.N.Nodup) (hi : Y.N[i]? = some n) (hln : Y.env.kindOf n = some .local) (hc : Names Y x c) (tk : Takes Y Wout)
    (hb : ∀ (W : WX) (pn : List (Addr × Obj)) (xe : Value → Shared → Prop), Takes (Y.tr pn xe) W → PassesOwn (model Y.prog Y.w) Y.A Y.env xe → PSs (Y.tr pn xe) body (tb W))
    (hsu : ∀ (ad : Addr) (oE : Obj) (cl : Value) (dd : Option Addr) (pn : List (Addr × Obj)), Zc cl dd oE → (∃ vs, oE.data = .fields vs) → PSs (Y.suite ad ((ad, oE) :: pn)) (b₀ :: suite) (ts ad cl dd)) :
    PS Y (.Try body [.ExceptHandler (some (.Name x np)) (some n) (b₀ :: suite) pos'] [] [] pos) (fun D σ H => tb (wKp Y.K c i ts Wout D) D σ H) := by
  refine ⟨fun pz s σ H D I h => ?_⟩
  have oK := I.ok
  have hfR : Y.A.frames = some (Y.env :: Y.outer) := by rw [oK.frames, hs]
  have hlC : Loc Y.env.scope n := .inl hln
  refine wpAny_Try_except ?_
  refine wpAny_mono ((hb (wKp Y.K c i ts Wout D) (Y.pn ++ pz) (fun e s₁ => wpAny (model Y.prog Y.w) Y.A (noteFrame e Y.env) (fun _ s₂ => wpAny (model Y.prog Y.w) Y.A (setFlight e none) (fun _ s₃ =>
    wpAny (model Y.prog Y.w) Y.A (handleBy e Y.env [.ExceptHandler (some (.Name x np)) (some n) (b₀ :: suite) pos']) (SP Y pz D) Y.xe s₃) Y.xe s₂) Y.xe s₁) (fun u sq xx => ?_) PassesOwn.looking).run [] s σ H D (I.toTry _) h) (fun f s1 hp => ?_) (fun e s1 hE => hE)
  · -- the catch
    obtain ⟨ad, B, sJ, py, τ, Hq, cl, dd, rfl, Jq, nB, uP, sKy, nA, oS, aG, b, bb1, hY, hN0⟩ := xx
    have Jz : Inv Y pz τ Hq sJ := Jq.ofTry oK
    have sKq : Sky B (Y.env :: Y.outer) ad (Zc cl dd) Y.env.locals sq.heap := by rw [← hs]; exact sKy
    show wpAny (model Y.prog Y.w) Y.A (noteFrame (.ref ad) Y.env) _ _ _
    refine Sky.land Zc.steady hfR hf sKq fun k3 fL uQ => ?_
    have Jt : Inv Y pz τ Hq { sq with heap := k3 } := Jz.landed nB fL.1 (uP.trans uQ) oS aG
    obtain ⟨oT, vT, eT, zT, dT⟩ := fL.there
    have nFr : ∀ {h : Heap} {o : Obj} {vs : Array Value}, h.FunFrames B (Y.env :: Y.outer) → h.get? ad = some o → o.data = .fields vs → ad ∉ frs (Y.env :: Y.outer) := fun {h o vs} ff e dd hm => by
      obtain ⟨_, o', e', hnf⟩ := ff.mem hm
      rw [e] at e'; cases e'
      exact hnf _ dd
    have nfq := nFr fL.2.2.1 eT dT
    have nL : ad ≠ Y.env.locals := fun z => nfq (List.mem_filterMap.mpr ⟨Y.env, List.mem_cons_self, by rw [hf, z]⟩)
    have nF : ad ∉ Y.fs := fun hm => by
      obtain ⟨e, hE, q⟩ := List.mem_filterMap.mp hm
      exact nfq (List.mem_filterMap.mpr ⟨e, List.mem_cons_of_mem _ hE, q⟩)
    have St := Jt.suite eT dT nA nL nF
    refine wpAny_handleBy_cons (codeAny_handlers_test ?_) (by intro q; cases q)
    have lT : PySem.W.Looks (model Y.prog Y.w) k3 (typeOf (.ref ad)) cl := fun A Q E s k q => wpAny_typeOf_ref (k _ _ eT) (by rw [zT.1]; exact q)
    have lM := PySem.W.exm_one (M := model Y.prog Y.w) (Jt.kIn) lT bb1
    have tst : ∀ {Q : Value → Shared → Prop} {E : Value → Shared → Prop}, Q c { sq with heap := k3 } → wpAny (model Y.prog Y.w) (Y.A.mark (some (.ref ad))) (eval (.Name x np) Y.env) Q E { sq with heap := k3 } := fun {Q E} q => by
      obtain ⟨hg, hdbg, hm | ⟨hm, hv, hnn⟩⟩ := hc
      · exact ld_glob (X := Y.suite ad ((ad, oT) :: (Y.pn ++ pz))) St hg hm q hdbg
      · exact ld_blt (X := Y.suite ad ((ad, oT) :: (Y.pn ++ pz))) St hg hm hv q hnn hdbg
    refine tst (lM.here ?_)
    cases b with
    | true =>
      obtain rfl := (hY rfl).1
      refine codeAny_handlers_suite_as ?_
      refine HandSPX.lands_againZ fL fun k4 fM uR => ?_
      have Ju : Inv Y pz τ Hq { sq with heap := k4 } := Jz.landed nB fM.1 ((uP.trans uQ).trans uR) oS aG
      obtain ⟨oU, vU, eU, zU, dU⟩ := fM.there
      have Su := Ju.suite eU dU nA nL nF
      refine store_ok (X := Y.suite ad ((ad, oU) :: (Y.pn ++ pz))) (v := .ref ad) Su hN hi hlC rfl (fun sv Sv => ?_) (.inr hln)
      refine wpAny_mono ((hsu ad oU cl none (Y.pn ++ pz) zU ⟨_, dU⟩).run [] sv _ Hq _ Sv ((hY rfl).2 ad nA)) (fun f sw hp => ?_) (fun _ _ z => False.elim z)
      have none_ : ∀ o, sJ.heap.get? ad = some o → False := fun o e => by
        have z := nB ad o e (by rw [hs]; exact nfq)
        rw [fM.2.1] at z
        cases z
      have n0 : Y.s_0.heap.get? ad = none := by
        cases e : Y.s_0.heap.get? ad with
        | none => rfl
        | some o =>
          obtain ⟨o2, e2⟩ := Jz.base.there ad o e (by rw [hex]; exact fun z => nomatch z)
          exact (none_ o2 e2).elim
      have nC : ∀ y z, Y.env.cells.lookup y = some z → z ≠ ad := fun y z e w => by
        obtain ⟨v, o, e2, _⟩ := Jz.cell y z e
        rw [w] at e2
        exact none_ o e2
      have nP : ∀ r ∈ Y.pn ++ pz, r.1 ≠ ad := fun r hr w => by
        have e2 := (Jz.pin r hr).1
        rw [w] at e2
        exact none_ _ e2
      cases f with
      | next =>
        obtain ⟨τw, Hw, Sw, qw⟩ := hp
        obtain ⟨g1, g2, _⟩ := Sw.pin (ad, oU) (List.mem_append.mpr (.inl List.mem_cons_self))
        exact gone_ok (track (Sw.unsuite oK) g1 zU dU g2 nL nC nP n0) hN hi hln fun sx Jx => ⟨_, _, Jx, qw⟩
      | brk =>
        obtain ⟨τw, Hw, Sw, qw⟩ := hp
        exact qw.elim
      | cont =>
        obtain ⟨τw, Hw, Sw, qw⟩ := hp
        exact qw.elim
      | ret u =>
        obtain ⟨v6, τw, Hw, Sw, r6, qw⟩ := hp
        exact qw.elim
    | false =>
      show wpAny _ Y.A (handleBy (.ref ad) Y.env []) _ _ _
      refine wpAny_handleBy_nil ?_
      obtain ⟨_, _, _, oE, vs, T, oT, _, hE, hz, hd, h1, hr⟩ := id fL
      unfold PySem.passOn
      refine wpAny_bind (wpAny_field hE hd h1 ?_)
      rw [if_neg (show ¬ ((Value.ref T == Value.none) = true) from by simp)]
      have fIn : wpAny (model Y.prog Y.w) Y.A (setFlight (.ref ad) Y.env.frame) (fun _ s4 => wpAny (model Y.prog Y.w) Y.A (throw (.ref ad) : Sem Flow) (SP Y pz D) Y.xe s4) Y.xe { sq with heap := k3 } := by
        rw [hf]
        refine HandSPX.setFlight_upZ fL fun k4 hh4 uR => wpAny_throw (tk _ _ ?_)
        exact ⟨ad, B, sJ, pz, τ, Hq, cl, dd, rfl, Jz, nB, (uP.trans uQ).trans uR, .inr (.inr (by rw [hs]; exact hh4)), nA, oS, aG, hN0 rfl⟩
      first
        | exact wpAny_bind (wpAny_pure (wpAny_bind fIn))
        | exact wpAny_bind fIn
  · cases f with
    | next =>
      obtain ⟨τ, Hq, Jq, q⟩ := hp
      exact wpAny_execs_nil ⟨τ, Hq, Jq.ofTry oK, q⟩
    | brk =>
      obtain ⟨τ, Hq, Jq, q⟩ := hp
      exact ⟨τ, Hq, Jq.ofTry oK, q⟩
    | cont =>
      obtain ⟨τ, Hq, Jq, q⟩ := hp
      exact ⟨τ, Hq, Jq.ofTry oK, q⟩
    | ret u =>
      obtain ⟨v, τ, Hq, Jq, r, q⟩ := hp
      exact ⟨v, τ, Hq, Jq.ofTry oK, r, q⟩
end
end Hd

namespace Hd
open PySem PySem.Spec L2
/-- c stands under d -/
def isB (c d : Ec) : Bool := decide (d = c) || decide (d = .weave)
/-- a caught refusal -/
def tExc (p : Pr) : Ty Ec := ⟨fun c v R => ∃ a, v = .ref a ∧ R a (ExQ (.ref (p.C c)) a), fun ⟨a, e, h⟩ s => ⟨a, e, s _ _ h⟩⟩
/-- a class of refusals, as a value -/
def tCls (p : Pr) : Ty Ec := ⟨fun c v _ => v = .ref (p.C c), fun h _ => h⟩
/-- what the head tells of the classes -/
structure Kn (p : Pr) (kn : List Ec) : Prop where
  isc : ∀ c ∈ kn, ExcC p.K (p.C c)
  exm : ∀ c ∈ kn, ∀ d ∈ kn, PySem.W.exmOne p.K (.ref (p.C c)) (.ref (p.C d)) = some (isB c d)
  kit : ∀ c ∈ kn, ∀ d ∈ kn, PySem.W.kitOne p.K (.ref (p.C c)) (.ref (p.C d)) = some (isB c d)
  kitV : ∀ c ∈ kn, PySem.W.kitOne p.K (.ref (p.C c)) (.type "ValueError") = some true
  kitN : ∀ c ∈ kn, PySem.W.kitOne p.K (.type "NoneType") (.ref (p.C c)) = some false
def tryM {β : Type} (kn : List Ec) (cx : Ec) (mb : M β) (h : Ec → β) : M β := match mb with
  | .ok s => .ok s
  | .ex c => if c ∈ kn then (if isB c cx = true then .ok (h c) else .ex c) else .no
  | .no => .no
theorem nn_exc {p : Pr} : NotNon (tExc p) := ⟨fun ⟨a, e, _⟩ => by subst e; exact fun z => nomatch z⟩
section
variable {p : Pr} {sc : Scope} {NN VV GG VV' GG' : List Str} {k : Nat} {g : G} {L L' : List Slot} {a b c e e' : Expr} {es : List Expr} {md md' : Md} {α β γ δ ρ : Type} {S : Ty α} {T : Ty β} {U : Ty γ} {A : Ar δ} {pos : Pos} {K : PySem.W.Frag} {tg : Expr} {i j : Nat} {x : Str} {pp : Pos}
theorem At.setAnyV {fm : Fm} {kp : RdR} {σ : L2.St} {H : Hp} {own : List Addr} {v : Option V} (h : At fm kp L σ H own) : ∃ own', At fm kp (L.set i sAny) (σ.set i v) H own' ∧ ∀ p ∈ own', p ∈ own := by
  obtain ⟨h1, h2, ⟨Fs, h3, rfl⟩, h4, h5, h6⟩ := h
  have kk : ∀ p ∈ (Fs.set i []).flatten, p ∈ Fs.flatten := fun p hp => (set_sub (i := i)).subset hp
  exact ⟨_, ⟨h1, h2, ⟨Fs.set i [], (h3.st (RB.own kk) fun _ _ => rfl).set (s := sAny) (v := v) rfl i, rfl⟩, h4.sublist set_sub, fun p hp => h5 p (kk p hp), fun a o q => RX.own (md := .sh) (H := H) kk a o (h6 a o q)⟩, kk⟩
theorem wkL (h : g.LX = L') (w : Wk L L') : Wk L g.LX := h ▸ w
variable {st : List Stmt} {D : δ → Out} {d : δ}
/-- try: body / except X as e: y = e -/
theorem evb_tryA {kn : List Ec} {cx : Ec} {mb : M β} {h : Ec → β} {f : β → M δ} {LJ : β → List Slot} {body : List Stmt} {n y : Str} {iE iC jE jC : Nat} {np pos' p1 p2 p3 : Pos} (ok : OkS p sc NN VV GG k g) (wk : Wk L g.LX) (hkn : Kn p kn) (hcx : cx ∈ kn) (hx : p.mg x = some (.ref (p.C cx))) (hG : GG[j]? = some x)
    (hNE : NN[iE]? = some n) (hVE : VV[jE]? = some n) (hlE : isLoc sc n = true) (hNC : NN[iC]? = some y) (hVC : VV[jC]? = some y) {s₀ : Slot} (hLE : L[iE]? = some s₀)
    (hb : ∀ g', OkS p sc NN VV GG k g' → g'.LX = L → EvB g' L body (fun s => .nx (LJ s)) mb)
    (hh : ∀ c, Wk (((L.set iE sAny).set iC (sV false (tOpt (tExc p)) (some c))).set iE sAny) (LJ (h c))) (hr : ∀ s, EvB g (LJ s) st D (f s)) (hs : ∀ Y : Cx, swapsWith (.Name n p1) (some (.Name y p2)) p3.line Y.env = pure false := by intro _; rfl) :
    EvB g L (.Try body [.ExceptHandler (some (.Name x np)) (some n) [.Assign [.Name y p2] (.Name n p1) p3] pos'] [] [] pos :: st) D ((tryM kn cx mb h).bind f) := by
  obtain ⟨hg, ho⟩ := ok.gl hG
  obtain ⟨hvE, hoE⟩ := ok.vis hVE
  obtain ⟨n1, n2, _⟩ := okName_d hoE
  obtain ⟨_, hlE2⟩ := isLoc_k hlE
  have elE : g.X.env.scope.names.lookup n = some .local := by rw [ok.scp]; exact hlE2
  refine PSs.imp (pss_cons (ps_keep (i := iE) (c := .ref (p.C cx)) (tb := fun W D σ H => ∃ q : {W'' : Wx // ∀ c σ H, W'' c σ H → W (.ref (p.C c)) none σ H}, tB ⟨g.X, g.fm, q.1, L⟩ L (fun s => Out.nx (LJ s)) mb D σ H)
    (ts := fun ad cl dd => tAsg (tVar iE) (gName iC)) (Wout := fun cls d σ H => ∃ c, cls = .ref (p.C c) ∧ d = none ∧ g.W c σ H) ok.stk ok.frm ok.exn (by rw [ok.N]; exact ok.nd) (by rw [ok.N]; exact hNE) elE ⟨hg, (okName_d ho).1, .inl (by rw [ok.mg]; exact hx)⟩ ok.tk
    (fun W pn xe tkW psO => ?_) (fun ad oE cl dd pn _ _ => ?_)) (PSs.ex hr)) fun E σ H ⟨kp, own, at_, q⟩ => ?_
  · refine PSs.ex (t := fun (q : {W'' : Wx // ∀ c σ H, W'' c σ H → W (.ref (p.C c)) none σ H}) => tB ⟨g.X, g.fm, q.1, L⟩ L (fun s => Out.nx (LJ s)) mb) fun q => ?_
    exact hb ⟨g.X.tr pn xe, g.fm, q.1, L⟩
      { prog := ok.prog, w := ok.w, K := ok.K, mg := ok.mg, base := ok.base, N := ok.N, fmK := ok.fmK, tab := ok.tab, room := ok.room, nd := ok.nd, vis := ok.vis, gl := ok.gl
        tk := Takes.imp tkW fun cls d σ H ⟨c, e1, e2, z⟩ => by subst e1; subst e2; exact q.2 c σ H z
        calm := ok.calm, blk := ok.blk, loc := ok.loc, fnT := ok.fnT, psO := psO, scp := ok.scp, stk := ok.stk, frm := ok.frm, exn := ok.exn } rfl
  · exact pss_one (ps_set (i := iC) (by show g.X.N.Nodup; rw [ok.N]; exact ok.nd) (by show g.X.N[iC]? = _; rw [ok.N]; exact hNC) (ok.loc hVC) (pe_var (i := iE) (by show g.X.N[iE]? = _; rw [ok.N]; exact hNE) hvE n1 n2) (hs _) (.inl (ok.fnT y)))
  · have cont : ∀ c σ' H', c ∈ kn → isB c cx = true → (∃ own', At g.fm kp L σ' H' own') → BOk g kp E D (f (h c)) → ∀ ad, H' ad = none →
        ∃ d, tB g (LJ d) D (f d) E (((σ'.set iE (some (.ref ad))).set iC (some (.ref ad))).set iE none) (upd H' ad (ExQ (.ref (p.C c)) ad)) := fun c σ' H' _ _ ⟨own', a'⟩ qc ad hn => by
      have a1 := a'.ext (newSame (o := ExQ (.ref (p.C c)) ad) hn)
      obtain ⟨own2, a2, k2⟩ := At.setAnyV (i := iE) (v := some (.ref ad)) a1
      have hrep : (tOpt (tExc p)).rep (some c) (.ref ad) (RB g.fm own2 (upd H' ad (ExQ (.ref (p.C c)) ad)) false) := by
        refine ⟨⟨ad, rfl, .inl ⟨.inl (cl_of upd_same), fun z => ?_, fun z => ?_⟩⟩, fun z => nomatch z⟩
        · exact (a'.new ad (k2 ad z)).1 hn
        · exact a'.zin ad z hn
      obtain ⟨own3, a3⟩ := a2.setV (i := iC) (b := false) (T := tOpt (tExc p)) (d := some c) (v := .ref ad) hrep
      obtain ⟨own4, a4, _⟩ := At.setAnyV (i := iE) (v := none) a3
      obtain ⟨own5, a5, _⟩ := a4.weak (hh c)
      exact ⟨h c, kp, own5, a5, qc⟩
    refine ⟨⟨fun c σ' H' => (c ∈ kn → isB c cx = true → ∀ ad, H' ad = none → ∃ d, tB g (LJ d) D (f d) E (((σ'.set iE (some (.ref ad))).set iC (some (.ref ad))).set iE none) (upd H' ad (ExQ (.ref (p.C c)) ad))) ∧ (c ∈ kn) ∧ (isB c cx = false → g.W c σ' H') ∧ iE < σ'.length, fun c σ' H' ⟨z1, z2, z3, z4⟩ => ?_⟩, kp, own, at_, ?_⟩
    · refine ⟨isB c cx, by rw [ok.K]; exact hkn.exm c z2 cx hcx, fun hB => ⟨rfl, fun ad hn => ⟨.ref ad, by rw [List.getElem?_set_self z4], z1 z2 hB ad hn⟩⟩, fun hB => ⟨c, rfl, rfl, z3 hB⟩⟩
    · cases mb with
      | ok s => exact fun σ' H' own' a' => ⟨s, kp, own', a', q⟩
      | no => exact q.elim
      | ex c =>
        intro σ' H' own' a'
        have q : BOk g kp E D (((if c ∈ kn then (if isB c cx = true then M.ok (h c) else .ex c) else .no) : M β).bind f) := q
        by_cases hc : c ∈ kn
        · rw [if_pos hc] at q
          have hlen : iE < σ'.length := by rw [a'.len]; exact (List.getElem?_eq_some_iff.mp hLE).1
          refine ⟨fun _ hB ad hn => ?_, hc, fun hB => ?_, hlen⟩
          · rw [if_pos hB] at q
            exact cont c σ' H' hc hB ⟨own', a'⟩ q ad hn
          · rw [if_neg (by rw [hB]; exact Bool.false_ne_true)] at q
            obtain ⟨own2, a2, _⟩ := a'.weak wk
            exact q σ' H' own2 a2
        · rw [if_neg hc] at q; exact q.elim
/-! ### what kind of refusal -/
def KitQ (K : PySem.W.Frag) (H : Hp) (v : V) (t : Value) : Prop := (v = .non ∧ t = .type "NoneType") ∨ ∃ a D, v = .ref a ∧ t = .ref D ∧ ExcC K D ∧ Rd H a (ExQ (.ref D) a)
theorem kit_q {X : Cx} {pins : List (Addr × Obj)} {σ : L2.St} {H : Hp} {s : Shared} {v : V} {u t : Value} (I : Inv X pins σ H s) (rx : RelV v u) (q : KitQ X.K H v t) : ∃ P : Heap → Prop, PySem.W.KitX X.K u t P ∧ P s.heap ∧ u ≠ .builtin "__main__.__loader__#opaque" := by
  rcases q with ⟨rfl, rfl⟩ | ⟨a, D, rfl, rfl, C, h⟩
  · cases (show u = Value.none from rx)
    exact ⟨_, PySem.W.kitx_none, True.intro, fun z => nomatch z⟩
  · cases (show u = Value.ref a from rx)
    obtain ⟨⟨oe, vs, he, hz, hd⟩, _⟩ := (show ObjOk X.prog X.w H s.heap a (ExQ (.ref D) a) from h.ok I.hok)
    have J : PySem.W.InstAt s.heap a oe D none := by
      obtain ⟨oc, od, oda, osl⟩ := oe
      obtain ⟨h1, h2⟩ := hz
      dsimp only at h1 h2 hd
      subst h1 h2 hd
      exact ⟨he, rfl, rfl, trivial⟩
    exact ⟨_, PySem.W.handS_kitx_exc C.hg C.hk C.hs C.hd C.ha C.hn C.ht C.hm, J, fun z => nomatch z⟩
def rIsQ (K : PySem.W.Frag) : List V → Hp → VK → Prop := fun xs H Q => ∃ (x c : V) (t u : Value) (b : Bool), xs = [x, c] ∧ ClsV c u ∧ KitQ K H x t ∧ PySem.W.kitOne K t u = some b ∧ Q (.bl b) H
theorem call_isQ {X : Cx} : CallR X (.builtin "isinstance") (rIsQ X.K) := by
  intro pins s σ H xs us Q I r h
  obtain ⟨x, c, t, u, b, rfl, k, ty, e, q⟩ := h
  cases r with
  | cons r1 rr =>
    cases rr with
    | cons r2 rr =>
      cases rr
      have e2 := k.eq r2
      subst e2
      obtain ⟨P, Z, hP, hx⟩ := kit_q I r1 ty
      exact PySem.W.kia_one Z I.kIn hP e hx fun tk => ⟨.bl b, H, I.tok tk, rfl, q⟩
def rIsQT (K : PySem.W.Frag) : List V → Hp → VK → Prop := fun xs H Q => ∃ (x : V) (tp : Addr) (cs : List V) (t : Value) (us : List Value) (b : Bool), xs = [x, .ref tp] ∧ SqT K H tp cs ∧ Paired ClsV cs us ∧ KitQ K H x t ∧ PySem.W.kitAny K t us = some b ∧ Q (.bl b) H
theorem call_isQT {X : Cx} : CallR X (.builtin "isinstance") (rIsQT X.K) := by
  intro pins s σ H xs us Q I r h
  obtain ⟨x, tp, cs, t, ws, b, rfl, hT, k, ty, e, q⟩ := h
  cases r with
  | cons r1 rr =>
    cases rr with
    | @cons _ u2 _ _ r2 rr =>
      cases rr
      cases (show u2 = Value.ref tp from r2)
      obtain ⟨P, Z, hP, hx⟩ := kit_q I r1 ty
      obtain ⟨its, rv, ⟨o, h1, h2, n, h3⟩, _⟩ := I.tuple hT
      have e3 := ClsV.all k rv
      subst e3
      obtain ⟨oc, od, dt, sl⟩ := o
      simp only at h2 h3
      subst h2 h3
      exact PySem.W.kia_tup Z I.kIn hP h1 e hx fun tk => ⟨.bl b, H, I.tok tk, rfl, q⟩
/-- isinstance(caught, X), X a class of refusals -/
def isEM (kn : List Ec) (c : Option Ec) (d : Ec) : M Bool := match c with
  | none => .ok false
  | some c => if c ∈ kn then .ok (isB c d) else .no
theorem isEM_ne {kn : List Ec} {c : Option Ec} {d : Ec} {z : Ec} : isEM kn c d ≠ .ex z := by unfold isEM; split <;> (try split) <;> exact fun h => nomatch h
/-- isinstance(caught, (X, Y, ..)) -/
def isEsM (kn : List Ec) (c : Option Ec) (ds : List Ec) : M Bool := match c with
  | none => .ok false
  | some c => if c ∈ kn then .ok (ds.any fun d => isB c d) else .no
theorem isEsM_ne {kn : List Ec} {c : Option Ec} {ds : List Ec} {z : Ec} : isEsM kn c ds ≠ .ex z := by unfold isEsM; split <;> (try split) <;> exact fun h => nomatch h
/-- isinstance(caught, ValueError) -/
def isVM (kn : List Ec) (c : Option Ec) : M Bool := match c with
  | none => .ok false
  | some c => if c ∈ kn then .ok true else .no
theorem isVM_ne {kn : List Ec} {c : Option Ec} {z : Ec} : isVM kn c ≠ .ex z := by unfold isVM; split <;> (try split) <;> exact fun h => nomatch h
theorem ev_cls {cc : Ec} (ok : Ok p sc NN VV GG k g) (hG : GG[j]? = some x) (hx : p.mg x = some (.ref (p.C cc))) : EvE g L (.Name x pos) md (tCls p) (.ok cc) := ev_glob (v := .ref (p.C cc)) ok hG hx rfl (fun _ => rfl)
theorem kitQ_some {kn : List Ec} (hkn : Kn p kn) {c : Ec} (hc : c ∈ kn) {R : RdR} {H : Hp} {v : V} (rb : Rdb p.K R H) (h : (tExc p).rep c v R) : KitQ p.K H v (.ref (p.C c)) := by
  obtain ⟨a, e, h⟩ := h
  exact .inr ⟨a, p.C c, e, rfl, hkn.isc c hc, (rb _ _ h).resolve_right fun z => z⟩
theorem ev_isE {kn : List Ec} {dd : Ec} {m : M (Option Ec)} (ok : Ok p sc NN VV GG k g) (hkn : Kn p kn) (hd : dd ∈ kn) (hG : GG[j]? = some "isinstance") (hmg : p.mg "isinstance" = none) (ha : EvE g L a md (tOpt (tExc p)) m) (hb : EvE g L b md (tCls p) (.ok dd))
    (hs1 : starEach [a, b] g.X.env = (false, eval a g.X.env) :: starEach [b] g.X.env := by rfl) (hs2 : starEach [b] g.X.env = (false, eval b g.X.env) :: starEach [] g.X.env := by rfl)
    (hpl : (backTo pos (starEach [b] g.X.env)).any (·.1) = false := by rfl) : EvE g L (.Call (.Name "isinstance" pp) [a, b] [] pos) md' tBool (m.bind fun c => isEM kn c dd) := by
  have h := ev_b2 (S := tOpt (tExc p)) (T := (⟨fun _ v _ => v = .ref (p.C dd), fun h _ => h⟩ : Ty Unit)) (md' := md') (U := tBool) (f := fun c _ => isEM kn c dd) (m2 := .ok ()) (fr := true) (pp := pp) (pos := pos) ok call_isQ (fun {d e v w R H W} rb h1 h2 q => by
    unfold isEM at q
    cases d with
    | none =>
      cases (show v = .non from h1)
      exact ⟨.non, w, .type "NoneType", .ref (p.C dd), false, rfl, by rw [h2]; exact .own _, .inl ⟨rfl, rfl⟩, by rw [ok.K]; exact hkn.kitN dd hd, q _ _ (Same.refl _) rfl⟩
    | some c =>
      by_cases hc : c ∈ kn
      · simp only [if_pos hc] at q
        exact ⟨v, w, .ref (p.C c), .ref (p.C dd), isB c dd, rfl, by rw [h2]; exact .own _, by rw [ok.K]; exact kitQ_some hkn hc rb h1.1, by rw [ok.K]; exact hkn.kit c hc dd hd, q _ _ (Same.refl _) rfl⟩
      · simp only [if_neg hc] at q
        exact q.elim) (fun _ _ _ => isEM_ne) .fresh hG hmg (by decide +kernel) ha (ev_asP (T := (⟨fun _ v _ => v = .ref (p.C dd), fun h _ => h⟩ : Ty Unit)) (d2 := ()) (fun v R r => r) hb) hs1 hs2 hpl
  have e : (m.bind fun d => (M.ok ()).bind fun _ => isEM kn d dd) = m.bind fun c => isEM kn c dd := by cases m <;> rfl
  rwa [e] at h
theorem ev_isV {kn : List Ec} {m : M (Option Ec)} (ok : Ok p sc NN VV GG k g) (hkn : Kn p kn) (hG : GG[j]? = some "isinstance") (hmg : p.mg "isinstance" = none) (ha : EvE g L a md (tOpt (tExc p)) m) (hb : EvE g L b md (tTy "ValueError") (.ok ()))
    (hs1 : starEach [a, b] g.X.env = (false, eval a g.X.env) :: starEach [b] g.X.env := by rfl) (hs2 : starEach [b] g.X.env = (false, eval b g.X.env) :: starEach [] g.X.env := by rfl)
    (hpl : (backTo pos (starEach [b] g.X.env)).any (·.1) = false := by rfl) : EvE g L (.Call (.Name "isinstance" pp) [a, b] [] pos) md' tBool (m.bind fun c => isVM kn c) := by
  have h := ev_b2 (S := tOpt (tExc p)) (T := tTy "ValueError") (md' := md') (U := tBool) (f := fun c _ => isVM kn c) (m2 := .ok ()) (fr := true) (pp := pp) (pos := pos) ok call_isQ (fun {d e v w R H W} rb h1 h2 q => by
    unfold isVM at q
    cases d with
    | none =>
      cases (show v = .non from h1)
      exact ⟨.non, w, .type "NoneType", .type "ValueError", false, rfl, by rw [h2]; exact .ty _, .inl ⟨rfl, rfl⟩, kit_ty (by decide +kernel), q _ _ (Same.refl _) rfl⟩
    | some c =>
      by_cases hc : c ∈ kn
      · simp only [if_pos hc] at q
        exact ⟨v, w, .ref (p.C c), .type "ValueError", true, rfl, by rw [h2]; exact .ty _, by rw [ok.K]; exact kitQ_some hkn hc rb h1.1, by rw [ok.K]; exact hkn.kitV c hc, q _ _ (Same.refl _) rfl⟩
      · simp only [if_neg hc] at q
        exact q.elim) (fun _ _ _ => isVM_ne) .fresh hG hmg (by decide +kernel) ha hb hs1 hs2 hpl
  have e : (m.bind fun d => (M.ok ()).bind fun _ => isVM kn d) = m.bind fun c => isVM kn c := by cases m <;> rfl
  rwa [e] at h
theorem kitAny_map {kn : List Ec} (hkn : Kn p kn) {c : Ec} (hc : c ∈ kn) : ∀ ds : List Ec, (∀ d ∈ ds, d ∈ kn) → PySem.W.kitAny p.K (.ref (p.C c)) (ds.map fun d => .ref (p.C d)) = some (ds.any fun d => isB c d)
  | [], _ => rfl
  | d :: ds, h => by
    rw [List.map_cons, List.any_cons]
    refine kitAny_cons (b := isB c d) (hkn.kit c hc d (h d List.mem_cons_self)) (fun e => ?_) fun e => by rw [e]; rfl
    rw [e, Bool.false_or]
    exact kitAny_map hkn hc ds fun z hz => h z (List.mem_cons_of_mem _ hz)
theorem kitAny_none {kn : List Ec} (hkn : Kn p kn) : ∀ ds : List Ec, (∀ d ∈ ds, d ∈ kn) → PySem.W.kitAny p.K (.type "NoneType") (ds.map fun d => .ref (p.C d)) = some false
  | [], _ => rfl
  | d :: ds, h => by
    rw [List.map_cons]
    exact kitAny_cons (hkn.kitN d (h d List.mem_cons_self)) (fun _ => kitAny_none hkn ds fun z hz => h z (List.mem_cons_of_mem _ hz)) fun e => by cases e
theorem reps_cls {R : RdR} {ds : List Ec} {vs : List V} (r : Reps (tCls p) R ds vs) : Paired ClsV vs (ds.map fun d => .ref (p.C d)) := by
  induction r with
  | nil => exact .nil
  | cons h _ ih => cases h; exact .cons (.own _) ih
/-- a tuple of things of one kind -/
theorem ev_tupL {n : Nat} {m : M (List α)} {x1} (h : LenM n m) (hn : n ≤ 1000) (ha : EvA g L es md (aAll S) m) : EvE g L (.Tuple es x1 pos) md (tTupL S) m := by
  refine PE.imp (pe_tup ha) fun σ H Q q => ?_
  obtain ⟨kp, own, at_, q⟩ := tE_iff.mp q
  refine tA_iff.mpr ⟨kp, own, at_, ?_⟩
  cases m with
  | ok d => exact fun vs H1 s1 r1 => ⟨Nat.le_trans (by rw [← tupL_le r1, h d rfl]; exact hn) (by decide), fun p hp => q _ _ (s1.trans (newSame hp)) ⟨p, vs, rfl, newRX (at_.ext s1) s1 hp, Reps.mono r1 (RX.same (newSame hp))⟩⟩
  | ex c => exact q
  | no => exact q
theorem ev_isEs {kn ds : List Ec} {m : M (Option Ec)} {mt : M (List Ec)} (ok : Ok p sc NN VV GG k g) (hkn : Kn p kn) (hd : ∀ d ∈ ds, d ∈ kn) (hG : GG[j]? = some "isinstance") (hmg : p.mg "isinstance" = none) (ha : EvE g L a md (tOpt (tExc p)) m) (hb : EvE g L b md (tTupL (tCls p)) mt) (hmt : mt = .ok ds)
    (hs1 : starEach [a, b] g.X.env = (false, eval a g.X.env) :: starEach [b] g.X.env := by rfl) (hs2 : starEach [b] g.X.env = (false, eval b g.X.env) :: starEach [] g.X.env := by rfl)
    (hpl : (backTo pos (starEach [b] g.X.env)).any (·.1) = false := by rfl) : EvE g L (.Call (.Name "isinstance" pp) [a, b] [] pos) md' tBool (m.bind fun c => isEsM kn c ds) := by
  subst hmt
  have hb' : EvE g L b md (⟨fun _ v R => (tTupL (tCls p)).rep ds v R, fun h s => (tTupL (tCls p)).mono h s⟩ : Ty Unit) (.ok ()) := ev_asP (fun v R r => r) hb
  have h := ev_b2 (S := tOpt (tExc p)) (md' := md') (U := tBool) (f := fun c _ => isEsM kn c ds) (fr := true) (pp := pp) (pos := pos) ok call_isQT (fun {d e v w R H W} rb h1 h2 q => by
    obtain ⟨tp, ws, ew, ht, rt⟩ := h2
    have hT : SqT g.X.K H tp ws := by rw [ok.K]; exact st_of rb ht
    unfold isEsM at q
    cases d with
    | none =>
      cases (show v = .non from h1)
      exact ⟨.non, tp, ws, .type "NoneType", _, false, by rw [ew], hT, reps_cls rt, .inl ⟨rfl, rfl⟩, by rw [ok.K]; exact kitAny_none hkn ds hd, q _ _ (Same.refl _) rfl⟩
    | some c =>
      by_cases hc : c ∈ kn
      · simp only [if_pos hc] at q
        exact ⟨v, tp, ws, .ref (p.C c), _, _, by rw [ew], hT, reps_cls rt, by rw [ok.K]; exact kitQ_some hkn hc rb h1.1, by rw [ok.K]; exact kitAny_map hkn hc ds hd, q _ _ (Same.refl _) rfl⟩
      · simp only [if_neg hc] at q
        exact q.elim) (fun _ _ _ => isEsM_ne) .fresh hG hmg (by decide +kernel) ha hb' hs1 hs2 hpl
  have e : (m.bind fun d => (M.ok ()).bind fun _ => isEsM kn d ds) = m.bind fun c => isEsM kn c ds := by cases m <;> rfl
  rwa [e] at h
end
end Hd

namespace Hd
open PySem PySem.Spec L2
section
variable {p : Pr} {sc : Scope} {NN VV GG VV' GG' : List Str} {k : Nat} {g : G} {L L' : List Slot} {a b c e e' : Expr} {es : List Expr} {md md' : Md} {α β γ δ ρ : Type} {S : Ty α} {T : Ty β} {U : Ty γ} {A : Ar δ} {pos : Pos} {K : PySem.W.Frag} {tg : Expr} {i j : Nat} {x : Str} {pp : Pos}
variable {st : List Stmt} {D : δ → Out} {d : δ}
/-- try: body / except X: y = a written thing -/
theorem evb_tryC {kn : List Ec} {cx : Ec} {mb : M β} {h : β} {f : β → M δ} {LJ : β → List Slot} {body : List Stmt} {y : Str} {iC jC : Nat} {np pos' p2 p3 : Pos} {v : V} {dv : α} (ok : OkS p sc NN VV GG k g) (wk : Wk L g.LX) (hkn : Kn p kn) (hcx : cx ∈ kn) (hx : p.mg x = some (.ref (p.C cx))) (hG : GG[j]? = some x)
    (hNC : NN[iC]? = some y) (hVC : VV[jC]? = some y) (he : ∀ Y : Cx, PE Y e (fun σ H Q => Q v H)) (hrep : ∀ R, S.rep dv v R)
    (hb : ∀ g', OkS p sc NN VV GG k g' → g'.LX = L → EvB g' L body (fun s => .nx (LJ s)) mb)
    (hh : Wk (L.set iC (sV false S dv)) (LJ h)) (hr : ∀ s, EvB g (LJ s) st D (f s)) (hs : ∀ Y : Cx, swapsWith e (some (.Name y p2)) p3.line Y.env = pure false := by intro _; rfl) :
    EvB g L (.Try body [.ExceptHandler (some (.Name x np)) none [.Assign [.Name y p2] e p3] pos'] [] [] pos :: st) D ((tryM kn cx mb fun _ => h).bind f) := by
  obtain ⟨hg, ho⟩ := ok.gl hG
  refine PSs.imp (pss_cons (ps_try_only (c := .ref (p.C cx)) (tb := fun W D σ H => ∃ q : {W'' : Wx // ∀ c σ H, W'' c σ H → W (.ref (p.C c)) none σ H}, tB ⟨g.X, g.fm, q.1, L⟩ L (fun s => Out.nx (LJ s)) mb D σ H)
    (ts := fun ad cl dd => tAsg (fun σ H Q => Q v H) (gName iC)) (Wout := fun cls d σ H => ∃ c, cls = .ref (p.C c) ∧ d = none ∧ g.W c σ H) ok.stk ok.frm ⟨hg, (okName_d ho).1, .inl (by rw [ok.mg]; exact hx)⟩ ok.tk
    (fun W pn xe tkW psO => ?_) (fun ad oE cl dd pn _ _ => ?_)) (PSs.ex hr)) fun E σ H ⟨kp, own, at_, q⟩ => ?_
  · refine PSs.ex (t := fun (q : {W'' : Wx // ∀ c σ H, W'' c σ H → W (.ref (p.C c)) none σ H}) => tB ⟨g.X, g.fm, q.1, L⟩ L (fun s => Out.nx (LJ s)) mb) fun q => ?_
    exact hb ⟨g.X.tr pn xe, g.fm, q.1, L⟩
      { prog := ok.prog, w := ok.w, K := ok.K, mg := ok.mg, base := ok.base, N := ok.N, fmK := ok.fmK, tab := ok.tab, room := ok.room, nd := ok.nd, vis := ok.vis, gl := ok.gl
        tk := Takes.imp tkW fun cls d σ H ⟨c, e1, e2, z⟩ => by subst e1; subst e2; exact q.2 c σ H z
        calm := ok.calm, blk := ok.blk, loc := ok.loc, fnT := ok.fnT, psO := psO, scp := ok.scp, stk := ok.stk, frm := ok.frm, exn := ok.exn } rfl
  · exact pss_one (ps_set (i := iC) (by show g.X.N.Nodup; rw [ok.N]; exact ok.nd) (by show g.X.N[iC]? = _; rw [ok.N]; exact hNC) (ok.loc hVC) (he _) (hs _) (.inl (ok.fnT y)))
  · refine ⟨⟨fun c σ' H' => (c ∈ kn → isB c cx = true → ∃ d, tB g (LJ d) D (f d) E (σ'.set iC (some v)) H') ∧ (c ∈ kn) ∧ (isB c cx = false → g.W c σ' H'), fun c σ' H' ⟨z1, z2, z3⟩ => ?_⟩, kp, own, at_, ?_⟩
    · exact ⟨isB c cx, by rw [ok.K]; exact hkn.exm c z2 cx hcx, fun hB ad hn => z1 z2 hB, fun hB => ⟨c, rfl, rfl, z3 hB⟩⟩
    · cases mb with
      | ok s => exact fun σ' H' own' a' => ⟨s, kp, own', a', q⟩
      | no => exact q.elim
      | ex c =>
        intro σ' H' own' a'
        have q : BOk g kp E D (((if c ∈ kn then (if isB c cx = true then M.ok h else .ex c) else .no) : M β).bind f) := q
        by_cases hc : c ∈ kn
        · rw [if_pos hc] at q
          refine ⟨fun _ hB => ?_, hc, fun hB => ?_⟩
          · rw [if_pos hB] at q
            obtain ⟨own3, a3⟩ := a'.setV (i := iC) (b := false) (T := S) (d := dv) (v := v) (hrep _)
            obtain ⟨own5, a5, _⟩ := a3.weak hh
            exact ⟨h, kp, own5, a5, q⟩
          · rw [if_neg (by rw [hB]; exact Bool.false_ne_true)] at q
            obtain ⟨own2, a2, _⟩ := a'.weak wk
            exact q σ' H' own2 a2
        · rw [if_neg hc] at q; exact q.elim
/-! ### called() -/
def tAny : Ty Unit := ⟨fun _ _ _ => True, fun h _ => h⟩
structure Cl (p : Pr) (c : Ec) (t : Tx) : Prop where
  ex : ∃ (f : Addr) (fd : FuncData), FnOk p.P p.w p.K p.mg p.base (L2.CX p.P p.w) 1 f fd ["self"] (spM p (aCons tAny aNil) (fun r => .rt false tStr r) (fun _ => .ok t)) ∧ Meth p.K (p.C c) "called" f ∧ Binds p.K fd ["self"] []
def calledM (kc : List (Ec × Tx)) (c : Ec) : M Tx := match kc.lookup c with
  | some t => .ok t
  | none => .no
theorem calledM_ne {kc : List (Ec × Tx)} {c z : Ec} : calledM kc c ≠ .ex z := by unfold calledM; split <;> exact fun h => nomatch h
theorem getm {X : Cx} {pins : List (Addr × Obj)} {σ : L2.St} {H : Hp} {s : Shared} {ad D f : Addr} {pl : Sem Bool} {Q : Value × List Value → Shared → Prop} {A : Around} {E : Value → Shared → Prop} (I : Inv X pins σ H s) (h : Rd H ad (ExQ (.ref D) ad)) (C : ExcC X.K D) (m : Meth X.K D "called" f)
    (hq : Q (.ref f, [.ref ad]) s) : wpAny (model X.prog X.w) A (getMethod (.ref ad) "called" pl) Q E s := by
  obtain ⟨⟨oe, vs, he, hz, hd⟩, _⟩ := (show ObjOk X.prog X.w H s.heap ad (ExQ (.ref D) ad) from h.ok I.hok)
  have J : PySem.W.InstAt s.heap ad oe D none := by
    obtain ⟨oc, od, oda, osl⟩ := oe
    obtain ⟨h1, h2⟩ := hz
    dsimp only at h1 h2 hd
    subst h1 h2 hd
    exact ⟨he, rfl, rfl, trivial⟩
  obtain ⟨m', F⟩ := I.fr
  exact PySem.W.method_exc0 F I.mod.kin J C.hg C.hk m.at_ m.fn hq
def tCalled (X : Cx) (ta : TE) : TE := fun σ H Q => ta σ H fun v H1 => ∃ (ad D f : Addr) (fd : FuncData) (sp : Sp), v = .ref ad ∧ Rd H1 ad (ExQ (.ref D) ad) ∧ ExcC X.K D ∧ Meth X.K D "called" f ∧ FnOk X.prog X.w X.K X.mg X.base (L2.CX X.prog X.w) 1 f fd ["self"] sp ∧ Binds X.K fd ["self"] [] ∧ sp [.ref ad] H1 Q fun _ _ _ => False
theorem pe_called {X : Cx} {o : Expr} {ta : TE} {apos : Pos} {pl : Sem Bool} (he : PE X o ta) (hr : Room 1 X.A)
    (ht : eval (.Call (.Attribute o "called" apos) [] [] pos) X.env = (do
      let ov ← eval o X.env
      standAt apos.atName
      let (f, first) ← holding [ov] (getMethod ov "called" pl)
      callWith pos f first (backTo pos (starEach [] X.env)) (backToKw pos (keywordEach [] X.env))) := by rfl) :
    PE X (.Call (.Attribute o "called" apos) [] [] pos) (tCalled X ta) := by
  refine ⟨fun pins s σ H Q I h => ?_⟩
  refine PySem.W.methodCall_KW (pl := pl) (thn (he.run pins s σ H _ I h) fun u s1 ⟨x, H1, I1, rx, q⟩ => ?_) ht
  obtain ⟨ad, D, f, fd, sp, rfl, hR, C, m, F, hb, hq⟩ := q
  obtain rfl : u = Value.ref ad := rx
  refine getm I1 hR C m ?_
  exact PySem.W.callWith_K0 (first := [.ref ad]) I1.kIn m.kp (run_fn (us := [.ref ad]) (vs := [.ref ad]) (dvs := []) (ds := []) F hr hb .nil (E := fun _ _ _ => False) (by intro a1 a2 a3 a4 a5 a6 a7 a8; obtain ⟨_, _, _, _, _, _, _, _, _, _, _, _, z⟩ := a8; exact z.elim) I1 (.cons rfl .nil) hq)
theorem ev_called {kn : List Ec} {kc : List (Ec × Tx)} {m : M Ec} {apos : Pos} {pl : Sem Bool} (ok : Ok p sc NN VV GG k g) (hk1 : 1 ≤ k) (hkn : Kn p kn) (hkc : ∀ c t, kc.lookup c = some t → c ∈ kn ∧ Cl p c t) (ha : EvE g L a md (tExc p) m)
    (ht : eval (.Call (.Attribute a "called" apos) [] [] pos) g.X.env = (do
      let ov ← eval a g.X.env
      standAt apos.atName
      let (f, first) ← holding [ov] (getMethod ov "called" pl)
      callWith pos f first (backTo pos (starEach [] g.X.env)) (backToKw pos (keywordEach [] g.X.env))) := by rfl) :
    EvE g L (.Call (.Attribute a "called" apos) [] [] pos) md' tStr (m.bind fun c => calledM kc c) := by
  refine PE.imp (pe_called (pl := pl) ha (ok.room.mono hk1) ht) fun σ H Q q => ?_
  obtain ⟨kp, own, at_, q⟩ := tE_iff.mp q
  refine sub finE (Same.refl H) at_ q fun c v H1 s1 r1 at1 q1 => ?_
  unfold calledM at q1
  cases hl : kc.lookup c with
  | none => rw [hl] at q1; exact q1.elim
  | some t =>
    rw [hl] at q1
    obtain ⟨hc, hC⟩ := hkc c t hl
    obtain ⟨f, fd, F, mth, bd⟩ := hC.ex
    obtain ⟨ad, rfl, hR⟩ := r1
    have hR' : Rd H1 ad (ExQ (.ref (p.C c)) ad) := (RX.rdb (md := md) _ _ hR).resolve_right fun z => z
    rw [← ok.prog, ← ok.w, ← ok.base] at F
    refine ⟨ad, p.C c, f, fd, _, rfl, hR', by rw [ok.K]; exact hkn.isc c hc, by rw [ok.K]; exact mth, by rw [ok.K, ok.mg]; exact F, by rw [ok.K]; exact bd, ?_⟩
    show ∃ d z, _ ∧ _ ∧ _
    refine ⟨((), ()), fun _ => False, ⟨fun _ z => z.elim, fun P e => at1.same.tab P (ok.tab P e)⟩, ⟨.ref ad, [], rfl, trivial, rfl⟩, ?_⟩
    exact fun v H' s r => q1 v H' (s1.trans s) r
end
/-! ### the head with the classes -/
def excCB (K : PySem.W.Frag) (D : Addr) : Bool :=
  He.eqO (PySem.W.findIn K (.ref D) "__getattribute__") (some (some (.builtin "BaseException.__getattribute__"))) && (He.eqO (PySem.W.findIn K (.ref D) "__getattr__") (some none) && (decide (PySem.W.subIn K (.ref D) (.type "BaseException") = some true) && (PySem.W.hasDictIn K D &&
    (He.eqO (PySem.W.findIn K (.ref D) "__class__") (some (some (.builtin "object.__class__"))) && (He.eqO (PySem.W.specialIn K (.builtin "object.__class__") "__get__") (some (some (.builtin "getset_descriptor.__get__"))) && (decide (PySem.W.takesIn K (.builtin "object.__class__") = some true) && decide (PySem.W.mroIn K D (.type "object") = some true)))))))
theorem excCB_ok {K : PySem.W.Frag} {D : Addr} (h : excCB K D = true) : ExcC K D := by
  obtain ⟨h1, h⟩ := He.ba h
  obtain ⟨h2, h⟩ := He.ba h
  obtain ⟨h3, h⟩ := He.ba h
  obtain ⟨h4, h⟩ := He.ba h
  obtain ⟨h5, h⟩ := He.ba h
  obtain ⟨h6, h⟩ := He.ba h
  obtain ⟨h7, h8⟩ := He.ba h
  exact ⟨He.eqO_ok h1, He.eqO_ok h2, of_decide_eq_true h3, h4, He.eqO_ok h5, He.eqO_ok h6, of_decide_eq_true h7, of_decide_eq_true h8⟩
def knB (kn : List Ec) (K : PySem.W.Frag) : Bool := kn.all fun c => excCB K (He.ga K (ecName c)) && (kn.all (fun d => decide (PySem.W.exmOne K (.ref (He.ga K (ecName c))) (.ref (He.ga K (ecName d))) = some (isB c d)) && decide (PySem.W.kitOne K (.ref (He.ga K (ecName c))) (.ref (He.ga K (ecName d))) = some (isB c d))) &&
  (decide (PySem.W.kitOne K (.ref (He.ga K (ecName c))) (.type "ValueError") = some true) && decide (PySem.W.kitOne K (.type "NoneType") (.ref (He.ga K (ecName c))) = some false)))
theorem kn_ok {kn : List Ec} {K : PySem.W.Frag} {P : Program} {w : World} {mg : Str → Option Value} {base : Heap} {T : Option Addr} (h : knB kn K = true) : Kn ⟨P, w, K, mg, base, fun c => He.ga K (ecName c), T⟩ kn := by
  have key := fun c hc => List.all_eq_true.mp h c hc
  refine ⟨fun c hc => ?_, fun c hc d hd => ?_, fun c hc d hd => ?_, fun c hc => ?_, fun c hc => ?_⟩
  · exact excCB_ok (He.ba (key c hc)).1
  · have h1 := (He.ba (He.ba (key c hc)).2).1
    exact of_decide_eq_true (He.ba (List.all_eq_true.mp h1 d hd)).1
  · have h1 := (He.ba (He.ba (key c hc)).2).1
    exact of_decide_eq_true (He.ba (List.all_eq_true.mp h1 d hd)).2
  · exact of_decide_eq_true (He.ba (He.ba (He.ba (key c hc)).2).2).1
  · exact of_decide_eq_true (He.ba (He.ba (He.ba (key c hc)).2).2).2
abbrev AlE : Type := Bool × He.AlD
def obsE (fa : List He.Fa) (fn : List He.DefD) (ex : PySem.W.Frag → Bool) (K : PySem.W.Frag) : AlE := (ex K, He.obsD fa fn K)
def obsEG (n : Nat) (fa : List He.Fa) (fn : List He.DefD) (ex : PySem.W.Frag → Bool) (g : Addr → Option Obj) : AlE := obsE fa fn ex (He.frG g (He.asD g n))
def hookE (n : Nat) (fa : List He.Fa) (fn : List He.DefD) (ex : PySem.W.Frag → Bool) : PySem.W.Hook where
  α := AlE
  obs := fun s => obsEG n fa fn ex s.heap.get?
  val := fun _ => (true, He.valD fn)
  says := fun _ h => ∃ K : PySem.W.Frag, K.In h ∧ ex K = true ∧ He.SaysD fa fn K
  of := fun _ _ e => ⟨_, He.frG_in, congrArg (fun z : AlE => z.1) e, congrArg (fun z : AlE => z.2) e⟩
  keeps := fun _ _ _ ⟨K, hK, h1, c⟩ kk => ⟨K, PySem.W.Frag.In.keeps hK kk, h1, c⟩
theorem obsEG_eq {n : Nat} {fa : List He.Fa} {fn : List He.DefD} {ex : PySem.W.Frag → Bool} {g : Addr → Option Obj} {s : Shared} (h : ∀ a, g a = s.heap.get? a) : obsEG n fa fn ex g = (hookE n fa fn ex).obs s := by
  have e : g = s.heap.get? := funext h
  rw [e]; rfl
def clsBody : Stmt → List Stmt
  | .ClassDef _ _ _ b _ _ _ _ _ _ _ => b
  | _ => []
end Hd

namespace Hd
open PySem PySem.Spec L2
theorem kc_nil {p : Pr} {kn : List Ec} : ∀ c t, ([] : List (Ec × Tx)).lookup c = some t → c ∈ kn ∧ Cl p c t := fun _ _ h => nomatch h
theorem kc_cons {p : Pr} {kn : List Ec} {c0 : Ec} {t0 : Tx} {l : List (Ec × Tx)} (h1 : c0 ∈ kn) (h2 : Cl p c0 t0) (h : ∀ c t, l.lookup c = some t → c ∈ kn ∧ Cl p c t) : ∀ c t, ((c0, t0) :: l).lookup c = some t → c ∈ kn ∧ Cl p c t := by
  intro c t e
  rw [List.lookup_cons] at e
  by_cases q : c = c0
  · subst q
    simp at e
    subst e
    exact ⟨h1, h2⟩
  · have : (c == c0) = false := by simpa using q
    rw [this] at e
    exact h c t e
end Hd

namespace Hd
open PySem PySem.Spec L2
section
variable {p : Pr} {sc : Scope} {NN VV GG : List Str} {k : Nat} {g : G} {α : Type} {S : Ty α}
theorem eqvN_l {x : PyData} (h : x ≠ .none) : PyData.eqv .none x = false := by cases x <;> first | rfl | exact absurd rfl h | simp [PyData.eqv]
theorem eqvN_r {x : PyData} (h : x ≠ .none) : PyData.eqv x .none = false := by cases x <;> first | rfl | exact absurd rfl h | simp [PyData.eqv]
/-- None or a thing -/
def dOpt (D : Deep S) (h : ∀ d, D.pd d ≠ .none) : Deep (tOpt S) := ⟨fun d => match d with | none => .none | some d => D.pd d, D.dp, fun {K d v R H} rb r => by
    cases d with
    | none => cases (show v = .non from r); exact ⟨.non, rfl⟩
    | some d => exact D.rep rb r.1, fun d => by
    cases d with
    | none => simp [PyData.depth]
    | some d => exact D.dep d, fun d e => by
    cases d with
    | none => cases e with
      | none => simp [PyData.eqv]
      | some e => simp [eqvN_l (h e)]
    | some d => cases e with
      | none => simp [eqvN_r (h d)]
      | some e => simpa using D.eqv d e⟩
def memD {α : Type} [DecidableEq α] (x : α) (xs : List α) : Bool := decide (x ∈ xs)
theorem any_eqv [DecidableEq α] (D : Deep S) (d : α) : ∀ ds : List α, ((ds.map D.pd).any fun z => PyData.eqv z (D.pd d)) = memD d ds
  | [] => by simp [memD]
  | e :: ds => by
    rw [List.map_cons, List.any_cons, any_eqv D d ds, D.bq]
    unfold memD
    by_cases h : e = d
    · subst h; simp
    · have : ¬ d = e := fun z => h z.symm
      simp [h, this]
theorem c_inD [DecidableEq α] (ok : Ok p sc NN VV GG k g) (D : Deep S) (hd : D.dp + 1 ≤ 64) : CmpOk p g.X .In S (tList S) (fun x xs => memD x xs) := ⟨rInD p.K, by rw [← ok.K]; exact op_inD (by have := ok.room.un; omega), ⟨fun {d e x y R H Q} rb rx ry q => by
  obtain ⟨a1, a2⟩ := D.rep rb rx
  obtain ⟨b1, b2⟩ := (dList D).rep rb ry
  exact ⟨_, _, a1, b1, D.sh (Nat.le_trans (Nat.le_succ _) hd) a2, (dList D).sh hd b2, q _ _ (Same.refl _) (by show _ = V.bl _; rw [any_eqv])⟩⟩⟩
theorem c_notinD [DecidableEq α] (ok : Ok p sc NN VV GG k g) (D : Deep S) (hd : D.dp + 1 ≤ 64) : CmpOk p g.X .NotIn S (tList S) (fun x xs => !memD x xs) := ⟨rNotInD p.K, by rw [← ok.K]; exact op_notInD (by have := ok.room.un; omega), ⟨fun {d e x y R H Q} rb rx ry q => by
  obtain ⟨a1, a2⟩ := D.rep rb rx
  obtain ⟨b1, b2⟩ := (dList D).rep rb ry
  exact ⟨_, _, a1, b1, D.sh (Nat.le_trans (Nat.le_succ _) hd) a2, (dList D).sh hd b2, q _ _ (Same.refl _) (by show _ = V.bl _; rw [any_eqv])⟩⟩⟩
variable {L : List Slot} {a b : Expr} {md md' : Md} {pos : Pos}
theorem evt_isN {m : M (Option α)} {j1 : Nat} {p1 : Pos} (ok : Ok p sc NN VV GG k g) (ha : EvE g L a md (tOpt S) m) : EvT g L (.Compare a [.Is] [.Constant .none j1 p1] pos) (m.bind fun d => .ok d.isNone) := by
  have h := evt_cmp (fr := true) (pos := pos) (S := tOpt S) (T := tNone) (f := fun d _ => .ok d.isNone) ok op_isN ⟨fun {d e x y R H W} rb rx ry q => ⟨ry, q _ _ (Same.refl _) (by
    show _ = V.bl _
    cases d with
    | none => cases (show x = .non from rx); rfl
    | some d => rw [decide_eq_false rx.2]; rfl)⟩⟩ (fun _ _ _ h => nomatch h) ha (ev_none (j := j1) (pos := p1)) (by first | exact nomark _ (by decide) (by decide) | rfl)
  have e : (m.bind fun d => (M.ok ()).bind fun _ => M.ok d.isNone) = m.bind fun d => .ok d.isNone := by cases m <;> rfl
  rwa [e] at h
theorem evt_notN {m : M (Option α)} {j1 : Nat} {p1 : Pos} (ok : Ok p sc NN VV GG k g) (ha : EvE g L a md (tOpt S) m) : EvT g L (.Compare a [.IsNot] [.Constant .none j1 p1] pos) (m.bind fun d => .ok d.isSome) := by
  have h := evt_cmp (fr := true) (pos := pos) (S := tOpt S) (T := tNone) (f := fun d _ => .ok d.isSome) ok op_notN ⟨fun {d e x y R H W} rb rx ry q => ⟨ry, q _ _ (Same.refl _) (by
    show _ = V.bl _
    cases d with
    | none => cases (show x = .non from rx); rfl
    | some d => rw [decide_eq_false rx.2]; rfl)⟩⟩ (fun _ _ _ h => nomatch h) ha (ev_none (j := j1) (pos := p1)) (by first | exact nomark _ (by decide) (by decide) | rfl)
  have e : (m.bind fun d => (M.ok ()).bind fun _ => M.ok d.isSome) = m.bind fun d => .ok d.isSome := by cases m <;> rfl
  rwa [e] at h
theorem evt_inS {m1 m2 : M Tx} (ok : Ok p sc NN VV GG k g) (ha : EvE g L a md tStr m1) (hb : EvE g L b md tStr m2) (hk : behindInMarks .In b = false := by first | exact nomark _ (by decide) (by decide) | rfl) : EvT g L (.Compare a [.In] [b] pos) (m1.bind fun x => m2.bind fun y => inSM x y) :=
  evt_cmp (fr := true) ok op_in_sign ⟨fun {d e x y R H Q} rb rx ry q => by
    unfold inSM at q
    split at q
    · rename_i c
      exact ⟨c, toS e, rx.1, ry.1, q _ _ (Same.refl _) (by show V.bl _ = V.bl _; rw [show (toS e).cps.toList = e from tl_toS e])⟩
    · exact q.elim⟩ (fun _ _ _ => inSM_ne) ha hb hk
theorem evt_notinS {m1 m2 : M Tx} (ok : Ok p sc NN VV GG k g) (ha : EvE g L a md tStr m1) (hb : EvE g L b md tStr m2) (hk : behindInMarks .NotIn b = false := by first | exact nomark _ (by decide) (by decide) | rfl) : EvT g L (.Compare a [.NotIn] [b] pos) (m1.bind fun x => m2.bind fun y => notinSM x y) :=
  evt_cmp (fr := true) ok op_notIn_sign ⟨fun {d e x y R H Q} rb rx ry q => by
    unfold notinSM at q
    split at q
    · rename_i c
      exact ⟨c, toS e, rx.1, ry.1, q _ _ (Same.refl _) (by show V.bl _ = V.bl _; rw [show (toS e).cps.toList = e from tl_toS e])⟩
    · exact q.elim⟩ (fun _ _ _ => notinSM_ne) ha hb hk
end
end Hd

namespace Hd
open PySem PySem.Spec L2
section
variable {X : Cx} {p : Pr} {sc : Scope} {NN VV GG : List Str} {k : Nat} {g : G} {L : List Slot} {a b e tg : Expr} {md md' : Md} {pos pp : Pos} {j : Nat} {α β : Type} {S : Ty α} {T : Ty β}
/-! ### text * number -/
theorem flat_arr (d : Tx) : ∀ n : Nat, ((List.replicate n d.toArray).foldl (· ++ ·) #[]) = (List.replicate n d).flatten.toArray := by
  have key : ∀ (n : Nat) (acc : Array Nat), ((List.replicate n d.toArray).foldl (· ++ ·) acc) = acc ++ (List.replicate n d).flatten.toArray := by
    intro n
    induction n with
    | zero => intro acc; simp
    | succ n ih => intro acc; rw [List.replicate_succ, List.foldl_cons, ih, List.replicate_succ, List.flatten_cons]; simp
  intro n
  rw [key n]
  simp
theorem flat_len {α : Type} (d : List α) : ∀ n : Nat, (List.replicate n d).flatten.length = d.length * n
  | 0 => by simp
  | n + 1 => by rw [List.replicate_succ, List.flatten_cons, List.length_append, flat_len d n, Nat.mul_succ, Nat.add_comm]
def rRepS : R2 := fun x y H Q => ∃ (d : Tx) (n : Int), x = .str (toS d) ∧ y = .int n ∧ -(2 ^ 63) ≤ n ∧ n < 2 ^ 63 ∧ d.length * n.toNat ≤ sizeLine ∧ Q (.str (toS (List.replicate n.toNat d).flatten)) H
theorem op_rep_str : OpR X (binaryOp .Mult) rRepS := by
  intro pins s σ H x y v u Q I rx ry h
  obtain ⟨d, n, rfl, rfl, h1, h2, h3, q⟩ := h
  obtain ⟨t, rfl⟩ := rx
  obtain ⟨t', rfl⟩ := ry
  have hz : sizeLine < 2 ^ 40 := by decide
  have hl : (toS d).length = d.length := toS_len d
  refine P.mul_str (by simp; omega) (fun a b => ?_) (fun a b => ?_) ?_
  · rw [hl]
    intro z
    have hn : 0 < n := by omega
    have : ((2 ^ 63 - 1 : Int)) / n < d.length := z
    have h4 := (Int.ediv_lt_iff_lt_mul hn).mp this
    have h5 : ((d.length * n.toNat : Nat) : Int) = (d.length : Int) * n := by push_cast; rw [Int.toNat_of_nonneg (by omega)]
    omega
  · rw [hl]; show decide (_ > sizeLine) = false; exact decide_eq_false (by omega)
  · by_cases c : n < 1
    · rw [if_pos c]
      have e : n.toNat = 0 := by omega
      rw [e] at q
      exact ⟨by decide, ⟨.str (toS (List.replicate 0 d).flatten), H, I.tok _, ⟨_, rfl⟩, q⟩⟩
    · rw [if_neg c]
      by_cases c2 : (n == 1 || (toS d).length == 0) = true
      · rw [if_pos c2]
        have e : (List.replicate n.toNat d).flatten = d := by
          rw [hl] at c2
          simp only [Bool.or_eq_true, beq_iff_eq] at c2
          rcases c2 with e | e
          · subst e; simp
          · have : d = [] := List.length_eq_zero_iff.mp e
            subst this
            simp
        rw [e] at q
        exact ⟨.str (toS d), H, I, ⟨_, rfl⟩, q⟩
      · rw [if_neg c2]
        refine ⟨?_, ⟨.str (toS (List.replicate n.toNat d).flatten), H, I.tok _, ⟨s.toks, ?_⟩, q⟩⟩
        · show _ ≤ sizeLine
          have e : (⟨(List.replicate n.toNat (toS d).cps).foldl (· ++ ·) #[]⟩ : Str) = toS (List.replicate n.toNat d).flatten := congrArg Str.mk (flat_arr d n.toNat)
          rw [e, toS_len, flat_len]
          omega
        · show Value.str _ _ = Value.str _ _
          congr 1
          show Str.mk _ = Str.mk _
          congr 1
          exact flat_arr d n.toNat
def repS (x : Tx) (n : Int) : M Tx := if -(2 ^ 63) ≤ n ∧ n < 2 ^ 63 ∧ x.length * n.toNat ≤ sizeLine then .ok (List.replicate n.toNat x).flatten else .no
theorem repS_ne {x : Tx} {n : Int} {c : Ec} : repS x n ≠ .ex c := by unfold repS; split <;> exact fun h => nomatch h
theorem ev_repS {ma : M Tx} {mb : M Int} (ok : Ok p sc NN VV GG k g) (ha : EvE g L a md tStr ma) (hb : EvE g L b md tInt mb) : EvE g L (.BinOp a .Mult b pos) md' tStr (ma.bind fun x => mb.bind fun n => repS x n) :=
  ev_op2 (fr := true) ok op_rep_str ⟨fun {d e x y R H Q} rb rx ry q => by
    unfold repS at q
    split at q
    · rename_i h
      refine ⟨d, e, rx.1, ry, h.1, h.2.1, h.2.2, q _ _ (Same.refl _) ⟨rfl, ?_, fun c hc => ?_⟩⟩
      · rw [flat_len]; exact h.2.2
      · obtain ⟨l, hl, hc⟩ := List.mem_flatten.mp hc
        rw [(List.mem_replicate.mp hl).2] at hc
        exact rx.2.2 c hc
    · exact q.elim⟩ (fun _ _ _ => repS_ne) .fresh ha hb
end
end Hd

namespace Hd
open PySem PySem.Spec PyProof.Rows L2
section
variable {p : Pr} {sc : Scope} {NN VV GG : List Str} {k : Nat} {g : G} {L : List Slot} {a b e tg : Expr} {md md' : Md} {pos pp : Pos} {j : Nat} {α β δ : Type} {S : Ty α} {T : Ty β} {A : Ar δ}
/-! ### tuples: how long, walked -/
theorem ev_lenT {n : Nat} {m : M δ} (ok : Ok p sc NN VV GG k g) (hA : ∀ {d vs R}, A.rep d vs R → vs.length = n) (hG : GG[j]? = some "len") (hmg : p.mg "len" = none) (ha : EvE g L e md (tTup A) m) (hs : starEach [e] g.X.env = (false, eval e g.X.env) :: starEach [] g.X.env := by rfl) : EvE g L (.Call (.Name "len" pp) [e] [] pos) md' tInt (m.bind fun _ => .ok (n : Int)) :=
  ev_b1 (S := tTup A) (fr := true) ok call_len_seq (fun {d v R H W} rb ⟨a, vs, e, h, r⟩ q => by
    exact ⟨a, vs, by rw [e], .inr (by rw [ok.K]; exact st_of rb h), q _ _ (Same.refl _) (by show _ = V.int _; rw [hA r])⟩) (fun _ _ h => nomatch h) .fresh hG hmg PySem.boot_len ha hs
structure HomA (A : Ar δ) (S : Ty α) (f : δ → List α) : Prop where
  r : ∀ {d vs R}, A.rep d vs R → Reps S R (f d) vs
theorem hom0 : HomA aNil S (fun _ => []) := ⟨fun {d vs R} h => by cases (show vs = [] from h); exact .nil⟩
theorem homS {f : δ → List α} (h : HomA A S f) : HomA (aCons S A) S (fun d => d.1 :: f d.2) := ⟨fun {d vs R} q => by
  obtain ⟨v, r, e, h1, h2⟩ := q
  subst e
  exact .cons h1 (h.r h2)⟩
theorem evi_tupL {m : M (List α)} (ok : Ok p sc NN VV GG k g) (he : EvE g L e md (tTupL S) m) : EvI g L tg e S m := by
  refine PI.imp (pi_tup he) fun σ H R ⟨kp, own, at_, q⟩ => ?_
  refine tE_iff.mpr ⟨kp, own, at_, ?_⟩
  cases m with
  | ok xs =>
    rintro v H' s ⟨a, vs, rfl, h, r⟩
    have hk : RD g.fm own H' a (.tup vs) := RX.sh a _ h
    have rb0 : Rdb p.K (RD g.fm own H') H' := by rw [← ok.fmK]; exact RD.rdb
    refine ⟨a, rfl, ⟨vs, by rw [ok.K]; exact st_of rb0 hk⟩, ?_⟩
    rw [show Itt g.X.K a = Itt g.fm.K a from by rw [ok.K, ok.fmK]]
    refine q (Itt g.fm.K a) H' s fun H2 rb i => ?_
    have hs : SqT g.fm.K H2 a vs := st_of rb hk
    refine ⟨fun d hd => ?_, fun hn => ⟨vs, hs, ?_⟩⟩
    · obtain ⟨v, h1, h2⟩ := r.get hd
      refine ⟨⟨vs, v, hs, h1⟩, fun x H3 ⟨e, hx⟩ => ?_⟩
      subst e
      have := hx vs hs
      rw [h1] at this
      cases this
      exact ⟨Same.refl _, S.mono h2 fun a o z => .inl ⟨rfl, RX.sh a o z⟩⟩
    · rw [List.getElem?_eq_none_iff, r.length] at hn
      exact hn
  | ex c => exact q
  | no => exact q
theorem evi_tupH {f : δ → List α} {m : M δ} (ok : Ok p sc NN VV GG k g) (hA : HomA A S f) (he : EvE g L e md (tTup A) m) : EvI g L tg e S (m.bind fun d => .ok (f d)) :=
  evi_tupL (S := S) ok (ev_as (S := tTup A) (T := tTupL S) (d2 := f) (fun d v R ⟨a, vs, e, h, r⟩ => ⟨a, vs, e, h, hA.r r⟩) he)
/-! ### enumerate(text) -/
def ItEs (x : Str) : It := ⟨fun i _ => i < x.cps.size, fun i H v H' => ∃ T c, v = .ref T ∧ H T = none ∧ H' = upd H T (.tup [.int (i : Nat), .str ⟨#[c]⟩]) ∧ x.cps[i]? = some c, fun i _ => x.cps.size ≤ i⟩
theorem turn_enumS {P : Program} {w : World} {K : PySem.W.Frag} {elts : List Expr} {kk : Nat} {tpos : Pos} (e it : Addr) (x : Str) (t : Tok) (ty : String) (hty : ty = "str_ascii_iterator" ∨ ty = "str_iterator") :
    Turn P w K (.Tuple elts kk tpos) (ItEs x) [e, it] e (fun i h => (∃ old, IsEnum h e it ((i : Nat) : Int) old) ∧ h.IsStrIter it ty x t i ∧ e ≠ it ∧ i ≤ x.cps.size) where
  mem := by simp
  obj := fun i h st b hb => by
    obtain ⟨⟨old, he⟩, ⟨o, ho, hc, hd⟩, _⟩ := st
    have e' : b = e ∨ b = it := by simpa using hb
    rcases e' with z | z
    · rw [z]; exact ⟨_, he, fun v q => nomatch q⟩
    · rw [z]; exact ⟨o, ho, fun v q => by rw [hd] at q; cases q⟩
  keep := fun i h h' st k => let ⟨⟨old, he⟩, ⟨o, ho, r⟩, hne⟩ := st; ⟨⟨old, k e (by simp) _ he⟩, ⟨o, k it (by simp) o ho, r⟩, hne⟩
  item := by
    intro X hP hw hK hc i pins s σ H E I hf st hg
    subst hP hw hK
    obtain ⟨⟨old, he⟩, hit, hne, hle⟩ := st
    have D : Draws X.prog X.w X.A.in1 it [it] x.cps.size (fun i v => ∃ c u, x.cps[i]? = some c ∧ v = .str ⟨#[c]⟩ u) (fun i h => h.IsStrIter it ty x t i) := by
      rcases hty with e | e
      · rw [e]; exact Draws.strAscii (A := X.A.in1) (I.ok.hd hc) it x t
      · rw [e]; exact Draws.strWide (A := X.A.in1) (I.ok.hd hc) it x t
    have hel : e < s.heap.objs.size := Heap.lt_size he
    have hil : it < s.heap.objs.size := by obtain ⟨_, q, _⟩ := hit; exact Heap.lt_size q
    refine wpAny_pyNext_enum_itemD D he hit hg hne (by simpa using hne) fun u h' tk hP ho hit' hT hsz hk => ?_
    obtain ⟨c, t2, hcx, rfl⟩ := hP
    refine ⟨_, rfl, wpAny_letOwnedTupleGo_enum (s := { s with heap := h', toks := tk + 1 }) ho fun h'' he' sb => ?_⟩
    have hT2 : h''.get? s.heap.objs.size = some { cls := .type "tuple", data := .seq #[.int i tk, .str ⟨#[c]⟩ t2] } := (sb.2 _ (Nat.ne_of_gt hel)).trans hT
    have new : ObjOk X.prog X.w (upd H s.heap.objs.size (.tup [.int (i : Nat), .str ⟨#[c]⟩])) h'' s.heap.objs.size (.tup [.int (i : Nat), .str ⟨#[c]⟩]) :=
      ⟨by show 2 ≤ sizeLine; decide, [.int i tk, .str ⟨#[c]⟩ t2], .cons ⟨_, rfl⟩ (.cons ⟨_, rfl⟩ .nil), ⟨_, hT2, rfl, _, rfl⟩⟩
    have I1 : Inv X pins σ (upd H s.heap.objs.size (.tup [.int (i : Nat), .str ⟨#[c]⟩])) { s with heap := h'', toks := tk + 1 } :=
      I.turnedNew (ch := [e, it]) (fun b ob hb q => (sb.2 b (fun z => hb (by simp [z]))).trans (hk b ob (fun z => hb (by simp [z])) (fun z => hb (by simp [z])) q)) hf (Nat.le_refl _) new
    refine ⟨.ref s.heap.objs.size, _, I1, rfl, ⟨_, c, rfl, I.hok.fresh (Nat.le_refl _), rfl, hcx⟩, ⟨⟨.str ⟨#[c]⟩ t2, ?_⟩, D.frame _ _ _ hit' fun b hb o q => (sb.2 b (fun z => hne (by rw [← z]; simpa using hb))).trans q, hne, hg⟩, fun b hb => ?_⟩
    · have e1 : ((i + 1 : Nat) : Int) = (i : Int) + 1 := by omega
      rw [e1]; exact he'
    · have hb' : b < s.heap.objs.size := by
        have e' : b = e ∨ b = it := by simpa using hb
        rcases e' with z | z
        · rw [z]; exact hel
        · rw [z]; exact hil
      rw [upd_ne (Nat.ne_of_lt hb')]
      exact (hf b hb).1
  done := by
    intro X hP hw hK hc i pins s σ H E I hf st hg
    subst hP hw hK
    obtain ⟨⟨old, he⟩, hit, hne, hle⟩ := st
    have D : Draws X.prog X.w X.A.in1 it [it] x.cps.size (fun i v => ∃ c u, x.cps[i]? = some c ∧ v = .str ⟨#[c]⟩ u) (fun i h => h.IsStrIter it ty x t i) := by
      rcases hty with e | e
      · rw [e]; exact Draws.strAscii (A := X.A.in1) (I.ok.hd hc) it x t
      · rw [e]; exact Draws.strWide (A := X.A.in1) (I.ok.hd hc) it x t
    obtain ⟨f0, f1, f2, f3, f4, f5⟩ := hf it (by simp)
    have e1 : i = x.cps.size := Nat.le_antisymm hle hg
    subst e1
    exact wpAny_pyNext_enum_endD D he hit fun h' eb => ⟨rfl, I.turned (t' := s.toks) (fun b o hb q => eb b o hb q) f0 f1 f3 f4 f5⟩
  self := fun A i s Q E st h => let ⟨⟨_, he⟩, _⟩ := st; wpAny_pyIter_enum he h
def iEnumS (ta : TA) : TI := fun σ H R => ta σ H fun vs H1 => ∃ x, vs = [.str x] ∧ R (ItEs x) H1
theorem pi_enumS {X : Cx} {e : Expr} {ta : TA} {p pos tpos : Pos} {elts : List Expr} {kk : Nat} (hg : Gl X "enumerate") (hm : X.mg "enumerate" = none) (ha : PA X [e] ta) (hs : starEach [e] X.env = [(false, eval e X.env)] := by rfl) :
    PI X (.Tuple elts kk tpos) (.Call (.Name "enumerate" p) [e] [] pos) (iEnumS ta) := by
  refine ⟨fun pins s σ H R I h => ?_⟩
  refine Call_ (ld_blt I hg hm boot_enumerate (PyProof.Rows.callWith_type1 (thn (ha.run pos pins s σ H _ I h) fun us s1 ⟨vs, H1, I1, r1, q1⟩ => ?_) hs rfl))
  obtain ⟨x, ex, q⟩ := q1
  subst ex
  cases r1 with
  | cons r rr =>
    cases rr
    obtain ⟨t, rfl⟩ := r
    refine call_enumerate_str fun h' he hit hsz hk => wpAny_pyIter_enum he ?_
    have I2 : Inv X pins σ H1 { s1 with heap := h' } := I1.kept (t' := s1.toks) hk
    refine ⟨s1.heap.objs.size + 1, [s1.heap.objs.size + 1, s1.heap.objs.size], _, _, H1, rfl, I2, turn_enumS (s1.heap.objs.size + 1) s1.heap.objs.size x t (strIterType x) ?_, ⟨⟨.none, he⟩, hit, Nat.succ_ne_self _, Nat.zero_le _⟩, fun b hb => ?_, q⟩
    · unfold strIterType
      split
      · exact .inl rfl
      · exact .inr rfl
    · have e' : b = s1.heap.objs.size + 1 ∨ b = s1.heap.objs.size := by simpa using hb
      have hle : s1.heap.objs.size ≤ b := by
        rcases e' with z | z
        · rw [z]; exact Nat.le_add_right _ _
        · rw [z]; exact Nat.le_refl _
      exact I1.fpOk hle (I1.hok.fresh hle)
theorem evi_enumS {m : M Tx} {elts : List Expr} {kk : Nat} {tpos : Pos} (ok : Ok p sc NN VV GG k g) (hG : GG[j]? = some "enumerate") (hmg : p.mg "enumerate" = none) (ha : EvE g L a md tStr m) (hs : starEach [a] g.X.env = (false, eval a g.X.env) :: starEach [] g.X.env := by rfl) :
    EvI g L (.Tuple elts kk tpos) (.Call (.Name "enumerate" pp) [a] [] pos) (tTup (aCons tInt (aCons tStr aNil))) (m.bind fun x => .ok (enumL (x.map fun c => [c]))) := by
  obtain ⟨hg, ho⟩ := ok.gl hG
  refine PI.imp (pi_enumS hg (by rw [ok.mg]; exact hmg) (eva_cons ha eva_nil hs) hs) fun σ H R ⟨kp, own, at_, q⟩ => ?_
  refine tA_iff.mpr ⟨kp, own, at_, ?_⟩
  cases m with
  | ok xs =>
    rintro vs H' s ⟨v, r, rfl, ⟨rfl, hok⟩, e3⟩
    cases (show r = [] from e3)
    refine ⟨toS xs, rfl, q (ItEs (toS xs)) H' s fun H2 rb i => ?_⟩
    unfold enumL
    rw [List.getElem?_mapIdx, List.getElem?_map]
    refine ⟨fun d hd => ?_, fun hn => ?_⟩
    · cases hx : xs[i]? with
      | none => rw [hx] at hd; cases hd
      | some c =>
        rw [hx] at hd
        cases hd
        have hlt := (List.getElem?_eq_some_iff.mp hx).1
        have hcx : (toS xs).cps[i]? = some c := by
          show xs.toArray[i]? = some c
          simpa using hx
        refine ⟨by show i < xs.toArray.size; simpa using hlt, fun x H3 ⟨T, y, e1, e2, e3, hy⟩ => ?_⟩
        subst e1; subst e3
        rw [hcx] at hy
        cases hy
        refine ⟨newSame e2, T, _, rfl, .inr ⟨cl_of upd_same, e2⟩, .int (i : Nat), _, rfl, rfl, _, [], rfl, ⟨rfl, by show 1 ≤ sizeLine; decide, fun z hz => ?_⟩, rfl⟩
        rw [List.mem_singleton.mp hz]
        exact hok.2 c (List.mem_of_getElem? hx)
    · show (toS xs).cps.size ≤ i
      cases hx : xs[i]? with
      | none => rw [List.getElem?_eq_none_iff] at hx; show xs.toArray.size ≤ i; simpa using hx
      | some d0 => rw [hx] at hn; cases hn
  | ex c => exact q
  | no => exact q
end
end Hd

namespace Hd
open PySem PySem.Spec PyProof.Rows L2
section
variable {X : Cx} {p : Pr}
def rIsB : R2 := fun x y H Q => ∃ a b, x = .bl a ∧ y = .bl b ∧ Q (.bl (decide (a = b))) H
def rNotB : R2 := fun x y H Q => ∃ a b, x = .bl a ∧ y = .bl b ∧ Q (.bl (!decide (a = b))) H
theorem op_isB : OpR X (compareOp .Is) rIsB := by
  intro pins s σ H x y v u Q I rx ry h
  obtain ⟨a, b, rfl, rfl, q⟩ := h
  cases (show v = Value.bool a from rx)
  cases (show u = Value.bool b from ry)
  exact wpAny_is_plain rfl (fin_bl I q (by cases a <;> cases b <;> rfl))
theorem op_notB : OpR X (compareOp .IsNot) rNotB := by
  intro pins s σ H x y v u Q I rx ry h
  obtain ⟨a, b, rfl, rfl, q⟩ := h
  cases (show v = Value.bool a from rx)
  cases (show u = Value.bool b from ry)
  exact wpAny_isNot_plain rfl (fin_bl I q (by cases a <;> cases b <;> rfl))
theorem c_isB : CmpOk p X .Is tBool tBool (fun x y => decide (x = y)) := ⟨_, op_isB, ⟨fun rb rx ry q => ⟨_, _, rx, ry, q _ _ (Same.refl _) rfl⟩⟩⟩
theorem c_isnB : CmpOk p X .IsNot tBool tBool (fun x y => !decide (x = y)) := ⟨_, op_notB, ⟨fun rb rx ry q => ⟨_, _, rx, ry, q _ _ (Same.refl _) rfl⟩⟩⟩
end
end Hd

namespace Hd
open PySem PySem.Spec PyProof.Rows L2
section
variable {p : Pr} {sc : Scope} {NN VV GG : List Str} {k : Nat} {g : G} {L : List Slot} {a b e tg : Expr} {md md' : Md} {pos pp : Pos} {j : Nat} {α β δ : Type} {S : Ty α} {T : Ty β} {A : Ar δ} {X : Cx}
/-! ### range over numbers of any size -/
theorem turn_long {P : Program} {w : World} {K : PySem.W.Frag} {tg : Expr} (it : Addr) (lo : Int) (n : Nat) : Turn P w K tg (Itr lo n) [it] it (fun i h => IsLongIter h it (lo + (i : Nat) * 1) ((n : Int) - (i : Nat)) 1) where
  mem := by simp
  obj := fun i h st b hb => by
    have e : b = it := by simpa using hb
    subst e
    exact ⟨_, st, fun v z => by
      have z' : Data.fields _ = Data.cell v := z
      cases z'⟩
  keep := fun i h h' st k => k it (by simp) _ st
  item := by
    intro X hP hw hK hc i pins s σ H E I hf st hg
    subst hP hw hK
    obtain ⟨f0, f1, f2, f3, f4, f5⟩ := hf it (by simp)
    have W := Walks.longrange (prog := X.prog) (w := X.w) (I.ok.hd hc) it lo 1 n
    refine W.item i s _ _ hg st fun v h' tk hv st' kk => ?_
    obtain ⟨t, rfl⟩ := hv
    have I1 : Inv X pins σ H { s with heap := h', toks := tk } := I.turned (fun b o hb e => kk b o (by simpa using hb) e) f0 f1 f3 f4 f5
    refine ⟨_, rfl, go_of (s := { s with heap := h', toks := tk }) (n := "longrange_iterator") st' rfl rfl (by decide) ⟨.int (lo + i), H, I1, ⟨t, ?_⟩, ⟨rfl, rfl⟩, st', fun b hb => (hf b hb).1⟩⟩
    rw [Int.mul_one]
  done := by
    intro X hP hw hK hc i pins s σ H E I hf st hg
    subst hP hw hK
    obtain ⟨f0, f1, f2, f3, f4, f5⟩ := hf it (by simp)
    exact wpAny_pyNext_long_end (I.ok.hd hc) st (by have : n ≤ i := hg; omega) fun h' eb => ⟨rfl, I.turned (t' := s.toks) (fun b o hb e => eb b o hb e) f0 f1 f3 f4 f5⟩
  self := fun _ _ _ _ _ st h => wpAny_pyIter_longiter st h
theorem range_any {pins : List (Addr × Obj)} {σ : L2.St} {H : Hp} {s : Shared} {R : It → Hp → Prop} {E : Value → Shared → Prop} {lo hi : Int} {t u v : Tok} {tk : Nat} (I : Inv X pins σ H s)
    (q : R (Itr lo (hi - lo).toNat) H) : wpAny (model X.prog X.w) X.A (pyIter (.ref s.heap.objs.size)) (PIE X pins σ tg R) E { s with heap := s.heap.push { cls := .type "range", data := .fields #[.int lo t, .int hi u, .int 1 v] }, toks := tk } := by
  have I1 : Inv X pins σ H { s with heap := s.heap.push { cls := .type "range", data := .fields #[.int lo t, .int hi u, .int 1 v] }, toks := tk } := I.kept fun b o e => Heap.get?_push_of_some _ e
  have e1 : lo + ((0 : Nat) : Int) * 1 = lo := by simp
  have e2 : (((hi - lo).toNat : Nat) : Int) - ((0 : Nat) : Int) = Builtin.Range.rangeSize lo hi 1 := by rw [rangeSize_one]; split <;> omega
  have fp : ∀ b ∈ [(s.heap.push { cls := .type "range", data := .fields #[.int lo t, .int hi u, .int 1 v] }).objs.size], _ := fun b hb => by
    have e : b = (s.heap.push { cls := .type "range", data := .fields #[.int lo t, .int hi u, .int 1 v] }).objs.size := by simpa using hb
    subst e
    exact I1.fpOk (Nat.le_refl _) (I1.hok.fresh (Nat.le_refl _))
  cases hs : Builtin.Range.small lo hi 1 with
  | true =>
    refine wpAny_pyIter_range (IsRange.new ..) hs ?_
    refine ⟨(s.heap.push { cls := .type "range", data := .fields #[.int lo t, .int hi u, .int 1 v] }).objs.size, [(s.heap.push { cls := .type "range", data := .fields #[.int lo t, .int hi u, .int 1 v] }).objs.size], _, _, H, rfl,
      I1.kept (t' := tk) fun b o e => Heap.get?_push_of_some _ e, turn_range _ lo (hi - lo).toNat, ?_, fp, q⟩
    show IsRangeIter _ _ (lo + ((0 : Nat) : Int) * 1) ((((hi - lo).toNat : Nat) : Int) - ((0 : Nat) : Int)) 1
    rw [e1, e2]
    exact Heap.get?_push_size _ rfl
  | false =>
    refine wpAny_pyIter_longrange (IsRange.new ..) hs ?_
    refine ⟨(s.heap.push { cls := .type "range", data := .fields #[.int lo t, .int hi u, .int 1 v] }).objs.size, [(s.heap.push { cls := .type "range", data := .fields #[.int lo t, .int hi u, .int 1 v] }).objs.size], _, _, H, rfl,
      I1.kept (t' := tk) fun b o e => Heap.get?_push_of_some _ e, turn_long _ lo (hi - lo).toNat, ?_, fp, q⟩
    show IsLongIter _ _ (lo + ((0 : Nat) : Int) * 1) ((((hi - lo).toNat : Nat) : Int) - ((0 : Nat) : Int)) 1
    rw [e1, e2]
    exact Heap.get?_push_size _ rfl
def iRngB (ta : TA) : TI := fun σ H R => ta σ H fun vs H1 => ∃ i j : Int, vs = [.int i, .int j] ∧ R (Itr i (j - i).toNat) H1
theorem pi_rangeB {a b : Expr} {ta : TA} {p pos : Pos} (hg : Gl X "range") (hm : X.mg "range" = none) (ha : PA X [a, b] ta) (hs : starEach [a, b] X.env = [(false, eval a X.env), (false, eval b X.env)] := by rfl) (hs2 : starEach [b] X.env = [(false, eval b X.env)] := by rfl) :
    PI X tg (.Call (.Name "range" p) [a, b] [] pos) (iRngB ta) := by
  refine ⟨fun pins s σ H R I h => ?_⟩
  refine Call_ (ld_blt I hg hm boot_range (PyProof.Rows.callWith_type1 (thn (ha.run pos pins s σ H _ I h) fun us s1 ⟨vs, H1, I1, r1, q1⟩ => ?_) (by rw [hs, hs2]) (by rw [hs2]; rfl)))
  obtain ⟨i, j, e, q⟩ := q1
  subst e
  cases r1 with
  | cons r rr =>
    cases rr with
    | cons r' rr =>
      cases rr
      obtain ⟨t, rfl⟩ := r
      obtain ⟨t', rfl⟩ := r'
      exact call_range_2 (range_any I1 q)
theorem evi_rangeB {j : Nat} {m1 m2 : M Int} {pp : Pos} (ok : Ok p sc NN VV GG k g) (hG : GG[j]? = some "range") (hmg : p.mg "range" = none) (ha : EvE g L a md tInt m1) (hb : EvE g L b md tInt m2)
    (hs1 : starEach [a, b] g.X.env = (false, eval a g.X.env) :: starEach [b] g.X.env := by rfl) (hs2 : starEach [b] g.X.env = (false, eval b g.X.env) :: starEach [] g.X.env := by rfl) :
    EvI g L tg (.Call (.Name "range" pp) [a, b] [] pos) tInt (m1.bind fun lo => m2.bind fun hi => .ok (upFrom lo (hi - lo).toNat)) := by
  obtain ⟨hg, ho⟩ := ok.gl hG
  refine PI.imp (pi_rangeB hg (by rw [ok.mg]; exact hmg) (eva_cons ha (eva_cons hb eva_nil hs2) hs1) (by rw [hs1, hs2]; rfl) (by rw [hs2]; rfl)) fun σ H R ⟨kp, own, at_, q⟩ => ?_
  refine tA_iff.mpr ⟨kp, own, at_, ?_⟩
  cases m1 with
  | ok lo =>
    cases m2 with
    | ok hi =>
      rintro vs H' s ⟨v, r, rfl, rfl, v2, r2, rfl, rfl, e3⟩
      cases (show r2 = [] from e3)
      exact ⟨lo, hi, rfl, q _ H' s itr_ok⟩
    | ex c => exact q
    | no => exact q
  | ex c => exact q
  | no => exact q
/-- a part of a tuple of one kind, the place a number -/
theorem ev_ixH {f : δ → List α} {m : M δ} {mi : M Int} (ok : Ok p sc NN VV GG k g) (hA : HomA A S f) (ha : EvE g L a md (tTup A) m) (hb : EvE g L b md tInt mi) (hs : PlainIx b := by exact fun _ _ => rfl) : EvE g L (.Subscript a b pos) md S (m.bind fun d => mi.bind fun i => getM (f d) i) := by
  have h := ev_ix (pos := pos) (S := tTupL S) (T := tInt) (U := S) (r := rIxT p.K) (f := getM) (fr := false) ok (by rw [← ok.K]; exact ix_tup) o_ixT (fun _ _ _ => getM_ne) .same (ev_as (S := tTup A) (T := tTupL S) (d2 := f) (fun d v R ⟨a, vs, e, h, r⟩ => ⟨a, vs, e, h, hA.r r⟩) ha) hb hs
  have e : ((m.bind fun d => .ok (f d)).bind fun x => mi.bind fun i => getM x i) = m.bind fun d => mi.bind fun i => getM (f d) i := by cases m <;> rfl
  rwa [e] at h
end
end Hd

namespace Hd
open PySem PySem.Spec PyProof.Rows L2
section
variable {p : Pr} {sc : Scope} {NN VV GG : List Str} {k : Nat} {g : G} {L : List Slot} {a b e tg : Expr} {md md' : Md} {pos pp : Pos} {j : Nat} {α β δ : Type} {S : Ty α} {T : Ty β} {Q : Ty (List α)}
/-! ### zip(list, text) -/
theorem draws_stop {prog : Program} {w : World} {A : Around} (hh : A.handled = none) (it l : Addr) (hne : l ≠ it) (items : Array Value) (i : Nat) (hi : items[i]? = none) :
    Draws prog w A it [it, l] i (fun _ _ => True) (fun j h => j = i ∧ h.IsListIter it l j ∧ h.IsList l items) where
  live := fun _ _ st => let ⟨o, ho, _⟩ := st.2.1; ⟨o, ho⟩
  frame := fun _ _ _ st hk => ⟨st.1, st.2.1.at fun o e => hk it (by simp) o e, st.2.2.at fun o e => hk l (by simp) o e⟩
  item := fun j s Q E hj st hQ => absurd st.1 (Nat.ne_of_lt hj)
  done := fun s Q E st hE => wpAny_nextOf_list_end hh st.2.1 st.2.2 hi hE
def ItzS (K : PySem.W.Frag) (a : Addr) (x : Str) : It :=
  ⟨fun i H => ∃ (xs : List V) (v : V), SqL K H a xs ∧ xs[i]? = some v ∧ i < x.cps.size,
    fun i H v H' => ∃ T u c, v = .ref T ∧ H T = none ∧ H' = upd H T (.tup [u, .str ⟨#[c]⟩]) ∧ (∀ xs, SqL K H a xs → xs[i]? = some u) ∧ x.cps[i]? = some c,
    fun i H => ∃ xs : List V, SqL K H a xs ∧ (xs.length ≤ i ∨ x.cps.size ≤ i)⟩
theorem turn_zipS {P : Program} {w : World} {K : PySem.W.Frag} {elts : List Expr} {kk : Nat} {tpos : Pos} {a z TI TO i1 i2 : Addr} {x : Str} {t : Tok} (D : ZipSep2 z TI TO i1 i2 [i1, a] [i2]) (hai : a ≠ i1) :
    Turn P w K (.Tuple elts kk tpos) (ItzS K a x) [z, TI, TO, i1, i2] z (fun i h => IsZip h z TI TO .none ∧ IsTupOf2 h TI (.ref i1) (.ref i2) ∧ (∃ p q, IsTupOf2 h TO p q) ∧ h.IsListIter i1 a i ∧ h.IsStrIter i2 (strIterType x) x t i ∧ i ≤ x.cps.size) where
  mem := by simp
  obj := fun i h st c hc => by
    obtain ⟨hz, hTI, ⟨x, y, hTO⟩, ⟨o1, e1, _, d1⟩, ⟨o2, e2, _, d2⟩, _⟩ := st
    have e' : c = z ∨ c = TI ∨ c = TO ∨ c = i1 ∨ c = i2 := by simpa using hc
    rcases e' with q | q | q | q | q
    · rw [q]; exact ⟨_, hz, fun v q => nomatch q⟩
    · rw [q]; exact ⟨_, hTI, fun v q => nomatch q⟩
    · rw [q]; exact ⟨_, hTO, fun v q => nomatch q⟩
    · rw [q]; exact ⟨o1, e1, fun v q => by rw [d1] at q; cases q⟩
    · rw [q]; exact ⟨o2, e2, fun v q => by rw [d2] at q; cases q⟩
  keep := fun i h h' st k => by
    obtain ⟨hz, hTI, ⟨x, y, hTO⟩, h1, ⟨o2, e2, r2⟩, hle⟩ := st
    exact ⟨k z (by simp) _ hz, k TI (by simp) _ hTI, ⟨x, y, k TO (by simp) _ hTO⟩, h1.at fun o q => k i1 (by simp) o q, ⟨o2, k i2 (by simp) _ e2, r2⟩, hle⟩
  item := by
    intro X hP hw hK hc i pins s σ H E I hf st hg
    subst hP hw hK
    obtain ⟨hz, hTI, ⟨x0, y0, hTO⟩, h1, h2, hle⟩ := st
    obtain ⟨xs, v, hqx, hx, hy⟩ := hg
    obtain ⟨its, rv, p, _⟩ := I.list hqx
    obtain ⟨u, hu, ru⟩ := rv.get hx
    have hzl : z < s.heap.objs.size := Heap.lt_size hz
    have D1 := Draws.list (prog := X.prog) (w := X.w) (A := X.A.in1) (I.ok.hd hc) i1 a hai its.toArray
    have D2 := Draws.text (prog := X.prog) (w := X.w) (A := X.A.in1) (I.ok.hd hc) i2 x t
    have hu' : its.toArray[i]? = some u := by simpa using hu
    have hlt1 : i < its.toArray.size := by
      rcases Nat.lt_or_ge i its.toArray.size with q | q
      · exact q
      · rw [Array.getElem?_eq_none q] at hu'; cases hu'
    refine wpAny_pyNext_zipD2_item D D1 D2 hz hTI hTO ⟨h1, p.isList⟩ h2 hlt1 hy fun x1 x2 h' tk q1 q2 z' TO' st1 st2 hT hsz hk => ?_
    obtain ⟨c, t2, hcx, rfl⟩ := q2
    rw [hu'] at q1
    cases q1
    refine ⟨_, rfl, wpAny_letOwnedTupleGo_zip (s := { s with heap := h', toks := tk }) z' fun h'' z'' sb => ?_⟩
    have hT2 : h''.get? s.heap.objs.size = some { cls := .type "tuple", data := .seq #[u, .str ⟨#[c]⟩ t2] } := (sb.2 _ (Nat.ne_of_gt hzl)).trans hT
    have new : ObjOk X.prog X.w (upd H s.heap.objs.size (.tup [v, .str ⟨#[c]⟩])) h'' s.heap.objs.size (.tup [v, .str ⟨#[c]⟩]) :=
      ⟨by show 2 ≤ sizeLine; decide, [u, .str ⟨#[c]⟩ t2], .cons ru (.cons ⟨_, rfl⟩ .nil), ⟨_, hT2, rfl, _, rfl⟩⟩
    have I1 : Inv X pins σ (upd H s.heap.objs.size (.tup [v, .str ⟨#[c]⟩])) { s with heap := h'', toks := tk } :=
      I.turnedNew (t' := tk) (ch := [z, TI, TO, i1, i2]) (fun c o hb q => (sb.2 c (fun q' => hb (by simp [q']))).trans (hk c o (fun q' => hb (by simp [q'])) (fun q' => hb (by simp [q'])) (fun q' => hb (by simp [q'])) (fun q' => hb (by simp [q'])) q)) hf (Nat.le_refl _) new
    obtain ⟨o2, e2, r2⟩ := st2
    refine ⟨.ref s.heap.objs.size, _, I1, rfl, ⟨_, v, c, rfl, I.hok.fresh (Nat.le_refl _), rfl, fun l hl => by rw [I.list_inj hl hqx]; exact hx, hcx⟩, ⟨z'', ?_, ⟨u, .str ⟨#[c]⟩ t2, ?_⟩, ?_, ⟨o2, ?_, r2⟩, hy⟩, fun c hcm => ?_⟩
    · exact (sb.2 _ D.TIz).trans (hk _ _ D.TIz D.TITO D.TIi1 D.TIi2 hTI)
    · exact (sb.2 _ D.TOz).trans TO'
    · exact st1.1.at fun o q => (sb.2 _ D.zi1.symm).trans q
    · exact (sb.2 _ D.zi2.symm).trans e2
    · have hlt : c < s.heap.objs.size := by
        have e' : c = z ∨ c = TI ∨ c = TO ∨ c = i1 ∨ c = i2 := by simpa using hcm
        rcases e' with q | q | q | q | q
        · rw [q]; exact hzl
        · rw [q]; exact Heap.lt_size hTI
        · rw [q]; exact Heap.lt_size hTO
        · rw [q]; obtain ⟨_, e1, _⟩ := h1; exact Heap.lt_size e1
        · rw [q]; obtain ⟨_, e2, _⟩ := h2; exact Heap.lt_size e2
      rw [upd_ne (Nat.ne_of_lt hlt)]
      exact (hf c hcm).1
  done := by
    intro X hP hw hK hc i pins s σ H E I hf st hg
    subst hP hw hK
    obtain ⟨hz, hTI, ⟨x0, y0, hTO⟩, h1, h2, hle⟩ := st
    obtain ⟨xs, hqx, hend⟩ := hg
    obtain ⟨its, rv, p, _⟩ := I.list hqx
    have l1 := rv.length
    have D2 := Draws.text (prog := X.prog) (w := X.w) (A := X.A.in1) (I.ok.hd hc) i2 x t
    by_cases c : xs.length ≤ i
    · have hi : its.toArray[i]? = none := by simp; omega
      have D1 := draws_stop (prog := X.prog) (w := X.w) (A := X.A.in1) (I.ok.hd hc) i1 a hai its.toArray i hi
      exact wpAny_pyNext_zipD2_end D D1 D2 hz hTI hTO ⟨rfl, h1, p.isList⟩ h2 (Nat.le_refl _) hle (.inl rfl) fun h' tk hk => ⟨rfl, I.turnedL (t' := tk) (ch := [z, TI, TO, i1, i2]) (fun c o hb q =>
        hk c o (fun q' => hb (by simp [q'])) (fun q' => hb (by simp [q'])) (fun q' => hb (by simp [q'])) (fun q' => hb (by simp [q'])) q) hf⟩
    · have D1 := Draws.list (prog := X.prog) (w := X.w) (A := X.A.in1) (I.ok.hd hc) i1 a hai its.toArray
      have hi2 : i = x.cps.size := by
        rcases hend with q | q
        · exact absurd q c
        · omega
      exact wpAny_pyNext_zipD2_end D D1 D2 hz hTI hTO ⟨h1, p.isList⟩ h2 (by simp; omega) hle (.inr hi2) fun h' tk hk => ⟨rfl, I.turnedL (t' := tk) (ch := [z, TI, TO, i1, i2]) (fun c o hb q =>
        hk c o (fun q' => hb (by simp [q'])) (fun q' => hb (by simp [q'])) (fun q' => hb (by simp [q'])) (fun q' => hb (by simp [q'])) q) hf⟩
  self := fun A i s Q E st h => wpAny_pyIter_zip st.1 h
theorem zip_sep (n a : Nat) (la : a < n) : ZipSep2 (n + 4) (n + 2) (n + 3) n (n + 1) [n, a] [n + 1] := by
  have ne : ∀ x y : Nat, x < y ∨ y < x → (x : Addr) ≠ (y : Addr) := fun x y h e => by
    have e : x = y := e
    omega
  have nm1 : ∀ x y : Nat, x < y ∨ y < x → (x : Addr) ∉ ([y] : List Addr) := fun x y h m => ne x y h (List.mem_singleton.mp m)
  have nm2 : ∀ x y z : Nat, x < y ∨ y < x → x < z ∨ z < x → (x : Addr) ∉ ([y, z] : List Addr) := fun x y z h h2 m => (List.mem_cons.mp m).elim (ne x y h) fun m => ne x z h2 (List.mem_singleton.mp m)
  exact ⟨ne _ _ (by omega), ne _ _ (by omega), ne _ _ (by omega), ne _ _ (by omega), List.mem_cons_self, nm2 _ _ _ (by omega) (by omega), nm2 _ _ _ (by omega) (by omega), ne _ _ (by omega), List.mem_cons_self, nm1 _ _ (by omega), nm1 _ _ (by omega), nm1 _ _ (by omega), nm2 _ _ _ (by omega) (by omega)⟩
def iZipS (K : PySem.W.Frag) (ta : TA) : TI := fun σ H R => ta σ H fun vs H1 => ∃ a x xs, vs = [.ref a, .str x] ∧ SqL K H1 a xs ∧ R (ItzS K a x) H1
theorem pi_zipS {X : Cx} {e e2 : Expr} {ta : TA} {p pos tpos : Pos} {elts : List Expr} {kk : Nat} (hg : Gl X "zip") (hm : X.mg "zip" = none) (ha : PA X [e, e2] ta)
    (hs : starEach [e, e2] X.env = (false, eval e X.env) :: starEach [e2] X.env := by rfl) (hpl : (backTo pos (starEach [e2] X.env)).any (·.1) = false := by rfl) :
    PI X (.Tuple elts kk tpos) (.Call (.Name "zip" p) [e, e2] [] pos) (iZipS X.K ta) := by
  refine ⟨fun pins s σ H R I h => ?_⟩
  refine Call_ (ld_blt I hg hm PyProof.Rows.boot_zip (PyProof.Rows.callWith_type1 (thn (ha.run pos pins s σ H _ I h) fun us s1 ⟨vs, H1, I1, r1, q1⟩ => ?_) hs hpl))
  obtain ⟨a, x, xs, ex, hqx, q⟩ := q1
  subst ex
  cases r1 with
  | cons r rr =>
    cases rr with
    | cons r' rr =>
      cases rr
      cases r
      obtain ⟨t, rfl⟩ := r'
      obtain ⟨its, rv, p1, _⟩ := I1.list hqx
      have la : a < s1.heap.objs.size := p1.lt
      refine zip_begins2 (begins_list a its.toArray) (begins_text x t) p1.isList trivial fun h' hz hTI hTO g1 g2 hsz hk => wpAny_pyIter_zip hz ?_
      have I2 : Inv X pins σ H1 { s1 with heap := h' } := I1.kept (t' := s1.toks) hk
      have sep := zip_sep s1.heap.objs.size a la
      refine ⟨s1.heap.objs.size + 4, [s1.heap.objs.size + 4, s1.heap.objs.size + 2, s1.heap.objs.size + 3, s1.heap.objs.size, s1.heap.objs.size + 1], _, _, H1, rfl, I2, turn_zipS (x := x) (t := t) sep (Nat.ne_of_lt la), ⟨hz, hTI, ⟨_, _, hTO⟩, ⟨_, g1, rfl, rfl⟩, ⟨_, g2, rfl, rfl⟩, Nat.zero_le _⟩, fun c hcm => ?_, q⟩
      have e' : c = s1.heap.objs.size + 4 ∨ c = s1.heap.objs.size + 2 ∨ c = s1.heap.objs.size + 3 ∨ c = s1.heap.objs.size ∨ c = s1.heap.objs.size + 1 := by simpa using hcm
      have hle : s1.heap.objs.size ≤ c := by
        rcases e' with z | z | z | z | z
        · rw [z]; exact Nat.le_add_right _ _
        · rw [z]; exact Nat.le_add_right _ _
        · rw [z]; exact Nat.le_add_right _ _
        · rw [z]; exact Nat.le_refl _
        · rw [z]; exact Nat.le_add_right _ _
      exact I1.fpOk hle (I1.hok.fresh hle)
theorem evi_zipS {m1 : M (List α)} {m2 : M Tx} {elts : List Expr} {kk : Nat} {tpos : Pos} (ok : Ok p sc NN VV GG k g) (hq : IsSq p.K Q S) (hG : GG[j]? = some "zip") (hmg : p.mg "zip" = none) (ha : EvE g L a md Q m1) (hb : EvE g L b md tStr m2)
    (hs1 : starEach [a, b] g.X.env = (false, eval a g.X.env) :: starEach [b] g.X.env := by rfl) (hs2 : starEach [b] g.X.env = (false, eval b g.X.env) :: starEach [] g.X.env := by rfl) (hpl : (backTo pos (starEach [b] g.X.env)).any (·.1) = false := by rfl) :
    EvI g L (.Tuple elts kk tpos) (.Call (.Name "zip" pp) [a, b] [] pos) (tTup (aCons S (aCons tStr aNil))) (m1.bind fun xs => m2.bind fun y => .ok (zipL xs (y.map fun c => [c]))) := by
  obtain ⟨hg, ho⟩ := ok.gl hG
  refine PI.imp (pi_zipS hg (by rw [ok.mg]; exact hmg) (eva_cons ha (eva_cons hb eva_nil hs2) hs1) hs1 hpl) fun σ H R ⟨kp, own, at_, q⟩ => ?_
  refine tA_iff.mpr ⟨kp, own, at_, ?_⟩
  cases m1 with
  | ok xs =>
    cases m2 with
    | ok y =>
      rintro vs H' s ⟨v, r, rfl, rx, v2, r2, rfl, ⟨rfl, hok⟩, e3⟩
      cases (show r2 = [] from e3)
      have rx' : Q.rep xs v (RD g.fm own H') := Q.mono rx RX.sh
      have rb0 : Rdb p.K (RD g.fm own H') H' := by rw [← ok.fmK]; exact RD.rdb
      obtain ⟨ad, vs, rfl, h, r⟩ := hq.sq rb0 rx'
      refine ⟨ad, toS y, vs, rfl, by rw [ok.K]; exact h, ?_⟩
      rw [show ItzS g.X.K ad (toS y) = ItzS g.fm.K ad (toS y) from by rw [ok.K, ok.fmK]]
      refine q _ H' s fun H2 rb i => ?_
      obtain ⟨a', vs', e', hs', r2⟩ := hq.sq (by rw [← ok.fmK]; exact rb) rx'
      cases e'
      rw [← ok.fmK] at hs'
      have hyl : (toS y).cps.size = y.length := by show y.toArray.size = _; simp
      unfold zipL
      rw [List.getElem?_map]
      refine ⟨fun d hd => ?_, fun hn => ⟨vs', hs', ?_⟩⟩
      · cases hx : (xs.zip (y.map fun c => [c]))[i]? with
        | none => rw [hx] at hd; cases hd
        | some d0 =>
          rw [hx] at hd
          cases hd
          obtain ⟨hx1, hx2⟩ := List.getElem?_zip_eq_some.mp hx
          obtain ⟨v, h1, h2⟩ := r2.get hx1
          rw [List.getElem?_map] at hx2
          cases hy : y[i]? with
          | none => rw [hy] at hx2; cases hx2
          | some c =>
            rw [hy] at hx2
            have hx2 : [c] = d0.2 := by injection hx2
            have hlt := (List.getElem?_eq_some_iff.mp hy).1
            have hcy : (toS y).cps[i]? = some c := by
              show y.toArray[i]? = some c
              simpa using hy
            refine ⟨⟨vs', v, hs', h1, by rw [hyl]; exact hlt⟩, fun x H3 ⟨T', u, c', e1, e2, e3, hyy, hz⟩ => ?_⟩
            subst e1; subst e3
            have q1 := hyy vs' hs'
            rw [h1] at q1
            cases q1
            rw [hcy] at hz
            cases hz
            refine ⟨newSame e2, T', _, rfl, .inr ⟨cl_of upd_same, e2⟩, _, _, rfl, S.mono h2 fun a o z => .inl ⟨rfl, z⟩, _, [], rfl, ?_, rfl⟩
            show tStr.rep d0.2 _ _
            rw [← hx2]
            exact ⟨rfl, by show 1 ≤ sizeLine; decide, fun z hz => by rw [List.mem_singleton.mp hz]; exact hok.2 c (List.mem_of_getElem? hy)⟩
      · cases hx : (xs.zip (y.map fun c => [c]))[i]? with
        | none =>
          rw [List.getElem?_eq_none_iff, List.length_zip, List.length_map] at hx
          rw [← r2.length, hyl]
          omega
        | some d0 => rw [hx] at hn; cases hn
    | ex c => exact q
    | no => exact q
  | ex c => exact q
  | no => exact q
end
end Hd

set_option maxHeartbeats 1000000
namespace Hd
open PySem PySem.Spec PyProof.Rows L2 RT
/-! ### reversed(text) -/
theorem norev_str : typeLookup (.type "str") "__reversed__" = pure none := by rw [typeLookup_type, builtinLookup_eq_fast]; kernel_rfl
theorem get_str : typeLookup (.type "str") "__getitem__" = pure (some (.builtin "str.__getitem__")) := by rw [typeLookup_type, builtinLookup_eq_fast]; kernel_rfl
def rsObj (x : Str) (u : Tok) (i : Int) : Obj := { cls := .type "reversed", data := .fields #[.str x u, rawInt i] }
def IsRs (h : Heap) (a : Addr) (x : Str) (u : Tok) (i : Int) : Prop := ∃ o, h.get? a = some o ∧ o.cls = .type "reversed" ∧ o.data = .fields #[.str x u, rawInt i]
theorem IsRs.at {h h' : Heap} {a : Addr} {x : Str} {u : Tok} {i : Int} (y : IsRs h a x u i) (e : ∀ o, h.get? a = some o → h'.get? a = some o) : IsRs h' a x u i := let ⟨o, ho, r⟩ := y; ⟨o, e _ ho, r⟩
section
variable {prog : Program} {w : World} {A : Around} {E : Value → Shared → Prop} {s : Shared} {x : Str} {u : Tok}
theorem IsRs.typeIs {a : Addr} {i : Int} (y : IsRs s.heap a x u i) : s.TypeIs (.ref a) "reversed" := let ⟨o, ho, hc, _⟩ := y; ⟨o, ho, hc⟩
theorem code_reversed_str {Q₁ : Value → Shared → Prop} (hn : x.length ≤ sizeLine)
    (h : Q₁ (.ref s.heap.objs.size) { s with heap := s.heap.push (rsObj x u ((x.length : Int) - 1)), toks := s.toks + 1 + 1 }) :
    codeAny (model prog w) A (.call (.builtin "reversed.__new__") ⟨[.type "reversed", .str x u], []⟩) (wants Q₁ E) s := by
  have hT : s.TypeIs (.str x u) "str" := typeIs_str s x u
  have hz : sizeLine < 2 ^ 40 := by decide
  refine codeAny_of_tree ?_
  show wpAny _ A.in1 (do checkBuiltinCall "reversed.__new__" ⟨[.type "reversed", .str x u], []⟩; again (.builtin "reversed.__new__" ⟨[.type "reversed", .str x u], []⟩)) _ _ s
  refine wpAny_bind (wpAny_of_eq (F.newCall_reversed_1 _) (wpAny_pure ⟨plainId_quiet F.plain_reversed_new _, codeAny_builtin F.entry_reversed_new ?_⟩))
  rw [Around.under_plainId F.plain_reversed_new _]
  unfold Builtin.«reversed.__new__»
  refine wpAny_bind (wpAny_of_eq (newClass_reversed _) ?_)
  try dsimp only
  refine wpAny_bind (wpAny_of_eq (a := ()) (by first | rfl | kernel_rfl) ?_)
  try dsimp only
  refine wpAny_bind (wpAny_of_eq (a := ()) (by first | rfl | kernel_rfl) ?_)
  try dsimp only
  refine wpAny_bind (wpAny_specialOf hT norev_str ?_)
  try dsimp only
  refine wpAny_bind ?_
  wp_delta
  refine wpAny_bind (wpAny_isInstance (T := "str") (U := "dict") (b := false) hT PySem.F.sub_str_dict ?_)
  try dsimp only
  try rw [if_neg Bool.false_ne_true]
  try dsimp only
  refine wpAny_bind (wpAny_specialOf hT get_str ?_)
  try dsimp only
  try rw [if_pos (by decide +kernel)]
  refine wpAny_pure ?_
  try dsimp only
  try rw [if_neg (by decide)]
  try dsimp only
  refine wpAny_bind (len_str (by omega) ?_)
  refine wpAny_bind (wpAny_of_eq (a := some ((x.length : Nat) : Int)) rfl ?_)
  try dsimp only
  refine wpAny_bind ?_
  show wpAny _ _ (newObj (.type "reversed") (.fields #[.str x u, rawInt ((x.length : Int) - 1)])) _ _ _
  refine wpAny_newObj_type ?_
  exact wpAny_pure h
theorem call_reversed_str {Q : Value → Shared → Prop} (hn : x.length ≤ sizeLine)
    (h : Q (.ref s.heap.objs.size) { s with heap := s.heap.push (rsObj x u ((x.length : Int) - 1)), toks := s.toks + 1 + 1 }) : wpAny (model prog w) A (call (.type "reversed") [.str x u]) Q E s := by
  refine callType_codes (Q₁ := fun obj s₁ => s₁.TypeIs obj "reversed" ∧ Q obj s₁) called_rt (F.typeCall_reversed_1 _) F.entry_object_init
    (code_reversed_str (A := A.in1) hn ⟨⟨_, Heap.get?_push_size _ rfl, rfl⟩, h⟩) fun obj s₁ h₁ => ?_
  exact ⟨h₁.1, F.args_object_init_2 obj _, object_init_meets called_rt.init.lookup called_rt.made (by decide) prog w A.in1 _ s₁ ⟨h₁.1, rfl, h₁.2⟩⟩
theorem next_rs_item {it : Addr} {i : Nat} {c : Nat} {Q : Option Value → Shared → Prop} (hit : IsRs s.heap it x u (i : Int)) (hx : x.cps[i]? = some c) (hsz : x.length ≤ sizeLine)
    (hQ : ∀ h' tk t, IsRs h' it x u ((i : Int) - 1) → Heap.SameBut it s.heap h' → Q (some (.str ⟨#[c]⟩ t)) { s with heap := h', toks := tk }) : wpAny (model prog w) A (pyNext (.ref it)) Q E s := by
  obtain ⟨o, ho, hc, hd⟩ := id hit
  have hi : i < x.length := (Array.getElem?_eq_some_iff.mp hx).1
  have hT : s.TypeIs (.str x u) "str" := typeIs_str s x u
  have hz : sizeLine < 2 ^ 40 := by decide
  unfold pyNext
  refine wpAny_bind (wpAny_attempt (wpAny_callSpecial?_slot (name := Str.ofString "__next__") hit.typeIs slot_rt_next
    (wpAny_call_entry slot_rt_next hit.typeIs entry_rt_next ?_ (args_rt_next _))))
  unfold Builtin.«reversed.__next__»
  refine wpAny_bind (wpAny_of_eq (a := (Value.ref it, [])) rfl ?_)
  try dsimp only
  refine wpAny_bind (wpAny_field ho hd (x := .str x u) rfl ?_)
  try dsimp only
  refine wpAny_bind (wpAny_field ho hd (x := rawInt (i : Int)) rfl ?_)
  show wpAny _ _ (if (i : Int) < 0 then _ else _) _ _ s
  rw [if_neg (by omega)]
  try dsimp only
  refine wpAny_bind (wpAny_specialOf hT get_str ?_)
  try dsimp only
  try rw [if_neg (by decide)]
  try dsimp only
  refine wpAny_bind (wpAny_mkInt ?_)
  refine wpAny_bind (wpAny_attempt ?_)
  have fin : seqIndex? (i : Int) x.length = some i := seqIndex_of (by omega) (by omega)
  refine PyProof.Rows.getItem_str (s := { s with toks := s.toks + 1 }) (c := c) (by simp; omega) (by rw [fin]; exact hx) ?_
  try dsimp only
  refine wpAny_bind (wpAny_field (s := { s with toks := s.toks + 1 + 1 }) ho hd (x := rawInt (i : Int)) rfl ?_)
  try dsimp only
  refine wpAny_bind (wpAny_setField (s := { s with toks := s.toks + 1 + 1 }) ho hd (by simp) ?_)
  first
  | refine wpAny_pure ⟨_, rfl, wpAny_pure (hQ _ _ _ ?_ (Heap.SameBut.update ..))⟩
  | refine wpAny_bind (wpAny_pure (wpAny_pure ⟨_, rfl, wpAny_pure (hQ _ _ _ ?_ (Heap.SameBut.update ..))⟩))
  exact ⟨_, Heap.get?_update_self _ ho (Obj.isFreed_of_fields (Obj.data_mapFields hd _)), (Obj.cls_mapFields ..).trans hc, by
    rw [Obj.data_mapFields hd]; simp⟩
theorem next_rs_end {it : Addr} {Q : Option Value → Shared → Prop} (hh : A.handled = none) (hit : IsRs s.heap it x u (-1))
    (hQ : ∀ h', Heap.ExtBut it s.heap h' → Q none { s with heap := h' }) : wpAny (model prog w) A (pyNext (.ref it)) Q E s := by
  obtain ⟨o, ho, hc, hd⟩ := id hit
  unfold pyNext
  refine wpAny_bind (wpAny_attempt (wpAny_callSpecial?_slot (name := Str.ofString "__next__") hit.typeIs slot_rt_next
    (wpAny_call_entry slot_rt_next hit.typeIs entry_rt_next ?_ (args_rt_next _))))
  unfold Builtin.«reversed.__next__»
  refine wpAny_bind (wpAny_of_eq (a := (Value.ref it, [])) rfl ?_)
  try dsimp only
  refine wpAny_bind (wpAny_field ho hd (x := .str x u) rfl ?_)
  try dsimp only
  refine wpAny_bind (wpAny_field ho hd (x := rawInt (-1)) rfl ?_)
  show wpAny _ _ (if (-1 : Int) < 0 then _ else _) _ _ s
  rw [if_pos (by decide)]
  try dsimp only
  refine wpAny_bind (wpAny_rule ?_)
  refine wpAny_bind ?_
  wp_delta
  refine wpAny_bind (wpAny_setField ho hd (by simp) ?_)
  have ho2 := Heap.get?_update_self (Obj.mapFields (·.setIfInBounds 1 (rawInt (-1)))) ho (Obj.isFreed_of_fields (Obj.data_mapFields hd _))
  refine wpAny_setField (s := { s with heap := s.heap.update it (Obj.mapFields (·.setIfInBounds 1 (rawInt (-1)))) }) ho2 (Obj.data_mapFields hd _) (by simp) ?_
  try dsimp only
  first
  | show wpAny _ _ (newExc (.type "StopIteration") [] >>= _) _ _ _
  | (refine wpAny_bind ?_; show wpAny _ _ (newExc (.type "StopIteration") [] >>= _) _ _ _)
  | (refine wpAny_bind ?_; wp_delta; show wpAny _ _ (newExc (.type "StopIteration") [] >>= _) _ _ _)
  refine wpAny_bind ?_
  simp only [newExc, newTuple]
  refine wpAny_bind (wpAny_newObj_type ?_ (by size_fits))
  refine wpAny_bind (m := firstArgMember _ _) (wpAny_of_eq (a := Value.none) (by first | rfl | (simp only [firstArgMember]; rfl)) ?_)
  refine wpAny_newObj_type ?_ (by size_fits)
  simp only [raiseNew]
  refine wpAny_bind (wpAny_handled ?_)
  first | rw [show A.in1.handled = none from hh] | rw [hh]
  refine wpAny_bind (wpAny_pure (wpAny_throw ?_))
  refine wpAny_bind (wpAny_isInstance (T := "StopIteration") (b := true) ⟨_, Heap.get?_push_size _ rfl, rfl⟩ isSubtype_stop ?_)
  refine wpAny_pure (hQ _ ?_)
  refine ((?_ : Heap.ExtBut it s.heap _).push _).push _
  exact fun b ob hb e => (Heap.get?_update_other _ _ (Ne.symm hb)).trans ((Heap.get?_update_other _ _ (Ne.symm hb)).trans e)
theorem iter_rs {it : Addr} {i : Int} {Q : Value → Shared → Prop} (hit : IsRs s.heap it x u i) (h : Q (.ref it) s) : wpAny (model prog w) A (pyIter (.ref it)) Q E s := by
  refine wpAny_pyIter_slot hit.typeIs slot_rt_iter (wpAny_call_entry slot_rt_iter hit.typeIs entry_rt_iter ?_ (args_rt_iter _))
  show wpAny _ _ (ret (.ref it)) _ _ s
  exact wpAny_pure ⟨_, rfl, "reversed", _, hit.typeIs, slot_rt_next.lookup, h⟩
end
def ItvS (x : Str) : It := ⟨fun i _ => i < x.cps.size, fun i H v H' => H' = H ∧ ∃ c, x.cps[x.cps.size - 1 - i]? = some c ∧ v = .str ⟨#[c]⟩, fun i _ => x.cps.size ≤ i⟩
theorem turn_rs {P : Program} {w : World} {K : PySem.W.Frag} {tg : Expr} (it : Addr) (x : Str) (u : Tok) (hsz : x.length ≤ sizeLine) : Turn P w K tg (ItvS x) [it] it (fun i h => i ≤ x.cps.size ∧ IsRs h it x u ((x.cps.size : Int) - 1 - (i : Nat))) where
  mem := by simp
  obj := fun i h st b hb => by
    have e : b = it := by simpa using hb
    subst e
    obtain ⟨_, o, e, c, d⟩ := st
    exact ⟨o, e, fun v z => by rw [d] at z; cases z⟩
  keep := fun i h h' st k => ⟨st.1, st.2.at fun o e => k it (by simp) o e⟩
  item := by
    intro X hP hw hK hc i pins s σ H E I hf st hg
    subst hP hw hK
    have hin : i < x.cps.size := hg
    obtain ⟨f0, f1, f2, f3, f4, f5⟩ := hf it (by simp)
    obtain ⟨_, hit⟩ := st
    have e1 : (x.cps.size : Int) - 1 - ((i : Nat) : Int) = ((x.cps.size - 1 - i : Nat) : Int) := by omega
    rw [e1] at hit
    have hx : x.cps[x.cps.size - 1 - i]? = some (x.cps[x.cps.size - 1 - i]'(by omega)) := by simp
    refine next_rs_item hit hx hsz fun h' tk t st' sb => ?_
    have e2 : ((x.cps.size - 1 - i : Nat) : Int) - 1 = (x.cps.size : Int) - 1 - ((i + 1 : Nat) : Int) := by omega
    rw [e2] at st'
    have I1 : Inv X pins σ H { s with heap := h', toks := tk } := I.turned (t' := tk) (fun b o hb e => (sb.2 b hb).trans e) f0 f1 f3 f4 f5
    obtain ⟨o, e, cc, d⟩ := id st'
    exact ⟨_, rfl, go_of (s := { s with heap := h', toks := tk }) e cc d (by decide) ⟨.str ⟨#[x.cps[x.cps.size - 1 - i]'(by omega)]⟩, H, I1, ⟨t, rfl⟩, ⟨rfl, _, hx, rfl⟩, ⟨hin, st'⟩, fun b hb => (hf b hb).1⟩⟩
  done := by
    intro X hP hw hK hc i pins s σ H E I hf st hg
    subst hP hw hK
    obtain ⟨f0, f1, f2, f3, f4, f5⟩ := hf it (by simp)
    obtain ⟨hin, hit⟩ := st
    have hge : x.cps.size ≤ i := hg
    have e1 : (x.cps.size : Int) - 1 - ((i : Nat) : Int) = -1 := by omega
    rw [e1] at hit
    exact next_rs_end (I.ok.hd hc) hit fun h' eb => ⟨rfl, I.turned (t' := s.toks) (fun b o hb e => eb b o hb e) f0 f1 f3 f4 f5⟩
  self := fun A i s Q E st h => iter_rs st.2 h
def iRevS (ta : TA) : TI := fun σ H R => ta σ H fun vs H1 => ∃ x, vs = [.str x] ∧ x.length ≤ sizeLine ∧ R (ItvS x) H1
theorem pi_revS {X : Cx} {tg e : Expr} {ta : TA} {p pos : Pos} (hg : Gl X "reversed") (hm : X.mg "reversed" = none) (ha : PA X [e] ta) (hs : starEach [e] X.env = [(false, eval e X.env)] := by rfl) : PI X tg (.Call (.Name "reversed" p) [e] [] pos) (iRevS ta) := by
  refine ⟨fun pins s σ H R I h => ?_⟩
  refine Call_ (ld_blt I hg hm PyProof.Rows.boot_reversed (PyProof.Rows.callWith_type1 (thn (ha.run pos pins s σ H _ I h) fun us s1 ⟨vs, H1, I1, r1, q1⟩ => ?_) hs rfl))
  obtain ⟨x, ex, hz, q⟩ := q1
  subst ex
  cases r1 with
  | cons r rr =>
    cases rr
    obtain ⟨t, rfl⟩ := r
    have e1 : ((x.length : Nat) : Int) - 1 = (x.cps.size : Int) - 1 - ((0 : Nat) : Int) := by show (x.cps.size : Int) - 1 = _; omega
    refine call_reversed_str hz (iter_rs (x := x) (u := t) (i := (x.length : Int) - 1) ⟨_, Heap.get?_push_size _ rfl, rfl, rfl⟩ ?_)
    refine pi_one (tk := s1.toks + 1 + 1) I1 _ (turn_rs _ x t hz) ⟨Nat.zero_le _, ?_⟩ q
    rw [← e1]
    exact ⟨_, Heap.get?_push_size _ rfl, rfl, rfl⟩
section
variable {p : Pr} {sc : Scope} {NN VV GG : List Str} {k : Nat} {g : G} {L : List Slot} {a b e tg : Expr} {md md' : Md} {pos pp : Pos} {j : Nat} {α β δ : Type} {S : Ty α} {T : Ty β}
theorem evi_revS {m : M Tx} (ok : Ok p sc NN VV GG k g) (hG : GG[j]? = some "reversed") (hmg : p.mg "reversed" = none) (ha : EvE g L a md tStr m) (hs : starEach [a] g.X.env = (false, eval a g.X.env) :: starEach [] g.X.env := by rfl) :
    EvI g L tg (.Call (.Name "reversed" pp) [a] [] pos) tStr (m.bind fun x => .ok (x.reverse.map fun c => [c])) := by
  obtain ⟨hg, ho⟩ := ok.gl hG
  refine PI.imp (pi_revS hg (by rw [ok.mg]; exact hmg) (eva_cons ha eva_nil hs) hs) fun σ H R ⟨kp, own, at_, q⟩ => ?_
  refine tA_iff.mpr ⟨kp, own, at_, ?_⟩
  cases m with
  | ok xs =>
    rintro vs H' s ⟨v, r, rfl, ⟨rfl, hok⟩, e3⟩
    cases (show r = [] from e3)
    have hl : (toS xs).cps.size = xs.length := by show xs.toArray.size = _; simp
    refine ⟨toS xs, rfl, by rw [toS_len]; exact hok.1, q (ItvS (toS xs)) H' s fun H2 rb i => ?_⟩
    rw [List.getElem?_map]
    refine ⟨fun d hd => ?_, fun hn => ?_⟩
    · cases hx : xs.reverse[i]? with
      | none => rw [hx] at hd; cases hd
      | some c =>
        rw [hx] at hd
        cases hd
        have hlt := (List.getElem?_eq_some_iff.mp hx).1
        rw [List.length_reverse] at hlt
        rw [List.getElem?_reverse hlt] at hx
        refine ⟨by show i < (toS xs).cps.size; rw [hl]; exact hlt, fun x H3 ⟨e, c', h1, h2⟩ => ?_⟩
        subst e
        have : c' = c := by
          have h1' : xs.toArray[(toS xs).cps.size - 1 - i]? = some c' := h1
          rw [hl, List.getElem?_toArray, hx] at h1'
          exact (Option.some.inj h1').symm
        subst this
        exact ⟨Same.refl _, h2, by show 1 ≤ sizeLine; decide, fun c2 hc2 => by rw [List.mem_singleton.mp hc2]; exact hok.2 _ (List.mem_of_getElem? hx)⟩
    · show (toS xs).cps.size ≤ i
      rw [hl]
      cases hx : xs.reverse[i]? with
      | none => rw [List.getElem?_eq_none_iff, List.length_reverse] at hx; exact hx
      | some d0 => rw [hx] at hn; cases hn
  | ex c => exact q
  | no => exact q
end
end Hd

namespace Hd
open PySem PySem.Spec PyProof.Rows L2
section
variable {p : Pr} {sc : Scope} {NN VV GG : List Str} {k : Nat} {g : G} {L : List Slot} {α β δ : Type} {S : Ty α} {md : Md} {pos : Pos} {st : List Stmt} {D : δ → Out} {i j : Nat} {x : Str}
def popM {α : Type} (xs : List α) : M (List α) := if 0 < xs.length then .ok xs.dropLast else .no
theorem evb_pop {bb : Bool} {ds : List α} {f : List α → M δ} {p1 ap cp : Pos} (ok : OkS p sc NN VV GG k g) (wk : Wk L g.LX) (hN : NN[i]? = some x) (hV : VV[j]? = some x) (hL : L[i]? = some (sOwn bb S ds))
    (hr : ∀ ds', EvB g (L.set i (sOwn bb S ds')) st D (f ds'))
    (hs : swapsWith (.Call (.Attribute (.Name x p1) "pop" ap) [] [] cp) none pos.line g.X.env = pure false := by rfl)
    (hbase : attributeBase (.Name x p1) "pop" g.X.env (eval (.Name x p1) g.X.env) = eval (.Name x p1) g.X.env := by rfl)
    (hline : (ap.endLine == cp.line) = true := by rfl) :
    EvB g L (.Expr (.Call (.Attribute (.Name x p1) "pop" ap) [] [] cp) pos :: st) D ((popM ds).bind f) := by
  obtain ⟨hv, ho⟩ := ok.vis hV
  obtain ⟨h1, h2, _⟩ := okName_d ho
  refine PSs.imp (pss_cons (ps_expr (pe_bm0 PySem.F.plainAttrs_list PySem.F.slot_list_pop PySem.F.type_list_pop mt_pop (pe_var (i := i) (by rw [ok.N]; exact hN) hv h1 h2) (hbase := hbase) (hline := hline)) hs) (PSs.ex hr)) fun E σ H ⟨kp, own, at_, q⟩ => ?_
  obtain ⟨p', vs, e1, hp, r, mu⟩ := at_.mut hL
  unfold popM at q
  by_cases c : 0 < ds.length
  · rw [if_pos c] at q
    have hl := r.length
    have hy : vs[vs.length - 1]? = some (vs[vs.length - 1]'(by omega)) := by simp
    have rr : Reps S (RB g.fm own H bb) ds.dropLast vs.dropLast := by
      rw [List.dropLast_eq_take, List.dropLast_eq_take, hl]
      exact r.take _
    exact ⟨_, e1, Or.inl ⟨rfl, _, SqL.of hp⟩, _, vs, _, rfl, rfl, hp, hy, ds.dropLast, kp, own, mu _ _ rr, q⟩
  · rw [if_neg c] at q
    exact q.elim
end
end Hd

namespace Hd
open PySem PySem.Spec PyProof.Rows L2
/-! ### a dict of one's own -/
section
variable {p : Pr} {sc : Scope} {NN VV GG : List Str} {k : Nat} {g : G} {L : List Slot} {α β δ : Type} {S : Ty α} {T : Ty β} {md md' : Md} {pos : Pos} {st : List Stmt} {D : δ → Out} {i j : Nat} {x : Str} {a b c e : Expr}
inductive KReps {α : Type} (T : Ty α) (R : RdR) : List (Key × α) → List (Key × V) → Prop where
  | nil : KReps T R [] []
  | cons {k d v ds vs} : T.rep d v R → KReps T R ds vs → KReps T R ((k, d) :: ds) ((k, v) :: vs)
theorem KReps.mono {R R' : RdR} {ds : List (Key × α)} {vs : List (Key × V)} (h : KReps S R ds vs) (s : ∀ a o, R a o → R' a o) : KReps S R' ds vs := by
  induction h with
  | nil => exact .nil
  | cons r _ ih => exact .cons (S.mono r s) ih
theorem KReps.length {R : RdR} {ds : List (Key × α)} {vs : List (Key × V)} (h : KReps S R ds vs) : ds.length = vs.length := by
  induction h with
  | nil => rfl
  | cons r _ ih => simp [ih]
/-- what stands at a key -/
def dgetL {α : Type} (ds : List (Key × α)) (k : Key) : Option α := (ds.find? fun kv => decide (kv.1 = k)).map (·.2)
def dputL {α : Type} (ds : List (Key × α)) (k : Key) (d : α) : List (Key × α) := if (ds.any fun kv => decide (kv.1 = k)) = true then ds.map (fun kv => if kv.1 = k then (kv.1, d) else kv) else ds ++ [(k, d)]
theorem KReps.get {R : RdR} {ds : List (Key × α)} {vs : List (Key × V)} (h : KReps S R ds vs) (k : Key) : (dgetL ds k = none ∧ valV vs k = none) ∨ ∃ d v, dgetL ds k = some d ∧ valV vs k = some v ∧ S.rep d v R := by
  induction h with
  | nil => exact .inl ⟨rfl, rfl⟩
  | @cons k' d v ds vs r _ ih =>
    by_cases e : k' = k
    · exact .inr ⟨d, v, by simp [dgetL, List.find?_cons, e], valV_pos e, r⟩
    · have e1 : dgetL ((k', d) :: ds) k = dgetL ds k := by simp [dgetL, List.find?_cons, e]
      rw [e1, valV_neg e]
      exact ih
theorem KReps.map {R : RdR} {ds : List (Key × α)} {vs : List (Key × V)} (h : KReps S R ds vs) (k : Key) {d : α} {v : V} (r : S.rep d v R) : KReps S R (ds.map (fun kv => if kv.1 = k then (kv.1, d) else kv)) (vs.map (fun kv => if kv.1 = k then (kv.1, v) else kv)) := by
  induction h with
  | nil => exact .nil
  | @cons k' d' v' ds vs r' _ ih =>
    rw [List.map_cons, List.map_cons]
    by_cases e : k' = k
    · simp only [if_pos e]; exact .cons r ih
    · simp only [if_neg e]; exact .cons r' ih
theorem KReps.any {R : RdR} {ds : List (Key × α)} {vs : List (Key × V)} (h : KReps S R ds vs) (k : Key) : (ds.any fun kv => decide (kv.1 = k)) = (vs.any fun kv => decide (kv.1 = k)) := by
  induction h with
  | nil => rfl
  | cons r _ ih => rw [List.any_cons, List.any_cons, ih]
theorem KReps.snoc {R : RdR} {ds : List (Key × α)} {vs : List (Key × V)} (h : KReps S R ds vs) (k : Key) {d : α} {v : V} (r : S.rep d v R) : KReps S R (ds ++ [(k, d)]) (vs ++ [(k, v)]) := by
  induction h with
  | nil => exact .cons r .nil
  | cons r' _ ih => exact .cons r' ih
theorem KReps.put {R : RdR} {ds : List (Key × α)} {vs : List (Key × V)} (h : KReps S R ds vs) (k : Key) {d : α} {v : V} (r : S.rep d v R) : KReps S R (dputL ds k d) (putK vs k v) := by
  unfold dputL putK
  rw [h.any k]
  split
  · exact h.map k r
  · exact h.snoc k r
def sDict {α : Type} (b : Bool) (T : Ty α) (ds : List (Key × α)) : Slot := ⟨fun v H R F => ∃ p xs, v = some (.ref p) ∧ F = [p] ∧ H p = some (.dK xs) ∧ KReps T (R b) ds xs,
  fun ⟨p, xs, e, f, h, r⟩ s k => ⟨p, xs, e, f, by rw [k p (by simp [f])]; exact h, r.mono (s b)⟩, fun ⟨p, xs, e, f, h, r⟩ q hq => by subst f; rw [List.mem_singleton.mp hq, cl_of h]; exact fun z => nomatch z⟩
theorem At.mutD {fm : Fm} {kp : RdR} {σ : L2.St} {H : Hp} {own : List Addr} {b : Bool} {ds : List (Key × α)} {i : Nat} (h : At fm kp L σ H own) (hL : L[i]? = some (sDict b S ds)) :
    ∃ p vs, σ[i]? = some (some (.ref p)) ∧ H p = some (.dK vs) ∧ KReps S (RB fm own H b) ds vs ∧ ∀ ds' vs', KReps S (RB fm own H b) ds' vs' → At fm kp (L.set i (sDict b S ds')) σ (upd H p (.dK vs')) own := by
  obtain ⟨h1, h2, ⟨Fs, h3, rfl⟩, h4, h5, h6⟩ := h
  obtain ⟨v, F, e1, e2, q, vs, rfl, rfl, hp, r⟩ := h3.get hL
  have qin : q ∈ Fs.flatten := List.mem_flatten.mpr ⟨[q], List.mem_of_getElem? e2, by simp⟩
  refine ⟨q, vs, e1, hp, r, fun ds' vs' r' => ?_⟩
  have key : ∀ (md : Md) a o, RX fm Fs.flatten H H md a o → RX fm Fs.flatten (upd H q (.dK vs')) (upd H q (.dK vs')) md a o ∨ md = .fx := fun md a o z => by
    cases md with
    | sh =>
      rcases z with z | z
      · have n : a ≠ q := fun e => z.2.1 (by rw [e]; exact qin)
        refine .inl (.inl ⟨?_, z.2⟩)
        unfold Rd
        rw [cl_upd_ne n]
        exact z.1
      · exact .inl (.inr z)
    | f0 =>
      have n : a ≠ q := fun e => z.2.1 (by rw [e]; exact qin)
      exact .inl ⟨by rw [cl_upd_ne n]; exact z.1, z.2⟩
    | fx => exact .inr rfl
  have keyB : ∀ (b : Bool) a o, RB fm Fs.flatten H b a o → RB fm Fs.flatten (upd H q (.dK vs')) b a o := fun b a o z => by
    cases b with
    | false => exact (key .sh a o z).resolve_right (fun e => nomatch e)
    | true => exact (key .f0 a o z).resolve_right (fun e => nomatch e)
  have up : ∀ a, H a ≠ none → upd H q (.dK vs') a ≠ none := fun a n => by
    by_cases e : a = q
    · rw [e, upd_same]; exact fun z => by cases z
    · rw [upd_ne e]; exact n
  refine ⟨h1.wr (h5 q qin).2.1 hp (fun _ z => nomatch z) rfl, fun a z => up a (h2 a z), ⟨Fs, ?_, rfl⟩, h4, fun x hx => ⟨up x (h5 x hx).1, (h5 x hx).2⟩, fun a o z => (key .sh a o (h6 a o z)).resolve_right (fun e => nomatch e)⟩
  · -- the slots
    have gen : ∀ {L : List Slot} {σ : L2.St} {Fs' : List (List Addr)}, AllS H (RB fm Fs.flatten H) L σ Fs' → Fs'.flatten.Nodup → ∀ {i : Nat}, Fs'[i]? = some [q] → L[i]? = some (sDict b S ds) → σ[i]? = some (some (V.ref q)) →
        AllS (upd H q (.dK vs')) (RB fm Fs.flatten (upd H q (.dK vs'))) (L.set i (sDict b S ds')) σ Fs' := by
      intro L σ Fs' hA
      induction hA with
      | nil => intro _ i e _ _; simp at e
      | @cons sl L v σ F Fs' r t ih =>
        intro nd i e eL eσ
        rw [List.flatten_cons, List.nodup_append] at nd
        cases i with
        | zero =>
          simp at e eL eσ
          subst e; subst eL; subst eσ
          refine .cons ⟨q, vs', rfl, rfl, upd_same, r'.mono (keyB b)⟩ (t.st keyB fun x hx => ?_)
          exact upd_ne fun z => nd.2.2 q (by simp) x hx z.symm
        | succ i =>
          have e' : Fs'[i]? = some [q] := by simpa using e
          refine .cons (sl.st r keyB fun x hx => upd_ne fun z => nd.2.2 x hx q (List.mem_flatten.mpr ⟨[q], List.mem_of_getElem? e', by simp⟩) z) (ih nd.2.1 e' (by simpa using eL) (by simpa using eσ))
    exact gen h3 h4 e2 hL e1
theorem At.setOwnD {fm : Fm} {kp : RdR} {σ : L2.St} {H H' : Hp} {own : List Addr} {b : Bool} {ds : List (Key × α)} {vs : List (Key × V)} {q : Addr} (h : At fm kp L σ H own) (s : Same H H') (hn : H q = none) (h' : H' q = some (.dK vs))
    (r : KReps S (RB fm (q :: own) H' b) ds vs) : ∃ own', At fm kp (L.set i (sDict b S ds)) (σ.set i (some (.ref q))) H' own' := by
  obtain ⟨h1, h2, ⟨Fs, h3, rfl⟩, h4, h5, h6⟩ := h
  have hq : q ∉ Fs.flatten := fun z => (h5 q z).1 hn
  have sub : ∀ x ∈ (Fs.set i [q]).flatten, x ∈ q :: Fs.flatten := fun x hx => (set_own x hx).elim (fun e => by rw [e]; exact List.mem_cons_self) (List.mem_cons_of_mem _)
  have key : ∀ (md : Md) a o, RX fm Fs.flatten H H md a o → RX fm (Fs.set i [q]).flatten H H' md a o := fun md a o z => by
    refine RX.own sub a o ?_
    have z1 := RX.add (o' := .lst []) hn a o z
    have na : a ≠ q ∨ KObj fm.K a o := by
      rcases RX.sh a o z with z | z
      · exact .inl fun e => Rd.some z.1 (by rw [e]; exact cl_none hn)
      · exact .inr z
    cases md with
    | sh =>
      rcases z1 with z1 | z1
      · rcases z with z | z
        · exact .inl ⟨Rd.same s z.1, z1.2⟩
        · exact .inr z
      · exact .inr z1
    | f0 => exact ⟨s.cl _ _ z.1, z1.2⟩
    | fx => exact ⟨s.cl _ _ z.1, z1.2⟩
  have keyB : ∀ (b : Bool) a o, RB fm Fs.flatten H b a o → RB fm (Fs.set i [q]).flatten H' b a o := fun b a o z => by
    cases b with
    | false => exact key .sh a o z
    | true => exact key .f0 a o z
  refine ⟨_, h1.trans s, fun a z n => h2 a z (s.free n), ⟨Fs.set i [q], (h3.st (H' := H') keyB fun p hp => ?_).set (s := sDict b S ds) ⟨q, vs, rfl, rfl, h', r.mono fun a o z => ?_⟩ i, rfl⟩, set_own_nd hq h4, fun p hp => ?_, fun a o z => key .sh a o (h6 a o z)⟩
  · cases e : cl H p with
    | none => exact absurd e (h3.tb p hp)
    | some u => rw [cl_raw e]; exact s.keep _ _ (cl_raw e) (cl_nt e)
  · cases b <;> exact RX.own sub a o z
  · rcases set_own p hp with rfl | hp
    · exact ⟨by rw [h']; exact (fun z => by cases z), h1.free hn, fun z => h2 _ z hn⟩
    · exact ⟨fun e => (h5 p hp).1 (s.free e), (h5 p hp).2⟩

theorem evb_newD {f : List (Key × α) → M δ} {pos' pd : Pos} (ok : OkS p sc NN VV GG k g) (hN : NN[i]? = some x) (hV : VV[j]? = some x) (hr : ∀ ds, EvB g (L.set i (sDict false S ds)) st D (f ds))
    (hs : ∀ Y : Cx, swapsWith (.Dict [] [] pd) (some (.Name x pos')) pos.line Y.env = pure false := by intro _; rfl) : EvB g L (.Assign [.Name x pos'] (.Dict [] [] pd) pos :: st) D ((M.ok ([] : List (Key × α))).bind f) := by
  refine PSs.imp (pss_cons (ps_set (i := i) (by rw [ok.N]; exact ok.nd) (by rw [ok.N]; exact hN) (ok.loc hV) pe_dnewK (hs _) (okS_fn ok)) (PSs.ex hr)) fun E σ H ⟨kp, own, at_, q⟩ => ?_
  intro q' hq'
  obtain ⟨own', a'⟩ := at_.setOwnD (S := S) (i := i) (b := false) (ds := []) (vs := []) (newSame hq') hq' upd_same .nil
  exact ⟨[], kp, own', a', q⟩
def dputM {α : Type} (ds : List (Key × α)) (k : Key) (d : α) : M (List (Key × α)) := if ds.length < sizeLine then .ok (dputL ds k d) else .no
theorem ev_getD {bb : Bool} {ds : List (Key × α)} {m1 : M Int} {m2 : M α} {npos ap : Pos} (ok : Ok p sc NN VV GG k g) (hN : NN[i]? = some x) (hV : VV[j]? = some x) (hL : L[i]? = some (sDict bb S ds)) (ha : EvE g L a .sh tInt m1) (hb : EvE g L b .sh S m2)
    (hm : M2 g.X (.Name x npos) "get" ap a b pos := by exact ⟨rfl, rfl, rfl, rfl⟩) :
    EvE g L (.Call (.Attribute (.Name x npos) "get" ap) [a, b] [] pos) .sh S (m1.bind fun n => m2.bind fun d => .ok ((dgetL ds (.inl n)).getD d)) := by
  obtain ⟨hv, ho⟩ := ok.vis hV
  obtain ⟨h1, h2, _⟩ := okName_d ho
  refine PE.imp (pe_dget2 (by have := ok.room.un; omega) (pe_var (i := i) (by rw [ok.N]; exact hN) hv h1 h2) ha hb hm) fun σ H Q q => ?_
  obtain ⟨kp, own, at_, q⟩ := tE_iff.mp q
  obtain ⟨Fs, hA, rfl⟩ := at_.sl
  obtain ⟨v, F, e1, e2, pp, vs, rfl, rfl, hp, r⟩ := hA.get hL
  refine ⟨_, e1, pp, rfl, .inl ⟨vs, .inl hp⟩, sub finE (Same.refl H) at_ q fun n y H2 s2 r2 at2 q2 => sub finE s2 at2 q2 fun d z H3 s3 r3 at3 q3 => ?_⟩
  cases (show y = .int n from r2)
  refine ⟨valV vs (.inl n), DGet.k (k := .inl n) ((s2.trans s3).keep _ _ hp rfl), ?_⟩
  rcases r.get (.inl n) with ⟨g1, g2⟩ | ⟨d', v', g1, g2, g3⟩
  · rw [g2]
    rw [g1] at q3
    exact q3 z H3 (s2.trans s3) r3
  · rw [g2]
    rw [g1] at q3
    refine q3 v' H3 (s2.trans s3) (S.mono g3 fun a o z => ?_)
    have z1 : RX g.fm Fs.flatten H H (if bb then .f0 else .sh) a o := z
    exact RX.same (s2.trans s3) a o (RX.sh a o z1)
theorem evb_putD {bb : Bool} {ds : List (Key × α)} {m : M α} {mi : M Int} {f : List (Key × α) → M δ} {ix : Expr} {p1 p2 : Pos} (ok : OkS p sc NN VV GG k g) (wk : Wk L g.LX) (hN : NN[i]? = some x) (hV : VV[j]? = some x) (hL : L[i]? = some (sDict bb S ds)) (hb : SlB md bb)
    (he : EvE g L e md S m) (hi : EvE g L ix md' tInt mi) (hr : ∀ ds', EvB g (L.set i (sDict bb S ds')) st D (f ds'))
    (hs : swapsWith e (some (.Subscript (.Name x p1) ix p2)) pos.line g.X.env = pure false := by rfl) :
    EvB g L (.Assign [.Subscript (.Name x p1) ix p2] e pos :: st) D (m.bind fun d => mi.bind fun n => (dputM ds (.inl n) d).bind f) := by
  obtain ⟨hv, ho⟩ := ok.vis hV
  obtain ⟨h1, h2, _⟩ := okName_d ho
  refine PSs.imp (pss_cons (ps_dput (by have := ok.toOk.room.un; omega) (pe_var (i := i) (by rw [ok.N]; exact hN) hv h1 h2) hi he hs) (PSs.ex hr)) fun E σ H ⟨kp, own, at_, q⟩ => ?_
  refine tE_iff.mpr ⟨kp, own, at_, ?_⟩
  cases m with
  | ok d =>
    intro v H1 s1 r1
    have a1 := at_.ext s1
    obtain ⟨p', vs, e1, hp, r, mu⟩ := a1.mutD hL
    refine ⟨_, e1, tE_iff.mpr ⟨kp, own, a1, ?_⟩⟩
    cases mi with
    | ok n =>
      intro y H2 s2 r2
      cases (show y = .int n from r2)
      have a2 := a1.ext s2
      obtain ⟨p2', vs2, e12, hp2, rr2, mu2⟩ := a2.mutD hL
      rw [e1] at e12
      cases e12
      have q : BOk g kp E D ((dputM ds (.inl n) d).bind f) := q
      unfold dputM at q
      split at q
      · rename_i hlt
        exact ⟨p', _, rfl, DPut.k (k := .inl n) hp2 (by rw [← rr2.length]; exact hlt), dputL ds (.inl n) d, kp, own, mu2 _ _ (rr2.put (.inl n) (S.mono r1 fun a o z => RB.same s2 bb a o (hb.rb a o z))), q⟩
      · exact q.elim
    | ex c => exact BOk.exx wk a1 q
    | no => exact q
  | ex c => exact BOk.exx wk at_ q
  | no => exact q
end
end Hd

namespace Hd
open PySem PySem.Spec PyProof.Rows L2
section
variable {p : Pr} {sc : Scope} {NN VV GG : List Str} {k : Nat} {g : G} {L : List Slot} {α β δ : Type} {S : Ty α} {T : Ty β} {md md' : Md} {pos : Pos} {st : List Stmt} {D : δ → Out} {i j : Nat} {x : Str} {a b c e : Expr}
theorem KReps.some {R : RdR} {ds : List (Key × α)} {vs : List (Key × V)} (h : KReps S R ds vs) (k : Key) : (valV vs k).isSome = (dgetL ds k).isSome := by
  rcases h.get k with ⟨g1, g2⟩ | ⟨d, v, g1, g2, _⟩ <;> rw [g1, g2] <;> rfl
def getDM {α : Type} (ds : List (Key × α)) (k : Key) : M α := match dgetL ds k with
  | some d => .ok d
  | none => .no
/-- n in d, a dict of one's own -/
theorem evt_inOwn {bb : Bool} {ds : List (Key × α)} {m1 : M Int} {npos : Pos} (ok : Ok p sc NN VV GG k g) (hN : NN[i]? = some x) (hV : VV[j]? = some x) (hL : L[i]? = some (sDict bb S ds)) (ha : EvE g L a .sh tInt m1)
    (hk : behindInMarks .In (.Name x npos) = false := by first | exact nobehind _ (by decide) (by decide) | rfl) : EvT g L (.Compare a [.In] [.Name x npos] pos) (m1.bind fun n => .ok (dgetL ds (.inl n)).isSome) := by
  obtain ⟨hv, ho⟩ := ok.vis hV
  obtain ⟨h1, h2, _⟩ := okName_d ho
  refine PT.imp (pt_cmp (pc_din (by have := ok.room.un; omega) ha (pe_var (i := i) (by rw [ok.N]; exact hN) hv h1 h2)) hk) fun σ H Q q => ?_
  obtain ⟨kp, own, at_, q⟩ := tT_iff.mp q
  obtain ⟨Fs, hA, rfl⟩ := at_.sl
  obtain ⟨v, F, e1, e2, pp, vs, rfl, rfl, hp, r⟩ := hA.get hL
  refine sub finT (Same.refl H) at_ q fun n y H2 s2 r2 at2 q2 => ?_
  cases (show y = .int n from r2)
  refine ⟨_, e1, pp, _, rfl, DGet.k (k := .inl n) (s2.keep _ _ hp rfl), _, rfl, ?_⟩
  rw [r.some]
  exact q2 H2 s2
theorem evt_notinOwn {bb : Bool} {ds : List (Key × α)} {m1 : M Int} {npos : Pos} (ok : Ok p sc NN VV GG k g) (hN : NN[i]? = some x) (hV : VV[j]? = some x) (hL : L[i]? = some (sDict bb S ds)) (ha : EvE g L a .sh tInt m1)
    (hk : behindInMarks .NotIn (.Name x npos) = false := by first | exact nobehind _ (by decide) (by decide) | rfl) : EvT g L (.Compare a [.NotIn] [.Name x npos] pos) (m1.bind fun n => .ok (!(dgetL ds (.inl n)).isSome)) := by
  obtain ⟨hv, ho⟩ := ok.vis hV
  obtain ⟨h1, h2, _⟩ := okName_d ho
  refine PT.imp (pt_cmp (pc_dnotin (by have := ok.room.un; omega) ha (pe_var (i := i) (by rw [ok.N]; exact hN) hv h1 h2)) hk) fun σ H Q q => ?_
  obtain ⟨kp, own, at_, q⟩ := tT_iff.mp q
  obtain ⟨Fs, hA, rfl⟩ := at_.sl
  obtain ⟨v, F, e1, e2, pp, vs, rfl, rfl, hp, r⟩ := hA.get hL
  refine sub finT (Same.refl H) at_ q fun n y H2 s2 r2 at2 q2 => ?_
  cases (show y = .int n from r2)
  refine ⟨_, e1, pp, _, rfl, DGet.k (k := .inl n) (s2.keep _ _ hp rfl), _, rfl, ?_⟩
  rw [r.some]
  exact q2 H2 s2
/-- d[n], a dict of one's own -/
theorem ev_subOwn {bb : Bool} {ds : List (Key × α)} {m1 : M Int} {npos : Pos} (ok : Ok p sc NN VV GG k g) (hN : NN[i]? = some x) (hV : VV[j]? = some x) (hL : L[i]? = some (sDict bb S ds)) (ha : EvE g L a .sh tInt m1)
    (hs : NoSl a := by intro _ _; rfl) : EvE g L (.Subscript (.Name x npos) a pos) .sh S (m1.bind fun n => getDM ds (.inl n)) := by
  obtain ⟨hv, ho⟩ := ok.vis hV
  obtain ⟨h1, h2, _⟩ := okName_d ho
  refine PE.imp (pe_dget (by have := ok.room.un; omega) (pe_var (i := i) (by rw [ok.N]; exact hN) hv h1 h2) ha hs) fun σ H Q q => ?_
  obtain ⟨kp, own, at_, q⟩ := tE_iff.mp q
  obtain ⟨Fs, hA, rfl⟩ := at_.sl
  obtain ⟨v, F, e1, e2, pp, vs, rfl, rfl, hp, r⟩ := hA.get hL
  refine ⟨_, e1, sub finE (Same.refl H) at_ q fun n y H2 s2 r2 at2 q2 => ?_⟩
  cases (show y = .int n from r2)
  unfold getDM at q2
  rcases r.get (.inl n) with ⟨g1, g2⟩ | ⟨d', v', g1, g2, g3⟩
  · rw [g1] at q2
    exact q2.elim
  · rw [g1] at q2
    refine ⟨pp, v', rfl, by rw [← g2]; exact DGet.k (k := .inl n) (s2.keep _ _ hp rfl), q2 v' H2 s2 (S.mono g3 fun a o z => ?_)⟩
    have z1 : RX g.fm Fs.flatten H H (if bb then .f0 else .sh) a o := z
    exact RX.same s2 a o (RX.sh a o z1)
end
end Hd

namespace Hd
open PySem PySem.Spec PyProof.Rows L2
section
variable {p : Pr} {sc : Scope} {NN VV GG : List Str} {k : Nat} {g : G} {L : List Slot} {α β δ : Type} {S : Ty α} {T : Ty β} {md md' : Md} {pos : Pos} {st : List Stmt} {D : δ → Out} {i j : Nat} {x : Str} {a b c e : Expr}
/-- a dict that is shared -/
def tDict {α : Type} (T : Ty α) : Ty (List (Key × α)) := ⟨fun ds v R => ∃ a vs, v = .ref a ∧ R a (.dK vs) ∧ KReps T R ds vs, fun ⟨a, vs, e, r, h⟩ s => ⟨a, vs, e, s _ _ r, h.mono s⟩⟩
theorem nn_dict : NotNon (tDict S) := ⟨fun ⟨a, vs, e, _⟩ => by subst e; exact fun z => nomatch z⟩
theorem At.freezeD {fm : Fm} {kp : RdR} {σ : L2.St} {H : Hp} {own : List Addr} {b : Bool} {ds : List (Key × α)} (h : At fm kp L σ H own) (hL : L[i]? = some (sDict b S ds)) : ∃ own', At fm kp (L.set i (sV false (tDict S) ds)) σ H own' ∧ ∀ p ∈ own', p ∈ own := by
  obtain ⟨h1, h2, ⟨Fs, h3, rfl⟩, h4, h5, h6⟩ := h
  obtain ⟨v, F, e1, e2, q, vs, rfl, rfl, hp, r⟩ := h3.get hL
  have qin : q ∈ Fs.flatten := List.mem_flatten.mpr ⟨[q], List.mem_of_getElem? e2, by simp⟩
  have kk : ∀ p ∈ (Fs.set i []).flatten, p ∈ Fs.flatten := fun p hp => (set_sub (i := i)).subset hp
  have qn : q ∉ (Fs.set i []).flatten := by
    have nd := h4
    clear h3 h5 h6 qin kk r hp
    induction Fs generalizing i L σ with
    | nil => simp at e2
    | cons F Fs ih =>
      rw [List.flatten_cons, List.nodup_append] at nd
      cases i with
      | zero =>
        simp at e2
        subst e2
        simp only [List.set_cons_zero, List.flatten_cons, List.nil_append]
        exact fun z => nd.2.2 q (by simp) q z rfl
      | succ i =>
        simp only [List.set_cons_succ, List.flatten_cons, List.mem_append, not_or]
        have e2' : Fs[i]? = some [q] := by simpa using e2
        refine ⟨fun z => nd.2.2 q z q (List.mem_flatten.mpr ⟨[q], List.mem_of_getElem? e2', by simp⟩) rfl, ?_⟩
        cases σ with
        | nil => simp at e1
        | cons s σ =>
          cases L with
          | nil => simp at hL
          | cons l L => exact ih (i := i) (L := L) (σ := σ) (hL := by simpa using hL) (e1 := by simpa using e1) (e2 := e2') (h4 := nd.2.1) (nd := nd.2.1)
  have σe : σ.set i (some (V.ref q)) = σ := by
    apply List.ext_getElem?
    intro n
    by_cases hn : n = i
    · subst hn
      rw [e1]
      have := (List.getElem?_eq_some_iff.mp e1).1
      rw [List.getElem?_set_self this]
    · rw [List.getElem?_set_ne (Ne.symm hn)]
  refine ⟨_, ⟨h1, h2, ⟨Fs.set i [], ?_, rfl⟩, h4.sublist set_sub, fun p hp => h5 p (kk p hp), fun a o z => RX.own (md := .sh) (H := H) kk a o (h6 a o z)⟩, kk⟩
  rw [← σe]
  refine (h3.st (RB.own kk) fun _ _ => rfl).set (s := sV false (tDict S) ds) ⟨rfl, .ref q, rfl, q, vs, rfl, ?_, ?_⟩ i
  · exact .inl ⟨.inl (cl_of hp), qn, (h5 q qin).2.2⟩
  · exact r.mono fun a o z => RX.sh (H := H) a o (RB.own kk b a o z)
theorem evb_freezeD {b : Bool} {ds : List (Key × α)} {m : M δ} (hL : L[i]? = some (sDict b S ds)) (hr : EvB g (L.set i (sV false (tDict S) ds)) st D m) : EvB g L st D m := PSs.imp hr fun E σ H ⟨kp, own, at_, q⟩ => by
  obtain ⟨own', a', _⟩ := at_.freezeD hL
  exact ⟨kp, own', a', q⟩
theorem ev_borrowD {b : Bool} {ds : List (Key × α)} {m : M β} (hf : Flat T ∨ md = .fx) (hL : L[i]? = some (sDict b S ds)) (h : EvE g (L.set i (sV false (tDict S) ds)) e md T m) : EvE g L e md T m := PE.imp h fun σ H Q q => by
  obtain ⟨kp, own, at_, q⟩ := tE_iff.mp q
  obtain ⟨own', a', sub⟩ := at_.freezeD hL
  refine tE_iff.mpr ⟨kp, own', a', ?_⟩
  cases m with
  | ok d =>
    refine fun v H' s r => q v H' s ?_
    rcases hf with hf | rfl
    · exact hf r
    · exact T.mono r fun a o z => ⟨z.1, fun y => (at_.new a y).1 z.2.2.2.2, z.2.2⟩
  | ex c => exact q
  | no => exact q
theorem evt_borrowD {b : Bool} {ds : List (Key × α)} {m : M Bool} (hL : L[i]? = some (sDict b S ds)) (h : EvT g (L.set i (sV false (tDict S) ds)) e m) : EvT g L e m := PT.imp h fun σ H Q q => by
  obtain ⟨kp, own, at_, q⟩ := tT_iff.mp q
  obtain ⟨own', a', sub⟩ := at_.freezeD hL
  refine tT_iff.mpr ⟨kp, own', a', ?_⟩
  cases m <;> exact q

theorem evt_inV {m1 : M Int} {m2 : M (List (Key × α))} (ok : Ok p sc NN VV GG k g) (ha : EvE g L a md tInt m1) (hb : EvE g L b md (tDict S) m2)
    (hk : behindInMarks .In b = false := by first | exact nobehind _ (by decide) (by decide) | rfl) : EvT g L (.Compare a [.In] [b] pos) (m1.bind fun n => m2.bind fun ds => .ok (dgetL ds (.inl n)).isSome) := by
  refine PT.imp (pt_cmp (pc_din (by have := ok.room.un; omega) ha hb) hk) fun σ H Q q => ?_
  obtain ⟨kp, own, at_, q⟩ := tT_iff.mp q
  refine sub finT (Same.refl H) at_ q fun n y H1 s1 r1 at1 q1 => sub finT s1 at1 q1 fun ds z H2 s2 r2 at2 q2 => ?_
  cases (show y = .int n from r1)
  obtain ⟨ad, vs, rfl, h, r⟩ := r2
  have hR : Rd H2 ad (.dK vs) := (RX.rdb (md := md) _ _ h).resolve_right fun z => z
  refine ⟨ad, _, rfl, .inl ⟨vs, .inl n, hR, rfl, rfl⟩, _, rfl, ?_⟩
  rw [r.some]
  exact q2 H2 (s1.trans s2)
theorem evt_notinV {m1 : M Int} {m2 : M (List (Key × α))} (ok : Ok p sc NN VV GG k g) (ha : EvE g L a md tInt m1) (hb : EvE g L b md (tDict S) m2)
    (hk : behindInMarks .NotIn b = false := by first | exact nobehind _ (by decide) (by decide) | rfl) : EvT g L (.Compare a [.NotIn] [b] pos) (m1.bind fun n => m2.bind fun ds => .ok (!(dgetL ds (.inl n)).isSome)) := by
  refine PT.imp (pt_cmp (pc_dnotin (by have := ok.room.un; omega) ha hb) hk) fun σ H Q q => ?_
  obtain ⟨kp, own, at_, q⟩ := tT_iff.mp q
  refine sub finT (Same.refl H) at_ q fun n y H1 s1 r1 at1 q1 => sub finT s1 at1 q1 fun ds z H2 s2 r2 at2 q2 => ?_
  cases (show y = .int n from r1)
  obtain ⟨ad, vs, rfl, h, r⟩ := r2
  have hR : Rd H2 ad (.dK vs) := (RX.rdb (md := md) _ _ h).resolve_right fun z => z
  refine ⟨ad, _, rfl, .inl ⟨vs, .inl n, hR, rfl, rfl⟩, _, rfl, ?_⟩
  rw [r.some]
  exact q2 H2 (s1.trans s2)
theorem ev_subV {m1 : M (List (Key × α))} {m2 : M Int} (ok : Ok p sc NN VV GG k g) (ha : EvE g L a md (tDict S) m1) (hb : EvE g L b md tInt m2) (hs : NoSl b := by intro _ _; rfl) :
    EvE g L (.Subscript a b pos) md S (m1.bind fun ds => m2.bind fun n => getDM ds (.inl n)) := by
  refine PE.imp (pe_dget (by have := ok.room.un; omega) ha hb hs) fun σ H Q q => ?_
  obtain ⟨kp, own, at_, q⟩ := tE_iff.mp q
  refine sub finE (Same.refl H) at_ q fun ds z H1 s1 r1 at1 q1 => sub finE s1 at1 q1 fun n y H2 s2 r2 at2 q2 => ?_
  cases (show y = .int n from r2)
  obtain ⟨ad, vs, rfl, h, r⟩ := (tDict S).mono r1 (RX.same s2)
  have hR : Rd H2 ad (.dK vs) := (RX.rdb (md := md) _ _ h).resolve_right fun z => z
  unfold getDM at q2
  rcases r.get (.inl n) with ⟨g1, g2⟩ | ⟨d', v', g1, g2, g3⟩
  · rw [g1] at q2
    exact q2.elim
  · rw [g1] at q2
    exact ⟨ad, v', rfl, by rw [← g2]; exact .inl ⟨vs, .inl n, hR, rfl, rfl⟩, q2.fin (fr := false) .same (s1.trans s2) at2 (fun c z => by cases z) v' H2 (Same.refl _) (S.mono g3 (Nw.old rfl))⟩
end
end Hd

namespace Hd
open PySem PySem.Spec PyProof.Rows L2
section
variable {p : Pr} {sc : Scope} {NN VV GG : List Str} {k : Nat} {g : G} {L : List Slot} {α β δ : Type} {S : Ty α} {T : Ty β} {md md' : Md} {pos : Pos} {st : List Stmt} {D : δ → Out} {i j : Nat} {x : Str} {a b c e : Expr}
/-- x = {a: b}, b a flat thing -/
theorem evb_newD1 {m1 : M Int} {m2 : M α} {f : List (Key × α) → M δ} {pos' pd : Pos} (ok : OkS p sc NN VV GG k g) (wk : Wk L g.LX) (hN : NN[i]? = some x) (hV : VV[j]? = some x) (hf : Flat S) (ha : EvE g L a md tInt m1) (hb : EvE g L b md' S m2) (hr : ∀ ds, EvB g (L.set i (sDict false S ds)) st D (f ds))
    (hs : ∀ Y : Cx, swapsWith (.Dict [some a] [b] pd) (some (.Name x pos')) pos.line Y.env = pure false := by intro _; rfl) : EvB g L (.Assign [.Name x pos'] (.Dict [some a] [b] pd) pos :: st) D (m1.bind fun n => m2.bind fun d => (M.ok [(.inl n, d)]).bind f) := by
  refine PSs.imp (pss_cons (ps_set (i := i) (by rw [ok.N]; exact ok.nd) (by rw [ok.N]; exact hN) (ok.loc hV) (pe_disp (pps_cons ha hb pps_nil) rfl rfl (by simp) (by simp)) (hs _) (okS_fn ok)) (PSs.ex hr)) fun E σ H ⟨kp, own, at_, q⟩ => ?_
  intro q' hq'
  refine tE_iff.mpr ⟨kp, own, at_.ext (newSame hq'), ?_⟩
  cases m1 with
  | ok n =>
    intro y H1 s1 r1
    cases (show y = .int n from r1)
    have a1 := (at_.ext (newSame hq' (o := .dK []))).ext s1
    refine tE_iff.mpr ⟨kp, own, a1, ?_⟩
    cases m2 with
    | ok d =>
      intro z H2 s2 r2
      refine ⟨s2.keep _ _ (s1.keep _ _ upd_same rfl) rfl, [(.inl n, z)], rfl, by simp, ?_⟩
      obtain ⟨own', a'⟩ := at_.setOwnD (S := S) (i := i) (b := false) (ds := [(.inl n, d)]) (vs := [(.inl n, z)]) (H' := upd H2 q' (.dK [(.inl n, z)])) ((((newSame hq').trans s1).trans s2).wr hq' (s2.keep _ _ (s1.keep _ _ upd_same rfl) rfl) (fun _ z => nomatch z) rfl) hq' upd_same (.cons (hf r2) .nil)
      exact ⟨[(.inl n, d)], kp, own', a', q⟩
    | ex c => exact BOk.exx wk a1 q
    | no => exact q
  | ex c => exact BOk.exx wk (at_.ext (newSame hq')) q
  | no => exact q
end
end Hd

namespace Hd
open PySem PySem.Spec PyProof.Rows L2
/-! ### list(reversed(x)) -/
section
variable {prog : Program} {w : World} {A : Around} {E : Value → Shared → Prop} {s : Shared}
theorem call_list_rev {it l : Addr} {items : Array Value} {Q : Value → Shared → Prop} (hh : A.handled = none) (hit : s.heap.IsRevIter it l ((items.size : Int) - 1)) (hl : s.heap.IsList l items) (hne : l ≠ it) (hn : items.size ≤ sizeLine)
    (hQ : ∀ (h' : Heap) (tk : Nat) (acc : Array Value) (c' : Nat), (∀ b o, b ≠ it → s.heap.get? b = some o → h'.get? b = some o) → h'.get? s.heap.objs.size = some { cls := .type "list", data := .seq acc c' } →
      ItemsOf (fun i v => items[items.size - 1 - i]? = some v) acc items.size → Q (.ref s.heap.objs.size) { s with heap := h', toks := tk }) :
    wpAny (model prog w) A (call (.type "list") [.ref it]) Q E s := by
  refine callType_codes (Q₁ := fun obj s₁ => obj = .ref s.heap.objs.size ∧ s₁ = { s with heap := s.heap.push { cls := .type "list", data := .seq #[] } }) F.called_list (F.typeCall_list_1 _) F.entry_list_init
    (code_list_new _ ⟨rfl, rfl⟩) fun obj s₁ h₁ => ?_
  obtain ⟨rfl, rfl⟩ := h₁
  have hS : (s.heap.push { cls := .type "list", data := .seq #[] }).get? s.heap.objs.size = some { cls := .type "list", data := .seq #[] } := Heap.get?_push_size _ rfl
  refine ⟨⟨_, hS, rfl⟩, F.args_list_init_2 _ _, ?_⟩
  obtain ⟨oi, hoi, hoc, hod⟩ := id hit
  obtain ⟨ol, hol, _⟩ := id hl
  have hSi : s.heap.objs.size ≠ it := Nat.ne_of_gt (Heap.lt_size hoi)
  have hSl : s.heap.objs.size ≠ l := Nat.ne_of_gt (Heap.lt_size hol)
  have hSf : s.heap.objs.size ∉ [it, l] := by simp only [List.mem_cons, List.not_mem_nil, or_false, not_or]; exact ⟨hSi, hSl⟩
  have W := (Walks.listRev (prog := prog) (w := w) (A := A.in1.in1) hh it l hne items).toS
  show wpAny _ A.in1.in1 (do let old ← Builtin.List.listItems (.ref s.heap.objs.size); Builtin.List.listUpdate (.ref s.heap.objs.size) (fun _ => #[]); letGo old.toList.reverse; Builtin.List.listExtendWith (.ref s.heap.objs.size) (.ref it) .none) _ _ _
  refine wpAny_bind ?_
  unfold Builtin.List.listItems
  refine wpAny_bind (wpAny_seqItems hS rfl (wpAny_pure ?_))
  show wpAny _ A.in1.in1 (updateSeq s.heap.objs.size (fun _ => #[]) >>= fun _ => letGo (#[] : Array Value).toList.reverse >>= fun _ => Builtin.List.listExtendWith (.ref s.heap.objs.size) (.ref it) .none) _ _ _
  refine wpAny_bind (wpAny_updateSeq hS rfl ?_)
  have hS2 := Heap.get?_update_self (Obj.mapSeq (fun _ => (#[] : Array Value))) hS rfl
  refine wpAny_bind (wpAny_letGo ?_)
  have up : ∀ b o, s.heap.get? b = some o → ((s.heap.push { cls := .type "list", data := .seq #[] }).update s.heap.objs.size (Obj.mapSeq (fun _ => (#[] : Array Value)))).get? b = some o := fun b o e =>
    (Heap.get?_update_other _ _ (Ne.symm (Nat.ne_of_lt (Heap.lt_size e)))).trans (Heap.get?_push_of_some _ e)
  have hit1 : ((s.heap.push { cls := .type "list", data := .seq #[] }).update s.heap.objs.size (Obj.mapSeq (fun _ => (#[] : Array Value)))).IsRevIter it l ((items.size : Int) - 1) := ⟨oi, up _ _ hoi, hoc, hod⟩
  have hl1 : ((s.heap.push { cls := .type "list", data := .seq #[] }).update s.heap.objs.size (Obj.mapSeq (fun _ => (#[] : Array Value)))).IsList l items := by
    obtain ⟨o, ho, r⟩ := hl
    exact ⟨o, up _ _ ho, r⟩
  generalize ((s.heap.push { cls := .type "list", data := .seq #[] }).update s.heap.objs.size (Obj.mapSeq (fun _ => (#[] : Array Value)))) = h2 at hS2 up hit1 hl1 ⊢
  unfold Builtin.List.listExtendWith
  have hT : ({ s with heap := h2 } : Shared).TypeIs (.ref it) "list_reverseiterator" := Heap.IsRevIter.typeIs (s := { s with heap := h2 }) hit1
  have h1 : Builtin.List.listSameRef (.ref s.heap.objs.size) (.ref it) = false := by simp [Builtin.List.listSameRef, hSi]
  refine wpAny_bind (wpAny_typeOf hT ?_)
  rw [if_neg (by rw [h1]; decide)]
  refine wpAny_bind (wpAny_pyIter_revIter (s := { s with heap := h2 }) hit1 ?_)
  refine wpAny_bind (wpAny_holding ?_)
  unfold Builtin.List.listLengthHint
  refine wpAny_bind (wpAny_specialOf hT RT.nolen_lri ?_)
  show wpAny _ A.in1.in1 (specialOf (Value.ref it) (Str.ofString "__length_hint__") >>= _) _ _ _
  refine wpAny_bind (wpAny_specialOf hT RT.hint_lri ?_)
  generalize hid : ("list_reverseiterator.__length_hint__" : String) = id0
  wp_delta
  rw [show splitId id0 = some ("list_reverseiterator", "__length_hint__") from by subst hid; decide +kernel]
  subst hid
  refine wpAny_bind (wpAny_isInstance (b := true) hT (by rw [isSubtype_type]; kernel_rfl) ?_)
  refine wpAny_pure ?_
  rw [if_neg (by decide)]
  have e0 : ((items.size : Nat) : Int) - 1 - ((0 : Nat) : Int) = (items.size : Int) - 1 := by omega
  refine wpAny_pure ⟨plainId_quiet F.plain_extend_loop _, codeAny_extend_loopS W hn _ hSf _ items.size 0 _ _ _ rfl (Nat.zero_le _) ⟨Nat.zero_le _, by rw [e0]; exact hit1, hl1⟩ hS2 (ItemsOf.nil _) fun s' acc' c' hm hS' hacc => ?_⟩
  rw [Moved.eq_with hm]
  refine ⟨rfl, hQ s'.heap s'.toks acc' c' (fun b o hb e => hm.heap b o (fun hmem => ?_) (up _ _ e)) hS' hacc⟩
  rcases List.mem_cons.mp hmem with e' | hmem
  · exact absurd (Heap.lt_size e) (by rw [e']; exact Nat.lt_irrefl _)
  · rcases List.mem_cons.mp hmem with e' | hmem
    · exact hb e'
    · exact absurd hmem (by simp)
end
def tLstRev (K : PySem.W.Frag) (te : TE) : TE := fun σ H Q => te σ H fun v H1 => ∃ (a : Addr) (xs : List V), v = .ref a ∧ SqL K H1 a xs ∧ ∀ q, H1 q = none → Q (.ref q) (upd H1 q (.lst xs.reverse))
theorem pe_lstRev {X : Cx} {e : Expr} {te : TE} {p p2 pos pos2 : Pos} (hc : X.calm = true) (hg : Gl X "list") (hm : X.mg "list" = none) (hg2 : Gl X "reversed") (hm2 : X.mg "reversed" = none) (he : PE X e te)
    (hs : starEach [e] X.env = (false, eval e X.env) :: starEach [] X.env := by rfl)
    (hs2 : starEach [.Call (.Name "reversed" p2) [e] [] pos2] X.env = (false, eval (.Call (.Name "reversed" p2) [e] [] pos2) X.env) :: starEach [] X.env := by rfl) :
    PE X (.Call (.Name "list" p) [.Call (.Name "reversed" p2) [e] [] pos2] [] pos) (tLstRev X.K te) := by
  refine ⟨fun pins s σ H Q I h => ?_⟩
  refine Call_ (ld_blt I hg hm boot_list (PyProof.Rows.callWith_type1 (args_cons (Call_ (ld_blt I hg2 hm2 PyProof.Rows.boot_reversed (PyProof.Rows.callWith_type1 (args_cons (thn (he.run pins s σ H _ I h) fun u s1 ⟨v, H1, I1, r1, q1⟩ => args_nil ?_) hs) hs rfl))) hs2) hs2 rfl))
  obtain ⟨a, xs, ev, hq, q⟩ := q1
  subst ev
  obtain rfl : u = Value.ref a := r1
  obtain ⟨its, rv, p', hz⟩ := I1.list hq
  refine call_reversed_list p'.isList (args_nil ?_)
  have k0 : ∀ b o, s1.heap.get? b = some o → (s1.heap.push (revObj a ((its.toArray.size : Int) - 1))).get? b = some o := fun b o e => Heap.get?_push_of_some _ e
  have I2 : Inv X pins σ H1 { s1 with heap := s1.heap.push (revObj a ((its.toArray.size : Int) - 1)) } := I1.kept (t' := s1.toks) k0
  obtain ⟨f0, f1, f2, f3, f4, f5⟩ := I1.fpOk (H' := H1) (b := s1.heap.objs.size) (Nat.le_refl _) (I1.hok.fresh (Nat.le_refl _))
  have hl := p'.isList
  obtain ⟨ol, hol, _⟩ := id hl
  have hne : a ≠ s1.heap.objs.size := Nat.ne_of_lt (Heap.lt_size hol)
  have hn : its.toArray.size ≤ sizeLine := by rw [List.size_toArray, ← rv.length]; exact hz
  refine call_list_rev (s := { s1 with heap := s1.heap.push (revObj a ((its.toArray.size : Int) - 1)) }) (I1.ok.hd hc) ⟨_, Heap.get?_push_size _ rfl, rfl, rfl⟩ (hl.push _) hne hn fun h' tk acc c' hk hS hi => ?_
  have nN : H1 (s1.heap.push (revObj a ((its.toArray.size : Int) - 1))).objs.size = none := I2.hok.fresh (Nat.le_refl _)
  have sz : s1.heap.objs.size < (s1.heap.push (revObj a ((its.toArray.size : Int) - 1))).objs.size := by rw [Heap.size_push]; omega
  refine ⟨.ref (s1.heap.push (revObj a ((its.toArray.size : Int) - 1))).objs.size, upd H1 (s1.heap.push (revObj a ((its.toArray.size : Int) - 1))).objs.size (.lst xs.reverse), ?_, rfl, q _ nN⟩
  refine I2.turnedNew (t' := tk) (ch := [s1.heap.objs.size]) (fun b o hb e => hk b o (by simpa using hb) e) (fun b hb => ?_) (Nat.le_refl _) (show ObjOk X.prog X.w _ _ _ (.lst xs.reverse) from ⟨by rw [List.length_reverse]; exact hz, acc.toList, c', RT.vals_rev rv hi, by rw [Array.toArray_toList]; exact hS⟩)
  have e : b = s1.heap.objs.size := by simpa using hb
  subst e
  exact ⟨f0, f1, f2, f3, f4, f5⟩
section
variable {p : Pr} {sc : Scope} {NN VV GG : List Str} {k : Nat} {g : G} {L : List Slot} {α β δ : Type} {S : Ty α} {T : Ty β} {Q : Ty (List α)} {md md' : Md} {pos pp p2 pos2 : Pos} {st : List Stmt} {D : δ → Out} {i j j2 : Nat} {x : Str} {a b c e : Expr}
theorem evl_listRev {mx : M (List α)} (ok : Ok p sc NN VV GG k g) (hq : IsSq p.K Q S) (hL : ∀ {d v R H}, Rdb p.K R H → Q.rep d v R → ∃ a vs, v = .ref a ∧ SqL p.K H a vs ∧ Reps S R d vs) (hG : GG[j]? = some "list") (hmg : p.mg "list" = none) (hG2 : GG[j2]? = some "reversed") (hmg2 : p.mg "reversed" = none) (ha : EvE g L e md Q mx)
    (hs : starEach [e] g.X.env = (false, eval e g.X.env) :: starEach [] g.X.env := by rfl) (hs2 : starEach [.Call (.Name "reversed" p2) [e] [] pos2] g.X.env = (false, eval (.Call (.Name "reversed" p2) [e] [] pos2) g.X.env) :: starEach [] g.X.env := by rfl) :
    EvL g L (.Call (.Name "list" pp) [.Call (.Name "reversed" p2) [e] [] pos2] [] pos) md S (mx.bind fun d => .ok d.reverse) := by
  obtain ⟨hg, ho⟩ := ok.gl hG
  obtain ⟨hg2, ho2⟩ := ok.gl hG2
  refine PE.imp (pe_lstRev ok.calm hg (by rw [ok.mg]; exact hmg) hg2 (by rw [ok.mg]; exact hmg2) ha hs hs2) fun σ H W q => ?_
  obtain ⟨kp, own, at_, q⟩ := tL_iff.mp q
  refine tE_iff.mpr ⟨kp, own, at_, ?_⟩
  cases mx with
  | ok d =>
    intro v H1 s1 rx
    obtain ⟨a, ws, rfl, h, rr⟩ := hL (by rw [← ok.fmK]; exact RX.rdb) rx
    exact ⟨a, ws, rfl, by rw [ok.K]; exact h, fun l hl => q l ws.reverse _ (s1.trans (newSame hl)) (s1.free hl) upd_same (rr.reverse.mono (RX.add hl))⟩
  | ex c => exact q
  | no => exact q
theorem sqL_list {K : PySem.W.Frag} : ∀ {d : List α} {v R H}, Rdb K R H → (tList S).rep d v R → ∃ a vs, v = .ref a ∧ SqL K H a vs ∧ Reps S R d vs := fun {d v R H} rb ⟨a, vs, e, r, h⟩ => by
  refine ⟨a, vs, e, ?_, h⟩
  rcases rb _ _ r with r | r
  · exact .inl r
  · exact r.elim
/-! ### list(range(..)) -/
def rangeL (lo hi : Int) : M (List Int) := if -(2 ^ 62) ≤ lo ∧ lo < 2 ^ 62 ∧ -(2 ^ 62) ≤ hi ∧ hi < 2 ^ 62 ∧ (hi - lo).toNat ≤ 2 ^ 24 then .ok (upFrom lo (hi - lo).toNat) else .no
theorem rgV_up (lo hi : Int) : rgV lo hi = (upFrom lo (hi - lo).toNat).map V.int := by
  apply List.ext_getElem?
  intro i
  unfold rgV
  rw [List.getElem?_map, List.getElem?_map, upFrom_get]
  by_cases h : i < (hi - lo).toNat
  · rw [if_pos h, List.getElem?_range h]; rfl
  · rw [if_neg h, List.getElem?_eq_none (by simp; omega)]; rfl
theorem rangeL_ok {lo hi : Int} {F : M (List Int) → Prop} (no : ¬ F .no) (q : F (rangeL lo hi)) : RgOk lo hi ∧ F (.ok (upFrom lo (hi - lo).toNat)) := by
  unfold rangeL at q
  split at q
  · rename_i h; exact ⟨h, q⟩
  · exact absurd q no
theorem evl_listRg1 {m : M Int} (ok : Ok p sc NN VV GG k g) (hG : GG[j]? = some "list") (hmg : p.mg "list" = none) (hG2 : GG[j2]? = some "range") (hmg2 : p.mg "range" = none) (ha : EvE g L a md tInt m)
    (hs : starEach [a] g.X.env = (false, eval a g.X.env) :: starEach [] g.X.env := by rfl) (hs2 : starEach [.Call (.Name "range" p2) [a] [] pos2] g.X.env = (false, eval (.Call (.Name "range" p2) [a] [] pos2) g.X.env) :: starEach [] g.X.env := by rfl) :
    EvL g L (.Call (.Name "list" pp) [.Call (.Name "range" p2) [a] [] pos2] [] pos) md' tInt (m.bind fun n => rangeL 0 n) := by
  obtain ⟨hg, ho⟩ := ok.gl hG
  obtain ⟨hg2, ho2⟩ := ok.gl hG2
  refine PE.imp (pe_listRg ok.calm hg (by rw [ok.mg]; exact hmg) (prg_1 hg2 (by rw [ok.mg]; exact hmg2) ha hs) hs2) fun σ H W q => ?_
  obtain ⟨kp, own, at_, q⟩ := tL_iff.mp q
  refine tE_iff.mpr ⟨kp, own, at_, ?_⟩
  cases m with
  | ok n =>
    intro v H1 s1 rx
    cases (show v = .int n from rx)
    obtain ⟨h1, q⟩ := rangeL_ok (F := FinL g.fm g.W own σ H md' tInt W) (fun z => z) q
    exact ⟨n, rfl, h1, fun l hl => q l _ _ (s1.trans (newSame hl)) (s1.free hl) upd_same (by rw [rgV_up]; exact reps_ints _)⟩
  | ex c => exact q
  | no => exact q
theorem evl_listRg2 {m1 m2 : M Int} (ok : Ok p sc NN VV GG k g) (hG : GG[j]? = some "list") (hmg : p.mg "list" = none) (hG2 : GG[j2]? = some "range") (hmg2 : p.mg "range" = none) (ha : EvE g L a md tInt m1) (hb : EvE g L b md tInt m2)
    (hs : starEach [a, b] g.X.env = (false, eval a g.X.env) :: starEach [b] g.X.env := by rfl) (hs' : starEach [b] g.X.env = (false, eval b g.X.env) :: starEach [] g.X.env := by rfl) (hs2 : starEach [.Call (.Name "range" p2) [a, b] [] pos2] g.X.env = (false, eval (.Call (.Name "range" p2) [a, b] [] pos2) g.X.env) :: starEach [] g.X.env := by rfl) :
    EvL g L (.Call (.Name "list" pp) [.Call (.Name "range" p2) [a, b] [] pos2] [] pos) md' tInt (m1.bind fun lo => m2.bind fun hi => rangeL lo hi) := by
  obtain ⟨hg, ho⟩ := ok.gl hG
  obtain ⟨hg2, ho2⟩ := ok.gl hG2
  refine PE.imp (pe_listRg ok.calm hg (by rw [ok.mg]; exact hmg) (prg_2 hg2 (by rw [ok.mg]; exact hmg2) ha hb hs hs' (by rw [hs']; rfl)) hs2) fun σ H W q => ?_
  obtain ⟨kp, own, at_, q⟩ := tL_iff.mp q
  refine tE_iff.mpr ⟨kp, own, at_, ?_⟩
  cases m1 with
  | ok lo =>
    intro v H1 s1 rx
    cases (show v = .int lo from rx)
    refine tE_iff.mpr ⟨kp, own, at_.ext s1, ?_⟩
    cases m2 with
    | ok hi =>
      intro v H2 s2 rx
      cases (show v = .int hi from rx)
      obtain ⟨h1, q⟩ := rangeL_ok (F := FinL g.fm g.W own σ H md' tInt W) (fun z => z) q
      exact ⟨lo, hi, rfl, rfl, h1, fun l hl => q l _ _ ((s1.trans s2).trans (newSame hl)) ((s1.trans s2).free hl) upd_same (by rw [rgV_up]; exact reps_ints _)⟩
    | ex c => exact fun H' s => q H' (s1.trans s)
    | no => exact q
  | ex c => exact q
  | no => exact q
end
end Hd

namespace Hd
open PySem PySem.Spec PyProof.Rows L2
/-! ### sorted(range(..), key=f) -/
theorem eachIs_get {α β : Type} {R : α → β → Prop} : ∀ (as : List α) (bs : List β), as.length = bs.length → (∀ (i : Nat) a b, as[i]? = some a → bs[i]? = some b → R a b) → PySem.W.EachIs R as bs
  | [], [], _, _ => .nil
  | [], _ :: _, h, _ => by simp at h
  | _ :: _, [], h, _ => by simp at h
  | a :: as, b :: bs, h, f => .cons (f 0 a b rfl rfl) (eachIs_get as bs (by simpa using h) fun i x y e1 e2 => f (i + 1) x y (by simpa using e1) (by simpa using e2))
section
variable {prog : Program} {w : World} {A : Around} {E : Value → Shared → Prop} {s : Shared}
theorem sorted_key_range {r q : Addr} {lo hi : Int} {t u v : Tok} {Q : Value → Shared → Prop} (k : Int → PyData) (hh : A.handled = none) (hr : IsRange s.heap r lo hi 1 t u v) (ok : RgOk lo hi)
    (hal : PySem.W.AllAlike ((upFrom lo (hi - lo).toNat).map k)) (hk : PySem.W.Sortable ((upFrom lo (hi - lo).toNat).map k)) (hu : ∀ x, x ∈ upFrom lo (hi - lo).toNat → A.units + 2 + (k x).depth < cLine)
    (turn : ∀ (x : Int) (tx : Tok), x ∈ upFrom lo (hi - lo).toNat → ∀ (h : Heap) (tk : Nat), (∀ b o, s.heap.get? b = some o → h.get? b = some o) →
      wpAny (model prog w) A.in1.in1 (call (.ref q) [.int x tx]) (PySem.W.KeyPure (k x) { s with heap := h, toks := tk }) (fun _ _ => False) { s with heap := h, toks := tk })
    (h : ∀ (h1 : Heap) (tk1 : Nat), (∀ b o, s.heap.get? b = some o → h1.get? b = some o) → ∀ (out : List Value) (c : Nat) (h' : Heap) (tk : Nat), (∀ b o, h1.get? b = some o → h'.get? b = some o) → h'.get? h1.objs.size = some { cls := .type "list", data := .seq out.toArray c } → PySem.W.EachIs (fun v x => ∃ t, v = Value.int x t) out ((upFrom lo (hi - lo).toNat).mergeSort (PySem.W.dataLe false k)) →
      Q (.ref h1.objs.size) { s with heap := h', toks := tk }) :
    wpAny (model prog w) A (call (.builtin "sorted") [.ref r] [(Str.ofString "key", .ref q)]) Q E s := by
  obtain ⟨b1, b2, b3, b4, b5⟩ := ok
  have hline : (2 : Nat) ^ 24 ≤ sizeLine := by rw [sizeLine_eq]; decide
  refine PyProof.Rows.call_function_entry_kw kind_sorted plain_sorted entry_sorted (ksk_s1 _ _) ?_
  unfold Builtin.«sorted»
  refine wpAny_bind (m := checkCount "sorted" 1 1 _) (wpAny_pure ?_)
  refine wpAny_bind (collect_range (A := A.in1) hh hr (small_one b1 b2 b3 b4) (rangeSize_nat lo hi) b5 fun h1 tk1 acc hk1 hi1 => ?_)
  have hL : acc.toList.length ≤ sizeLine := by rw [Array.length_toList, hi1.1]; exact Nat.le_trans b5 hline
  refine wpAny_bind (wpAny_newList ?_ hL)
  have each : PySem.W.EachIs (fun v x => ∃ t, v = Value.int x t) acc.toList (upFrom lo (hi - lo).toNat) := by
    refine eachIs_get _ _ (by rw [Array.length_toList, hi1.1, upFrom_len]) fun i a b e1 e2 => ?_
    obtain ⟨t, e⟩ := hi1.2 i a (by rw [← Array.getElem?_toList]; exact e1)
    rw [upFrom_get] at e2
    split at e2
    · cases e2; exact ⟨t, by rw [e, Int.mul_one]⟩
    · cases e2
  have at1 : (h1.push { cls := .type "list", data := .seq acc.toList.toArray }).get? h1.objs.size = some { cls := .type "list", data := .seq acc.toList.toArray } := Heap.get?_push_size _ rfl
  have up1 : ∀ b o, h1.get? b = some o → b ≠ h1.objs.size ∧ (h1.push { cls := .type "list", data := .seq acc.toList.toArray }).get? b = some o := fun b o e =>
    ⟨Nat.ne_of_lt (Heap.lt_size e), Heap.get?_push_of_some _ e⟩
  refine wpAny_bind (wpAny_holding (PySem.W.list_sort_key_data (s := { s with heap := h1.push { cls := .type "list", data := .seq acc.toList.toArray }, toks := tk1 }) (R := fun v x => ∃ t, v = Value.int x t) (f := .ref q) (b := false) (n := 0) k at1 each hal hk (by rw [← each.length]; exact hL) (fun x hx => by have := hu x hx; simp only [Around.in1] at *; omega) (ksk_l1 _ _) (ksk_t1 _ _) (fun v x hR hx h tk kp => ?_) fun out c h' tk kp hD _ hE => ?_))
  · obtain ⟨tx, rfl⟩ := hR
    exact turn x tx hx h tk fun b o e => kp b o (up1 b o (hk1 b o e)).1 (up1 b o (hk1 b o e)).2
  · exact wpAny_pure ⟨_, rfl, h h1 tk1 hk1 out c h' tk (fun b o e => kp b o (up1 b o e).1 (up1 b o e).2) hD hE⟩
end
/-! ### the lambda -/
section
open LamX
variable {X : Cx} {pins : List (Addr × Obj)} {σ : L2.St} {H : Hp} {s : Shared}
/-- a table that has one more code object -/
theorem same_tab {P c' : Addr} {ps : Array Value} {pos : Pos} (hP : H P = some (.tbl ps)) (nC : H c' = none) : Same H (upd (upd H P (.tbl (ps ++ #[rawInt pos.line, rawInt pos.col, .ref c']))) c' (CodeO c' lamQ)) := by
  have nPc : P ≠ c' := ne_of_none hP nC
  refine ⟨fun a o e n => ?_, fun a e => ?_, fun P' ⟨ps', t1, t2, t3⟩ => ?_⟩
  · have n1 : a ≠ c' := ne_of_none e nC
    have n2 : a ≠ P := fun z => by rw [z, hP] at e; cases e; cases n
    rw [upd_ne n1, upd_ne n2]; exact e
  · by_cases z : a = c'
    · rw [z, upd_same] at e; cases e
    · rw [upd_ne z] at e
      by_cases z2 : a = P
      · rw [z2, upd_same] at e; cases e
      · rw [upd_ne z2] at e; exact e
  · have old : ∀ c2, H c2 = some (CodeO c2 lamQ) → upd (upd H P (.tbl (ps ++ #[rawInt pos.line, rawInt pos.col, .ref c']))) c' (CodeO c' lamQ) c2 = some (CodeO c2 lamQ) := fun c2 e => by
      have n1 : c2 ≠ c' := ne_of_none e nC
      have n2 : c2 ≠ P := fun z => by rw [z, hP] at e; exact codeO_ne ps (Option.some.inj e).symm
      rw [upd_ne n1, upd_ne n2]; exact e
    by_cases hb : P' = P
    · subst hb
      rw [hP] at t1
      cases t1
      have eL : (ps ++ #[rawInt pos.line, rawInt pos.col, .ref c']).toList = ps.toList ++ [rawInt pos.line, rawInt pos.col, .ref c'] := by simp
      refine ⟨_, by rw [upd_ne nPc, upd_same], by rw [eL]; exact PySem.TriplesOk_snoc _ _ _ _ t2, fun p' cv hcv => ?_⟩
      rw [eL] at hcv
      rcases among_app _ t2 hcv with z | z
      · obtain ⟨c0, e1, e2⟩ := t3 p' cv z
        exact ⟨c0, e1, old c0 e2⟩
      · exact ⟨c', z, upd_same⟩
    · refine ⟨ps', by rw [upd_ne (ne_of_none t1 nC), upd_ne hb]; exact t1, t2, fun p' cv hcv => ?_⟩
      obtain ⟨c0, e1, e2⟩ := t3 p' cv hcv
      exact ⟨c0, e1, old c0 e2⟩
theorem lam_mk {c P : Addr} {params : Arguments} {body : Expr} {scope : Scope} {pos : Pos} {E : Value → Shared → Prop} {Q : Value → Shared → Prop} (I : Inv X pins σ H s) (TB : TabB X.base X.mg c P) (hcode : X.env.code = .ref c)
    (hq : X.env.qual ++ "<lambda>" = lamQ) (hT : TabS H P lamQ) (hdef : defaultsOf params X.env = ([], [])) (hfree : ∀ y ∈ scope.names, y.2 = .free → ∃ c, X.env.cells.lookup y.1 = some c)
    (h : ∀ (f c' : Addr) (pm ctv : Value) (H1 : Hp) (s' : Shared), Inv X pins σ H1 s' → Same H H1 →
      s'.heap.get? f = some (PySem.W.kla_obj "<lambda>" lamQ params body scope (cloFrom X.env.cells scope.names []) pm c' ctv) → H1 c' = some (CodeO c' lamQ) → Q (.ref f) s') :
    wpAny (model X.prog X.w) X.A (eval (.Lambda params body scope pos) X.env) Q E s := by
  obtain ⟨ps, hP, ht, ha⟩ := hT
  have hP' : s.heap.get? P = some { cls := .none, data := .fields ps } := I.hok P _ hP
  have bP : s.heap.BuiltinsAt X.mg P := TB.bm.keeps I.bk
  rw [← hq] at ha h
  refine PySem.W.kla_eval hdef ?_
  cases hc : codeAmong pos ps.toList with
  | some cv =>
    obtain ⟨c', rfl, hco⟩ := ha pos cv hc
    refine PySem.W.kla_makeFunctionHit (c := c) (P := P) (ps := ps) (mg := X.mg) (closure_ok hfree) I.ok.glob (I.mod.glob.keeps I.bk) hcode (TB.code.keeps I.bk) hP' ht hc bP fun ctv h' tk hx hsz => ?_
    refine h h'.objs.size c' ((X.mg "__name__").getD .none) ctv H _ (I.kept (t' := tk) fun b o e => Heap.get?_push_of_some _ (hx b o e)) (Same.refl H) (Heap.get?_push_size _ rfl) hco
  | none =>
    refine PySem.W.kla_makeFunction (c := c) (P := P) (ps := ps) (mg := X.mg) (closure_ok hfree) I.ok.glob (I.mod.glob.keeps I.bk) hcode (TB.code.keeps I.bk) hP' ht hc TB.gP bP fun c' ctv h' tk hx hge hlt hrec htb => ?_
    obtain ⟨c2, oc, vs, t, e2, hoc, hd, hv⟩ := hrec
    cases e2
    have nC : H c' = none := I.hok.fresh hge
    refine h h'.objs.size c' ((X.mg "__name__").getD .none) ctv _ _ (inv_table (t' := tk) (more := #[rawInt pos.line, rawInt pos.col, .ref c']) (h' := h'.push _) I hP (fun b o hb e => Heap.get?_push_of_some _ (hx b o hb e)) (Heap.get?_push_of_some _ htb) hge ⟨oc, vs, t, Heap.get?_push_of_some _ hoc, hd, hv⟩) ?_ (Heap.get?_push_size _ rfl) upd_same
    rw [hq]
    exact same_tab hP nC
end
section
variable {prog : Program} {w : World} {A : Around} {s : Shared}
/-- the lambda's body -/
abbrev lamBody (y z : Str) (q1 q2 q3 q4 q5 q6 : Pos) (x1 : Nat) : Expr := .Tuple [.UnaryOp .USub (.Subscript (.Name y q1) (.Name z q2) q3) q4, .Name z q5] x1 q6
/-- .. at a number -/
theorem lam_key {f c' ca cc : Addr} {y z : Str} {q1 q2 q3 q4 q5 q6 : Pos} {x1 : Nat} {params : Arguments} {scope : Scope} {cl : List (Str × Addr)} {pm ctv : Value} {its : Array Value} {x n : Int} {tx tn : Tok} (room : A.depth < recursionLimit)
    (hf : s.heap.get? f = some (PySem.W.kla_obj "<lambda>" lamQ params (lamBody y z q1 q2 q3 q4 q5 q6 x1) scope cl pm c' ctv)) (hcr : s.heap.CodeRec (.ref c') lamQ) (lim : s.heap.NoLimit)
    (hcl : cl.lookup y = some cc) (hcell : s.heap.IsCell cc (some (.ref ca))) (hl : s.heap.IsList ca its) (hx0 : 0 ≤ x) (hx1 : x < 2 ^ 62) (hit : its[x.toNat]? = some (.int n tn))
    (kd : scope.kind = .function) (co : scope.isCoroutine = false) (gen : scope.isGenerator = false) (nc : ∀ a ∈ scope.names, a.2 ≠ .cell) (sy : scope.names.lookup y = some .free) (sz : scope.names.lookup z = some .local)
    (hy : (y == ("__debug__" : Str)) = false) (hy2 : (y == ("__classdict__" : Str)) = false) (hz : (z == ("__debug__" : Str)) = false)
    (hbind : bindArgs (PySem.W.kla_fn "<lambda>" lamQ params (lamBody y z q1 q2 q3 q4 q5 q6 x1) scope cl pm (.ref c') ctv) ⟨[.int x tx], []⟩ = pure [(z, .int x tx)])
    (hs1 : ∀ env, starEach [Expr.UnaryOp .USub (.Subscript (.Name y q1) (.Name z q2) q3) q4, .Name z q5] env = (false, eval (.UnaryOp .USub (.Subscript (.Name y q1) (.Name z q2) q3) q4) env) :: starEach [Expr.Name z q5] env := by intro _; rfl)
    (hs2 : ∀ env, starEach [Expr.Name z q5] env = (false, eval (.Name z q5) env) :: starEach [] env := by intro _; rfl) :
    wpAny (model prog w) A (call (.ref f) [.int x tx]) (PySem.W.KeyPure (.tuple [.int (-n), .int x]) s) (fun _ _ => False) s := by
  refine wpAny_call (PySem.W.kla_callFunE room hf rfl co gen rfl hcr ?_)
  rw [hbind]
  refine wpAny_pure (wpAny_newFunctionEnv nc (fun a ha => by rw [List.mem_singleton.mp ha]; exact sz) (fun h₁ hns hsb => ⟨lim.fresh _ hsb, ?_⟩) kd)
  have kp : ∀ b o, s.heap.get? b = some o → h₁.get? b = some o := fun b o e => hsb.extBut b o (Nat.ne_of_lt (Heap.lt_size e)) (Heap.get?_push_of_some _ e)
  show codeAny _ _ (.expr (lamBody y z q1 q2 q3 q4 q5 q6 x1) (PySem.W.envX lamQ scope s.heap.objs.size f (.ref c') cl)) _ _
  have cell1 : h₁.IsCell cc (some (.ref ca)) := by obtain ⟨o, ho, hd⟩ := hcell; exact ⟨o, kp _ _ ho, hd⟩
  have list1 : h₁.IsList ca its := by obtain ⟨o, ho, r⟩ := hl; exact ⟨o, kp _ _ ho, r⟩
  have lz : ([(z, Value.int x tx)] : List (Str × Value)).reverse.lookup z = some (.int x tx) := by simp [List.lookup]
  refine PySem.W.kla_codeExpr ?_
  refine wpAny_Tuple_spliced ?_
  rw [hs1]
  show wpAny _ _ (spliced ((false, _) :: backTo q6 (starEach [Expr.Name z q5] _))) _ _ _
  refine Calls.spliced_cons (UnaryOp_ (Subscript_ (wpAny_Name (wpAny_loadName_free kd sy hcl cell1 ?_ hy2) hy)))
  refine wpAny_Name (wpAny_loadName_local kd sz hns lz ?_) hz
  refine item_listR list1 hx0 (by omega) hit ?_
  refine neg_int ?_
  rw [hs2]
  show wpAny _ _ (spliced ((false, _) :: backTo q6 (starEach [] _))) _ _ _
  refine Calls.spliced_cons (wpAny_Name (wpAny_loadName_local kd sz hns lz ?_) hz)
  refine Calls.spliced_nil ⟨by show 2 ≤ sizeLine; rw [sizeLine_eq]; decide, ?_⟩
  show PySem.W.KeyPure _ _ _ _
  refine ⟨_, _, rfl, fun b o e => Heap.get?_push_of_some _ (kp b o e), ?_⟩
  exact .tuple (Heap.get?_push_size _ rfl) rfl rfl (.cons (.int _ _) (.cons (.int _ _) .nil))
end
/-! ### sorted(range(a, b), key=lambda z: (-y[z], z)) -/
def keyC (cs : List Int) (x : Int) : Int := -(cs[x.toNat]?.getD 0)
def sortKey (cs : List Int) (lo hi : Int) : List Int := (upFrom lo (hi - lo).toNat).mergeSort fun p q => decide (keyC cs p < keyC cs q ∨ (keyC cs p = keyC cs q ∧ p ≤ q))
def sortKeyM (cs : List Int) (lo hi : Int) : M (List Int) := if 0 ≤ lo ∧ lo ≤ 1000000 ∧ 0 ≤ hi ∧ hi ≤ 1000000 ∧ hi ≤ (cs.length : Int) then .ok (sortKey cs lo hi) else .no
/-- what is asked of the lambda's text -/
structure LamF (params : Arguments) (body : Expr) (scope : Scope) (y z : Str) : Prop where
  kd : scope.kind = .function
  co : scope.isCoroutine = false
  gen : scope.isGenerator = false
  nc : ∀ a ∈ scope.names, a.2 ≠ .cell
  sy : scope.names.lookup y = some .free
  sz : scope.names.lookup z = some .local
  fr : ∀ a ∈ scope.names, a.2 = .free → a.1 = y
  hy : (y == ("__debug__" : Str)) = false
  hy2 : (y == ("__classdict__" : Str)) = false
  hz : (z == ("__debug__" : Str)) = false
  bind : ∀ (cl : List (Str × Addr)) (pm cv ctv v : Value), bindArgs (PySem.W.kla_fn "<lambda>" lamQ params body scope cl pm cv ctv) ⟨[v], []⟩ = pure [(z, v)]
theorem upFrom_bd {lo x : Int} {n : Nat} (h : x ∈ upFrom lo n) : lo ≤ x ∧ x < lo + n := by
  induction n generalizing lo with
  | zero => simp [upFrom] at h
  | succ n ih =>
    rw [upFrom, List.mem_cons] at h
    rcases h with rfl | h
    · omega
    · have := ih h; omega
/-- behind the range -/
def SortRest (K : PySem.W.Frag) (P : Addr) (i : Nat) (σ : L2.St) (Q : VK) (vs : List V) (H1 : Hp) : Prop := ∃ r lo hi ca cs H2, vs = [V.ref r] ∧ H2 r = none ∧ H1 = upd H2 r (.rng lo hi) ∧ (0 ≤ lo ∧ lo ≤ 1000000 ∧ 0 ≤ hi ∧ hi ≤ 1000000 ∧ hi ≤ ((cs : List Int).length : Int)) ∧ σ[i]? = some (some (V.ref ca)) ∧ SqL K H2 ca (cs.map V.int) ∧ LamX.TabS H2 P lamQ ∧
  ∀ H3 D, Same H2 H3 → H2 D = none → H3 D = some (.lst ((sortKey cs lo hi).map V.int)) → Q (.ref D) H3
def tSortLam (K : PySem.W.Frag) (P : Addr) (i : Nat) (ta tb : TE) : TE := fun σ H Q => ta σ H fun va H1 => tb σ H1 fun vb H2 => ∃ lo hi, [va, vb] = [V.int lo, V.int hi] ∧ ∀ r, H2 r = none → SortRest K P i σ Q [V.ref r] (upd H2 r (.rng lo hi))
theorem vals_each : ∀ {out : List Value} {L : List Int}, PySem.W.EachIs (fun v x => ∃ t, v = Value.int x t) out L → Vals (L.map V.int) out
  | _, _, .nil => .nil
  | _, _, .cons ⟨t, e⟩ h => .cons ⟨t, e⟩ (vals_each h)
theorem sqL_same {K : PySem.W.Frag} {H H' : Hp} {a : Addr} {xs : List V} (s : Same H H') (h : SqL K H a xs) : SqL K H' a xs := h.imp (fun r => Rd.raw (Rd.same s (Rd.clo r))) id
section
open LamX
variable {X : Cx} {k i : Nat} {a b : Expr} {ta tb : TE} {c P : Addr} {params : Arguments} {scope : Scope} {y z : Str} {p1 p2 p3 p4 lpos kpos q1 q2 q3 q4 q5 q6 : Pos} {x1 : Nat}
theorem pe_sortLam (hroom : Room k X.A) (hc : X.calm = true) (hg : Gl X "sorted") (hm : X.mg "sorted" = none) (hg2 : Gl X "range") (hm2 : X.mg "range" = none) (ha : PE X a ta) (hb : PE X b tb) (TB : TabB X.base X.mg c P) (hcode : X.env.code = .ref c)
    (hq : X.env.qual ++ "<lambda>" = lamQ) (hdef : defaultsOf params X.env = ([], [])) (F : LamF params (lamBody y z q1 q2 q3 q4 q5 q6 x1) scope y z) (hcell : X.env.scope.names.lookup y = some .cell) (hN : X.N[i]? = some y)
    (na : starEach [a, b] X.env = (false, eval a X.env) :: starEach [b] X.env) (nb : starEach [b] X.env = (false, eval b X.env) :: starEach [] X.env)
    (nr : starEach [.Call (.Name "range" p2) [a, b] [] p3] X.env = (false, eval (.Call (.Name "range" p2) [a, b] [] p3) X.env) :: starEach [] X.env := by rfl) :
    PE X (.Call (.Name "sorted" p1) [.Call (.Name "range" p2) [a, b] [] p3] [⟨some "key", .Lambda params (lamBody y z q1 q2 q3 q4 q5 q6 x1) scope lpos, kpos⟩] p4) (tSortLam X.K P i ta tb) := by
  refine ⟨fun pins s σ H Q I h => ?_⟩
  have hfree : ∀ n ∈ scope.names, n.2 = .free → ∃ c, X.env.cells.lookup n.1 = some c := fun n hn e => by
    rw [F.fr n hn e]; exact I.ok.has y (.inl hcell)
  have pr : PE X (.Call (.Name "range" p2) [a, b] [] p3) _ := pe_callTy cr_range2 hg2 hm2 (by decide +kernel) (pa_cons ha (pa_cons hb pa_nil nb) na) (by decide) (by decide) na (by rw [nb]; rfl)
  refine wpAny_Call_Name_kw (ld_blt I hg hm (u := .builtin "sorted") (by decide +kernel) ?_ (by decide) (by decide))
  refine PyProof.Rows.callWith_kw (thn ((pa_cons pr pa_nil nr).run p4 pins s σ H (SortRest X.K P i σ Q) I h) fun us s1 ⟨vs, H1, I1, r1, q1⟩ => ?_) (by rw [nr]; rfl) (by rw [nr]; rfl) (by rfl) (by rfl)
  obtain ⟨r, lo, hi, ca, cs, H2, rfl, nr0, rfl, ⟨b1, b2, b3, b4, b5⟩, hσ, hS, hT, q⟩ := q1
  obtain ⟨u1, rfl, ru1⟩ := vals1 r1
  obtain rfl : u1 = Value.ref r := ru1
  have s0 : Same H2 (upd H2 r (.rng lo hi)) := newSame nr0
  show wpAny _ _ (evalAll ((do let v ← eval (.Lambda params (lamBody y z q1 q2 q3 q4 q5 q6 x1) scope lpos) X.env; standAt p4; pure v) :: [])) _ _ s1
  refine wpAny_evalAll_cons (wpAny_bind (lam_mk I1 TB hcode hq (s0.tab P hT) hdef hfree fun f c' pm ctv H3 s2 I2 sm hf hco => wpAny_bind (wpAny_standAt (wpAny_pure (wpAny_evalAll_nil ?_)))))
  show wpAny _ _ (call (.builtin "sorted") [.ref r] [(Str.ofString "key", .ref f)]) _ _ s2
  have hrng : H3 r = some (.rng lo hi) := sm.keep r _ upd_same rfl
  obtain ⟨t, u, v, hrg⟩ := (show ObjOk X.prog X.w H3 s2.heap r (.rng lo hi) from I2.hok r _ hrng)
  obtain ⟨its, rv, pl, hz⟩ := I2.list (sqL_same (s0.trans sm) hS)
  obtain ⟨oc, vs', tq, hoc, hdc, hvc⟩ := (show ObjOk X.prog X.w H3 s2.heap c' (CodeO c' lamQ) from I2.hok c' _ hco).1
  obtain ⟨cc, hcc⟩ := I2.ok.has y (.inl hcell)
  obtain ⟨m, hns, hlook⟩ := I2.loc
  obtain ⟨u', ru', lk⟩ := hlook i y (.ref ca) hN hσ (.inr (.inl hcell))
  obtain rfl : u' = Value.ref ca := ru'
  have hcl : s2.heap.IsCell cc (some (.ref ca)) := by
    rcases lk with ⟨z', _⟩ | ⟨_, c2, hc2, hcell2⟩
    · have z2 : X.env.scope.names.lookup y = some .local := z'
      rw [hcell] at z2; cases z2
    · rw [hcc] at hc2; cases hc2; exact hcell2
  have hmem : (y, NameKind.free) ∈ scope.names := PySem.mem_of_lookup F.sy
  have hclo := NdefX.clo_has hfree hmem hcc
  have hl : its.length = cs.length := by rw [← rv.length, List.length_map]
  refine sorted_key_range (fun x => .tuple [.int (keyC cs x), .int x]) (I2.ok.hd hc) hrg ⟨by omega, by omega, by omega, by omega, by omega⟩ (PySem.W.AllAlike.of fun _ _ => rfl) (PySem.W.Sortable.tuples fun _ => ⟨_, _, rfl⟩) (fun x _ => by have := hroom.un; show X.A.units + 2 + 1 < cLine; omega) (fun x tx hx h tk kp => ?_) fun h1 tk1 hk1 out c2 h' tk hk hD hE => ?_
  · have hx := upFrom_bd hx
    obtain ⟨w, ew, rw'⟩ := rv.get (i := x.toNat) (x := V.int (cs[x.toNat]?.getD 0)) (by
      rw [List.getElem?_map]
      have : x.toNat < cs.length := by omega
      rw [List.getElem?_eq_getElem this]; rfl)
    obtain ⟨tn, rfl⟩ := rw'
    refine lam_key (ca := ca) (s := { s2 with heap := h, toks := tk }) (its := its.toArray) (tn := tn) hroom.depth (kp _ _ hf) ⟨c', oc, vs', tq, rfl, kp _ _ hoc, hdc, hvc⟩ (I2.nolimit.keeps kp) hclo ?_ ?_ (by omega) (by omega) (by simpa using ew) F.kd F.co F.gen F.nc F.sy F.sz F.hy F.hy2 F.hz (F.bind _ _ _ _ _)
    · obtain ⟨o, ho, hd⟩ := hcl; exact ⟨o, kp _ _ ho, hd⟩
    · obtain ⟨o, ho, hr2⟩ := pl.isList; exact ⟨o, kp _ _ ho, hr2⟩
  · have I3 : Inv X pins σ H3 { s2 with heap := h1, toks := tk1 } := I2.kept (t' := tk1) hk1
    have nD : H3 h1.objs.size = none := I3.hok.fresh (Nat.le_refl _)
    rw [PySem.W.dataLe_ii] at hE
    have ev : Vals ((sortKey cs lo hi).map V.int) out := vals_each hE
    have hsz : ((sortKey cs lo hi).map V.int).length ≤ sizeLine := by
      rw [List.length_map, sortKey, List.length_mergeSort, upFrom_len, sizeLine_eq]
      omega
    refine ⟨.ref h1.objs.size, upd H3 h1.objs.size (.lst ((sortKey cs lo hi).map V.int)), I3.laid (t' := tk) hk (Nat.le_refl _) (show ObjOk X.prog X.w _ _ _ (.lst ((sortKey cs lo hi).map V.int)) from ⟨hsz, out, c2, ev, hD⟩), rfl, ?_⟩
    exact q _ _ ((s0.trans sm).trans (newSame nD)) ((s0.trans sm).free nD) upd_same
end
section
open LamX
variable {p : Pr} {sc : Scope} {NN VV GG : List Str} {k i j j2 : Nat} {g : G} {L : List Slot} {a b : Expr} {md md' : Md} {c P : Addr} {params : Arguments} {scope : Scope} {y z : Str} {p1 p2 p3 p4 lpos kpos q1 q2 q3 q4 q5 q6 : Pos} {x1 : Nat}
theorem evl_sortLam {bb : Bool} {m1 m2 : M Int} {cs : List Int} (ok : OkS p sc NN VV GG k g) (hG : GG[j]? = some "sorted") (hmg : p.mg "sorted" = none) (hG2 : GG[j2]? = some "range") (hmg2 : p.mg "range" = none) (hN : NN[i]? = some y) (hL : L[i]? = some (sV bb (tList tInt) cs)) (ha : EvE g L a md tInt m1) (hb : EvE g L b md tInt m2)
    (hT : p.T = some P) (TB : TabB p.base p.mg c P) (hcode : g.X.env.code = .ref c) (hq : g.X.env.qual ++ "<lambda>" = lamQ) (hdef : defaultsOf params g.X.env = ([], [])) (F : LamF params (lamBody y z q1 q2 q3 q4 q5 q6 x1) scope y z) (hcell : sc.names.lookup y = some .cell)
    (na : starEach [a, b] g.X.env = (false, eval a g.X.env) :: starEach [b] g.X.env := by rfl) (nb : starEach [b] g.X.env = (false, eval b g.X.env) :: starEach [] g.X.env := by rfl)
    (nr : starEach [.Call (.Name "range" p2) [a, b] [] p3] g.X.env = (false, eval (.Call (.Name "range" p2) [a, b] [] p3) g.X.env) :: starEach [] g.X.env := by rfl) :
    EvL g L (.Call (.Name "sorted" p1) [.Call (.Name "range" p2) [a, b] [] p3] [⟨some "key", .Lambda params (lamBody y z q1 q2 q3 q4 q5 q6 x1) scope lpos, kpos⟩] p4) md' tInt (m1.bind fun lo => m2.bind fun hi => sortKeyM cs lo hi) := by
  obtain ⟨hg, ho⟩ := ok.gl hG
  obtain ⟨hg2, ho2⟩ := ok.gl hG2
  refine PE.imp (pe_sortLam ok.room ok.calm hg (by rw [ok.mg]; exact hmg) hg2 (by rw [ok.mg]; exact hmg2) ha hb (by rw [ok.base, ok.mg]; exact TB) hcode hq hdef F (by rw [ok.scp]; exact hcell) (by rw [ok.N]; exact hN) na nb nr) fun σ H W q => ?_
  obtain ⟨kp, own, at_, q⟩ := tL_iff.mp q
  refine tE_iff.mpr ⟨kp, own, at_, ?_⟩
  cases m1 with
  | ok lo =>
    intro v H1 s1 rx
    cases (show v = .int lo from rx)
    refine tE_iff.mpr ⟨kp, own, at_.ext s1, ?_⟩
    cases m2 with
    | ok hi =>
      intro v H2 s2 rx
      cases (show v = .int hi from rx)
      have at2 := (at_.ext s1).ext s2
      obtain ⟨Fs, hA, rfl⟩ := at2.sl
      obtain ⟨v, F', e1, e2, rfl, x, rfl, ca, vs, rfl, hR, hr⟩ := hA.get hL
      have q : FinL g.fm g.W Fs.flatten σ H md' tInt W (sortKeyM cs lo hi) := q
      unfold sortKeyM at q
      split at q
      · rename_i hb'
        refine ⟨lo, hi, rfl, fun r hr0 => ⟨r, lo, hi, ca, cs, H2, rfl, hr0, rfl, hb', e1, ?_, ?_, fun H3 D s3 nD hD => ?_⟩⟩
        · rw [← hr.ints, ok.K, ← ok.fmK]
          have hR : RB g.fm Fs.flatten H2 bb ca (.lst vs) := hR
          exact RX.list (md := if bb then .f0 else .sh) (H := H2) (by unfold RB at hR; exact hR)
        · exact at2.same.tab P (ok.tab P hT)
        · exact q D _ H3 ((s1.trans s2).trans s3) ((s1.trans s2).free nD) hD (reps_ints _)
      · exact q.elim
    | ex c => exact fun H' s => q H' (s1.trans s)
    | no => exact q
  | ex c => exact q
  | no => exact q
/-- a def by its body, the code object known -/
theorem fn_genC {α δ : Type} {S : Ty α} {A : Ar δ} {x qual : Str} {st : Stmt} {f : Addr} {fd : FuncData} {ps : List Str} {L0 : δ → List Slot} {n m : Nat} {bm : Bool} {F : δ → M (List α)} (hF : FunD p.K x qual (defArgs st) (defBody st) (defScope st) [] [] f fd) (hS : Sc st NN VV ps GG) (ha : ArS A n L0) (hn : ps.length = n) (hm : n + m = NN.length)
    (hb : ∀ g, OkS p (defScope st) NN VV GG k g → g.LX = List.replicate NN.length sAny → g.X.env.code = fd.code → g.X.env.qual = qual ++ ".<locals>." → ∀ d, EvB g (L0 d ++ List.replicate m sAny) (defBody st) (fun r => .rtL bm S r) (F d)) :
    FnOk p.P p.w p.K p.mg p.base (L2.CX p.P p.w) (k + 1) f fd ps (spM p A (fun r => .rtL bm S r) F) := by
  obtain ⟨oc, od, dV, kV, doc, pm, an, cdv, ct, osl, rfl, lk, hcd, _, _⟩ := hF.ex
  refine fn_of lk hcd hS.S (fun vs H Q E h => ?_) (fun A' outer s H vs Q E hr h => ?_)
  · obtain ⟨d, z, hz, hrep, _⟩ := h
    exact (ha.all (H := H) (R := fun _ => RD ⟨p.K, H, z⟩ [] H) hrep).1.trans hn.symm
  · obtain ⟨d, z, ⟨hz, htab⟩, hrep, q⟩ := h
    have hlen : vs.length = n := (ha.all (H := H) (R := fun _ => RD ⟨p.K, H, z⟩ [] H) hrep).1
    let X : Cx := cxOf (L2.CX p.P p.w) p.P p.w p.K p.mg p.base NN qual (defScope st) f cdv A' outer s H E
    let g : G := ⟨X, ⟨p.K, H, z⟩, fun c _ H' => E (.ref (p.C c)) none H', List.replicate NN.length sAny⟩
    have hN : ∀ {j : Nat} {y : Str}, VV[j]? = some y → y ∈ VV := fun e => List.mem_of_getElem? e
    have ok : OkS p (defScope st) NN VV GG k g :=
      { prog := rfl, w := rfl, K := rfl, mg := rfl, base := rfl, N := rfl, fmK := rfl, tab := htab, room := hr, nd := hS.S.nd
        vis := fun e => let h := seenB_v (List.all_eq_true.mp hS.vis _ (hN e)); ⟨h.2, h.1⟩
        gl := fun e => let h := glB_v (List.all_eq_true.mp hS.gl _ (List.mem_of_getElem? e)); ⟨h.2, h.1⟩
        tk := Takes.imp (takes_of (X := X) rfl rfl rfl (E := E) rfl) (fun cls d σ H ⟨c, e1, e2, h⟩ => by subst e1; subst e2; exact h)
        calm := rfl
        blk := fun h => blkOk_by h
        loc := fun e => locB_v (List.all_eq_true.mp hS.loc _ (hN e))
        fnT := fun _ => rfl
        psO := passes_of (X := X) rfl
        scp := rfl
        stk := rfl
        frm := rfl
        exn := rfl }
    refine ⟨_, hb g ok rfl rfl rfl d, (fun _ _ => False), [], ?_, ?_⟩
    · refine ⟨Same.refl H, hz, ⟨List.replicate n [] ++ List.replicate m [], ?_, by simp [flat_rep]⟩, List.nodup_nil, (fun _ h => nomatch h), fun _ _ h => h.elim⟩
      have h1 := (ha.all (H := H) (R := RB ⟨p.K, H, z⟩ [] H) hrep).2
      have e : L2.start NN vs = vs.map some ++ List.replicate m none := by
        unfold L2.start
        rw [show NN.length - vs.length = m by omega]
      rw [e]
      exact h1.append (AllS.anys m)
    · cases hF' : F d with
      | ok r =>
        rw [hF'] at q
        exact q
      | ex c =>
        rw [hF'] at q
        exact fun σ' H' own a' => q H' a'.same
      | no => rw [hF'] at q; exact q
end
end Hd

namespace Hd
open PySem PySem.Spec L2
/-! ### the end, where a table of code objects grows -/
theorem code_of {K : PySem.W.Frag} {x qual : Str} {params : Arguments} {body : List Stmt} {scope : Scope} {fd : FuncData} {q : He.Defn} (F : FunD K x qual params body scope [] [] (He.fAd K q) fd) : fd.code = .ref (He.codeOf K q) := by
  obtain ⟨oc, od, dV, kV, doc, pm, an, cdv, ct, osl, rfl, lk, hcd, _, _⟩ := F.ex
  unfold He.codeOf
  rw [lk]
  show cdv = _
  unfold PySem.W.codeIn at hcd
  cases cdv with
  | ref c => rfl
  | _ => simp at hcd
theorem law_endT {l : PySem.W.OpenLaw} {k : Nat} {q : Program} {loose : List Str} {XP : (Str → Option Value) → Heap → Prop} {YP : World → Heap → Prop} {d : DefRec} {cl : List Int × Unit → M Bool}
    (hn : l.most = some 63) (hdf : d.params.defaults = []) (hr : Room k callerA)
    (F : ∀ (w : World) (mg : Str → Option Value) (fa : Addr) (h : Heap), YP w h → h.Ns mainGlobals mg → mg d.name = some (.ref fa) →
      ∃ (K : PySem.W.Frag) (fd : FuncData) (C : Ec → Addr) (c P : Addr), K.In h ∧ h.get? P = some { cls := .none, data := .fields #[] } ∧ K.lookup P = none ∧ PySem.W.CodeHd h c P ∧ (∀ (s : Shared) (u : Value), BindsTo s fd ⟨[u], []⟩ [("script", u)]) ∧
        ∀ base : Heap, LamX.TabB base mg c P → FnOk l.prog w K mg base (L2.CX l.prog w) k fa fd ["script"] (spM ⟨l.prog, w, K, mg, base, C, some P⟩ (aCons (tListK K tInt) aNil) (fun r => .rt false tBool r) cl))
    (math : ∀ ns : List Int, ns.length ≤ 63 → cl (ns, ()) = .ok true) : PySem.W.WalkO q loose XP YP l.row.toRowW d [] (fun f vs => PySem.call f vs) := by
  refine LamX.walk_ofTsE (CX := fun w => L2.CX l.prog w) (x := "script") (k := k) hn (by decide) hdf hr (fun w mg fa h Y G hm => ?_) (fun w H s e s' z => ?_)
  · obtain ⟨K, fd, C, c, P, KX, hP, nP, hC, hb, hF⟩ := F w mg fa h Y G hm
    refine ⟨K, KX, fd, [(c, P)], spM ⟨l.prog, w, K, mg, h, C, some P⟩ (aCons (tListK K tInt) aNil) (fun r => .rt false tBool r) cl, fun p hp => by rw [List.mem_singleton.mp hp]; exact hP, fun p hp => by rw [List.mem_singleton.mp hp]; exact nP, fun p hp => by rw [List.mem_singleton.mp hp]; exact hC, hb, fun H a ns hl _ hT hS => ?_, fun base _ _ hB => hF base (hB (c, P) (List.mem_singleton_self _))⟩
    refine ⟨(ns, ()), fun _ => False, ⟨fun _ z => z.elim, fun P' e => by cases e; exact LamX.TabS.nil (hT (c, P) (List.mem_singleton_self _))⟩, ⟨.ref a, [], rfl, ⟨a, ns.map V.int, rfl, hS.imp (fun r => .inl ⟨Rd.clo r, (fun z => nomatch z), fun z => z⟩) id, reps_ints ns⟩, rfl⟩, ?_⟩
    rw [math ns hl]
    exact fun v H' s r => r
  · obtain ⟨a, B, H', cls, d, _, _, _, _, _, _, _, z⟩ := z
    exact z
end Hd

namespace Hd
open PySem PySem.Spec PyProof.Rows L2
/-! ### sorted(a list of numbers) -/
def sortI (xs : List Int) : List Int := xs.mergeSort fun a b => decide (a ≤ b)
def rSortI (K : PySem.W.Frag) : List V → Hp → VK → Prop := fun vs H Q => ∃ (a : Addr) (ns : List Int), vs = [V.ref a] ∧ SqL K H a (ns.map V.int) ∧ ∀ p, H p = none → Q (.ref p) (upd H p (.lst ((sortI ns).map V.int)))
theorem ints_each : ∀ {its : List Value} {ns : List Int}, IntsAre its ns → PySem.W.EachIs (fun v x => ∃ t, v = Value.int x t) its ns
  | _, _, .nil => .nil
  | _, _, .cons n t h => .cons ⟨t, rfl⟩ (ints_each h)
theorem cr_sortI {X : Cx} {k : Nat} (hr : Room k X.A) : CallR X (.builtin "sorted") (rSortI X.K) := by
  intro pins s σ H vs us Q I r h
  obtain ⟨a, ns, rfl, hs, q⟩ := h
  obtain ⟨its, rv, hl, hz⟩ := I.list hs
  obtain ⟨u, rfl, ru⟩ := vals1 r
  obtain rfl : u = Value.ref a := ru
  have hi := rv.ints
  have hlen := hi.length
  rw [List.length_map] at hz
  have e := ints_each hi
  have e' := (PySem.W.dataLe_int (β := Int) (fun x => x)).symm
  refine PySem.W.sorted_data (R := fun v x => ∃ t, v = Value.int x t) (enc := fun x => .int x) hl.isList e (e.mono fun v x ⟨t, ev⟩ => ⟨[], by rw [ev]; exact .int x t⟩) (PySem.W.AllAlike.of fun _ _ => rfl) (PySem.W.Sortable.others fun _ => ⟨(fun z => nomatch z), fun _ z => nomatch z⟩) (by rw [← e.length, hlen]; exact hz) (fun x _ => by have := hr.un; show X.A.units + 2 + 0 < cLine; omega) fun out ho hE => ?_
  obtain ⟨ep, he'⟩ := PyProof.Rows.sortedAll_at s.heap its out.toArray
  have hE : PySem.W.EachIs (fun v x => ∃ t, v = Value.int x t) out (sortI ns) := by
    have : (PySem.W.dataLe false fun x : Int => PyData.int x) = fun a b => decide (a ≤ b) := PySem.W.dataLe_int (fun x => x)
    rw [this] at hE; exact hE
  have hz2 : ((sortI ns).map V.int).length ≤ sizeLine := by rw [List.length_map, sortI, List.length_mergeSort]; exact hz
  exact ⟨.ref _, upd H (s.heap.objs.size + 1) (.lst ((sortI ns).map V.int)), I.laid (t' := s.toks) (fun _ _ => PyProof.Rows.sortedAll_old) (Nat.le_succ _) ⟨hz2, out, ep, vals_each hE, by simpa using he'⟩, rfl, q _ (I.hok.fresh (Nat.le_succ _))⟩
section
variable {p : Pr} {sc : Scope} {NN VV GG : List Str} {k : Nat} {g : G} {L : List Slot} {α β δ : Type} {S : Ty α} {md md' : Md} {pos pp : Pos} {st : List Stmt} {D : δ → Out} {i j : Nat} {x : Str} {a e : Expr}
theorem evl_sortI {m : M (List Int)} (ok : Ok p sc NN VV GG k g) (hG : GG[j]? = some "sorted") (hmg : p.mg "sorted" = none) (ha : EvE g L a md (tList tInt) m) (hs : starEach [a] g.X.env = (false, eval a g.X.env) :: starEach [] g.X.env := by rfl) :
    EvL g L (.Call (.Name "sorted" pp) [a] [] pos) md' tInt (m.bind fun xs => .ok (sortI xs)) := by
  obtain ⟨hg, ho⟩ := ok.gl hG
  obtain ⟨h1, _, h3⟩ := okName_d ho
  refine PE.imp (pe_callB (cr_sortI ok.room) hg (by rw [ok.mg]; exact hmg) (by decide +kernel) (eva_cons ha eva_nil hs) h3 h1 hs rfl) fun σ H W q => ?_
  obtain ⟨kp, own, at_, q⟩ := tL_iff.mp q
  refine tA_iff.mpr ⟨kp, own, at_, ?_⟩
  cases m with
  | ok d =>
    rintro vs H1 s1 ⟨v, r, rfl, ⟨a', ws, rfl, hR, rr⟩, e3⟩
    cases (show r = [] from e3)
    refine ⟨a', d, rfl, by rw [← rr.ints, ok.K, ← ok.fmK]; exact RX.list hR, fun l hl => q l _ _ (s1.trans (newSame hl)) (s1.free hl) upd_same (reps_ints _)⟩
  | ex c => exact q
  | no => exact q
/-! ### found.remove(x) -/
def removeM (xs : List Int) (x : Int) : M (List Int) := if x ∈ xs then .ok (xs.erase x) else .no
theorem erase_at : ∀ {xs : List Int} {x : Int}, x ∈ xs → ∃ j : Nat, xs[j]? = some x ∧ (∀ m : Nat, m < j → xs[m]? ≠ some x) ∧ xs.eraseIdx j = xs.erase x
  | y :: r, x, h => by
    by_cases e : y = x
    · subst e; exact ⟨0, rfl, fun m hm => absurd hm (Nat.not_lt_zero m), by simp⟩
    · rcases List.mem_cons.mp h with z | z
      · exact absurd z.symm e
      · obtain ⟨j, h1, h2, h3⟩ := erase_at z
        refine ⟨j + 1, by simpa using h1, fun m hm => ?_, by rw [List.eraseIdx_cons_succ, h3, List.erase_cons_tail (by simpa using e)]⟩
        cases m with
        | zero => simpa using e
        | succ m => simpa using h2 m (by omega)
theorem evb_remove {bb : Bool} {ds : List Int} {m : M Int} {f : List Int → M δ} {p1 ap cp : Pos} (ok : OkS p sc NN VV GG k g) (wk : Wk L g.LX) (hN : NN[i]? = some x) (hV : VV[j]? = some x) (hL : L[i]? = some (sOwn bb tInt ds)) (ha : EvE g L a md tInt m)
    (hr : ∀ ds', EvB g (L.set i (sOwn bb tInt ds')) st D (f ds'))
    (hs : swapsWith (.Call (.Attribute (.Name x p1) "remove" ap) [a] [] cp) none pos.line g.X.env = pure false := by rfl)
    (hbase : attributeBase (.Name x p1) "remove" g.X.env (eval (.Name x p1) g.X.env) = eval (.Name x p1) g.X.env := by rfl)
    (hfew : ((backTo cp (starEach [a] g.X.env)).all (fun x => !x.1) && (backToKw cp (keywordEach [] g.X.env)).all (fun x => x.1.isSome)
      && decide (([a] : List Expr).length + ([] : List Keyword).length + (if ([] : List Keyword).isEmpty then 0 else 1) < 30)) = true := by rfl)
    (hline : (ap.endLine == cp.line) = true := by rfl) (hst : starEach [a] g.X.env = (false, eval a g.X.env) :: starEach [] g.X.env := by rfl) (hpl : (backTo cp (starEach [] g.X.env)).any (·.1) = false := by rfl) :
    EvB g L (.Expr (.Call (.Attribute (.Name x p1) "remove" ap) [a] [] cp) pos :: st) D (m.bind fun v => (removeM ds v).bind f) := by
  obtain ⟨hv, ho⟩ := ok.vis hV
  obtain ⟨h1, h2, _⟩ := okName_d ho
  refine PSs.imp (pss_cons (ps_expr (pe_bm PySem.F.plainAttrs_list PySem.F.slot_list_remove PySem.F.type_list_remove mt_remove (pe_var (i := i) (by rw [ok.N]; exact hN) hv h1 h2) (pa_cons ha pa_nil hst) (hbase := hbase) (hfew := hfew) (hline := hline) (hs := hst) (hplain := hpl)) hs) (PSs.ex hr)) fun E σ H ⟨kp, own, at_, q⟩ => ?_
  obtain ⟨p', vs, e1, hp, r, mu⟩ := at_.mut hL
  refine ⟨_, e1, Or.inl ⟨rfl, _, SqL.of hp⟩, tE_iff.mpr ⟨kp, own, at_, ?_⟩⟩
  cases m with
  | ok d =>
    intro v H1 s1 r1
    cases (show v = .int d from r1)
    have a1 := at_.ext s1
    obtain ⟨p2, vs2, e12, hp2, rr2, mu2⟩ := a1.mut hL
    rw [e1] at e12
    cases e12
    have q : BOk g kp E D ((removeM ds d).bind f) := q
    unfold removeM at q
    split at q
    · rename_i hm
      obtain ⟨j', z1, z2, z3⟩ := erase_at hm
      rw [rr2.ints] at hp2
      exact ⟨_, ds, d, j', rfl, rfl, hp2, z1, z2, ds.erase d, kp, own, by rw [z3]; exact mu2 _ _ (reps_ints _), q⟩
    · exact q.elim
  | ex c => exact BOk.exx wk at_ q
  | no => exact q.elim
end
end Hd

namespace Hd
open PySem PySem.Spec PyProof.Rows L2
/-! ### found.insert(at, x) -/
def insM {α : Type} (xs : List α) (i : Int) (d : α) : M (List α) := if 0 ≤ i ∧ i < 2 ^ 63 ∧ xs.length < sizeLine then .ok (xs.take i.toNat ++ [d] ++ xs.drop i.toNat) else .no
section
variable {α δ : Type} {p : Pr} {sc : Scope} {NN VV GG : List Str} {k : Nat} {g : G} {L : List Slot} {md md' : Md} {pos : Pos} {S : Ty α} {st : List Stmt} {D : δ → Out} {i j : Nat} {x : Str} {e ei : Expr}
theorem evb_insert {bb : Bool} {ds : List α} {mi : M Int} {m : M α} {f : List α → M δ} {p1 ap cp : Pos} (ok : OkS p sc NN VV GG k g) (wk : Wk L g.LX) (hN : NN[i]? = some x) (hV : VV[j]? = some x) (hL : L[i]? = some (sOwn bb S ds)) (hb : SlB md bb)
    (hi : EvE g L ei md' tInt mi) (he : EvE g L e md S m) (hr : ∀ ds', EvB g (L.set i (sOwn bb S ds')) st D (f ds'))
    (hs : swapsWith (.Call (.Attribute (.Name x p1) "insert" ap) [ei, e] [] cp) none pos.line g.X.env = pure false := by rfl)
    (hbase : attributeBase (.Name x p1) "insert" g.X.env (eval (.Name x p1) g.X.env) = eval (.Name x p1) g.X.env := by rfl)
    (hfew : ((backTo cp (starEach [ei, e] g.X.env)).all (fun x => !x.1) && (backToKw cp (keywordEach [] g.X.env)).all (fun x => x.1.isSome)
      && decide (([ei, e] : List Expr).length + ([] : List Keyword).length + (if ([] : List Keyword).isEmpty then 0 else 1) < 30)) = true := by rfl)
    (hline : (ap.endLine == cp.line) = true := by rfl) (hst : starEach [ei, e] g.X.env = (false, eval ei g.X.env) :: starEach [e] g.X.env := by rfl) (hst2 : starEach [e] g.X.env = (false, eval e g.X.env) :: starEach [] g.X.env := by rfl) (hpl : (backTo cp (starEach [e] g.X.env)).any (·.1) = false := by rfl) :
    EvB g L (.Expr (.Call (.Attribute (.Name x p1) "insert" ap) [ei, e] [] cp) pos :: st) D (mi.bind fun n => m.bind fun d => (insM ds n d).bind f) := by
  obtain ⟨hv, ho⟩ := ok.vis hV
  obtain ⟨h1, h2, _⟩ := okName_d ho
  refine PSs.imp (pss_cons (ps_expr (pe_bm PySem.F.plainAttrs_list PySem.F.slot_list_insert PySem.F.type_list_insert mt_insert (pe_var (i := i) (by rw [ok.N]; exact hN) hv h1 h2) (pa_cons hi (pa_cons he pa_nil hst2) hst) (hbase := hbase) (hfew := hfew) (hline := hline) (hs := hst) (hplain := hpl)) hs) (PSs.ex hr)) fun E σ H ⟨kp, own, at_, q⟩ => ?_
  obtain ⟨p', vs, e1, hp, r, mu⟩ := at_.mut hL
  refine ⟨_, e1, Or.inl ⟨rfl, _, SqL.of hp⟩, tE_iff.mpr ⟨kp, own, at_, ?_⟩⟩
  cases mi with
  | ok n =>
    intro v H1 s1 r1
    cases (show v = .int n from r1)
    have a1 := at_.ext s1
    refine tE_iff.mpr ⟨kp, own, a1, ?_⟩
    cases m with
    | ok d =>
      intro v H2 s2 r2
      have a2 := a1.ext s2
      obtain ⟨p2, vs2, e12, hp2, rr2, mu2⟩ := a2.mut hL
      rw [e1] at e12
      cases e12
      have q : BOk g kp E D ((insM ds n d).bind f) := q
      unfold insM at q
      split at q
      · rename_i hh
        obtain ⟨h0, h63, hlt⟩ := hh
        refine ⟨_, vs2, n, v, rfl, rfl, hp2, by rw [← rr2.length]; exact hlt, h0, h63, ds.take n.toNat ++ [d] ++ ds.drop n.toNat, kp, own, mu2 _ _ (((rr2.take n.toNat).append (.cons (S.mono r2 hb.rb) .nil)).append (rr2.drop n.toNat)), q⟩
      · exact q.elim
    | ex c => exact BOk.exx wk a1 q
    | no => exact q
  | ex c => exact BOk.exx wk at_ q
  | no => exact q
end
end Hd

namespace Hd
open PySem PySem.Spec PyProof.Rows L2
section
variable {α : Type} {g : G} {L : List Slot} {md md' : Md} {e : Expr} {S : Ty α}
/-- a value of any kind -/
theorem ev_anyR {m : M α} (h : EvE g L e md S m) : EvE g L e md' tAny (m.bind fun x => .ok ((fun _ => ()) x)) := PE.imp h fun σ H Q q => by
  obtain ⟨kp, own, at_, q⟩ := tE_iff.mp q
  refine tE_iff.mpr ⟨kp, own, at_, ?_⟩
  cases m with
  | ok d => exact fun v H' s r => q v H' s trivial
  | ex c => exact q
  | no => exact q
end
theorem call_lenR {X : Cx} : CallR X (.builtin "len") (fun xs H Q => ∃ a kvs, xs = [V.ref a] ∧ Rd H a (.dK kvs) ∧ Q (.int kvs.length) H) := by
  intro pins s σ H xs us Q I r h
  obtain ⟨a, kvs, rfl, hp, q⟩ := h
  obtain ⟨u, rfl, rx⟩ := vals1 r
  obtain rfl : u = .ref a := rx
  exact d_len I hp fun t s' I' => ⟨.int kvs.length, H, I', ⟨_, rfl⟩, q⟩
section
variable {α : Type} {p : Pr} {sc : Scope} {NN VV GG : List Str} {k j : Nat} {g : G} {L : List Slot} {md md' : Md} {pos pp : Pos} {S : Ty α} {e : Expr}
theorem ev_lenD {m : M (List (Key × α))} (ok : Ok p sc NN VV GG k g) (hG : GG[j]? = some "len") (hmg : p.mg "len" = none) (ha : EvE g L e md (tDict S) m) (hs : starEach [e] g.X.env = (false, eval e g.X.env) :: starEach [] g.X.env := by rfl) : EvE g L (.Call (.Name "len" pp) [e] [] pos) md' tInt (m.bind fun xs => .ok (xs.length : Int)) :=
  ev_b1 (S := tDict S) (fr := true) ok call_lenR (fun {d v R H W} rb h q => by
    obtain ⟨a, vs, rfl, hr, r⟩ := h
    exact ⟨a, vs, rfl, (rb _ _ hr).resolve_right fun z => z, q _ _ (Same.refl _) (by show _ = V.int _; rw [r.length])⟩) (fun _ _ h => nomatch h) .fresh hG hmg PySem.boot_len ha hs
end
end Hd

namespace Hd
open PySem PySem.Spec PyProof.Rows L2
/-! ### x[i] += e -/
theorem pget_list {X : Cx} : PGet X (rIxL X.K) := by
  intro pins s σ H x y v u Q I rx ry h
  obtain ⟨p, xs, i, z, rfl, rfl, hq, he, q⟩ := h
  cases rx
  obtain ⟨t, rfl⟩ := ry
  obtain ⟨its, r, pl, hz⟩ := I.list hq
  obtain ⟨j, h1, h2, h3, h4, h5⟩ := atI_get he
  obtain ⟨w, ew, rw'⟩ := r.get h2
  have hl := r.length
  have hn := line63
  have fin : EP X pins σ Q w s := ⟨z, H, I, rw', q⟩
  by_cases h0 : 0 ≤ i
  · have hj : i.toNat = j := by
      rw [seqIndex_of h0 h5] at h1
      exact Option.some.inj h1
    exact wpAny_getItem_list pl.isList h0 (by omega) (by rw [hj]; simpa using ew) fin
  · have hj : (i + (its.toArray.size : Int)).toNat = j := by
      rw [seqIndex_neg (by omega) h4] at h1
      rw [List.size_toArray, ← hl]
      exact Option.some.inj h1
    exact wpAny_getItem_list_neg pl.isList (by omega) (by rw [List.size_toArray] <;> omega) (by omega) (by rw [hj]; simpa using ew) fin
section
variable {δ : Type} {p : Pr} {sc : Scope} {NN VV GG : List Str} {k : Nat} {g : G} {L : List Slot} {md md' : Md} {pos : Pos} {st : List Stmt} {D : δ → Out} {i j : Nat} {x : Str} {e ix a b : Expr} {m1 m2 : M Int} {y : Int}
/-- n & 1 -/
theorem ev_and1 (ok : Ok p sc NN VV GG k g) (ha : EvE g L a md tInt m1) (hb : EvE g L b md tInt (.ok 1)) : EvE g L (.BinOp a .BitAnd b pos) md' tInt (m1.bind fun x => .ok (x % 2)) :=
  ev_op2 (f := fun x _ => .ok (x % 2)) ok op_andM ⟨fun {d e x y R H Q} rb rx ry q => ⟨d, 1, rx, ry, q _ _ (Same.refl _) rfl⟩⟩ (fun _ _ _ h => nomatch h) (.fresh : MdOk true md md') ha (ev_lit hb)
theorem evb_augI {bb : Bool} {ds : List Int} {m : M Int} {mi : M Int} {f : List Int → M δ} {p1 p2 : Pos} (ok : OkS p sc NN VV GG k g) (wk : Wk L g.LX) (hN : NN[i]? = some x) (hV : VV[j]? = some x) (hL : L[i]? = some (sOwn bb tInt ds))
    (hi : EvE g L ix md' tInt mi) (he : EvE g L e md tInt m) (hr : ∀ ds', EvB g (L.set i (sOwn bb tInt ds')) st D (f ds'))
    (ha : ∀ ov iv new, augStore ix ov iv new = (do holding [new, ov, iv] (setItem ov iv new); release [new, ov, iv] []; pure .next) := by intros; rfl) :
    EvB g L (.AugAssign (.Subscript (.Name x p1) ix p2) .Add e pos :: st) D (mi.bind fun n => (getM ds n).bind fun v => m.bind fun d => (setM ds n (v + d)).bind f) := by
  obtain ⟨hv, ho⟩ := ok.vis hV
  obtain ⟨h1, h2, _⟩ := okName_d ho
  refine PSs.imp (pss_cons (ps_augS (pe_var (i := i) (by rw [ok.N]; exact hN) hv h1 h2) hi pget_list he ip_add set_list ha) (PSs.ex hr)) fun E σ H ⟨kp, own, at_, q⟩ => ?_
  obtain ⟨p', vs, e1, hp, r, mu⟩ := at_.mut hL
  refine ⟨_, e1, tE_iff.mpr ⟨kp, own, at_, ?_⟩⟩
  cases mi with
  | ok n =>
    intro v H1 s1 r1
    cases (show v = .int n from r1)
    have a1 := at_.ext s1
    obtain ⟨p2', vs2, e12, hp2, rr2, mu2⟩ := a1.mut hL
    rw [e1] at e12
    cases e12
    have q : BOk g kp E D ((getM ds n).bind fun v => m.bind fun d => (setM ds n (v + d)).bind f) := q
    rw [rr2.ints] at hp2
    unfold getM at q
    cases hat : L2.atI ds n with
    | none => rw [hat] at q; exact q.elim
    | some v0 =>
      rw [hat] at q
      have q : BOk g kp E D (m.bind fun d => (setM ds n (v0 + d)).bind f) := q
      refine ⟨_, ds.map V.int, n, .int v0, rfl, rfl, SqL.of hp2, ?_, tE_iff.mpr ⟨kp, own, a1, ?_⟩⟩
      · obtain ⟨vv, q1, q2⟩ := rr2.at hat
        cases (show vv = .int v0 from q2)
        rw [← rr2.ints]; exact q1
      · cases m with
        | ok d =>
          intro v2 H2 s2 r2
          cases (show v2 = .int d from r2)
          have a2 := a1.ext s2
          obtain ⟨p3, vs3, e13, hp3, rr3, mu3⟩ := a2.mut hL
          rw [e1] at e13
          cases e13
          have q : BOk g kp E D ((setM ds n (v0 + d)).bind f) := q
          unfold setM at q
          split at q
          · rename_i jj hj
            refine ⟨v0, d, rfl, rfl, _, vs3, n, jj, rfl, rfl, hp3, by rw [← rr3.length]; exact hj, ds.set jj (v0 + d), kp, own, mu3 _ _ (rr3.set rfl jj), q⟩
          · exact q.elim
        | ex c => exact BOk.exx wk a1 q
        | no => exact q
  | ex c => exact BOk.exx wk at_ q
  | no => exact q
end
end Hd

namespace Hd
open PySem PySem.Spec PyProof.Rows L2
/-! ### found.pop(i), i not below 0 -/
def popAtM {α : Type} (xs : List α) (i : Int) : M (List α) := if 0 ≤ i ∧ i < (xs.length : Int) ∧ i < 2 ^ 62 then .ok (xs.eraseIdx i.toNat) else .no
section
variable {α δ : Type} {p : Pr} {sc : Scope} {NN VV GG : List Str} {k : Nat} {g : G} {L : List Slot} {md md' : Md} {pos : Pos} {S : Ty α} {st : List Stmt} {D : δ → Out} {i j : Nat} {x : Str} {a : Expr}
theorem evb_popAt {bb : Bool} {ds : List α} {m : M Int} {f : List α → M δ} {p1 ap cp : Pos} (ok : OkS p sc NN VV GG k g) (wk : Wk L g.LX) (hN : NN[i]? = some x) (hV : VV[j]? = some x) (hL : L[i]? = some (sOwn bb S ds)) (ha : EvE g L a md tInt m)
    (hr : ∀ ds', EvB g (L.set i (sOwn bb S ds')) st D (f ds'))
    (hs : swapsWith (.Call (.Attribute (.Name x p1) "pop" ap) [a] [] cp) none pos.line g.X.env = pure false := by rfl)
    (hbase : attributeBase (.Name x p1) "pop" g.X.env (eval (.Name x p1) g.X.env) = eval (.Name x p1) g.X.env := by rfl)
    (hfew : ((backTo cp (starEach [a] g.X.env)).all (fun x => !x.1) && (backToKw cp (keywordEach [] g.X.env)).all (fun x => x.1.isSome)
      && decide (([a] : List Expr).length + ([] : List Keyword).length + (if ([] : List Keyword).isEmpty then 0 else 1) < 30)) = true := by rfl)
    (hline : (ap.endLine == cp.line) = true := by rfl) (hst : starEach [a] g.X.env = (false, eval a g.X.env) :: starEach [] g.X.env := by rfl) (hpl : (backTo cp (starEach [] g.X.env)).any (·.1) = false := by rfl) :
    EvB g L (.Expr (.Call (.Attribute (.Name x p1) "pop" ap) [a] [] cp) pos :: st) D (m.bind fun v => (popAtM ds v).bind f) := by
  obtain ⟨hv, ho⟩ := ok.vis hV
  obtain ⟨h1, h2, _⟩ := okName_d ho
  refine PSs.imp (pss_cons (ps_expr (pe_bm PySem.F.plainAttrs_list PySem.F.slot_list_pop PySem.F.type_list_pop mt_popAt (pe_var (i := i) (by rw [ok.N]; exact hN) hv h1 h2) (pa_cons ha pa_nil hst) (hbase := hbase) (hfew := hfew) (hline := hline) (hs := hst) (hplain := hpl)) hs) (PSs.ex hr)) fun E σ H ⟨kp, own, at_, q⟩ => ?_
  obtain ⟨p', vs, e1, hp, r, mu⟩ := at_.mut hL
  refine ⟨_, e1, Or.inl ⟨rfl, _, SqL.of hp⟩, tE_iff.mpr ⟨kp, own, at_, ?_⟩⟩
  cases m with
  | ok n =>
    intro v H1 s1 r1
    cases (show v = .int n from r1)
    have a1 := at_.ext s1
    obtain ⟨p2, vs2, e12, hp2, rr2, mu2⟩ := a1.mut hL
    rw [e1] at e12
    cases e12
    have q : BOk g kp E D ((popAtM ds n).bind f) := q
    unfold popAtM at q
    split at q
    · rename_i hh
      obtain ⟨h0, hlt, h62⟩ := hh
      have hl2 := rr2.length
      have hk : n.toNat < vs2.length := by omega
      refine ⟨_, vs2, n, n.toNat, vs2[n.toNat], rfl, rfl, hp2, by omega, by omega, seqIndex_of h0 (by omega), List.getElem?_eq_getElem hk, ds.eraseIdx n.toNat, kp, own, mu2 _ _ ?_, q⟩
      rw [List.eraseIdx_eq_take_drop_succ, List.eraseIdx_eq_take_drop_succ]
      exact (rr2.take _).append (rr2.drop _)
    · exact q.elim
  | ex c => exact BOk.exx wk at_ q
  | no => exact q.elim
end
end Hd

namespace Hd
open PySem PySem.Spec PyProof.Rows L2
/-! ### some list, whatever its items -/
def tLs : Ty Unit := ⟨fun _ v R => ∃ a vs, v = .ref a ∧ R a (.lst vs), fun ⟨a, vs, e, r⟩ s => ⟨a, vs, e, s _ _ r⟩⟩
theorem i_ls : IsT tLs "list" := ⟨fun rb ⟨a, vs, e, h⟩ => by subst e; exact RX.tyx rb h⟩
theorem homL {α δ : Type} {S : Ty α} {A : Ar δ} {f : δ → List Unit} (h : HomA A tLs f) : HomA (aCons (tList S) A) tLs (fun d => () :: f d.2) := ⟨fun {d vs R} q => by
  obtain ⟨v, r, e, ⟨a, ws, e1, h1, _⟩, h2⟩ := q
  subst e
  exact .cons ⟨a, ws, e1, h1⟩ (h.r h2)⟩
end Hd

namespace Hd
open PySem PySem.Spec PyProof.Rows L2
/-! ### a written list whose items are of several kinds -/
def tHl {δ : Type} (A : Ar δ) : Ty δ := ⟨fun d v R => ∃ a vs, v = .ref a ∧ R a (.lst vs) ∧ A.rep d vs R, fun ⟨a, vs, e, r, h⟩ s => ⟨a, vs, e, s _ _ r, A.mono h s⟩⟩
section
variable {α δ : Type} {p : Pr} {sc : Scope} {NN VV GG : List Str} {k : Nat} {g : G} {L : List Slot} {md : Md} {pos : Pos} {S : Ty α} {A : Ar δ} {es : List Expr} {a b : Expr}
theorem ev_hl {m : M δ} (hl : ∀ d vs R, A.rep d vs R → vs.length ≤ 1000) (ha : EvA g L es md A m) : EvE g L (.List es pos) md (tHl A) m := by
  refine PE.imp (pe_lst ha) fun σ H Q q => ?_
  obtain ⟨kp, own, at_, q⟩ := tE_iff.mp q
  refine tA_iff.mpr ⟨kp, own, at_, ?_⟩
  cases m with
  | ok d => exact fun vs H1 s1 r1 => ⟨Nat.le_trans (hl _ _ _ r1) (by decide), fun p hp => q _ _ (s1.trans (newSame hp)) ⟨p, vs, rfl, newRX (at_.ext s1) s1 hp, A.mono r1 (RX.same (newSame hp))⟩⟩
  | ex c => exact q
  | no => exact q
theorem ev_hlIx {n : Int} {f : δ → α} {m : M δ} (ok : Ok p sc NN VV GG k g) (hA : ArAt A n S f) (ha : EvE g L a md (tHl A) m) (hb : EvE g L b md tInt (.ok n)) (hs : PlainIx b := by exact fun _ _ => rfl) : EvE g L (.Subscript a b pos) md S (m.bind fun t => .ok (f t)) :=
  ev_ix (S := tHl A) (r := rIxL p.K) (m2 := .ok ()) (f := fun t _ => .ok (f t)) (T := tLit n) (fr := false) ok (by rw [← ok.K]; exact ix_list) ⟨fun {d e x y R H Q} rb ⟨a, vs, ex, h, r⟩ ry q => by
    obtain ⟨v, h1, h2⟩ := hA.get r
    refine ⟨a, vs, n, v, ex, ry, sq_of rb h, ?_, q _ _ (Same.refl _) (S.mono h2 (Nw.old rfl))⟩
    have := atI_nat (xs := vs) (j := n.toNat) h1
    rwa [Int.toNat_of_nonneg hA.nat] at this⟩ (fun _ _ _ h => nomatch h) .same ha (ev_lit hb) hs
def dHl (E : DeepA A) : Deep (tHl A) := ⟨fun d => .list (E.pd d), E.dp + 1, fun {K ds v R H} rb ⟨a, vs, e, h, r⟩ => by
    subst e
    obtain ⟨h1, h2⟩ := E.rep rb r
    exact ⟨.lst (.inl ((rb _ _ h).resolve_right fun z => z)) h1, h2⟩, fun ds => by simp only [PyData.depth]; have := E.dep ds; omega, fun d e => by
    simp only [PyData.eqv]
    exact E.eqv d e⟩
end
end Hd

namespace Hd
open PySem PySem.Spec L2
/-! ### None or a list of one's own; a count in an except -/
section
variable {p : Pr} {sc : Scope} {NN VV GG : List Str} {k : Nat} {g : G} {L : List Slot} {a b c e e' : Expr} {es : List Expr} {md md' : Md} {α β γ δ ρ : Type} {S : Ty α} {T : Ty β} {A : Ar δ} {pos : Pos} {i j : Nat} {x : Str} {pp pos' : Pos}
variable {st : List Stmt} {D : δ → Out} {d : δ}
/-- None, or a list of one's own -/
def sOO {α : Type} (b : Bool) (T : Ty α) : Option (List α) → Slot
  | none => sV b tNone ()
  | some ds => sOwn b T ds
/-- a def that hands back None or a list just made -/
def optL {α : Type} (T : Ty α) : Option (List α) → Out
  | none => .rt false tNone ()
  | some ds => .rtL false T ds
def FinO2 (fm : Fm) (W : Wx) (own : List Addr) (σ : L2.St) (H : Hp) (md : Md) (T : Ty β) (Q : VK) : M (Option (List β)) → Prop
  | .ok none => ∀ H', Same H H' → Q .non H'
  | .ok (some ds) => ∀ p vs H', Same H H' → H p = none → H' p = some (.lst vs) → Reps T (RX fm (p :: own) H H' md) ds vs → Q (.ref p) H'
  | .ex c => ∀ H', Same H H' → W c σ H'
  | .no => False
theorem finO2 {fm : Fm} {W : Wx} {own : List Addr} {σ : L2.St} {H : Hp} {Q : VK} : Fin (β := Option (List β)) W σ H (FinO2 fm W own σ H md T Q) := ⟨fun h => h, fun h => h⟩
def EvO2 (g : G) (L : List Slot) (e : Expr) (md : Md) (T : Ty β) (m : M (Option (List β))) : Prop := PE g.X e (fun σ H Q => ∃ kp own, At g.fm kp L σ H own ∧ FinO2 g.fm g.W own σ H md T Q m)
theorem ev_ofO2 {m : M (Option (List α))} (h : EvO2 g L e md S m) : EvE g L e md (tOpt (tList S)) m :=
  PE.imp h fun σ H Q q => by
    obtain ⟨kp, own, at_, q⟩ := tE_iff.mp q
    refine ⟨kp, own, at_, ?_⟩
    cases m with
    | ok d =>
      cases d with
      | none => exact fun H' s => q _ H' s rfl
      | some d => exact fun p vs H' s n h' r => q _ H' s ⟨⟨p, vs, rfl, newRX' at_ n h', r.mono RX.drop1⟩, fun z => nomatch z⟩
    | ex c => exact q
    | no => exact q
theorem evo2_call {x : Str} {j kf : Nat} {ps : List Str} {F : δ → M (Option (List α))} {m : M δ} {pp : Pos} (ok : Ok p sc NN VV GG k g) (hf : Fn p kf x ps (spM p A (fun r => optL S r) F)) (hk : kf ≤ k) (hG : GG[j]? = some x)
    (ha : EvA g L (e :: es) md A m) (he : starEach (e :: es) g.X.env = (false, eval e g.X.env) :: starEach es g.X.env := by rfl) (hpl : (backTo pos (starEach es g.X.env)).any (·.1) = false := by rfl) :
    EvO2 g L (.Call (.Name x pp) (e :: es) [] pos) .sh S (m.bind F) := by
  obtain ⟨f, fd, hF, hm, hkp, hbd⟩ := hf.ex
  obtain ⟨hg, ho⟩ := ok.gl hG
  rw [← ok.prog, ← ok.w, ← ok.base] at hF
  have hF' : FnOk g.X.prog g.X.w g.X.K g.X.mg g.X.base (L2.CX g.X.prog g.X.w) kf f fd ps (spM p A (fun r => optL S r) F) := by rw [ok.K, ok.mg]; exact hF
  refine PE.imp (pe_callS hF' (ok.room.mono hk) hg (by rw [ok.mg]; exact hm) (by rw [ok.K]; exact hkp) (by rw [ok.K]; exact hbd) (tk_at ok) ha (okName_d ho).1 he hpl) fun σ H Q q => ?_
  obtain ⟨kp, own, at_, q⟩ := q
  refine subA finO2 (Same.refl H) at_ q fun d vs H1 s1 r1 at1 q1 => ⟨d, fun a => a ∈ own ∨ g.fm.z a, ⟨fun a z => ?_, fun P e => at1.same.tab P (ok.tab P e)⟩, ?_, ?_⟩
  · rcases z with z | z
    · exact (at1.new a z).1
    · exact at1.zin a z
  · rw [← ok.fmK]; exact args_in r1
  · rw [← ok.fmK]
    cases hd : F d with
    | ok r =>
      rw [hd] at q1
      cases r with
      | none => exact fun v H' s r => by cases (show v = .non from r); exact q1 H' (s1.trans s)
      | some ds => exact fun p' vs' H' s n1 n2 h' r => q1 p' vs' H' (s1.trans s) (s1.free n2) h' (r.mono (CaMd.sh.rx (q := some p') s1 at_.same))
    | ex c =>
      rw [hd] at q1
      exact fun H' s => ⟨c, rfl, rfl, q1 H' (s1.trans s)⟩
    | no => rw [hd] at q1; exact q1
theorem fn_rtO {x qual : Str} {st : Stmt} {f : Addr} {fd : FuncData} {ps : List Str} {L0 : δ → List Slot} {n m : Nat} {F : δ → M (Option (List α))} (hF : FunD p.K x qual (defArgs st) (defBody st) (defScope st) [] [] f fd) (hS : Sc st NN VV ps GG) (ha : ArS A n L0) (hn : ps.length = n) (hm : n + m = NN.length)
    (hb : Body p st NN VV GG k (fun d => L0 d ++ List.replicate m sAny) (fun r => optL S r) F) : FnOk p.P p.w p.K p.mg p.base (L2.CX p.P p.w) (k + 1) f fd ps (spM p A (fun r => optL S r) F) :=
  fn_gen (D' := fun r => optL S r) hF hS ha hn hm (fun r fm Q h => by cases r with | none => exact h | some d => exact h) hb
theorem evb_setO2 {m : M (Option (List α))} {f : Option (List α) → M δ} (ok : OkS p sc NN VV GG k g) (hN : NN[i]? = some x) (hV : VV[j]? = some x) (wk : Wk L g.LX) (he : EvO2 g L e .sh S m) (hr : ∀ d, EvB g (L.set i (sOO false S d)) st D (f d))
    (hs : swapsWith e (some (.Name x pos')) pos.line g.X.env = pure false := by rfl) : EvB g L (.Assign [.Name x pos'] e pos :: st) D (m.bind f) := by
  refine PSs.imp (pss_cons (ps_set (i := i) (by rw [ok.N]; exact ok.nd) (by rw [ok.N]; exact hN) (ok.loc hV) he hs (okS_fn ok)) (PSs.ex hr)) fun E σ H ⟨kp, own, at_, q⟩ => ?_
  refine ⟨kp, own, at_, ?_⟩
  cases m with
  | ok d =>
    cases d with
    | none =>
      intro H' s
      obtain ⟨own', a'⟩ := (at_.ext s).setV (i := i) (b := false) (T := tNone) (d := ()) (v := .non) rfl
      exact ⟨none, kp, own', a', q⟩
    | some ds =>
      intro v vs H' s n h' r
      obtain ⟨own', a'⟩ := at_.setOwn (i := i) (b := false) s n h' (r.mono (SlB.sh (x := .sh)).rb)
      exact ⟨some ds, kp, own', a', q⟩
  | ex c => exact BOk.exx wk at_ q
  | no => exact q
theorem At.freezeO2 {fm : Fm} {kp : RdR} {σ : L2.St} {H : Hp} {own : List Addr} {bb : Bool} {d : Option (List α)} (h : At fm kp L σ H own) (hL : L[i]? = some (sOO bb S d)) : ∃ own', At fm kp (L.set i (sV false (tOpt (tList S)) d)) σ H own' ∧ ∀ p ∈ own', p ∈ own := by
  cases d with
  | none =>
    have a2 := h.setN (i := i) (s := sV bb tNone ()) (s' := sV false (tOpt (tList S)) none) (v := some .non) hL no_v ⟨rfl, .non, rfl, rfl⟩
    obtain ⟨Fs, h3, _⟩ := h.sl
    obtain ⟨v, F, e1, e2, _, w, rfl, rfl⟩ := h3.get hL
    have e : σ.set i (some .non) = σ := List.ext_getElem? fun n => by
      by_cases z : i = n
      · subst z
        rw [e1, List.getElem?_set_self (List.getElem?_eq_some_iff.mp e1).1]
      · rw [List.getElem?_set_ne z]
    rw [e] at a2
    exact ⟨own, a2, fun p hp => hp⟩
  | some ds =>
    obtain ⟨own', a', sub⟩ := h.freeze (i := i) (ds := ds) hL
    obtain ⟨Fs, h3, _⟩ := a'.sl
    have hL' : (L.set i (sV false (tList S) ds))[i]? = some (sV false (tList S) ds) := by rw [List.getElem?_set_self (List.getElem?_eq_some_iff.mp hL).1]
    obtain ⟨v, F, e1, e2, _, w, rfl, hw⟩ := h3.get hL'
    have a2 := a'.setN (i := i) (s' := sV false (tOpt (tList S)) (some ds)) (v := some w) hL' no_v ⟨rfl, w, rfl, hw, fun z => by obtain ⟨_, _, z2, _⟩ := hw; rw [z2] at z; exact nomatch z⟩
    have e : σ.set i (some w) = σ := List.ext_getElem? fun n => by
      by_cases z : i = n
      · subst z
        rw [e1, List.getElem?_set_self (List.getElem?_eq_some_iff.mp e1).1]
      · rw [List.getElem?_set_ne z]
    rw [e, List.set_set] at a2
    exact ⟨own', a2, sub⟩
theorem evb_freezeO2 {bb : Bool} {d : Option (List α)} {m : M δ} (hL : L[i]? = some (sOO bb S d)) (hr : EvB g (L.set i (sV false (tOpt (tList S)) d)) st D m) : EvB g L st D m := PSs.imp hr fun E σ H ⟨kp, own, at_, q⟩ => by
  obtain ⟨own', a', _⟩ := at_.freezeO2 hL
  exact ⟨kp, own', a', q⟩
theorem ev_borrowO2 {bb : Bool} {d : Option (List α)} {m : M β} (hf : Flat T ∨ md = .fx) (hL : L[i]? = some (sOO bb S d)) (h : EvE g (L.set i (sV false (tOpt (tList S)) d)) e md T m) : EvE g L e md T m := PE.imp h fun σ H Q q => by
  obtain ⟨kp, own, at_, q⟩ := tE_iff.mp q
  obtain ⟨own', a', sub⟩ := at_.freezeO2 hL
  refine tE_iff.mpr ⟨kp, own', a', ?_⟩
  cases m with
  | ok d =>
    refine fun v H' s r => q v H' s ?_
    rcases hf with hf | rfl
    · exact hf r
    · exact T.mono r fun a o z => ⟨z.1, fun y => (at_.new a y).1 z.2.2.2.2, z.2.2⟩
  | ex c => exact q
  | no => exact q
theorem evt_borrowO2 {bb : Bool} {d : Option (List α)} {m : M Bool} (hL : L[i]? = some (sOO bb S d)) (h : EvT g (L.set i (sV false (tOpt (tList S)) d)) e m) : EvT g L e m := PT.imp h fun σ H Q q => by
  obtain ⟨kp, own, at_, q⟩ := tT_iff.mp q
  obtain ⟨own', a', sub⟩ := at_.freezeO2 hL
  refine tT_iff.mpr ⟨kp, own', a', ?_⟩
  cases m <;> exact q
def unO {α : Type} : Option α → M α
  | none => .no
  | some d => .ok d
/-- x.append(e), x None or a list of one's own -/
theorem evb_appendO2 {bb : Bool} {d : Option (List α)} {m : M α} {f : List α → M δ} {p1 ap cp : Pos} (ok : OkS p sc NN VV GG k g) (wk : Wk L g.LX) (hN : NN[i]? = some x) (hV : VV[j]? = some x) (hL : L[i]? = some (sOO bb S d)) (hb : SlB md bb)
    (he : EvE g L e md S m) (hr : ∀ ds' : List α, EvB g (L.set i (sOO bb S (some ds'))) st D (f ds'))
    (hs : swapsWith (.Call (.Attribute (.Name x p1) "append" ap) [e] [] cp) none pos.line g.X.env = pure false := by rfl)
    (hbase : attributeBase (.Name x p1) "append" g.X.env (eval (.Name x p1) g.X.env) = eval (.Name x p1) g.X.env := by rfl)
    (hfew : ((backTo cp (starEach [e] g.X.env)).all (fun x => !x.1) && (backToKw cp (keywordEach [] g.X.env)).all (fun x => x.1.isSome)
      && decide (([e] : List Expr).length + ([] : List Keyword).length + (if ([] : List Keyword).isEmpty then 0 else 1) < 30)) = true := by rfl)
    (hline : (ap.endLine == cp.line) = true := by rfl) (hst : starEach [e] g.X.env = (false, eval e g.X.env) :: starEach [] g.X.env := by rfl) (hpl : (backTo cp (starEach [] g.X.env)).any (·.1) = false := by rfl) :
    EvB g L (.Expr (.Call (.Attribute (.Name x p1) "append" ap) [e] [] cp) pos :: st) D ((unO d).bind fun ds => m.bind fun y => (pushM ds y).bind f) := by
  cases d with
  | some ds => exact evb_append ok wk hN hV hL hb he hr hs hbase hfew hline hst hpl
  | none =>
    exact ⟨fun pins s σ H D I ⟨kp, own, at_, q⟩ => q.elim⟩
/-- try: body / except X: y = y + n -/
theorem evb_tryI {kn : List Ec} {cx : Ec} {mb : M β} {h : β} {f : β → M δ} {LJ : β → List Slot} {body : List Stmt} {y : Str} {iC jC : Nat} {np pos' p2 p3 p4 p5 p6 : Pos} {jn} {nv : Int} {dv : Int} {bb : Bool} (ok : OkS p sc NN VV GG k g) (wk : Wk L g.LX) (hkn : Kn p kn) (hcx : cx ∈ kn) (hx : p.mg x = some (.ref (p.C cx))) (hG : GG[j]? = some x)
    (hNC : NN[iC]? = some y) (hVC : VV[jC]? = some y) (hLC : L[iC]? = some (sV bb tInt dv))
    (hb : ∀ g', OkS p sc NN VV GG k g' → g'.LX = L → EvB g' L body (fun s => .nx (LJ s)) mb)
    (hh : Wk (L.set iC (sV false tInt (dv + nv))) (LJ h)) (hr : ∀ s, EvB g (LJ s) st D (f s)) (hs : ∀ Y : Cx, swapsWith (.BinOp (.Name y p4) .Add (.Constant (.int nv) jn p5) p6) (some (.Name y p2)) p3.line Y.env = pure false := by intro _; rfl) :
    EvB g L (.Try body [.ExceptHandler (some (.Name x np)) none [.Assign [.Name y p2] (.BinOp (.Name y p4) .Add (.Constant (.int nv) jn p5) p6) p3] pos'] [] [] pos :: st) D ((tryM kn cx mb fun _ => h).bind f) := by
  obtain ⟨hg, ho⟩ := ok.gl hG
  obtain ⟨hvC, hoC⟩ := ok.vis hVC
  obtain ⟨n1, n2, _⟩ := okName_d hoC
  refine PSs.imp (pss_cons (ps_try_only (c := .ref (p.C cx)) (tb := fun W D σ H => ∃ q : {W'' : Wx // ∀ c σ H, W'' c σ H → W (.ref (p.C c)) none σ H}, tB ⟨g.X, g.fm, q.1, L⟩ L (fun s => Out.nx (LJ s)) mb D σ H)
    (ts := fun ad cl dd => tAsg (tOp (rI0 fun i j => .int (i + j)) (tVar iC) (tC (.int nv))) (gName iC)) (Wout := fun cls d σ H => ∃ c, cls = .ref (p.C c) ∧ d = none ∧ g.W c σ H) ok.stk ok.frm ⟨hg, (okName_d ho).1, .inl (by rw [ok.mg]; exact hx)⟩ ok.tk
    (fun W pn xe tkW psO => ?_) (fun ad oE cl dd pn _ _ => ?_)) (PSs.ex hr)) fun E σ H ⟨kp, own, at_, q⟩ => ?_
  · refine PSs.ex (t := fun (q : {W'' : Wx // ∀ c σ H, W'' c σ H → W (.ref (p.C c)) none σ H}) => tB ⟨g.X, g.fm, q.1, L⟩ L (fun s => Out.nx (LJ s)) mb) fun q => ?_
    exact hb ⟨g.X.tr pn xe, g.fm, q.1, L⟩
      { prog := ok.prog, w := ok.w, K := ok.K, mg := ok.mg, base := ok.base, N := ok.N, fmK := ok.fmK, tab := ok.tab, room := ok.room, nd := ok.nd, vis := ok.vis, gl := ok.gl
        tk := Takes.imp tkW fun cls d σ H ⟨c, e1, e2, z⟩ => by subst e1; subst e2; exact q.2 c σ H z
        calm := ok.calm, blk := ok.blk, loc := ok.loc, fnT := ok.fnT, psO := psO, scp := ok.scp, stk := ok.stk, frm := ok.frm, exn := ok.exn } rfl
  · exact pss_one (ps_set (i := iC) (by show g.X.N.Nodup; rw [ok.N]; exact ok.nd) (by show g.X.N[iC]? = _; rw [ok.N]; exact hNC) (ok.loc hVC) (pe_op op_add (pe_var (i := iC) (by show g.X.N[iC]? = _; rw [ok.N]; exact hNC) hvC n1 n2) pe_int) (hs _) (.inl (ok.fnT y)))
  · refine ⟨⟨fun c σ' H' => (c ∈ kn → isB c cx = true → σ'[iC]? = some (some (.int dv)) ∧ ∃ d, tB g (LJ d) D (f d) E (σ'.set iC (some (.int (dv + nv)))) H') ∧ (c ∈ kn) ∧ (isB c cx = false → g.W c σ' H'), fun c σ' H' ⟨z1, z2, z3⟩ => ?_⟩, kp, own, at_, ?_⟩
    · refine ⟨isB c cx, by rw [ok.K]; exact hkn.exm c z2 cx hcx, fun hB ad hn => ?_, fun hB => ⟨c, rfl, rfl, z3 hB⟩⟩
      obtain ⟨y1, y2⟩ := z1 z2 hB
      exact ⟨_, y1, dv, nv, rfl, rfl, y2⟩
    · cases mb with
      | ok s => exact fun σ' H' own' a' => ⟨s, kp, own', a', q⟩
      | no => exact q.elim
      | ex c =>
        intro σ' H' own' a'
        have q : BOk g kp E D (((if c ∈ kn then (if isB c cx = true then M.ok h else .ex c) else .no) : M β).bind f) := q
        by_cases hc : c ∈ kn
        · rw [if_pos hc] at q
          refine ⟨fun _ hB => ?_, hc, fun hB => ?_⟩
          · rw [if_pos hB] at q
            obtain ⟨Fs, h3, _⟩ := a'.sl
            obtain ⟨v, F, e1, e2, _, w, rfl, hw⟩ := h3.get hLC
            cases (show w = .int dv from hw)
            obtain ⟨own3, a3⟩ := a'.setV (i := iC) (b := false) (T := tInt) (d := dv + nv) (v := .int (dv + nv)) rfl
            obtain ⟨own5, a5, _⟩ := a3.weak hh
            exact ⟨e1, h, kp, own5, a5, q⟩
          · rw [if_neg (by rw [hB]; exact Bool.false_ne_true)] at q
            obtain ⟨own2, a2, _⟩ := a'.weak wk
            exact q σ' H' own2 a2
        · rw [if_neg hc] at q; exact q.elim
end
end Hd

namespace Hd
open PySem PySem.Spec PyProof.Rows L2
/-! ### < and sorted of tuples of several kinds -/
section
variable {α β δ : Type} {S : Ty α} {T : Ty β} {A : Ar δ}
/-- what < says of data of a kind -/
structure OrdD (D : Deep S) where
  lt : α → α → Bool
  al : ∀ a b, PySem.W.alike (D.pd a) (D.pd b) = true
  nn : ∀ a, D.pd a ≠ .none
  eq : ∀ a b, PySem.W.dataLt (D.pd a) (D.pd b) = lt a b
structure OrdA (E : DeepA A) where
  lt : δ → δ → Bool
  al : ∀ a b, PySem.W.alikeAll (E.pd a) (E.pd b) = true
  eq : ∀ a b, PyProof.Rows.lexLt PyProof.Rows.itemOrd (PySem.W.keyToksAll (E.pd a)) (PySem.W.keyToksAll (E.pd b)) = lt a b
def oInt : OrdD dInt := ⟨fun a b => decide (a < b), fun a b => by show PySem.W.alike (.int a) (.int b) = true; simp only [PySem.W.alike], (fun a e => by cases e), fun a b => PySem.W.dataLt_int a b⟩
def oStr : OrdD dStr := ⟨fun a b => decide (a < b), fun a b => by show PySem.W.alike (.str (toS a)) (.str (toS b)) = true; simp only [PySem.W.alike], (fun a e => by cases e), fun a b => by
  have h := PySem.W.dataLt_str (toS a) (toS b)
  rw [show (toS a).cps.toList = a from tl_toS a, show (toS b).cps.toList = b from tl_toS b] at h
  exact h⟩
def oNil : OrdA dNil := ⟨fun _ _ => false, fun a b => by show PySem.W.alikeAll [] [] = true; simp only [PySem.W.alikeAll], fun a b => lex_irrefl _⟩
def oCons [DecidableEq α] {D : Deep S} {E : DeepA A} (O : OrdD D) (P : OrdA E) : OrdA (dCons D E) := ⟨fun a b => if a.1 = b.1 then P.lt a.2 b.2 else O.lt a.1 b.1, fun a b => by
    show PySem.W.alikeAll (D.pd a.1 :: E.pd a.2) (D.pd b.1 :: E.pd b.2) = true
    rw [PySem.W.alikeAll, O.al, P.al]; rfl, fun a b => by
    show PyProof.Rows.lexLt itemOrd (PySem.W.keyToksAll (D.pd a.1 :: E.pd a.2)) (PySem.W.keyToksAll (D.pd b.1 :: E.pd b.2)) = _
    by_cases h : a.1 = b.1
    · rw [if_pos h, PySem.W.dataLt_all_yes (O.al a.1 b.1) (by rw [D.bq, decide_eq_true_eq]; exact h)]
      exact P.eq a.2 b.2
    · rw [if_neg h, PySem.W.dataLt_all_no (O.al a.1 b.1) (by rw [D.bq, decide_eq_false_iff_not]; exact h)]
      exact O.eq a.1 b.1⟩
def oTup {E : DeepA A} (P : OrdA E) : OrdD (dTup E) := ⟨P.lt, fun a b => by
    show PySem.W.alike (.tuple (E.pd a)) (.tuple (E.pd b)) = true
    simp only [PySem.W.alike]; exact P.al a b, (fun a e => by cases e), fun a b => (PySem.W.dataLt_tuple _ _).trans (P.eq a b)⟩
/-- a tuple with items -/
structure SomeT (D : Deep S) : Prop where
  sm : ∀ a, ∃ x r, D.pd a = .tuple (x :: r)
theorem st_tup {D : Deep S} {E : DeepA A} : SomeT (dTup (dCons D E)) := ⟨fun a => ⟨_, _, rfl⟩⟩
/-- < -/
def rLtD (K : PySem.W.Frag) : R2 := fun x y H Q => ∃ d e, Dp K H x d ∧ Dp K H y e ∧ PySem.W.alike d e = true ∧ d ≠ .none ∧ d.depth ≤ 64 ∧ Q (.bl (PySem.W.dataLt d e)) H
theorem op_ltD {X : Cx} (hu : X.A.units + 65 < cLine) : OpR X (compareOp .Lt) (rLtD X.K) := by
  intro pins s σ H x y v u Q I rx ry h
  obtain ⟨d, e, hd, he, al, nn, dp, q⟩ := h
  obtain ⟨as, r1⟩ := Dp.reads I d x v hd rx
  obtain ⟨bs, r2⟩ := Dp.reads I e y u he ry
  exact PySem.W.lt_data r1 r2 al nn (by omega) ⟨.bl _, H, I, rfl, q⟩
/-- sorted(a list of tuples) -/
def rSortD (K : PySem.W.Frag) (S : Ty α) (pd : α → PyData) : List V → Hp → VK → Prop := fun vs H Q => ∃ (a : Addr) (xs : List V) (R : RdR) (bs : List α), vs = [V.ref a] ∧ SqL K H a xs ∧ Reps S R bs xs ∧ (∀ b v, S.rep b v R → Dp K H v (pd b)) ∧
  (∀ b c, PySem.W.alike (pd b) (pd c) = true) ∧ (∀ b, ∃ x r, pd b = .tuple (x :: r)) ∧ (∀ b, (pd b).depth ≤ 64) ∧ ∀ p xs', H p = none → Reps S R (bs.mergeSort (PySem.W.dataLe false pd)) xs' → Q (.ref p) (upd H p (.lst xs'))
theorem each_of {R : RdR} : ∀ {bs : List α} {xs : List V} {its : List Value}, Reps S R bs xs → Vals xs its → PySem.W.EachIs (fun v x => ∃ y, RelV y v ∧ S.rep x y R) its bs
  | _, _, _, .nil, .nil => .nil
  | _, _, _, .cons r rs, .cons h hs => .cons ⟨_, h, r⟩ (each_of rs hs)
theorem of_each {R : RdR} : ∀ {bs : List α} {its : List Value}, PySem.W.EachIs (fun v x => ∃ y, RelV y v ∧ S.rep x y R) its bs → ∃ xs, Vals xs its ∧ Reps S R bs xs
  | _, _, .nil => ⟨[], .nil, .nil⟩
  | _, _, .cons ⟨y, h, r⟩ hs => by
    obtain ⟨xs, h1, h2⟩ := of_each hs
    exact ⟨y :: xs, .cons h h1, .cons r h2⟩
theorem cr_sortD {X : Cx} {k : Nat} {pd : α → PyData} (hr : Room k X.A) : CallR X (.builtin "sorted") (rSortD X.K S pd) := by
  intro pins s σ H vs us Q I r h
  obtain ⟨a, xs, R, bs, rfl, hs, rp, hD, al, sm, dp, q⟩ := h
  obtain ⟨its, rv, hl, hz⟩ := I.list hs
  obtain ⟨u, rfl, ru⟩ := vals1 r
  obtain rfl : u = Value.ref a := ru
  have e := each_of rp rv
  have er : PySem.W.EachIs (fun v b => ∃ as, Reads s.heap v (pd b) as) its bs := e.mono fun v b ⟨y, hy, hr⟩ => Dp.reads I (pd b) y v (hD b y hr) hy
  have hlen := e.length
  refine PySem.W.sorted_data (R := fun v x => ∃ y, RelV y v ∧ S.rep x y R) (enc := pd) hl.isList e er (fun d hd d' hd' => by
      obtain ⟨b, _, rfl⟩ := List.mem_map.mp hd
      obtain ⟨c, _, rfl⟩ := List.mem_map.mp hd'
      exact al b c) (.inl fun d hd => by
      obtain ⟨b, _, rfl⟩ := List.mem_map.mp hd
      exact sm b) (by rw [rp.length]; exact hz) (fun x _ => by have := hr.un; have := dp x; show X.A.units + 2 + _ < cLine; omega) fun out ho hE => ?_
  obtain ⟨ep, he'⟩ := PyProof.Rows.sortedAll_at s.heap its out.toArray
  obtain ⟨xs', v1, v2⟩ := of_each hE
  have hz2 : xs'.length ≤ sizeLine := by rw [← v2.length, List.length_mergeSort, rp.length]; exact hz
  exact ⟨.ref _, upd H (s.heap.objs.size + 1) (.lst xs'), I.laid (t' := s.toks) (fun _ _ => PyProof.Rows.sortedAll_old) (Nat.le_succ _) ⟨hz2, out, ep, v1, by simpa using he'⟩, rfl, q _ _ (I.hok.fresh (Nat.le_succ _)) v2⟩
end
section
variable {p : Pr} {sc : Scope} {NN VV GG : List Str} {k : Nat} {g : G} {L : List Slot} {α β δ : Type} {S : Ty α} {md md' : Md} {pos pp : Pos} {st : List Stmt} {D : δ → Out} {i j : Nat} {x : Str} {a e : Expr}
theorem c_ltD (ok : Ok p sc NN VV GG k g) {D : Deep S} (O : OrdD D) (hd : D.dp ≤ 64) : CmpOk p g.X .Lt S S (fun x y => O.lt x y) := ⟨rLtD p.K, by rw [← ok.K]; exact op_ltD (by have := ok.room.un; omega), ⟨fun {d e x y R H Q} rb rx ry q => by
  obtain ⟨a1, a2⟩ := D.rep rb rx
  obtain ⟨b1, b2⟩ := D.rep rb ry
  exact ⟨_, _, a1, b1, O.al d e, O.nn d, Nat.le_trans (D.dep d) hd, q _ _ (Same.refl _) (by show _ = V.bl _; rw [O.eq])⟩⟩⟩
/-- .. in rising order -/
def sortD {D : Deep S} (O : OrdD D) (xs : List α) : List α := xs.mergeSort fun a b => !O.lt b a
theorem evl_sortD {D : Deep S} {m : M (List α)} (ok : Ok p sc NN VV GG k g) (O : OrdD D) (hd : D.dp ≤ 64) (hS : SomeT D) (hG : GG[j]? = some "sorted") (hmg : p.mg "sorted" = none) (ha : EvE g L a md (tList S) m) (hs : starEach [a] g.X.env = (false, eval a g.X.env) :: starEach [] g.X.env := by rfl) :
    EvL g L (.Call (.Name "sorted" pp) [a] [] pos) md S (m.bind fun xs => .ok (sortD O xs)) := by
  obtain ⟨hg, ho⟩ := ok.gl hG
  obtain ⟨h1, _, h3⟩ := okName_d ho
  refine PE.imp (pe_callB (cr_sortD (S := S) (pd := D.pd) ok.room) hg (by rw [ok.mg]; exact hmg) (by decide +kernel) (eva_cons ha eva_nil hs) h3 h1 hs rfl) fun σ H W q => ?_
  obtain ⟨kp, own, at_, q⟩ := tL_iff.mp q
  refine tA_iff.mpr ⟨kp, own, at_, ?_⟩
  have ee : PySem.W.dataLe false D.pd = fun a b => !O.lt b a := by
    rw [PySem.W.dataLe_eq]
    funext a b
    show (!PySem.W.dataLt (D.pd b) (D.pd a)) = _
    rw [O.eq]
  cases m with
  | ok d =>
    rintro vs H1 s1 ⟨v, r, rfl, ⟨a', ws, rfl, hR, rr⟩, e3⟩
    cases (show r = [] from e3)
    refine ⟨a', ws, RX g.fm own H H1 md, d, rfl, by rw [ok.K, ← ok.fmK]; exact RX.list hR, rr, fun b v hb => ?_, O.al, hS.sm, fun b => Nat.le_trans (D.dep b) hd, fun l xs' hl rr' => ?_⟩
    · rw [ok.K, ← ok.fmK]; exact (D.rep RX.rdb hb).1
    · rw [ee] at rr'
      exact q l _ _ (s1.trans (newSame hl)) (s1.free hl) upd_same (rr'.mono fun a o z => RX.add (o' := .lst xs') hl a o z)
  | ex c => exact q
  | no => exact q
end
end Hd

namespace Hd
open PySem PySem.Spec L2
/-! ### what a mirror comes to -/
def Okm {α : Type} (m : M α) (P : α → Prop) : Prop := ∃ a, m = .ok a ∧ P a
section
variable {α β γ ρ : Type} {m : M α} {f : α → M β} {P P' : α → Prop} {Q : β → Prop}
theorem okv {a : α} (h : P a) : Okm (.ok a) P := ⟨a, rfl, h⟩
theorem okm_iff {a : α} : Okm (.ok a) P ↔ P a := ⟨fun ⟨b, e, h⟩ => by cases e; exact h, okv⟩
theorem okb (h : Okm m P) (k : ∀ a, P a → Okm (f a) Q) : Okm (m.bind f) Q := by
  obtain ⟨a, rfl, ha⟩ := h
  exact k a ha
theorem okmono (h : Okm m P) (k : ∀ a, P a → P' a) : Okm m P' := by
  obtain ⟨a, e, ha⟩ := h
  exact ⟨a, e, k a ha⟩
theorem okif {c : Bool} {a b : M α} (h1 : c = true → Okm a P) (h2 : c = false → Okm b P) : Okm (if c = true then a else b) P := by
  cases c with
  | true => exact h1 rfl
  | false => exact h2 rfl
theorem oke {a : α} (h : Okm m (· = a)) : m = .ok a := by
  obtain ⟨b, e, rfl⟩ := h
  exact e
theorem okeq {a : α} (h : m = .ok a) : Okm m (· = a) := ⟨a, h, rfl⟩
theorem okand (h : Okm m P) (h' : Okm m P') : Okm m (fun a => P a ∧ P' a) := by
  obtain ⟨a, e, ha⟩ := h
  obtain ⟨b, e', hb⟩ := h'
  rw [e] at e'
  cases e'
  exact ⟨a, e, ha, hb⟩
/-! numbers -/
theorem ok_mod {x y : Int} (h : 0 < y) : Okm (modM x y) (· = x % y) := by unfold modM; rw [if_pos h]; exact okv rfl
theorem ok_div {x y : Int} (h : 0 < y) (h2 : y < 2 ^ 64) : Okm (divM x y) (· = x / y) := by
  unfold divM
  rw [if_pos ⟨h, Nat.lt_of_lt_of_le (show y.natAbs < 2 ^ 64 by omega) (Nat.pow_le_pow_right (by decide) (by decide))⟩]
  exact okv rfl
theorem ok_mul {x y : Int} (n m : Nat) (h : x.natAbs < 2 ^ n) (h2 : y.natAbs < 2 ^ m) (hn : n ≤ 10000 := by decide) (hm : m ≤ 10000 := by decide) : Okm (mulM x y) (· = x * y) := by
  unfold mulM
  rw [if_pos ⟨Nat.lt_of_lt_of_le h (Nat.pow_le_pow_right (by decide) hn), Nat.lt_of_lt_of_le h2 (Nat.pow_le_pow_right (by decide) hm)⟩]
  exact okv rfl
/-! lists -/
theorem getM_at {xs : List α} {i : Int} {v : α} (h0 : 0 ≤ i) (h : xs[i.toNat]? = some v) : getM xs i = .ok v := by
  have hl : i.toNat < xs.length := (List.getElem?_eq_some_iff.mp h).1
  unfold getM L2.atI L2.ixN
  rw [if_pos h0, if_pos (by omega)]
  show (match xs[i.toNat]? with | some d => M.ok d | none => .no) = _
  rw [h]
theorem getM_nat {xs : List α} {i : Nat} {v : α} (h : xs[i]? = some v) : getM xs (i : Int) = .ok v := getM_at (by omega) (by rw [Int.toNat_natCast]; exact h)
theorem ok_get {xs : List α} {i : Int} (h0 : 0 ≤ i) (h1 : i < xs.length) : Okm (getM xs i) (fun v => xs[i.toNat]? = some v) := by
  have hl : i.toNat < xs.length := by omega
  exact ⟨xs[i.toNat], getM_at h0 (by simp [hl]), by simp [hl]⟩
theorem getM_last {xs : List α} {v : α} (h : xs.getLast? = some v) : getM xs (-1) = .ok v := by
  have hne : xs ≠ [] := fun e => by rw [e] at h; cases h
  have hl : 0 < xs.length := List.length_pos_iff.mpr hne
  unfold getM L2.atI L2.ixN
  rw [if_neg (by decide), if_pos (by omega)]
  show (match xs[(-1 + (xs.length : Int)).toNat]? with | some d => M.ok d | none => .no) = _
  rw [show (-1 + (xs.length : Int)).toNat = xs.length - 1 by omega, ← List.getLast?_eq_getElem?, h]
theorem getS_at {x : Tx} {i : Int} {c : Nat} (h0 : 0 ≤ i) (h : x[i.toNat]? = some c) : getS x i = .ok [c] := by
  have hl : i.toNat < x.length := (List.getElem?_eq_some_iff.mp h).1
  unfold getS L2.atI L2.ixN
  rw [if_pos h0, if_pos (by omega)]
  show (match x[i.toNat]? with | some d => M.ok [d] | none => .no) = _
  rw [h]
theorem getS_nat {x : Tx} {i : Nat} {c : Nat} (h : x[i]? = some c) : getS x (i : Int) = .ok [c] := getS_at (by omega) (by rw [Int.toNat_natCast]; exact h)
theorem ok_getS {x : Tx} {i : Int} (h0 : 0 ≤ i) (h1 : i < x.length) : Okm (getS x i) (fun v => ∃ c, x[i.toNat]? = some c ∧ v = [c]) := by
  have hl : i.toNat < x.length := by omega
  exact ⟨[x[i.toNat]], getS_at h0 (by simp [hl]), _, by simp [hl], rfl⟩
theorem ok_push {xs : List α} {d : α} (h : xs.length < 1000000) : Okm (pushM xs d) (· = xs ++ [d]) := by
  unfold pushM
  rw [if_pos (Nat.lt_trans h (by decide))]
  exact okv rfl
theorem ok_set {xs : List α} {i : Int} {d : α} (h0 : 0 ≤ i) (h1 : i < xs.length) : Okm (setM xs i d) (· = xs.set i.toNat d) := by
  unfold setM L2.ixN
  rw [if_pos h0, if_pos h1]
  exact okv rfl
theorem ok_cat {x y : Tx} (h : x.length + y.length ≤ 1000000) : Okm (catS x y) (· = x ++ y) := by
  unfold catS
  rw [if_pos (Nat.le_trans h (by decide))]
  exact okv rfl
theorem ok_catL {x y : List α} (h : x.length + y.length ≤ 1000000) : Okm (catL x y) (· = x ++ y) := by
  unfold catL
  rw [if_pos (Nat.le_trans h (by decide))]
  exact okv rfl
theorem flat_rep1 {d : α} : ∀ n, (List.replicate n [d]).flatten = List.replicate n d
  | 0 => rfl
  | n + 1 => by rw [List.replicate_succ, List.flatten_cons, flat_rep1 n]; rfl
theorem ok_rep1 {d : α} {n : Int} (h : n < 1000000) (h' : -1000000 < n) : Okm (repM [d] n) (· = List.replicate n.toNat d) := by
  unfold repM
  rw [if_pos ⟨by omega, by omega, by
    have : ([d] : List α).length * n.toNat ≤ 1000000 := by simp; omega
    exact Nat.le_trans this (by decide)⟩, flat_rep1]
  exact okv rfl
theorem ok_range {lo hi : Int} (h1 : -(2 ^ 62) ≤ lo := by omega) (h2 : lo < 2 ^ 62 := by omega) (h3 : -(2 ^ 62) ≤ hi := by omega) (h4 : hi < 2 ^ 62 := by omega) : Okm (rangeM lo hi) (· = upFrom lo (hi - lo).toNat) := by
  unfold rangeM
  rw [if_pos ⟨h1, h2, h3, h4⟩]
  exact okv rfl
theorem range_eq {lo hi : Int} (h1 : -(2 ^ 62) ≤ lo := by omega) (h2 : lo < 2 ^ 62 := by omega) (h3 : -(2 ^ 62) ≤ hi := by omega) (h4 : hi < 2 ^ 62 := by omega) : rangeM lo hi = .ok (upFrom lo (hi - lo).toNat) := oke (ok_range h1 h2 h3 h4)
theorem upFrom_mem {lo x : Int} {n : Nat} : x ∈ upFrom lo n ↔ lo ≤ x ∧ x < lo + n := by
  induction n generalizing lo with
  | zero => simp [upFrom]
  | succ n ih => rw [upFrom, List.mem_cons, ih]; push_cast; omega
theorem upFrom_succ' {lo : Int} {n : Nat} : upFrom lo (n + 1) = upFrom lo n ++ [lo + n] := by
  induction n generalizing lo with
  | zero => simp [upFrom]
  | succ n ih => rw [upFrom, ih, upFrom]; simp; omega
/-! loops -/
theorem ok_for {f : β → α → M β} {s0 : β} {xs : List α} (I : Nat → β → Prop) (h0 : I 0 s0) (hs : ∀ i x s, xs[i]? = some x → I i s → Okm (f s x) (I (i + 1))) : Okm (forM f s0 xs) (I xs.length) := by
  induction xs generalizing s0 I with
  | nil => exact okv h0
  | cons x r ih =>
    refine okb (hs 0 x s0 rfl h0) fun s1 h1 => ?_
    exact ih (fun i => I (i + 1)) h1 fun i y s e h => hs (i + 1) y s (by simpa using e) h
theorem ok_forR {f : β → Int → M β} {s0 : β} {lo : Int} {n : Nat} (I : Nat → β → Prop) (h0 : I 0 s0) (hs : ∀ i s, i < n → I i s → Okm (f s (lo + i)) (I (i + 1))) : Okm (forM f s0 (upFrom lo n)) (I n) := by
  have h := ok_for (f := f) (xs := upFrom lo n) I h0 fun i x s e h => by
    rw [upFrom_get] at e
    by_cases hi : i < n
    · rw [if_pos hi] at e
      cases e
      exact hs i s hi h
    · rw [if_neg hi] at e; cases e
  rwa [upFrom_len] at h
/-- an invariant without a place -/
theorem ok_forI {f : β → α → M β} {s0 : β} {xs : List α} (I : β → Prop) (h0 : I s0) (hs : ∀ x ∈ xs, ∀ s, I s → Okm (f s x) I) : Okm (forM f s0 xs) I := ok_for (fun _ => I) h0 fun _ x s e h => hs x (List.mem_of_getElem? e) s h
def FlP {β ρ : Type} (N : β → Prop) (R : ρ → Prop) : Fl β ρ → Prop
  | .nx s => N s
  | .rt r => R r
theorem ok_forF {f : β → α → M (Fl β ρ)} {s0 : β} {xs : List α} (I : Nat → β → Prop) (R : ρ → Prop) (h0 : I 0 s0) (hs : ∀ i x s, xs[i]? = some x → I i s → Okm (f s x) (FlP (I (i + 1)) R)) : Okm (forF f s0 xs) (FlP (I xs.length) R) := by
  induction xs generalizing s0 I with
  | nil => exact okv h0
  | cons x r ih =>
    refine okb (hs 0 x s0 rfl h0) fun s1 h1 => ?_
    cases s1 with
    | nx s1 => exact ih (fun i => I (i + 1)) h1 fun i y s e h => hs (i + 1) y s (by simpa using e) h
    | rt q => exact okv h1
theorem ok_forFR {f : β → Int → M (Fl β ρ)} {s0 : β} {lo : Int} {n : Nat} (I : Nat → β → Prop) (R : ρ → Prop) (h0 : I 0 s0) (hs : ∀ i s, i < n → I i s → Okm (f s (lo + i)) (FlP (I (i + 1)) R)) : Okm (forF f s0 (upFrom lo n)) (FlP (I n) R) := by
  have h := ok_forF (f := f) (xs := upFrom lo n) I R h0 fun i x s e h => by
    rw [upFrom_get] at e
    by_cases hi : i < n
    · rw [if_pos hi] at e
      cases e
      exact hs i s hi h
    · rw [if_neg hi] at e; cases e
  rwa [upFrom_len] at h
/-- a law's loop that leaves with no False: all its turns go on -/
theorem okel {g : β → M γ} {h : ρ → M γ} {m : M (Fl β ρ)} {N : β → Prop} {R : ρ → Prop} {Q : γ → Prop} (hm : Okm m (FlP N R)) (h1 : ∀ s, N s → Okm (g s) Q) (h2 : ∀ r, R r → Okm (h r) Q) : Okm (m.bind (Fl.el g h)) Q :=
  okb hm fun a ha => by
    cases a with
    | nx s => exact h1 s ha
    | rt r => exact h2 r ha
theorem ok_while {t : β → M Bool} {f : β → M β} {s0 : β} (I : β → Prop) (μ : β → Nat) (h0 : I s0) (hm : μ s0 < 1000000) (ht : ∀ s, I s → Okm (t s) (fun c => c = true → Okm (f s) (fun s' => I s' ∧ μ s' < μ s))) : Okm (whileM t f fuel s0) (fun s => I s ∧ t s = .ok false) := by
  have key : ∀ n s, I s → μ s < n → Okm (whileM t f n s) (fun s => I s ∧ t s = .ok false) := by
    intro n
    induction n with
    | zero => intro s _ h; omega
    | succ n ih =>
      intro s hI hμ
      obtain ⟨c, e, hc⟩ := ht s hI
      show Okm ((t s).bind fun c => if c = true then (f s).bind (whileM t f n) else .ok s) _
      rw [e]
      show Okm (if c = true then (f s).bind (whileM t f n) else .ok s) _
      cases c with
      | true =>
        rw [if_pos rfl]
        exact okb (hc rfl) fun s' h' => ih s' h'.1 (by omega)
      | false => exact okv ⟨hI, e⟩
  exact key fuel s0 h0 (Nat.lt_trans hm (by decide))
theorem ok_whileF {t : β → M Bool} {f : β → M (Fl β ρ)} {s0 : β} (I : β → Prop) (R : ρ → Prop) (μ : β → Nat) (h0 : I s0) (hm : μ s0 < 1000000) (ht : ∀ s, I s → Okm (t s) (fun c => c = true → Okm (f s) (FlP (fun s' => I s' ∧ μ s' < μ s) R))) : Okm (whileF t f fuel s0) (FlP (fun s => I s ∧ t s = .ok false) R) := by
  have key : ∀ n s, I s → μ s < n → Okm (whileF t f n s) (FlP (fun s => I s ∧ t s = .ok false) R) := by
    intro n
    induction n with
    | zero => intro s _ h; omega
    | succ n ih =>
      intro s hI hμ
      obtain ⟨c, e, hc⟩ := ht s hI
      show Okm ((t s).bind fun c => if c = true then (f s).bind (Fl.el (whileF t f n) fun r => .ok (.rt r)) else .ok (.nx s)) _
      rw [e]
      show Okm (if c = true then (f s).bind (Fl.el (whileF t f n) fun r => .ok (.rt r)) else .ok (.nx s)) _
      cases c with
      | true =>
        rw [if_pos rfl]
        exact okel (hc rfl) (fun s' h' => ih s' h'.1 (by omega)) fun r hr => okv hr
      | false => exact okv ⟨hI, e⟩
  exact key fuel s0 h0 (Nat.lt_trans hm (by decide))
/-! comprehensions -/
theorem comp_eq {h : α → M (Option β)} {g : α → Option β} {xs : List α} (hl : xs.length ≤ 1000000) (hs : ∀ x ∈ xs, h x = .ok (g x)) : compM h xs = .ok (xs.filterMap g) := by
  unfold compM
  rw [if_pos (Nat.le_trans hl (by decide))]
  clear hl
  induction xs with
  | nil => rfl
  | cons x r ih =>
    show ((h x).nox.bind fun o => (compG h r).bind fun l => M.ok (o.toList ++ l)) = _
    rw [hs x List.mem_cons_self, ih fun y hy => hs y (List.mem_cons_of_mem _ hy)]
    show M.ok ((g x).toList ++ r.filterMap g) = _
    rw [List.filterMap_cons]
    cases g x <;> rfl
theorem comp_map {h : α → M (Option β)} {g : α → β} {xs : List α} (hl : xs.length ≤ 1000000) (hs : ∀ x ∈ xs, h x = .ok (some (g x))) : compM h xs = .ok (xs.map g) := by
  rw [comp_eq (g := fun x => some (g x)) hl hs]
  congr 1
  induction xs with
  | nil => rfl
  | cons x r ih => rw [List.filterMap_cons]; simp only [List.map_cons]; rw [ih (by simp at hl; omega) fun y hy => hs y (List.mem_cons_of_mem _ hy)]
theorem ok_comp {h : α → M (Option β)} {xs : List α} (R : α → β → Prop) (hl : xs.length ≤ 1000000) (hs : ∀ x ∈ xs, Okm (h x) (fun o => ∃ y, o = some y ∧ R x y)) : Okm (compM h xs) (fun ys => ys.length = xs.length ∧ ∀ (i : Nat) (x : α) (y : β), xs[i]? = some x → ys[i]? = some y → R x y) := by
  unfold compM
  rw [if_pos (Nat.le_trans hl (by decide))]
  clear hl
  induction xs with
  | nil => exact okv ⟨rfl, fun i x y e => by simp at e⟩
  | cons x r ih =>
    obtain ⟨o, e, y, rfl, hy⟩ := hs x List.mem_cons_self
    obtain ⟨ys, e2, h2, h3⟩ := ih fun z hz => hs z (List.mem_cons_of_mem _ hz)
    show Okm ((h x).nox.bind fun o => (compG h r).bind fun l => M.ok (o.toList ++ l)) _
    rw [e, e2]
    refine okv ⟨by simp [h2], fun i a b ea eb => ?_⟩
    cases i with
    | zero => simp at ea eb; subst ea; subst eb; exact hy
    | succ i => exact h3 i a b (by simpa using ea) (by simpa using eb)
end
/-! ### signs -/
theorem tx_hash : tx "#" = [35] := by decide +kernel
theorem tx_dot : tx "." = [46] := by decide +kernel
theorem tx_nil : tx "" = [] := by decide +kernel
/-! ### cuts -/
theorem sIx_at {n d : Nat} {i : Int} (h0 : 0 ≤ i) (h : i ≤ n) : HT.sIx n d (some i) = i.toNat := by
  simp only [HT.sIx]
  split <;> omega
theorem cut_mid {α : Type} {xs : List α} {a b : Int} (h0 : 0 ≤ a) (h1 : a ≤ b) (h2 : b ≤ xs.length) : cutL xs (some a) (some b) = (xs.drop a.toNat).take (b.toNat - a.toNat) := by
  unfold cutL; rw [sIx_at h0 (by omega), sIx_at (by omega) h2]
theorem cut_from {α : Type} {xs : List α} {a : Int} (h0 : 0 ≤ a) (h1 : a ≤ xs.length) : cutL xs (some a) none = xs.drop a.toNat := by
  unfold cutL; rw [sIx_at h0 (by omega)]
  show (xs.drop a.toNat).take (xs.length - a.toNat) = _
  rw [List.take_of_length_le (by rw [List.length_drop]; exact Nat.le_refl _)]
theorem cut_to {α : Type} {xs : List α} {b : Int} (h0 : 0 ≤ b) (h1 : b ≤ xs.length) : cutL xs none (some b) = xs.take b.toNat := by
  unfold cutL; rw [sIx_at h0 (by omega)]
  rfl
theorem cut_mem {α : Type} {xs : List α} {a b : Option Int} {x : α} (h : x ∈ cutL xs a b) : x ∈ xs := List.mem_of_mem_drop (List.mem_of_mem_take h)
theorem join_nil_eq : ∀ xs : List Tx, TL.joinL [] xs = xs.flatten
  | [] => rfl
  | [x] => by simp [TL.joinL]
  | x :: y :: r => by rw [TL.joinL, join_nil_eq (y :: r)]; simp
theorem ok_join {xs : List Tx} (h : (xs.map List.length).sum ≤ 1000000) : Okm (joinM [] xs) (· = xs.flatten) := by
  unfold joinM
  rw [if_pos (by simp; omega), join_nil_eq]
  exact okv rfl
theorem flat_map1 {l : List Nat} : (l.map fun c => [c]).flatten = l := by
  induction l with
  | nil => rfl
  | cons a r ih => simp [ih]
/-- a cloth's rows -/
structure Cloth (rows : List Tx) (w h : Nat) : Prop where
  hh : rows.length = h
  ww : ∀ r ∈ rows, r.length = w
  sg : ∀ r ∈ rows, ∀ c ∈ r, c = 35 ∨ c = 46
  w1 : 1 ≤ w
  w2 : w ≤ 40
  h1 : 1 ≤ h
  h2 : h ≤ 40
end Hd

namespace Hd
open PySem PySem.Spec L2
def topS (i : Nat) : Stmt := PySem.Challenge.pw_heddle_k30_round_or_lifted.main.body.getD i (.Pass ⟨0, 0, 0, 0⟩)
def kn_ : List Ec := [.weave, .noCloth, .noStrand]
structure Facts (p : Pr) : Prop where
  g_all : p.mg "all" = none
  g_bool : p.mg "bool" = none
  g_int : p.mg "int" = none
  g_isinstance : p.mg "isinstance" = none
  g_len : p.mg "len" = none
  g_list : p.mg "list" = none
  g_range : p.mg "range" = none
  g_reversed : p.mg "reversed" = none
  c_MOST_STRANDS : ∃ t, p.mg "MOST_STRANDS" = some (.int 40 t)
  x_NoCloth : ExF p "NoCloth" .noCloth
  x_NoStrand : ExF p "NoStrand" .noStrand
  kn : Kn p kn_
  d__law_at : ∃ f fd, FunD p.K "_law_at" "_law_at" (defArgs (topS 18)) (defBody (topS 18)) (defScope (topS 18)) [] [] f fd ∧ p.mg "_law_at" = some (.ref f)
  d__law_numbers : ∃ f fd, FunD p.K "_law_numbers" "_law_numbers" (defArgs (topS 19)) (defBody (topS 19)) (defScope (topS 19)) [] [] f fd ∧ p.mg "_law_numbers" = some (.ref f)
  d__law_levels : ∃ f fd, FunD p.K "_law_levels" "_law_levels" (defArgs (topS 20)) (defBody (topS 20)) (defScope (topS 20)) [] [] f fd ∧ p.mg "_law_levels" = some (.ref f)
  d__law_text : ∃ f fd, FunD p.K "_law_text" "_law_text" (defArgs (topS 21)) (defBody (topS 21)) (defScope (topS 21)) [] [] f fd ∧ p.mg "_law_text" = some (.ref f)
  d__law_cloth : ∃ f fd, FunD p.K "_law_cloth" "_law_cloth" (defArgs (topS 22)) (defBody (topS 22)) (defScope (topS 22)) [] [] f fd ∧ p.mg "_law_cloth" = some (.ref f)
  d__law_set : ∃ f fd, FunD p.K "_law_set" "_law_set" (defArgs (topS 25)) (defBody (topS 25)) (defScope (topS 25)) [] [] f fd ∧ p.mg "_law_set" = some (.ref f)
  d_measured : ∃ f fd, FunD p.K "measured" "measured" (defArgs (topS 7)) (defBody (topS 7)) (defScope (topS 7)) [] [] f fd ∧ p.mg "measured" = some (.ref f)
  d_held_strands : ∃ f fd, FunD p.K "held_strands" "held_strands" (defArgs (topS 12)) (defBody (topS 12)) (defScope (topS 12)) [] [] f fd ∧ p.mg "held_strands" = some (.ref f)
  d_beneath_strand : ∃ f fd, FunD p.K "beneath_strand" "beneath_strand" (defArgs (topS 9)) (defBody (topS 9)) (defScope (topS 9)) [] [] f fd ∧ p.mg "beneath_strand" = some (.ref f)
  d_way_within : ∃ f fd, FunD p.K "way_within" "way_within" (defArgs (topS 13)) (defBody (topS 13)) (defScope (topS 13)) [] [] f fd ∧ p.mg "way_within" = some (.ref f)
  d_round_way : ∃ f fd, FunD p.K "round_way" "round_way" (defArgs (topS 14)) (defBody (topS 14)) (defScope (topS 14)) [] [] f fd ∧ p.mg "round_way" = some (.ref f)
  d_above_strand : ∃ f fd, FunD p.K "above_strand" "above_strand" (defArgs (topS 10)) (defBody (topS 10)) (defScope (topS 10)) [] [] f fd ∧ p.mg "above_strand" = some (.ref f)
  d_met_from : ∃ f fd, FunD p.K "met_from" "met_from" (defArgs (topS 15)) (defBody (topS 15)) (defScope (topS 15)) [] [] f fd ∧ p.mg "met_from" = some (.ref f)
  d_lifted_off : ∃ f fd, FunD p.K "lifted_off" "lifted_off" (defArgs (topS 16)) (defBody (topS 16)) (defScope (topS 16)) [] [] f fd ∧ p.mg "lifted_off" = some (.ref f)
  d__law_whole : ∃ f fd, FunD p.K "_law_whole" "_law_whole" (defArgs (topS 23)) (defBody (topS 23)) (defScope (topS 23)) [] [] f fd ∧ p.mg "_law_whole" = some (.ref f)
  d__law_numbered : ∃ f fd, FunD p.K "_law_numbered" "_law_numbered" (defArgs (topS 26)) (defBody (topS 26)) (defScope (topS 26)) [] [] f fd ∧ p.mg "_law_numbered" = some (.ref f)
  d__law_over : ∃ f fd, FunD p.K "_law_over" "_law_over" (defArgs (topS 24)) (defBody (topS 24)) (defScope (topS 24)) [] [] f fd ∧ p.mg "_law_over" = some (.ref f)
  d__law_round : ∃ f fd, FunD p.K "_law_round" "_law_round" (defArgs (topS 27)) (defBody (topS 27)) (defScope (topS 27)) [] [] f fd ∧ p.mg "_law_round" = some (.ref f)
  d__law_lifted : ∃ f fd, FunD p.K "_law_lifted" "_law_lifted" (defArgs (topS 28)) (defBody (topS 28)) (defScope (topS 28)) [] [] f fd ∧ p.mg "_law_lifted" = some (.ref f)
  d__law_bad : ∃ f fd, FunD p.K "_law_bad" "_law_bad" (defArgs (topS 30)) (defBody (topS 30)) (defScope (topS 30)) [] [] f fd ∧ p.mg "_law_bad" = some (.ref f)
  d__law_refused : ∃ f fd, FunD p.K "_law_refused" "_law_refused" (defArgs (topS 29)) (defBody (topS 29)) (defScope (topS 29)) [] [] f fd ∧ p.mg "_law_refused" = some (.ref f)
  d_law : ∃ f fd, FunD p.K "law" "law" (defArgs (topS 31)) (defBody (topS 31)) (defScope (topS 31)) [] [] f fd ∧ p.mg "law" = some (.ref f)
/-! ### _law_at -/
abbrev s__law_at : Stmt := topS 18
abbrev N__law_at : List Str := ["script", "k"]
abbrev V__law_at : List Str := ["script", "k"]
abbrev G__law_at : List Str := ["len"]
theorem sc__law_at : Sc s__law_at N__law_at V__law_at ["script", "k"] G__law_at := ⟨⟨rfl, rfl, rfl, by decide +kernel, rfl, by decide +kernel, by decide +kernel⟩, by decide +kernel, by decide +kernel, by decide +kernel⟩
def q__law_at (script1 : (List Int)) (k2 : Int) : M Int := M.bind (M.bind (M.ok k2) fun y4 => M.bind (M.bind (M.ok script1) fun y3 => M.ok (y3.length : Int)) fun y5 => M.ok (decide (y4 < y5))) fun c6 => if c6 = true then M.bind (M.ok script1) fun y7 => M.bind (M.ok k2) fun y8 => getM y7 y8 else M.ok (0 : Int)
def f_law_at (script1 : (List Int)) (k2 : Int) : M Int := if (decide (k2 < (script1.length : Int))) = true then getM script1 k2 else M.ok (0 : Int)
def r__law_at (d : ((List Int) × Int × Unit)) : M Int := q__law_at d.1 d.2.1
def c__law_at (d : ((List Int) × Int × Unit)) : M Int := f_law_at d.1 d.2.1
theorem eq__law_at : r__law_at = c__law_at := by funext d; first | (simp only [r__law_at, c__law_at, q__law_at, f_law_at, M.bind_assoc, M.bok]; done) | (simp only [r__law_at, c__law_at, q__law_at, f_law_at, M.bind_assoc, M.bok]; rfl)
theorem bb__law_at {p : Pr} (X : Facts p) {g : G} (ok : OkS p (defScope s__law_at) N__law_at V__law_at G__law_at 0 g) (hX : g.LX = List.replicate N__law_at.length sAny) (script1 : (List Int)) (k2 : Int) : EvB g [(sV false (tListK p.K tInt) script1), (sV false tInt k2)] (defBody s__law_at) (fun r => .rt false tInt r) (q__law_at script1 k2) := (evb_ifx (wkX hX rfl) (evt_c ok.toOk c_lt (ev_vsh ok.toOk (i := 1) (j := 1) rfl rfl rfl) (ev_lenQ (md' := .sh) ok.toOk sq_k (j := 0) rfl X.g_len (ev_vsh ok.toOk (i := 0) (j := 0) rfl rfl rfl))) (evb_ret (wkX hX rfl) .sh (by intro _; rfl) (ev_ixQ ok.toOk sq_k (ev_vsh ok.toOk (i := 0) (j := 0) rfl rfl rfl) (ev_vsh ok.toOk (i := 1) (j := 1) rfl rfl rfl))) (evb_ret (wkX hX rfl) .sh (by intro _; rfl) (ev_int (md := .sh))))
theorem b__law_at {p : Pr} (X : Facts p) : Body p s__law_at N__law_at V__law_at G__law_at 0 (fun (d : ((List Int) × Int × Unit)) => [(sV false (tListK p.K tInt) d.1), (sV false tInt d.2.1)]) (fun r => .rt false tInt r) r__law_at := fun g ok hX d => bb__law_at X ok hX d.1 d.2.1
theorem fn__law_at {p : Pr} (X : Facts p) : Fn p 1 "_law_at" ["script", "k"] (spM p (aCons (tListK p.K tInt) (aCons tInt aNil)) (fun r => .rt false tInt r) c__law_at) := by
  obtain ⟨f, fd, hF, hm⟩ := X.d__law_at
  exact ⟨f, fd, eq__law_at ▸ fn_rt (m := 0) hF sc__law_at (.cons (.cons .nil)) rfl rfl (b__law_at X), hm, hF.kp, hF.bindsN fun _ _ _ _ _ _ us hl => match us, hl with | [_, _], _ => rfl⟩
/-! ### _law_numbers -/
abbrev s__law_numbers : Stmt := topS 19
abbrev N__law_numbers : List Str := ["script", "picks", "factor", "numbers", "k", "at", "number"]
abbrev V__law_numbers : List Str := ["script", "picks", "factor", "numbers", "k", "at", "number"]
abbrev G__law_numbers : List Str := ["len", "range"]
theorem sc__law_numbers : Sc s__law_numbers N__law_numbers V__law_numbers ["script", "picks", "factor"] G__law_numbers := ⟨⟨rfl, rfl, rfl, by decide +kernel, rfl, by decide +kernel, by decide +kernel⟩, by decide +kernel, by decide +kernel, by decide +kernel⟩
def r_f_law_numbers_l1 (script1 : (List Int)) (picks2 : Int) (factor3 : Int) : ((List Int)) → Int → M ((List Int)) := fun s12 k13 => M.bind (M.bind (M.ok k13) fun y15 => M.bind (M.ok picks2) fun y16 => modM y15 y16) fun at14 => M.bind (M.bind (M.bind (M.bind (M.ok s12) fun y18 => M.bind (M.ok at14) fun y19 => getM y18 y19) fun y20 => M.bind (M.ok factor3) fun y21 => mulM y20 y21) fun y24 => M.bind (M.bind (M.ok script1) fun y22 => M.bind (M.ok k13) fun y23 => getM y22 y23) fun y25 => M.ok (y24 + y25)) fun number17 => M.bind (M.bind (M.ok number17) fun y26 => M.ok (y26 % (1099511627776 : Int))) fun y27 => M.bind (M.ok at14) fun i28 => M.bind (setM s12 i28 y27) fun numbers29 => M.ok numbers29
def f_law_numbers_l1 (script1 : (List Int)) (picks2 : Int) (factor3 : Int) : ((List Int)) → Int → M ((List Int)) := fun s12 k13 => M.bind (modM k13 picks2) fun at14 => M.bind (M.bind (M.bind (getM s12 at14) fun y20 => mulM y20 factor3) fun y24 => M.bind (getM script1 k13) fun y25 => M.ok (y24 + y25)) fun number17 => M.bind (setM s12 at14 (number17 % (1099511627776 : Int))) fun numbers29 => M.ok numbers29
theorem eq_f_law_numbers_l1 (script1 : (List Int)) (picks2 : Int) (factor3 : Int) : r_f_law_numbers_l1 script1 picks2 factor3 = f_law_numbers_l1 script1 picks2 factor3 := by funext s12 k13; first | (simp only [r_f_law_numbers_l1, f_law_numbers_l1, M.bind_assoc, M.bok]; done) | (simp only [r_f_law_numbers_l1, f_law_numbers_l1, M.bind_assoc, M.bok]; rfl)
def q__law_numbers (script1 : (List Int)) (picks2 : Int) (factor3 : Int) : M (List Int) := M.bind (M.bind (M.bind (M.ok (0 : Int)) fun y5 => M.bind (M.ok []) fun y6 => M.ok (y5 :: y6)) fun y8 => M.bind (M.ok picks2) fun y9 => repM y8 y9) fun numbers4 => M.bind (M.bind (M.bind (M.ok script1) fun y10 => M.ok (y10.length : Int)) fun y11 => rangeM 0 y11) fun xs30 => M.bind (forM (r_f_law_numbers_l1 script1 picks2 factor3) numbers4 xs30) fun (s31 : ((List Int))) => M.ok s31
def f_law_numbers (script1 : (List Int)) (picks2 : Int) (factor3 : Int) : M (List Int) := M.bind (repM ([(0 : Int)]) picks2) fun numbers4 => M.bind (rangeM 0 (script1.length : Int)) fun xs30 => M.bind (forM (f_law_numbers_l1 script1 picks2 factor3) numbers4 xs30) fun (s31 : ((List Int))) => M.ok s31
def r__law_numbers (d : ((List Int) × Int × Int × Unit)) : M (List Int) := q__law_numbers d.1 d.2.1 d.2.2.1
def c__law_numbers (d : ((List Int) × Int × Int × Unit)) : M (List Int) := f_law_numbers d.1 d.2.1 d.2.2.1
theorem eq__law_numbers : r__law_numbers = c__law_numbers := by funext d; first | (simp only [r__law_numbers, c__law_numbers, q__law_numbers, f_law_numbers, M.bind_assoc, M.bok, eq_f_law_numbers_l1]; done) | (simp only [r__law_numbers, c__law_numbers, q__law_numbers, f_law_numbers, M.bind_assoc, M.bok, eq_f_law_numbers_l1]; rfl)
theorem bb__law_numbers {p : Pr} (X : Facts p) {g : G} (ok : OkS p (defScope s__law_numbers) N__law_numbers V__law_numbers G__law_numbers 0 g) (hX : g.LX = List.replicate N__law_numbers.length sAny) (script1 : (List Int)) (picks2 : Int) (factor3 : Int) : EvB g [(sV false (tListK p.K tInt) script1), (sV false tInt picks2), (sV false tInt factor3), sAny, sAny, sAny, sAny] (defBody s__law_numbers) (fun r => .rtL false tInt r) (q__law_numbers script1 picks2 factor3) := (evb_own ok (i := 3) (j := 3) rfl rfl (wkX hX rfl) .sh (evl_rep (md := .sh) ok.toOk (evl_lstN (n := 1) (lnS ln0) (by decide) (evs_cons (ev_int (md := .sh)) evs_nil)) (ev_vsh ok.toOk (i := 1) (j := 1) rfl rfl rfl)) fun numbers4 => (evb_for (LF := (fun (s12 : ((List Int))) => [(sV false (tListK p.K tInt) script1), (sV false tInt picks2), (sV false tInt factor3), (sOwn false tInt s12), sAny, sAny, sAny])) (s0 := numbers4) ok (wkX hX rfl) (evi_range1 ok.toOk (j := 1) rfl X.g_range (ev_lenQ (md' := .sh) ok.toOk sq_k (j := 0) rfl X.g_len (ev_vsh ok.toOk (i := 0) (j := 0) rfl rfl rfl))) (Wk.s (Wk.s (Wk.s (Wk.s (Wk.s (Wk.s (Wk.s Wk.n))))))) (fun _ => evg_name ok (i := 4) (j := 4) rfl rfl) (fun s12 k13 => (evb_set ok (i := 5) (j := 5) rfl rfl (wkX hX rfl) .sh (ev_mod (md' := .sh) ok.toOk (ev_vsh ok.toOk (i := 4) (j := 4) rfl rfl rfl) (ev_vsh ok.toOk (i := 1) (j := 1) rfl rfl rfl)) fun at14 => (evb_set ok (i := 6) (j := 6) rfl rfl (wkX hX rfl) .sh (ev_borrow (i := 3) (.inl flInt) rfl (ev_add (md' := .sh) ok.toOk (ev_mul (md' := .sh) ok.toOk (ev_ixQ ok.toOk sq_l (ev_vsh ok.toOk (i := 3) (j := 3) rfl rfl rfl) (ev_vsh ok.toOk (i := 5) (j := 5) rfl rfl rfl)) (ev_vsh ok.toOk (i := 2) (j := 2) rfl rfl rfl)) (ev_ixQ ok.toOk sq_k (ev_vsh ok.toOk (i := 0) (j := 0) rfl rfl rfl) (ev_vsh ok.toOk (i := 4) (j := 4) rfl rfl rfl)))) fun number17 => (evb_setitem ok (wkX hX rfl) (i := 3) (j := 3) rfl rfl rfl .sh (ev_modC (md' := .sh) ok.toOk (by decide) (ev_vsh ok.toOk (i := 6) (j := 6) rfl rfl rfl) (ev_int (md := .sh))) (ev_vsh ok.toOk (i := 5) (j := 5) rfl rfl rfl) fun numbers29 => (evb_go (by rfl) (Wk.s (Wk.s (Wk.s (Wk.s (Wk.a (Wk.a (Wk.a Wk.n)))))))))))) fun s31 => (evb_retOwn ok.toOk (i := 3) (j := 3) rfl rfl rfl (.inl rfl) (by rfl))))
theorem b__law_numbers {p : Pr} (X : Facts p) : Body p s__law_numbers N__law_numbers V__law_numbers G__law_numbers 0 (fun (d : ((List Int) × Int × Int × Unit)) => [(sV false (tListK p.K tInt) d.1), (sV false tInt d.2.1), (sV false tInt d.2.2.1), sAny, sAny, sAny, sAny]) (fun r => .rtL false tInt r) r__law_numbers := fun g ok hX d => bb__law_numbers X ok hX d.1 d.2.1 d.2.2.1
theorem fn__law_numbers {p : Pr} (X : Facts p) : Fn p 1 "_law_numbers" ["script", "picks", "factor"] (spM p (aCons (tListK p.K tInt) (aCons tInt (aCons tInt aNil))) (fun r => .rtL false tInt r) c__law_numbers) := by
  obtain ⟨f, fd, hF, hm⟩ := X.d__law_numbers
  exact ⟨f, fd, eq__law_numbers ▸ fn_rtL (m := 4) hF sc__law_numbers (.cons (.cons (.cons .nil))) rfl rfl (b__law_numbers X), hm, hF.kp, hF.bindsN fun _ _ _ _ _ _ us hl => match us, hl with | [_, _, _], _ => rfl⟩
/-! ### _law_levels -/
abbrev s__law_levels : Stmt := topS 20
abbrev N__law_levels : List Str := ["script", "strands", "many", "number", "levels", "k"]
abbrev V__law_levels : List Str := ["script", "strands", "many", "number", "levels", "k"]
abbrev G__law_levels : List Str := ["_law_at", "range"]
theorem sc__law_levels : Sc s__law_levels N__law_levels V__law_levels ["script", "strands", "many"] G__law_levels := ⟨⟨rfl, rfl, rfl, by decide +kernel, rfl, by decide +kernel, by decide +kernel⟩, by decide +kernel, by decide +kernel, by decide +kernel⟩
def r_f_law_levels_l1 (many3 : Int) : (Int × (List Int)) → Int → M (Int × (List Int)) := fun s16 k17 => M.bind (M.bind (M.bind (M.bind (M.ok s16.1) fun y19 => M.ok (y19 * (48271 : Int))) fun y20 => M.bind (M.ok (11 : Int)) fun y21 => M.ok (y20 + y21)) fun y22 => M.ok (y22 % (2147483647 : Int))) fun number18 => M.bind (M.bind (M.bind (M.ok number18) fun y24 => M.ok (y24 / (65536 : Int))) fun y25 => M.bind (M.ok many3) fun y26 => modM y25 y26) fun y27 => M.bind (pushM s16.2 y27) fun levels23 => M.ok (number18, levels23)
def f_law_levels_l1 (many3 : Int) : (Int × (List Int)) → Int → M (Int × (List Int)) := fun s16 k17 => let number18 : Int := (((s16.1 * (48271 : Int)) + (11 : Int)) % (2147483647 : Int)); M.bind (modM (number18 / (65536 : Int)) many3) fun y27 => M.bind (pushM s16.2 y27) fun levels23 => M.ok (number18, levels23)
theorem eq_f_law_levels_l1 (many3 : Int) : r_f_law_levels_l1 many3 = f_law_levels_l1 many3 := by funext s16 k17; first | (simp only [r_f_law_levels_l1, f_law_levels_l1, M.bind_assoc, M.bok, c__law_at]; done) | (simp only [r_f_law_levels_l1, f_law_levels_l1, M.bind_assoc, M.bok, c__law_at]; rfl)
def q__law_levels (script1 : (List Int)) (strands2 : Int) (many3 : Int) : M (List Int) := M.bind (M.bind (M.bind (M.bind (M.bind (M.ok script1) fun y7 => M.bind (M.bind (M.ok (3 : Int)) fun y5 => M.bind (M.ok ()) fun y6 => M.ok (y5, y6)) fun y8 => M.ok (y7, y8)) c__law_at) fun y11 => M.bind (M.ok (1 : Int)) fun y12 => M.ok (y11 + y12)) fun y13 => M.ok (y13 % (2147483647 : Int))) fun number4 => M.bind (M.ok []) fun levels14 => M.bind (M.bind (M.ok strands2) fun y15 => rangeM 0 y15) fun xs28 => M.bind (forM (r_f_law_levels_l1 many3) (number4, levels14) xs28) fun (s29 : (Int × (List Int))) => M.ok s29.2
def f_law_levels (script1 : (List Int)) (strands2 : Int) (many3 : Int) : M (List Int) := M.bind (M.bind (M.bind (f_law_at script1 (3 : Int)) fun y11 => M.ok (y11 + (1 : Int))) fun y13 => M.ok (y13 % (2147483647 : Int))) fun number4 => let levels14 : (List Int) := []; M.bind (rangeM 0 strands2) fun xs28 => M.bind (forM (f_law_levels_l1 many3) (number4, levels14) xs28) fun (s29 : (Int × (List Int))) => M.ok s29.2
def r__law_levels (d : ((List Int) × Int × Int × Unit)) : M (List Int) := q__law_levels d.1 d.2.1 d.2.2.1
def c__law_levels (d : ((List Int) × Int × Int × Unit)) : M (List Int) := f_law_levels d.1 d.2.1 d.2.2.1
theorem eq__law_levels : r__law_levels = c__law_levels := by funext d; first | (simp only [r__law_levels, c__law_levels, q__law_levels, f_law_levels, M.bind_assoc, M.bok, eq_f_law_levels_l1, c__law_at]; done) | (simp only [r__law_levels, c__law_levels, q__law_levels, f_law_levels, M.bind_assoc, M.bok, eq_f_law_levels_l1, c__law_at]; rfl)
theorem bb__law_levels {p : Pr} (X : Facts p) {g : G} (ok : OkS p (defScope s__law_levels) N__law_levels V__law_levels G__law_levels 1 g) (hX : g.LX = List.replicate N__law_levels.length sAny) (script1 : (List Int)) (strands2 : Int) (many3 : Int) : EvB g [(sV false (tListK p.K tInt) script1), (sV false tInt strands2), (sV false tInt many3), sAny, sAny, sAny] (defBody s__law_levels) (fun r => .rtL false tInt r) (q__law_levels script1 strands2 many3) := (evb_set ok (i := 3) (j := 3) rfl rfl (wkX hX rfl) .sh (ev_modC (md' := .sh) ok.toOk (by decide) (ev_add (md' := .sh) ok.toOk (ev_call (md' := .sh) ok.toOk (fn__law_at X) (by decide) (j := 0) rfl .sh (eva_cons (md := .sh) (ev_vsh ok.toOk (i := 0) (j := 0) rfl rfl rfl) (eva_cons (md := .sh) (ev_int (md := .sh)) eva_nil))) (ev_int (md := .sh))) (ev_int (md := .sh))) fun number4 => (evb_own ok (i := 4) (j := 4) rfl rfl (wkX hX rfl) .sh (evl_nil (md := .sh) (S := tInt)) fun levels14 => (evb_for (LF := (fun (s16 : (Int × (List Int))) => [(sV false (tListK p.K tInt) script1), (sV false tInt strands2), (sV false tInt many3), (sV false tInt s16.1), (sOwn false tInt s16.2), sAny])) (s0 := (number4, levels14)) ok (wkX hX rfl) (evi_range1 ok.toOk (j := 1) rfl X.g_range (ev_vsh ok.toOk (i := 1) (j := 1) rfl rfl rfl)) (Wk.s (Wk.s (Wk.s (Wk.s (Wk.s (Wk.s Wk.n)))))) (fun _ => evg_name ok (i := 5) (j := 5) rfl rfl) (fun s16 k17 => (evb_set ok (i := 3) (j := 3) rfl rfl (wkX hX rfl) .sh (ev_modC (md' := .sh) ok.toOk (by decide) (ev_add (md' := .sh) ok.toOk (ev_mulC (md' := .sh) ok.toOk (by decide) (ev_vsh ok.toOk (i := 3) (j := 3) rfl rfl rfl) (ev_int (md := .sh))) (ev_int (md := .sh))) (ev_int (md := .sh))) fun number18 => (evb_append ok (wkX hX rfl) (i := 4) (j := 4) rfl rfl rfl .sh (ev_mod (md' := .sh) ok.toOk (ev_divC (md' := .sh) ok.toOk (by decide) (by decide) (ev_vsh ok.toOk (i := 3) (j := 3) rfl rfl rfl) (ev_int (md := .sh))) (ev_vsh ok.toOk (i := 2) (j := 2) rfl rfl rfl)) fun levels23 => (evb_go (by rfl) (Wk.s (Wk.s (Wk.s (Wk.s (Wk.s (Wk.a Wk.n)))))))))) fun s29 => (evb_retOwn ok.toOk (i := 4) (j := 4) rfl rfl rfl (.inl rfl) (by rfl)))))
theorem b__law_levels {p : Pr} (X : Facts p) : Body p s__law_levels N__law_levels V__law_levels G__law_levels 1 (fun (d : ((List Int) × Int × Int × Unit)) => [(sV false (tListK p.K tInt) d.1), (sV false tInt d.2.1), (sV false tInt d.2.2.1), sAny, sAny, sAny]) (fun r => .rtL false tInt r) r__law_levels := fun g ok hX d => bb__law_levels X ok hX d.1 d.2.1 d.2.2.1
theorem fn__law_levels {p : Pr} (X : Facts p) : Fn p 2 "_law_levels" ["script", "strands", "many"] (spM p (aCons (tListK p.K tInt) (aCons tInt (aCons tInt aNil))) (fun r => .rtL false tInt r) c__law_levels) := by
  obtain ⟨f, fd, hF, hm⟩ := X.d__law_levels
  exact ⟨f, fd, eq__law_levels ▸ fn_rtL (m := 3) hF sc__law_levels (.cons (.cons (.cons .nil))) rfl rfl (b__law_levels X), hm, hF.kp, hF.bindsN fun _ _ _ _ _ _ us hl => match us, hl with | [_, _, _], _ => rfl⟩
/-! ### _law_text -/
abbrev s__law_text : Stmt := topS 21
abbrev N__law_text : List Str := ["number", "pick", "ends", "levels", "signs", "k", "up"]
abbrev V__law_text : List Str := ["number", "pick", "ends", "levels", "signs", "k", "up"]
abbrev G__law_text : List Str := ["range", "int"]
theorem sc__law_text : Sc s__law_text N__law_text V__law_text ["number", "pick", "ends", "levels"] G__law_text := ⟨⟨rfl, rfl, rfl, by decide +kernel, rfl, by decide +kernel, by decide +kernel⟩, by decide +kernel, by decide +kernel, by decide +kernel⟩
def r_f_law_text_l1 (pick2 : Int) (ends3 : Int) (levels4 : (List Int)) : (Int × Tx) → Int → M (Int × Tx) := fun s7 k8 => M.bind (M.bind (M.bind (M.ok s7.1) fun y10 => M.ok (y10 % (2 : Int))) fun y11 => M.bind (M.ok (1 : Int)) fun y12 => M.ok (decide (y11 = y12))) fun up9 => M.bind (M.bind (M.bind (M.ok levels4) fun y13 => M.bind (M.ok k8) fun y14 => getM y13 y14) fun y19 => M.bind (M.bind (M.ok levels4) fun y17 => M.bind (M.bind (M.ok ends3) fun y15 => M.bind (M.ok pick2) fun y16 => M.ok (y15 + y16)) fun y18 => getM y17 y18) fun y20 => M.ok (!decide (y19 = y20))) fun c21 => M.bind (if c21 = true then M.bind (M.bind (M.bind (M.ok levels4) fun y23 => M.bind (M.ok k8) fun y24 => getM y23 y24) fun y29 => M.bind (M.bind (M.ok levels4) fun y27 => M.bind (M.bind (M.ok ends3) fun y25 => M.bind (M.ok pick2) fun y26 => M.ok (y25 + y26)) fun y28 => getM y27 y28) fun y30 => M.ok (decide (y29 < y30))) fun up22 => M.ok up22 else M.ok up9) fun (s31 : (Bool)) => M.bind (M.bind (M.ok s7.2) fun y36 => M.bind (M.bind (M.ok (tx ".#")) fun y34 => M.bind (M.bind (M.ok s31) fun y33 => M.ok (bInt y33)) fun y35 => getS y34 y35) fun y37 => catS y36 y37) fun signs32 => M.bind (M.bind (M.ok s7.1) fun y39 => M.ok (y39 / (2 : Int))) fun number38 => M.ok (number38, signs32)
def f_law_text_l1 (pick2 : Int) (ends3 : Int) (levels4 : (List Int)) : (Int × Tx) → Int → M (Int × Tx) := fun s7 k8 => let up9 : Bool := (decide ((s7.1 % (2 : Int)) = (1 : Int))); M.bind (M.bind (getM levels4 k8) fun y19 => M.bind (getM levels4 (ends3 + pick2)) fun y20 => M.ok (!decide (y19 = y20))) fun c21 => M.bind (if c21 = true then M.bind (M.bind (getM levels4 k8) fun y29 => M.bind (getM levels4 (ends3 + pick2)) fun y30 => M.ok (decide (y29 < y30))) fun up22 => M.ok up22 else M.ok up9) fun (s31 : (Bool)) => M.bind (M.bind (getS (tx ".#") (bInt s31)) fun y37 => catS s7.2 y37) fun signs32 => let number38 : Int := (s7.1 / (2 : Int)); M.ok (number38, signs32)
theorem eq_f_law_text_l1 (pick2 : Int) (ends3 : Int) (levels4 : (List Int)) : r_f_law_text_l1 pick2 ends3 levels4 = f_law_text_l1 pick2 ends3 levels4 := by funext s7 k8; first | (simp only [r_f_law_text_l1, f_law_text_l1, M.bind_assoc, M.bok]; done) | (simp only [r_f_law_text_l1, f_law_text_l1, M.bind_assoc, M.bok]; rfl)
def q__law_text (number1 : Int) (pick2 : Int) (ends3 : Int) (levels4 : (List Int)) : M Tx := M.bind (M.ok (tx "")) fun signs5 => M.bind (M.bind (M.ok ends3) fun y6 => rangeM 0 y6) fun xs40 => M.bind (forM (r_f_law_text_l1 pick2 ends3 levels4) (number1, signs5) xs40) fun (s41 : (Int × Tx)) => M.ok s41.2
def f_law_text (number1 : Int) (pick2 : Int) (ends3 : Int) (levels4 : (List Int)) : M Tx := let signs5 : Tx := (tx ""); M.bind (rangeM 0 ends3) fun xs40 => M.bind (forM (f_law_text_l1 pick2 ends3 levels4) (number1, signs5) xs40) fun (s41 : (Int × Tx)) => M.ok s41.2
def r__law_text (d : (Int × Int × Int × (List Int) × Unit)) : M Tx := q__law_text d.1 d.2.1 d.2.2.1 d.2.2.2.1
def c__law_text (d : (Int × Int × Int × (List Int) × Unit)) : M Tx := f_law_text d.1 d.2.1 d.2.2.1 d.2.2.2.1
theorem eq__law_text : r__law_text = c__law_text := by funext d; first | (simp only [r__law_text, c__law_text, q__law_text, f_law_text, M.bind_assoc, M.bok, eq_f_law_text_l1]; done) | (simp only [r__law_text, c__law_text, q__law_text, f_law_text, M.bind_assoc, M.bok, eq_f_law_text_l1]; rfl)
theorem bb__law_text {p : Pr} (X : Facts p) {g : G} (ok : OkS p (defScope s__law_text) N__law_text V__law_text G__law_text 0 g) (hX : g.LX = List.replicate N__law_text.length sAny) (number1 : Int) (pick2 : Int) (ends3 : Int) (levels4 : (List Int)) : EvB g [(sV false tInt number1), (sV false tInt pick2), (sV false tInt ends3), (sV false (tList tInt) levels4), sAny, sAny, sAny] (defBody s__law_text) (fun r => .rt false tStr r) (q__law_text number1 pick2 ends3 levels4) := (evb_set ok (i := 4) (j := 4) rfl rfl (wkX hX rfl) .sh (ev_str (md := .sh) (by decide +kernel)) fun signs5 => (evb_for (LF := (fun (s7 : (Int × Tx)) => [(sV false tInt s7.1), (sV false tInt pick2), (sV false tInt ends3), (sV false (tList tInt) levels4), (sV false tStr s7.2), sAny, sAny])) (s0 := (number1, signs5)) ok (wkX hX rfl) (evi_range1 ok.toOk (j := 0) rfl X.g_range (ev_vsh ok.toOk (i := 2) (j := 2) rfl rfl rfl)) (Wk.s (Wk.s (Wk.s (Wk.s (Wk.s (Wk.s (Wk.s Wk.n))))))) (fun _ => evg_name ok (i := 5) (j := 5) rfl rfl) (fun s7 k8 => (evb_set ok (i := 6) (j := 6) rfl rfl (wkX hX rfl) .sh (ev_c (md' := .sh) ok.toOk (c_eq s_int) (ev_modC (md' := .sh) ok.toOk (by decide) (ev_vsh ok.toOk (i := 0) (j := 0) rfl rfl rfl) (ev_int (md := .sh))) (ev_int (md := .sh))) fun up9 => (evb_if (LJ := (fun (s31 : (Bool)) => [(sV false tInt s7.1), (sV false tInt pick2), (sV false tInt ends3), (sV false (tList tInt) levels4), (sV false tStr s7.2), (sV false tInt k8), (sV false tBool s31)])) (wkX hX rfl) (evt_c ok.toOk (c_ne s_int) (ev_ixQ ok.toOk sq_l (ev_vsh ok.toOk (i := 3) (j := 3) rfl rfl rfl) (ev_vsh ok.toOk (i := 5) (j := 5) rfl rfl rfl)) (ev_ixQ ok.toOk sq_l (ev_vsh ok.toOk (i := 3) (j := 3) rfl rfl rfl) (ev_add (md' := .sh) ok.toOk (ev_vsh ok.toOk (i := 2) (j := 2) rfl rfl rfl) (ev_vsh ok.toOk (i := 1) (j := 1) rfl rfl rfl)))) (evb_set ok (i := 6) (j := 6) rfl rfl (wkX hX rfl) .sh (ev_c (md' := .sh) ok.toOk c_lt (ev_ixQ ok.toOk sq_l (ev_vsh ok.toOk (i := 3) (j := 3) rfl rfl rfl) (ev_vsh ok.toOk (i := 5) (j := 5) rfl rfl rfl)) (ev_ixQ ok.toOk sq_l (ev_vsh ok.toOk (i := 3) (j := 3) rfl rfl rfl) (ev_add (md' := .sh) ok.toOk (ev_vsh ok.toOk (i := 2) (j := 2) rfl rfl rfl) (ev_vsh ok.toOk (i := 1) (j := 1) rfl rfl rfl)))) fun up22 => (evb_nx (by rfl) (Wk.s (Wk.s (Wk.s (Wk.s (Wk.s (Wk.s (Wk.s Wk.n))))))))) (evb_nx (by rfl) (Wk.s (Wk.s (Wk.s (Wk.s (Wk.s (Wk.s (Wk.s Wk.n)))))))) fun s31 => (evb_set ok (i := 4) (j := 4) rfl rfl (wkX hX rfl) .sh (ev_catS (md' := .sh) ok.toOk (ev_vsh ok.toOk (i := 4) (j := 4) rfl rfl rfl) (ev_ixS (md' := .sh) ok.toOk (ev_str (md := .sh) (by decide +kernel)) (ev_intB (md' := .sh) ok.toOk (j := 1) rfl X.g_int (ev_vsh ok.toOk (i := 6) (j := 6) rfl rfl rfl)))) fun signs32 => (evb_set ok (i := 0) (j := 0) rfl rfl (wkX hX rfl) .sh (ev_divC (md' := .sh) ok.toOk (by decide) (by decide) (ev_vsh ok.toOk (i := 0) (j := 0) rfl rfl rfl) (ev_int (md := .sh))) fun number38 => (evb_go (by rfl) (Wk.s (Wk.s (Wk.s (Wk.s (Wk.s (Wk.a (Wk.a Wk.n))))))))))))) fun s41 => (evb_ret (wkX hX rfl) .sh (by intro _; rfl) (ev_vsh ok.toOk (i := 4) (j := 4) rfl rfl rfl))))
theorem b__law_text {p : Pr} (X : Facts p) : Body p s__law_text N__law_text V__law_text G__law_text 0 (fun (d : (Int × Int × Int × (List Int) × Unit)) => [(sV false tInt d.1), (sV false tInt d.2.1), (sV false tInt d.2.2.1), (sV false (tList tInt) d.2.2.2.1), sAny, sAny, sAny]) (fun r => .rt false tStr r) r__law_text := fun g ok hX d => bb__law_text X ok hX d.1 d.2.1 d.2.2.1 d.2.2.2.1
theorem fn__law_text {p : Pr} (X : Facts p) : Fn p 1 "_law_text" ["number", "pick", "ends", "levels"] (spM p (aCons tInt (aCons tInt (aCons tInt (aCons (tList tInt) aNil)))) (fun r => .rt false tStr r) c__law_text) := by
  obtain ⟨f, fd, hF, hm⟩ := X.d__law_text
  exact ⟨f, fd, eq__law_text ▸ fn_rt (m := 3) hF sc__law_text (.cons (.cons (.cons (.cons .nil)))) rfl rfl (b__law_text X), hm, hF.kp, hF.bindsN fun _ _ _ _ _ _ us hl => match us, hl with | [_, _, _, _], _ => rfl⟩
/-! ### _law_cloth -/
abbrev s__law_cloth : Stmt := topS 22
abbrev N__law_cloth : List Str := ["script", "most", "ends", "picks", "factor", "numbers", "levels", "j"]
abbrev V__law_cloth : List Str := ["script", "most", "ends", "picks", "factor", "numbers", "levels"]
abbrev G__law_cloth : List Str := ["_law_at", "_law_numbers", "_law_levels", "range"]
theorem sc__law_cloth : Sc s__law_cloth N__law_cloth V__law_cloth ["script", "most"] G__law_cloth := ⟨⟨rfl, rfl, rfl, by decide +kernel, rfl, by decide +kernel, by decide +kernel⟩, by decide +kernel, by decide +kernel, by decide +kernel⟩
def q__law_cloth (script1 : (List Int)) (most2 : Int) : M (List Tx) := M.bind (M.bind (M.ok (1 : Int)) fun y11 => M.bind (M.bind (M.bind (M.bind (M.ok script1) fun y6 => M.bind (M.bind (M.ok (0 : Int)) fun y4 => M.bind (M.ok ()) fun y5 => M.ok (y4, y5)) fun y7 => M.ok (y6, y7)) c__law_at) fun y10 => M.ok (y10 % (7 : Int))) fun y12 => M.ok (y11 + y12)) fun ends3 => M.bind (M.bind (M.ok (1 : Int)) fun y21 => M.bind (M.bind (M.bind (M.bind (M.ok script1) fun y16 => M.bind (M.bind (M.ok (1 : Int)) fun y14 => M.bind (M.ok ()) fun y15 => M.ok (y14, y15)) fun y17 => M.ok (y16, y17)) c__law_at) fun y20 => M.ok (y20 % (7 : Int))) fun y22 => M.ok (y21 + y22)) fun picks13 => M.bind (M.bind (M.bind (M.bind (M.bind (M.ok script1) fun y25 => M.bind (M.bind (M.ok (2 : Int)) fun y23 => M.bind (M.ok ()) fun y24 => M.ok (y23, y24)) fun y26 => M.ok (y25, y26)) c__law_at) fun y29 => M.ok (y29 % (7 : Int))) fun y30 => M.bind (M.ok (3 : Int)) fun y31 => M.ok (decide (y30 = y31))) fun c32 => M.bind (if c32 = true then M.bind (M.bind (M.ok (1 : Int)) fun y42 => M.bind (M.bind (M.bind (M.bind (M.ok script1) fun y36 => M.bind (M.bind (M.ok (0 : Int)) fun y34 => M.bind (M.ok ()) fun y35 => M.ok (y34, y35)) fun y37 => M.ok (y36, y37)) c__law_at) fun y40 => M.bind (M.ok most2) fun y41 => modM y40 y41) fun y43 => M.ok (y42 + y43)) fun ends33 => M.bind (M.bind (M.ok (1 : Int)) fun y53 => M.bind (M.bind (M.bind (M.bind (M.ok script1) fun y47 => M.bind (M.bind (M.ok (1 : Int)) fun y45 => M.bind (M.ok ()) fun y46 => M.ok (y45, y46)) fun y48 => M.ok (y47, y48)) c__law_at) fun y51 => M.bind (M.ok most2) fun y52 => modM y51 y52) fun y54 => M.ok (y53 + y54)) fun picks44 => M.ok (ends33, picks44) else M.ok (ends3, picks13)) fun (s55 : (Int × Int)) => M.bind (M.bind (M.bind (M.ok (1 : Int)) fun y61 => M.bind (M.bind (M.ok (3 : Int)) fun y59 => M.bind (M.bind (M.ok (48271 : Int)) fun y57 => M.bind (M.ok []) fun y58 => M.ok (y57 :: y58)) fun y60 => M.ok (y59 :: y60)) fun y62 => M.ok (y61 :: y62)) fun y74 => M.bind (M.bind (M.bind (M.bind (M.bind (M.ok script1) fun y68 => M.bind (M.bind (M.ok (2 : Int)) fun y66 => M.bind (M.ok ()) fun y67 => M.ok (y66, y67)) fun y69 => M.ok (y68, y69)) c__law_at) fun y72 => M.ok (y72 / (7 : Int))) fun y73 => M.ok (y73 % (3 : Int))) fun y75 => getM y74 y75) fun factor56 => M.bind (M.bind (M.bind (M.ok script1) fun y81 => M.bind (M.bind (M.ok s55.2) fun y79 => M.bind (M.bind (M.ok factor56) fun y77 => M.bind (M.ok ()) fun y78 => M.ok (y77, y78)) fun y80 => M.ok (y79, y80)) fun y82 => M.ok (y81, y82)) c__law_numbers) fun numbers76 => M.bind (M.bind (M.bind (M.ok script1) fun y103 => M.bind (M.bind (M.bind (M.ok s55.1) fun y87 => M.bind (M.ok s55.2) fun y88 => M.ok (y87 + y88)) fun y101 => M.bind (M.bind (M.bind (M.ok (1 : Int)) fun y97 => M.bind (M.bind (M.bind (M.bind (M.bind (M.ok script1) fun y91 => M.bind (M.bind (M.ok (2 : Int)) fun y89 => M.bind (M.ok ()) fun y90 => M.ok (y89, y90)) fun y92 => M.ok (y91, y92)) c__law_at) fun y95 => M.ok (y95 / (21 : Int))) fun y96 => M.ok (y96 % (4 : Int))) fun y98 => M.ok (y97 + y98)) fun y99 => M.bind (M.ok ()) fun y100 => M.ok (y99, y100)) fun y102 => M.ok (y101, y102)) fun y104 => M.ok (y103, y104)) c__law_levels) fun levels86 => M.bind (M.bind (M.ok s55.2) fun y108 => rangeM 0 y108) fun xs126 => compM (fun j109 => M.bind (M.ok true) fun c124 => if c124 = true then M.bind (M.bind (M.bind (M.bind (M.ok numbers76) fun y110 => M.bind (M.ok j109) fun y111 => getM y110 y111) fun y118 => M.bind (M.bind (M.ok j109) fun y116 => M.bind (M.bind (M.ok s55.1) fun y114 => M.bind (M.bind (M.ok levels86) fun y112 => M.bind (M.ok ()) fun y113 => M.ok (y112, y113)) fun y115 => M.ok (y114, y115)) fun y117 => M.ok (y116, y117)) fun y119 => M.ok (y118, y119)) c__law_text) fun y125 => M.ok (some y125) else M.ok none) xs126
def f_law_cloth (script1 : (List Int)) (most2 : Int) : M (List Tx) := M.bind (M.bind (M.bind (f_law_at script1 (0 : Int)) fun y10 => M.ok (y10 % (7 : Int))) fun y12 => M.ok ((1 : Int) + y12)) fun ends3 => M.bind (M.bind (M.bind (f_law_at script1 (1 : Int)) fun y20 => M.ok (y20 % (7 : Int))) fun y22 => M.ok ((1 : Int) + y22)) fun picks13 => M.bind (M.bind (M.bind (f_law_at script1 (2 : Int)) fun y29 => M.ok (y29 % (7 : Int))) fun y30 => M.ok (decide (y30 = (3 : Int)))) fun c32 => M.bind (if c32 = true then M.bind (M.bind (M.bind (f_law_at script1 (0 : Int)) fun y40 => modM y40 most2) fun y43 => M.ok ((1 : Int) + y43)) fun ends33 => M.bind (M.bind (M.bind (f_law_at script1 (1 : Int)) fun y51 => modM y51 most2) fun y54 => M.ok ((1 : Int) + y54)) fun picks44 => M.ok (ends33, picks44) else M.ok (ends3, picks13)) fun (s55 : (Int × Int)) => M.bind (M.bind (M.bind (M.bind (f_law_at script1 (2 : Int)) fun y72 => M.ok (y72 / (7 : Int))) fun y73 => M.ok (y73 % (3 : Int))) fun y75 => getM ([(1 : Int), (3 : Int), (48271 : Int)]) y75) fun factor56 => M.bind (f_law_numbers script1 s55.2 factor56) fun numbers76 => M.bind (M.bind (M.bind (M.bind (M.bind (f_law_at script1 (2 : Int)) fun y95 => M.ok (y95 / (21 : Int))) fun y96 => M.ok (y96 % (4 : Int))) fun y98 => M.ok ((1 : Int) + y98)) fun y107 => f_law_levels script1 (s55.1 + s55.2) y107) fun levels86 => M.bind (rangeM 0 s55.2) fun xs126 => compM (fun j109 => M.bind (M.bind (getM numbers76 j109) fun y120 => f_law_text y120 j109 s55.1 levels86) fun y125 => M.ok (some y125)) xs126
def r__law_cloth (d : ((List Int) × Int × Unit)) : M (List Tx) := q__law_cloth d.1 d.2.1
def c__law_cloth (d : ((List Int) × Int × Unit)) : M (List Tx) := f_law_cloth d.1 d.2.1
theorem eq__law_cloth : r__law_cloth = c__law_cloth := by funext d; first | (simp only [r__law_cloth, c__law_cloth, q__law_cloth, f_law_cloth, M.bind_assoc, M.bok, c__law_at, c__law_levels, c__law_numbers, c__law_text]; done) | (simp only [r__law_cloth, c__law_cloth, q__law_cloth, f_law_cloth, M.bind_assoc, M.bok, c__law_at, c__law_levels, c__law_numbers, c__law_text]; rfl)
theorem bb__law_cloth {p : Pr} (X : Facts p) {g : G} (ok : OkS p (defScope s__law_cloth) N__law_cloth V__law_cloth G__law_cloth 2 g) (hX : g.LX = List.replicate N__law_cloth.length sAny) (script1 : (List Int)) (most2 : Int) : EvB g [(sV false (tListK p.K tInt) script1), (sV false tInt most2), sAny, sAny, sAny, sAny, sAny, sAny] (defBody s__law_cloth) (fun r => .rtL false tStr r) (q__law_cloth script1 most2) := (evb_set ok (i := 2) (j := 2) rfl rfl (wkX hX rfl) .sh (ev_add (md' := .sh) ok.toOk (ev_int (md := .sh)) (ev_modC (md' := .sh) ok.toOk (by decide) (ev_call (md' := .sh) ok.toOk (fn__law_at X) (by decide) (j := 0) rfl .sh (eva_cons (md := .sh) (ev_vsh ok.toOk (i := 0) (j := 0) rfl rfl rfl) (eva_cons (md := .sh) (ev_int (md := .sh)) eva_nil))) (ev_int (md := .sh)))) fun ends3 => (evb_set ok (i := 3) (j := 3) rfl rfl (wkX hX rfl) .sh (ev_add (md' := .sh) ok.toOk (ev_int (md := .sh)) (ev_modC (md' := .sh) ok.toOk (by decide) (ev_call (md' := .sh) ok.toOk (fn__law_at X) (by decide) (j := 0) rfl .sh (eva_cons (md := .sh) (ev_vsh ok.toOk (i := 0) (j := 0) rfl rfl rfl) (eva_cons (md := .sh) (ev_int (md := .sh)) eva_nil))) (ev_int (md := .sh)))) fun picks13 => (evb_if (LJ := (fun (s55 : (Int × Int)) => [(sV false (tListK p.K tInt) script1), (sV false tInt most2), (sV false tInt s55.1), (sV false tInt s55.2), sAny, sAny, sAny, sAny])) (wkX hX rfl) (evt_c ok.toOk (c_eq s_int) (ev_modC (md' := .sh) ok.toOk (by decide) (ev_call (md' := .sh) ok.toOk (fn__law_at X) (by decide) (j := 0) rfl .sh (eva_cons (md := .sh) (ev_vsh ok.toOk (i := 0) (j := 0) rfl rfl rfl) (eva_cons (md := .sh) (ev_int (md := .sh)) eva_nil))) (ev_int (md := .sh))) (ev_int (md := .sh))) (evb_set ok (i := 2) (j := 2) rfl rfl (wkX hX rfl) .sh (ev_add (md' := .sh) ok.toOk (ev_int (md := .sh)) (ev_mod (md' := .sh) ok.toOk (ev_call (md' := .sh) ok.toOk (fn__law_at X) (by decide) (j := 0) rfl .sh (eva_cons (md := .sh) (ev_vsh ok.toOk (i := 0) (j := 0) rfl rfl rfl) (eva_cons (md := .sh) (ev_int (md := .sh)) eva_nil))) (ev_vsh ok.toOk (i := 1) (j := 1) rfl rfl rfl))) fun ends33 => (evb_set ok (i := 3) (j := 3) rfl rfl (wkX hX rfl) .sh (ev_add (md' := .sh) ok.toOk (ev_int (md := .sh)) (ev_mod (md' := .sh) ok.toOk (ev_call (md' := .sh) ok.toOk (fn__law_at X) (by decide) (j := 0) rfl .sh (eva_cons (md := .sh) (ev_vsh ok.toOk (i := 0) (j := 0) rfl rfl rfl) (eva_cons (md := .sh) (ev_int (md := .sh)) eva_nil))) (ev_vsh ok.toOk (i := 1) (j := 1) rfl rfl rfl))) fun picks44 => (evb_nx (by rfl) (Wk.s (Wk.s (Wk.s (Wk.s (Wk.s (Wk.s (Wk.s (Wk.s Wk.n))))))))))) (evb_nx (by rfl) (Wk.s (Wk.s (Wk.s (Wk.s (Wk.s (Wk.s (Wk.s (Wk.s Wk.n))))))))) fun s55 => (evb_set ok (i := 4) (j := 4) rfl rfl (wkX hX rfl) .sh (ev_ixQ ok.toOk sq_l (ev_ofL (evl_lstN (n := 3) (lnS (lnS (lnS ln0))) (by decide) (evs_cons (ev_int (md := .sh)) (evs_cons (ev_int (md := .sh)) (evs_cons (ev_int (md := .sh)) evs_nil))))) (ev_modC (md' := .sh) ok.toOk (by decide) (ev_divC (md' := .sh) ok.toOk (by decide) (by decide) (ev_call (md' := .sh) ok.toOk (fn__law_at X) (by decide) (j := 0) rfl .sh (eva_cons (md := .sh) (ev_vsh ok.toOk (i := 0) (j := 0) rfl rfl rfl) (eva_cons (md := .sh) (ev_int (md := .sh)) eva_nil))) (ev_int (md := .sh))) (ev_int (md := .sh)))) fun factor56 => (evb_set ok (i := 5) (j := 5) rfl rfl (wkX hX rfl) .sh (ev_ofL (evl_call (md' := .sh) ok.toOk (fn__law_numbers X) (by decide) (j := 1) rfl .sh (eva_cons (md := .sh) (ev_vsh ok.toOk (i := 0) (j := 0) rfl rfl rfl) (eva_cons (md := .sh) (ev_vsh ok.toOk (i := 3) (j := 3) rfl rfl rfl) (eva_cons (md := .sh) (ev_vsh ok.toOk (i := 4) (j := 4) rfl rfl rfl) eva_nil))))) fun numbers76 => (evb_set ok (i := 6) (j := 6) rfl rfl (wkX hX rfl) .sh (ev_ofL (evl_call (md' := .sh) ok.toOk (fn__law_levels X) (by decide) (j := 2) rfl .sh (eva_cons (md := .sh) (ev_vsh ok.toOk (i := 0) (j := 0) rfl rfl rfl) (eva_cons (md := .sh) (ev_add (md' := .sh) ok.toOk (ev_vsh ok.toOk (i := 2) (j := 2) rfl rfl rfl) (ev_vsh ok.toOk (i := 3) (j := 3) rfl rfl rfl)) (eva_cons (md := .sh) (ev_add (md' := .sh) ok.toOk (ev_int (md := .sh)) (ev_modC (md' := .sh) ok.toOk (by decide) (ev_divC (md' := .sh) ok.toOk (by decide) (by decide) (ev_call (md' := .sh) ok.toOk (fn__law_at X) (by decide) (j := 0) rfl .sh (eva_cons (md := .sh) (ev_vsh ok.toOk (i := 0) (j := 0) rfl rfl rfl) (eva_cons (md := .sh) (ev_int (md := .sh)) eva_nil))) (ev_int (md := .sh))) (ev_int (md := .sh)))) eva_nil))))) fun levels86 => (evb_retL (wkX hX rfl) .sh (by intro _; rfl) (evl_lc (md := .sh) (VV' := ["numbers", "j", "ends", "levels"]) (GG' := ["_law_text"]) (i := 7) ok.toOk (evi_range1 ok.toOk (j := 3) rfl X.g_range (ev_vsh ok.toOk (i := 3) (j := 3) rfl rfl rfl)) rfl rfl no_any (by decide +kernel) (by decide +kernel) (by decide +kernel) (by decide +kernel) (fun g' okc j109 => evpts_nil) (fun g' okc j109 => (ev_call (md' := .sh) okc (fn__law_text X) (by decide) (j := 0) rfl .sh (eva_cons (md := .sh) (ev_ixQ okc sq_l (ev_vsh okc (i := 5) (j := 0) rfl rfl rfl) (ev_vsh okc (i := 7) (j := 1) rfl rfl rfl)) (eva_cons (md := .sh) (ev_vsh okc (i := 7) (j := 1) rfl rfl rfl) (eva_cons (md := .sh) (ev_vsh okc (i := 2) (j := 2) rfl rfl rfl) (eva_cons (md := .sh) (ev_vsh okc (i := 6) (j := 3) rfl rfl rfl) eva_nil))))))))))))))
theorem b__law_cloth {p : Pr} (X : Facts p) : Body p s__law_cloth N__law_cloth V__law_cloth G__law_cloth 2 (fun (d : ((List Int) × Int × Unit)) => [(sV false (tListK p.K tInt) d.1), (sV false tInt d.2.1), sAny, sAny, sAny, sAny, sAny, sAny]) (fun r => .rtL false tStr r) r__law_cloth := fun g ok hX d => bb__law_cloth X ok hX d.1 d.2.1
theorem fn__law_cloth {p : Pr} (X : Facts p) : Fn p 3 "_law_cloth" ["script", "most"] (spM p (aCons (tListK p.K tInt) (aCons tInt aNil)) (fun r => .rtL false tStr r) c__law_cloth) := by
  obtain ⟨f, fd, hF, hm⟩ := X.d__law_cloth
  exact ⟨f, fd, eq__law_cloth ▸ fn_rtL (m := 6) hF sc__law_cloth (.cons (.cons .nil)) rfl rfl (b__law_cloth X), hm, hF.kp, hF.bindsN fun _ _ _ _ _ _ us hl => match us, hl with | [_, _], _ => rfl⟩
/-! ### _law_set -/
abbrev s__law_set : Stmt := topS 25
abbrev N__law_set : List Str := ["script", "strands", "turns", "some", "k"]
abbrev V__law_set : List Str := ["script", "strands", "turns", "some"]
abbrev G__law_set : List Str := ["_law_at", "list", "range", "_law_numbers", "len"]
theorem sc__law_set : Sc s__law_set N__law_set V__law_set ["script", "strands"] G__law_set := ⟨⟨rfl, rfl, rfl, by decide +kernel, rfl, by decide +kernel, by decide +kernel⟩, by decide +kernel, by decide +kernel, by decide +kernel⟩
def q__law_set (script1 : (List Int)) (strands2 : Int) : M (List Int) := M.bind (M.bind (M.bind (M.bind (M.bind (M.ok script1) fun y5 => M.bind (M.bind (M.ok (4 : Int)) fun y3 => M.bind (M.ok ()) fun y4 => M.ok (y3, y4)) fun y6 => M.ok (y5, y6)) c__law_at) fun y9 => M.ok (y9 % (4 : Int))) fun y10 => M.bind (M.ok (1 : Int)) fun y11 => M.ok (decide (y10 = y11))) fun c12 => if c12 = true then M.bind (M.ok strands2) fun y13 => rangeL 0 y13 else M.bind (M.bind (M.bind (M.ok script1) fun y20 => M.bind (M.bind (M.ok strands2) fun y18 => M.bind (M.bind (M.ok (5 : Int)) fun y16 => M.bind (M.ok ()) fun y17 => M.ok (y16, y17)) fun y19 => M.ok (y18, y19)) fun y21 => M.ok (y20, y21)) c__law_numbers) fun turns15 => M.bind (M.bind (M.bind (M.ok strands2) fun y26 => rangeM 0 y26) fun xs35 => compM (fun k27 => M.bind (M.bind (M.bind (M.bind (M.ok turns15) fun y28 => M.bind (M.ok k27) fun y29 => getM y28 y29) fun y30 => M.ok (y30 % (3 : Int))) fun y31 => M.bind (M.ok (1 : Int)) fun y32 => M.ok (!decide (y31 = y32))) fun c33 => if c33 = true then M.bind (M.ok k27) fun y34 => M.ok (some y34) else M.ok none) xs35) fun some25 => M.bind (M.bind (M.bind (M.ok some25) fun y36 => M.ok (y36.length : Int)) fun y37 => M.bind (M.ok (0 : Int)) fun y38 => M.ok (decide (y37 = y38))) fun c39 => if c39 = true then (M.bind (M.bind (M.bind (M.bind (M.ok script1) fun y42 => M.bind (M.bind (M.ok (5 : Int)) fun y40 => M.bind (M.ok ()) fun y41 => M.ok (y40, y41)) fun y43 => M.ok (y42, y43)) c__law_at) fun y46 => M.bind (M.ok strands2) fun y47 => modM y46 y47) fun y48 => M.bind (M.ok []) fun y49 => M.ok (y48 :: y49)) else M.ok some25
def f_law_set (script1 : (List Int)) (strands2 : Int) : M (List Int) := M.bind (M.bind (M.bind (f_law_at script1 (4 : Int)) fun y9 => M.ok (y9 % (4 : Int))) fun y10 => M.ok (decide (y10 = (1 : Int)))) fun c54 => if c54 = true then rangeL 0 strands2 else M.bind (f_law_numbers script1 strands2 (5 : Int)) fun turns15 => M.bind (M.bind (rangeM 0 strands2) fun xs35 => compM (fun k27 => M.bind (M.bind (M.bind (getM turns15 k27) fun y30 => M.ok (y30 % (3 : Int))) fun y31 => M.ok (!decide (y31 = (1 : Int)))) fun c33 => if c33 = true then M.ok (some k27) else M.ok none) xs35) fun some25 => if (decide ((some25.length : Int) = (0 : Int))) = true then M.bind (M.bind (f_law_at script1 (5 : Int)) fun y46 => modM y46 strands2) fun y50 => M.ok ([y50]) else M.ok some25
def r__law_set (d : ((List Int) × Int × Unit)) : M (List Int) := q__law_set d.1 d.2.1
def c__law_set (d : ((List Int) × Int × Unit)) : M (List Int) := f_law_set d.1 d.2.1
theorem eq__law_set : r__law_set = c__law_set := by funext d; first | (simp only [r__law_set, c__law_set, q__law_set, f_law_set, M.bind_assoc, M.bok, c__law_at, c__law_numbers]; done) | (simp only [r__law_set, c__law_set, q__law_set, f_law_set, M.bind_assoc, M.bok, c__law_at, c__law_numbers]; rfl)
theorem bb__law_set {p : Pr} (X : Facts p) {g : G} (ok : OkS p (defScope s__law_set) N__law_set V__law_set G__law_set 1 g) (hX : g.LX = List.replicate N__law_set.length sAny) (script1 : (List Int)) (strands2 : Int) : EvB g [(sV false (tListK p.K tInt) script1), (sV false tInt strands2), sAny, sAny, sAny] (defBody s__law_set) (fun r => .rt false (tList tInt) r) (q__law_set script1 strands2) := (evb_ifx (wkX hX rfl) (evt_c ok.toOk (c_eq s_int) (ev_modC (md' := .sh) ok.toOk (by decide) (ev_call (md' := .sh) ok.toOk (fn__law_at X) (by decide) (j := 0) rfl .sh (eva_cons (md := .sh) (ev_vsh ok.toOk (i := 0) (j := 0) rfl rfl rfl) (eva_cons (md := .sh) (ev_int (md := .sh)) eva_nil))) (ev_int (md := .sh))) (ev_int (md := .sh))) (evb_ret (wkX hX rfl) .sh (by intro _; rfl) (ev_ofL (evl_listRg1 (md' := .sh) ok.toOk (j := 1) rfl X.g_list (j2 := 2) rfl X.g_range (ev_vsh ok.toOk (i := 1) (j := 1) rfl rfl rfl)))) (evb_set ok (i := 2) (j := 2) rfl rfl (wkX hX rfl) .sh (ev_ofL (evl_call (md' := .sh) ok.toOk (fn__law_numbers X) (by decide) (j := 3) rfl .sh (eva_cons (md := .sh) (ev_vsh ok.toOk (i := 0) (j := 0) rfl rfl rfl) (eva_cons (md := .sh) (ev_vsh ok.toOk (i := 1) (j := 1) rfl rfl rfl) (eva_cons (md := .sh) (ev_int (md := .sh)) eva_nil))))) fun turns15 => (evb_setC (md := .sh) (VV' := ["turns", "k"]) (GG' := []) (i := 4) (i2 := 3) ok rfl (wkX hX rfl) (by decide +kernel) (by rfl) (by decide +kernel) (evi_range1 ok.toOk (j := 2) rfl X.g_range (ev_vsh ok.toOk (i := 1) (j := 1) rfl rfl rfl)) rfl rfl no_any (by decide +kernel) (by decide +kernel) (by decide +kernel) (by decide +kernel) (fun g' okc k27 => (evpts_one (evt_c okc (c_ne s_int) (ev_modC (md' := .sh) okc (by decide) (ev_ixQ okc sq_l (ev_vsh okc (i := 2) (j := 0) rfl rfl rfl) (ev_vsh okc (i := 4) (j := 1) rfl rfl rfl)) (ev_int (md := .sh))) (ev_int (md := .sh))))) (fun g' okc k27 => (ev_vsh okc (i := 4) (j := 1) rfl rfl rfl)) fun some25 => (evb_ifx (wkX hX rfl) (evt_c ok.toOk (c_eq s_int) (ev_lenQ (md' := .sh) ok.toOk sq_l (j := 4) rfl X.g_len (ev_vsh ok.toOk (i := 3) (j := 3) rfl rfl rfl)) (ev_int (md := .sh))) (evb_ret (wkX hX rfl) .sh (by intro _; rfl) (ev_ofL (evl_lstN (n := 1) (lnS ln0) (by decide) (evs_cons (ev_mod (md' := .sh) ok.toOk (ev_call (md' := .sh) ok.toOk (fn__law_at X) (by decide) (j := 0) rfl .sh (eva_cons (md := .sh) (ev_vsh ok.toOk (i := 0) (j := 0) rfl rfl rfl) (eva_cons (md := .sh) (ev_int (md := .sh)) eva_nil))) (ev_vsh ok.toOk (i := 1) (j := 1) rfl rfl rfl)) evs_nil)))) (evb_ret (wkX hX rfl) .sh (by intro _; rfl) (ev_vsh ok.toOk (i := 3) (j := 3) rfl rfl rfl))))))
theorem b__law_set {p : Pr} (X : Facts p) : Body p s__law_set N__law_set V__law_set G__law_set 1 (fun (d : ((List Int) × Int × Unit)) => [(sV false (tListK p.K tInt) d.1), (sV false tInt d.2.1), sAny, sAny, sAny]) (fun r => .rt false (tList tInt) r) r__law_set := fun g ok hX d => bb__law_set X ok hX d.1 d.2.1
theorem fn__law_set {p : Pr} (X : Facts p) : Fn p 2 "_law_set" ["script", "strands"] (spM p (aCons (tListK p.K tInt) (aCons tInt aNil)) (fun r => .rt false (tList tInt) r) c__law_set) := by
  obtain ⟨f, fd, hF, hm⟩ := X.d__law_set
  exact ⟨f, fd, eq__law_set ▸ fn_rt (m := 3) hF sc__law_set (.cons (.cons .nil)) rfl rfl (b__law_set X), hm, hF.kp, hF.bindsN fun _ _ _ _ _ _ us hl => match us, hl with | [_, _], _ => rfl⟩
/-! ### measured -/
abbrev s_measured : Stmt := topS 7
abbrev N_measured : List Str := ["cloth", "wide", "text", "sign"]
abbrev V_measured : List Str := ["cloth", "wide", "text", "sign"]
abbrev G_measured : List Str := ["len", "MOST_STRANDS", "NoCloth"]
theorem sc_measured : Sc s_measured N_measured V_measured ["cloth"] G_measured := ⟨⟨rfl, rfl, rfl, by decide +kernel, rfl, by decide +kernel, by decide +kernel⟩, by decide +kernel, by decide +kernel, by decide +kernel⟩
def r_f_measured_l1  : Unit → Tx → M Unit := fun s24 sign25 => M.bind (M.ok ((!decide (sign25 = (tx "#"))) && (!decide (sign25 = (tx "."))))) fun c31 => if c31 = true then M.ex .noCloth else M.ok ()
def f_measured_l1  : Unit → Tx → M Unit := fun s24 sign25 => if ((!decide (sign25 = (tx "#"))) && (!decide (sign25 = (tx ".")))) = true then M.ex .noCloth else M.ok ()
theorem eq_f_measured_l1  : r_f_measured_l1  = f_measured_l1  := by funext s24 sign25; first | (simp only [r_f_measured_l1, f_measured_l1, M.bind_assoc, M.bok]; done) | (simp only [r_f_measured_l1, f_measured_l1, M.bind_assoc, M.bok]; rfl)
def r_f_measured_l2 (wide9 : Int) : Unit → Tx → M Unit := fun s18 text19 => M.bind (M.bind (M.bind (M.ok text19) fun y20 => M.ok (y20.length : Int)) fun y21 => M.bind (M.ok wide9) fun y22 => M.ok (!decide (y21 = y22))) fun c35 => if c35 = true then M.ex .noCloth else M.bind (M.bind (M.ok text19) fun y23 => M.ok (y23.map fun c => [c])) fun xs33 => M.bind (forM r_f_measured_l1 () xs33) fun (s34 : Unit) => M.ok ()
def f_measured_l2 (wide9 : Int) : Unit → Tx → M Unit := fun s18 text19 => if (!decide ((text19.length : Int) = wide9)) = true then M.ex .noCloth else M.bind (forM f_measured_l1 () (text19.map fun c => [c])) fun (s34 : Unit) => M.ok ()
theorem eq_f_measured_l2 (wide9 : Int) : r_f_measured_l2 wide9 = f_measured_l2 wide9 := by funext s18 text19; first | (simp only [r_f_measured_l2, f_measured_l2, M.bind_assoc, M.bok, eq_f_measured_l1]; done) | (simp only [r_f_measured_l2, f_measured_l2, M.bind_assoc, M.bok, eq_f_measured_l1]; rfl)
def q_measured (cloth1 : (List Tx)) : M (Int × Int × Unit) := M.bind (M.ok ((decide ((cloth1.length : Int) < (1 : Int))) || (decide ((40 : Int) < (cloth1.length : Int))))) fun c49 => if c49 = true then M.ex .noCloth else M.bind (M.bind (M.bind (M.ok cloth1) fun y10 => M.bind (M.ok (0 : Int)) fun y11 => getM y10 y11) fun y12 => M.ok (y12.length : Int)) fun wide9 => M.bind (M.ok ((decide (wide9 < (1 : Int))) || (decide ((40 : Int) < wide9)))) fun c47 => if c47 = true then M.ex .noCloth else M.bind (M.ok cloth1) fun xs37 => M.bind (forM (r_f_measured_l2 wide9) () xs37) fun (s38 : Unit) => (M.bind (M.ok wide9) fun y42 => M.bind (M.bind (M.bind (M.ok cloth1) fun y39 => M.ok (y39.length : Int)) fun y40 => M.bind (M.ok ()) fun y41 => M.ok (y40, y41)) fun y43 => M.ok (y42, y43))
def f_measured (cloth1 : (List Tx)) : M (Int × Int × Unit) := if ((decide ((cloth1.length : Int) < (1 : Int))) || (decide ((40 : Int) < (cloth1.length : Int)))) = true then M.ex .noCloth else M.bind (M.bind (getM cloth1 (0 : Int)) fun y12 => M.ok (y12.length : Int)) fun wide9 => if ((decide (wide9 < (1 : Int))) || (decide ((40 : Int) < wide9))) = true then M.ex .noCloth else M.bind (forM (f_measured_l2 wide9) () cloth1) fun (s38 : Unit) => M.ok (wide9, (cloth1.length : Int), ())
def r_measured (d : ((List Tx) × Unit)) : M (Int × Int × Unit) := q_measured d.1
def c_measured (d : ((List Tx) × Unit)) : M (Int × Int × Unit) := f_measured d.1
theorem eq_measured : r_measured = c_measured := by funext d; first | (simp only [r_measured, c_measured, q_measured, f_measured, M.bind_assoc, M.bok, eq_f_measured_l1, eq_f_measured_l2]; done) | (simp only [r_measured, c_measured, q_measured, f_measured, M.bind_assoc, M.bok, eq_f_measured_l1, eq_f_measured_l2]; rfl)
theorem bb_measured {p : Pr} (X : Facts p) {g : G} (ok : OkS p (defScope s_measured) N_measured V_measured G_measured 0 g) (hX : g.LX = List.replicate N_measured.length sAny) (cloth1 : (List Tx)) : EvB g [(sV false (tList tStr) cloth1), sAny, sAny, sAny] (defBody s_measured) (fun r => .rt false (tTup (aCons tInt (aCons tInt aNil))) r) (q_measured cloth1) := (evb_ifr ok (wkX hX rfl) X.x_NoCloth (jj := 0) (j := 2) rfl (EvW.t (evw_orP (pureT (m := M.bind (M.bind (M.ok cloth1) fun y2 => M.ok (y2.length : Int)) fun y3 => M.bind (M.ok (1 : Int)) fun y4 => M.ok (decide (y3 < y4))) (evt_c ok.toOk c_lt (ev_lenQ (md' := .sh) ok.toOk sq_l (j := 0) rfl X.g_len (ev_vsh ok.toOk (i := 0) (j := 0) rfl rfl rfl)) (ev_int (md := .sh))) rfl) (pureW (m := M.bind (M.bind (M.ok cloth1) fun y5 => M.ok (y5.length : Int)) fun y6 => M.bind (M.ok (40 : Int)) fun y7 => M.ok (decide (y7 < y6))) (evw_or1 (evt_c ok.toOk c_gt (ev_lenQ (md' := .sh) ok.toOk sq_l (j := 0) rfl X.g_len (ev_vsh ok.toOk (i := 0) (j := 0) rfl rfl rfl)) (ev_gint (md := .sh) ok.toOk (j := 1) rfl X.c_MOST_STRANDS))) rfl))) (evb_set ok (i := 1) (j := 1) rfl rfl (wkX hX rfl) .sh (ev_lenS (md' := .sh) ok.toOk (j := 0) rfl X.g_len (ev_ixQ ok.toOk sq_l (ev_vsh ok.toOk (i := 0) (j := 0) rfl rfl rfl) (ev_int (md := .sh)))) fun wide9 => (evb_ifr ok (wkX hX rfl) X.x_NoCloth (jj := 0) (j := 2) rfl (EvW.t (evw_orP (pureT (m := M.bind (M.ok wide9) fun y13 => M.bind (M.ok (1 : Int)) fun y14 => M.ok (decide (y13 < y14))) (evt_c ok.toOk c_lt (ev_vsh ok.toOk (i := 1) (j := 1) rfl rfl rfl) (ev_int (md := .sh))) rfl) (pureW (m := M.bind (M.ok wide9) fun y15 => M.bind (M.ok (40 : Int)) fun y16 => M.ok (decide (y16 < y15))) (evw_or1 (evt_c ok.toOk c_gt (ev_vsh ok.toOk (i := 1) (j := 1) rfl rfl rfl) (ev_gint (md := .sh) ok.toOk (j := 1) rfl X.c_MOST_STRANDS))) rfl))) (evb_for (LF := (fun (s18 : Unit) => [(sV false (tList tStr) cloth1), (sV false tInt wide9), sAny, sAny])) (s0 := ()) ok (wkX hX rfl) (evi_seq ok.toOk sq_l (ev_vsh ok.toOk (i := 0) (j := 0) rfl rfl rfl)) (Wk.s (Wk.s (Wk.s (Wk.s Wk.n)))) (fun _ => evg_name ok (i := 2) (j := 2) rfl rfl) (fun s18 text19 => (evb_ifr ok (wkX hX rfl) X.x_NoCloth (jj := 0) (j := 2) rfl (evt_c ok.toOk (c_ne s_int) (ev_lenS (md' := .sh) ok.toOk (j := 0) rfl X.g_len (ev_vsh ok.toOk (i := 2) (j := 2) rfl rfl rfl)) (ev_vsh ok.toOk (i := 1) (j := 1) rfl rfl rfl)) (evb_for (LF := (fun (s24 : Unit) => [(sV false (tList tStr) cloth1), (sV false tInt wide9), (sV false tStr text19), sAny])) (s0 := ()) ok (wkX hX rfl) (evi_str (ev_vsh ok.toOk (i := 2) (j := 2) rfl rfl rfl)) (Wk.s (Wk.s (Wk.s (Wk.s Wk.n)))) (fun _ => evg_name ok (i := 3) (j := 3) rfl rfl) (fun s24 sign25 => (evb_ifr ok (wkX hX rfl) X.x_NoCloth (jj := 0) (j := 2) rfl (EvW.t (evw_andP (pureT (m := M.bind (M.ok sign25) fun y26 => M.bind (M.ok (tx "#")) fun y27 => M.ok (!decide (y26 = y27))) (evt_c ok.toOk (c_ne s_str) (ev_vsh ok.toOk (i := 3) (j := 3) rfl rfl rfl) (ev_str (md := .sh) (by decide +kernel))) rfl) (pureW (m := M.bind (M.ok sign25) fun y28 => M.bind (M.ok (tx ".")) fun y29 => M.ok (!decide (y28 = y29))) (evw_and1 (evt_c ok.toOk (c_ne s_str) (ev_vsh ok.toOk (i := 3) (j := 3) rfl rfl rfl) (ev_str (md := .sh) (by decide +kernel)))) rfl))) (evb_go (by rfl) (Wk.s (Wk.s (Wk.s (Wk.a Wk.n))))))) fun s34 => (evb_go (by rfl) (Wk.s (Wk.s (Wk.a (Wk.s Wk.n)))))))) fun s38 => (evb_ret (wkX hX rfl) .sh (by intro _; rfl) (ev_tup (fun d vs R h => by rw [(lenS (lenS len0)) h]; decide) (eva_cons (ev_vsh ok.toOk (i := 1) (j := 1) rfl rfl rfl) (eva_cons (ev_lenQ (md' := .sh) ok.toOk sq_l (j := 0) rfl X.g_len (ev_vsh ok.toOk (i := 0) (j := 0) rfl rfl rfl)) eva_nil))))))))
theorem b_measured {p : Pr} (X : Facts p) : Body p s_measured N_measured V_measured G_measured 0 (fun (d : ((List Tx) × Unit)) => [(sV false (tList tStr) d.1), sAny, sAny, sAny]) (fun r => .rt false (tTup (aCons tInt (aCons tInt aNil))) r) r_measured := fun g ok hX d => bb_measured X ok hX d.1
theorem fn_measured {p : Pr} (X : Facts p) : Fn p 1 "measured" ["cloth"] (spM p (aCons (tList tStr) aNil) (fun r => .rt false (tTup (aCons tInt (aCons tInt aNil))) r) c_measured) := by
  obtain ⟨f, fd, hF, hm⟩ := X.d_measured
  exact ⟨f, fd, eq_measured ▸ fn_rt (m := 3) hF sc_measured (.cons .nil) rfl rfl (b_measured X), hm, hF.kp, hF.bindsN fun _ _ _ _ _ _ us hl => match us, hl with | [_], _ => rfl⟩
/-! ### held_strands -/
abbrev s_held_strands : Stmt := topS 12
abbrev N_held_strands : List Str := ["strands", "many", "held", "before", "strand"]
abbrev V_held_strands : List Str := ["strands", "many", "held", "before", "strand"]
abbrev G_held_strands : List Str := ["NoStrand"]
theorem sc_held_strands : Sc s_held_strands N_held_strands V_held_strands ["strands", "many"] G_held_strands := ⟨⟨rfl, rfl, rfl, by decide +kernel, rfl, by decide +kernel, by decide +kernel⟩, by decide +kernel, by decide +kernel, by decide +kernel⟩
def r_f_held_strands_l1 (many2 : Int) : ((List (Key × Bool)) × Int) → Int → M ((List (Key × Bool)) × Int) := fun s6 strand7 => M.bind (M.ok ((decide (strand7 ≤ s6.2)) || (decide (many2 ≤ strand7)))) fun c17 => if c17 = true then M.ex .noStrand else M.bind (M.ok true) fun y13 => M.bind (M.ok strand7) fun i14 => M.bind (dputM s6.1 (.inl i14) y13) fun held15 => M.bind (M.ok strand7) fun before16 => M.ok (held15, before16)
def f_held_strands_l1 (many2 : Int) : ((List (Key × Bool)) × Int) → Int → M ((List (Key × Bool)) × Int) := fun s6 strand7 => if ((decide (strand7 ≤ s6.2)) || (decide (many2 ≤ strand7))) = true then M.ex .noStrand else M.bind (dputM s6.1 (.inl strand7) true) fun held15 => let before16 : Int := strand7; M.ok (held15, before16)
theorem eq_f_held_strands_l1 (many2 : Int) : r_f_held_strands_l1 many2 = f_held_strands_l1 many2 := by funext s6 strand7; first | (simp only [r_f_held_strands_l1, f_held_strands_l1, M.bind_assoc, M.bok]; done) | (simp only [r_f_held_strands_l1, f_held_strands_l1, M.bind_assoc, M.bok]; rfl)
def q_held_strands (strands1 : (List Int)) (many2 : Int) : M (List (Key × Bool)) := M.bind (M.ok ([] : (List (Key × Bool)))) fun held3 => M.bind (M.bind (M.ok (1 : Int)) fun y5 => M.ok (-y5)) fun before4 => M.bind (M.ok strands1) fun xs19 => M.bind (forM (r_f_held_strands_l1 many2) (held3, before4) xs19) fun (s20 : ((List (Key × Bool)) × Int)) => M.bind (M.bind (M.ok s20.2) fun y22 => M.bind (M.bind (M.ok (1 : Int)) fun y21 => M.ok (-y21)) fun y23 => M.ok (decide (y22 = y23))) fun c25 => if c25 = true then M.ex .noStrand else M.ok s20.1
def f_held_strands (strands1 : (List Int)) (many2 : Int) : M (List (Key × Bool)) := let held3 : (List (Key × Bool)) := []; let before4 : Int := (-(1 : Int)); M.bind (forM (f_held_strands_l1 many2) (held3, before4) strands1) fun (s20 : ((List (Key × Bool)) × Int)) => if (decide (s20.2 = (-(1 : Int)))) = true then M.ex .noStrand else M.ok s20.1
def r_held_strands (d : ((List Int) × Int × Unit)) : M (List (Key × Bool)) := q_held_strands d.1 d.2.1
def c_held_strands (d : ((List Int) × Int × Unit)) : M (List (Key × Bool)) := f_held_strands d.1 d.2.1
theorem eq_held_strands : r_held_strands = c_held_strands := by funext d; first | (simp only [r_held_strands, c_held_strands, q_held_strands, f_held_strands, M.bind_assoc, M.bok, eq_f_held_strands_l1]; done) | (simp only [r_held_strands, c_held_strands, q_held_strands, f_held_strands, M.bind_assoc, M.bok, eq_f_held_strands_l1]; rfl)
theorem bb_held_strands {p : Pr} (X : Facts p) {g : G} (ok : OkS p (defScope s_held_strands) N_held_strands V_held_strands G_held_strands 0 g) (hX : g.LX = List.replicate N_held_strands.length sAny) (strands1 : (List Int)) (many2 : Int) : EvB g [(sV false (tList tInt) strands1), (sV false tInt many2), sAny, sAny, sAny] (defBody s_held_strands) (fun r => .rt false (tDict tBool) r) (q_held_strands strands1 many2) := (evb_newD (S := tBool) ok (i := 2) (j := 2) rfl rfl fun held3 => (evb_set ok (i := 3) (j := 3) rfl rfl (wkX hX rfl) .sh (ev_neg (md' := .sh) ok.toOk (ev_int (md := .sh))) fun before4 => (evb_for (LF := (fun (s6 : ((List (Key × Bool)) × Int)) => [(sV false (tList tInt) strands1), (sV false tInt many2), (sDict false tBool s6.1), (sV false tInt s6.2), sAny])) (s0 := (held3, before4)) ok (wkX hX rfl) (evi_seq ok.toOk sq_l (ev_vsh ok.toOk (i := 0) (j := 0) rfl rfl rfl)) (Wk.s (Wk.s (Wk.s (Wk.s (Wk.s Wk.n))))) (fun _ => evg_name ok (i := 4) (j := 4) rfl rfl) (fun s6 strand7 => (evb_ifr ok (wkX hX rfl) X.x_NoStrand (jj := 0) (j := 0) rfl (EvW.t (evw_orP (pureT (m := M.bind (M.ok strand7) fun y8 => M.bind (M.ok s6.2) fun y9 => M.ok (decide (y8 ≤ y9))) (evt_c ok.toOk c_le (ev_vsh ok.toOk (i := 4) (j := 4) rfl rfl rfl) (ev_vsh ok.toOk (i := 3) (j := 3) rfl rfl rfl)) rfl) (pureW (m := M.bind (M.ok strand7) fun y10 => M.bind (M.ok many2) fun y11 => M.ok (decide (y11 ≤ y10))) (evw_or1 (evt_c ok.toOk c_ge (ev_vsh ok.toOk (i := 4) (j := 4) rfl rfl rfl) (ev_vsh ok.toOk (i := 1) (j := 1) rfl rfl rfl))) rfl))) (evb_putD ok (wkX hX rfl) (i := 2) (j := 2) rfl rfl rfl .sh (ev_bool (md := .sh)) (ev_vsh ok.toOk (i := 4) (j := 4) rfl rfl rfl) fun held15 => (evb_set ok (i := 3) (j := 3) rfl rfl (wkX hX rfl) .sh (ev_vsh ok.toOk (i := 4) (j := 4) rfl rfl rfl) fun before16 => (evb_go (by rfl) (Wk.s (Wk.s (Wk.s (Wk.s (Wk.a Wk.n)))))))))) fun s20 => (evb_ifr ok (wkX hX rfl) X.x_NoStrand (jj := 0) (j := 0) rfl (evt_c ok.toOk (c_eq s_int) (ev_vsh ok.toOk (i := 3) (j := 3) rfl rfl rfl) (ev_neg (md' := .sh) ok.toOk (ev_int (md := .sh)))) (evb_freezeD (i := 2) rfl (evb_ret (wkX hX rfl) .sh (by intro _; rfl) (ev_vsh ok.toOk (i := 2) (j := 2) rfl rfl rfl)))))))
theorem b_held_strands {p : Pr} (X : Facts p) : Body p s_held_strands N_held_strands V_held_strands G_held_strands 0 (fun (d : ((List Int) × Int × Unit)) => [(sV false (tList tInt) d.1), (sV false tInt d.2.1), sAny, sAny, sAny]) (fun r => .rt false (tDict tBool) r) r_held_strands := fun g ok hX d => bb_held_strands X ok hX d.1 d.2.1
theorem fn_held_strands {p : Pr} (X : Facts p) : Fn p 1 "held_strands" ["strands", "many"] (spM p (aCons (tList tInt) (aCons tInt aNil)) (fun r => .rt false (tDict tBool) r) c_held_strands) := by
  obtain ⟨f, fd, hF, hm⟩ := X.d_held_strands
  exact ⟨f, fd, eq_held_strands ▸ fn_rt (m := 3) hF sc_held_strands (.cons (.cons .nil)) rfl rfl (b_held_strands X), hm, hF.kp, hF.bindsN fun _ _ _ _ _ _ us hl => match us, hl with | [_, _], _ => rfl⟩
/-! ### beneath_strand -/
abbrev s_beneath_strand : Stmt := topS 9
abbrev N_beneath_strand : List Str := ["cloth", "ends", "strand", "end", "pick"]
abbrev V_beneath_strand : List Str := ["cloth", "ends", "strand"]
abbrev G_beneath_strand : List Str := ["len", "range"]
theorem sc_beneath_strand : Sc s_beneath_strand N_beneath_strand V_beneath_strand ["cloth", "ends", "strand"] G_beneath_strand := ⟨⟨rfl, rfl, rfl, by decide +kernel, rfl, by decide +kernel, by decide +kernel⟩, by decide +kernel, by decide +kernel, by decide +kernel⟩
def q_beneath_strand (cloth1 : (List Tx)) (ends2 : Int) (strand3 : Int) : M (List Int) := M.bind (M.bind (M.ok strand3) fun y4 => M.bind (M.ok ends2) fun y5 => M.ok (decide (y4 < y5))) fun c6 => if c6 = true then M.bind (M.bind (M.bind (M.ok cloth1) fun y7 => M.ok (y7.length : Int)) fun y8 => rangeM 0 y8) fun xs20 => compM (fun pick9 => M.bind (M.bind (M.bind (M.bind (M.ok cloth1) fun y10 => M.bind (M.ok pick9) fun y11 => getM y10 y11) fun y12 => M.bind (M.ok strand3) fun y13 => getS y12 y13) fun y14 => M.bind (M.ok (tx "#")) fun y15 => M.ok (decide (y14 = y15))) fun c18 => if c18 = true then M.bind (M.bind (M.ok ends2) fun y16 => M.bind (M.ok pick9) fun y17 => M.ok (y16 + y17)) fun y19 => M.ok (some y19) else M.ok none) xs20 else M.bind (M.bind (M.ok ends2) fun y22 => rangeM 0 y22) fun xs34 => compM (fun end23 => M.bind (M.bind (M.bind (M.bind (M.ok cloth1) fun y26 => M.bind (M.bind (M.ok strand3) fun y24 => M.bind (M.ok ends2) fun y25 => M.ok (y24 - y25)) fun y27 => getM y26 y27) fun y28 => M.bind (M.ok end23) fun y29 => getS y28 y29) fun y30 => M.bind (M.ok (tx ".")) fun y31 => M.ok (decide (y30 = y31))) fun c32 => if c32 = true then M.bind (M.ok end23) fun y33 => M.ok (some y33) else M.ok none) xs34
def f_beneath_strand (cloth1 : (List Tx)) (ends2 : Int) (strand3 : Int) : M (List Int) := if (decide (strand3 < ends2)) = true then M.bind (rangeM 0 (cloth1.length : Int)) fun xs20 => compM (fun pick9 => M.bind (M.bind (M.bind (getM cloth1 pick9) fun y12 => getS y12 strand3) fun y14 => M.ok (decide (y14 = (tx "#")))) fun c18 => if c18 = true then M.ok (some (ends2 + pick9)) else M.ok none) xs20 else M.bind (rangeM 0 ends2) fun xs34 => compM (fun end23 => M.bind (M.bind (M.bind (getM cloth1 (strand3 - ends2)) fun y28 => getS y28 end23) fun y30 => M.ok (decide (y30 = (tx ".")))) fun c32 => if c32 = true then M.ok (some end23) else M.ok none) xs34
def r_beneath_strand (d : ((List Tx) × Int × Int × Unit)) : M (List Int) := q_beneath_strand d.1 d.2.1 d.2.2.1
def c_beneath_strand (d : ((List Tx) × Int × Int × Unit)) : M (List Int) := f_beneath_strand d.1 d.2.1 d.2.2.1
theorem eq_beneath_strand : r_beneath_strand = c_beneath_strand := by funext d; first | (simp only [r_beneath_strand, c_beneath_strand, q_beneath_strand, f_beneath_strand, M.bind_assoc, M.bok]; done) | (simp only [r_beneath_strand, c_beneath_strand, q_beneath_strand, f_beneath_strand, M.bind_assoc, M.bok]; rfl)
theorem bb_beneath_strand {p : Pr} (X : Facts p) {g : G} (ok : OkS p (defScope s_beneath_strand) N_beneath_strand V_beneath_strand G_beneath_strand 0 g) (hX : g.LX = List.replicate N_beneath_strand.length sAny) (cloth1 : (List Tx)) (ends2 : Int) (strand3 : Int) : EvB g [(sV false (tList tStr) cloth1), (sV false tInt ends2), (sV false tInt strand3), sAny, sAny] (defBody s_beneath_strand) (fun r => .rtL false tInt r) (q_beneath_strand cloth1 ends2 strand3) := (evb_ifx (wkX hX rfl) (evt_c ok.toOk c_lt (ev_vsh ok.toOk (i := 2) (j := 2) rfl rfl rfl) (ev_vsh ok.toOk (i := 1) (j := 1) rfl rfl rfl)) (evb_retL (wkX hX rfl) .sh (by intro _; rfl) (evl_lc (md := .sh) (VV' := ["cloth", "pick", "strand", "ends"]) (GG' := []) (i := 4) ok.toOk (evi_range1 ok.toOk (j := 1) rfl X.g_range (ev_lenQ (md' := .sh) ok.toOk sq_l (j := 0) rfl X.g_len (ev_vsh ok.toOk (i := 0) (j := 0) rfl rfl rfl))) rfl rfl no_any (by decide +kernel) (by decide +kernel) (by decide +kernel) (by decide +kernel) (fun g' okc pick9 => (evpts_one (evt_c okc (c_eq s_str) (ev_ixS (md' := .sh) okc (ev_ixQ okc sq_l (ev_vsh okc (i := 0) (j := 0) rfl rfl rfl) (ev_vsh okc (i := 4) (j := 1) rfl rfl rfl)) (ev_vsh okc (i := 2) (j := 2) rfl rfl rfl)) (ev_str (md := .sh) (by decide +kernel))))) (fun g' okc pick9 => (ev_add (md' := .sh) okc (ev_vsh okc (i := 1) (j := 3) rfl rfl rfl) (ev_vsh okc (i := 4) (j := 1) rfl rfl rfl))))) (evb_retL (wkX hX rfl) .sh (by intro _; rfl) (evl_lc (md := .sh) (VV' := ["cloth", "strand", "ends", "end"]) (GG' := []) (i := 3) ok.toOk (evi_range1 ok.toOk (j := 1) rfl X.g_range (ev_vsh ok.toOk (i := 1) (j := 1) rfl rfl rfl)) rfl rfl no_any (by decide +kernel) (by decide +kernel) (by decide +kernel) (by decide +kernel) (fun g' okc end23 => (evpts_one (evt_c okc (c_eq s_str) (ev_ixS (md' := .sh) okc (ev_ixQ okc sq_l (ev_vsh okc (i := 0) (j := 0) rfl rfl rfl) (ev_subt (md' := .sh) okc (ev_vsh okc (i := 2) (j := 1) rfl rfl rfl) (ev_vsh okc (i := 1) (j := 2) rfl rfl rfl))) (ev_vsh okc (i := 3) (j := 3) rfl rfl rfl)) (ev_str (md := .sh) (by decide +kernel))))) (fun g' okc end23 => (ev_vsh okc (i := 3) (j := 3) rfl rfl rfl)))))
theorem b_beneath_strand {p : Pr} (X : Facts p) : Body p s_beneath_strand N_beneath_strand V_beneath_strand G_beneath_strand 0 (fun (d : ((List Tx) × Int × Int × Unit)) => [(sV false (tList tStr) d.1), (sV false tInt d.2.1), (sV false tInt d.2.2.1), sAny, sAny]) (fun r => .rtL false tInt r) r_beneath_strand := fun g ok hX d => bb_beneath_strand X ok hX d.1 d.2.1 d.2.2.1
theorem fn_beneath_strand {p : Pr} (X : Facts p) : Fn p 1 "beneath_strand" ["cloth", "ends", "strand"] (spM p (aCons (tList tStr) (aCons tInt (aCons tInt aNil))) (fun r => .rtL false tInt r) c_beneath_strand) := by
  obtain ⟨f, fd, hF, hm⟩ := X.d_beneath_strand
  exact ⟨f, fd, eq_beneath_strand ▸ fn_rtL (m := 2) hF sc_beneath_strand (.cons (.cons (.cons .nil))) rfl rfl (b_beneath_strand X), hm, hF.kp, hF.bindsN fun _ _ _ _ _ _ us hl => match us, hl with | [_, _, _], _ => rfl⟩
/-! ### way_within -/
abbrev s_way_within : Stmt := topS 13
abbrev N_way_within : List Str := ["cloth", "ends", "held", "one", "other", "came", "line", "further", "strand", "lower", "found"]
abbrev V_way_within : List Str := ["cloth", "ends", "held", "one", "other", "came", "line", "further", "strand", "lower", "found"]
abbrev G_way_within : List Str := ["len", "beneath_strand", "list", "reversed"]
theorem sc_way_within : Sc s_way_within N_way_within V_way_within ["cloth", "ends", "held", "one", "other"] G_way_within := ⟨⟨rfl, rfl, rfl, by decide +kernel, rfl, by decide +kernel, by decide +kernel⟩, by decide +kernel, by decide +kernel, by decide +kernel⟩
def r_f_way_within_l1 (held3 : (List (Key × Bool))) (strand21 : Int) : ((List (Key × Int)) × (List Int)) → Int → M ((List (Key × Int)) × (List Int)) := fun s31 lower32 => M.bind (M.ok ((dgetL held3 (.inl lower32)).isSome && (!(dgetL s31.1 (.inl lower32)).isSome))) fun c37 => if c37 = true then M.bind (M.ok strand21) fun y38 => M.bind (M.ok lower32) fun i39 => M.bind (dputM s31.1 (.inl i39) y38) fun came40 => M.bind (M.ok lower32) fun y42 => M.bind (pushM s31.2 y42) fun further41 => M.ok (came40, further41) else M.ok (s31.1, s31.2)
def f_way_within_l1 (held3 : (List (Key × Bool))) (strand21 : Int) : ((List (Key × Int)) × (List Int)) → Int → M ((List (Key × Int)) × (List Int)) := fun s31 lower32 => if ((dgetL held3 (.inl lower32)).isSome && (!(dgetL s31.1 (.inl lower32)).isSome)) = true then M.bind (dputM s31.1 (.inl lower32) strand21) fun came40 => M.bind (pushM s31.2 lower32) fun further41 => M.ok (came40, further41) else M.ok (s31.1, s31.2)
theorem eq_f_way_within_l1 (held3 : (List (Key × Bool))) (strand21 : Int) : r_f_way_within_l1 held3 strand21 = f_way_within_l1 held3 strand21 := by funext s31 lower32; first | (simp only [r_f_way_within_l1, f_way_within_l1, M.bind_assoc, M.bok, c_beneath_strand]; done) | (simp only [r_f_way_within_l1, f_way_within_l1, M.bind_assoc, M.bok, c_beneath_strand]; rfl)
def r_f_way_within_l2 (cloth1 : (List Tx)) (ends2 : Int) (held3 : (List (Key × Bool))) : ((List (Key × Int)) × (List Int)) → Int → M ((List (Key × Int)) × (List Int)) := fun s20 strand21 => M.bind (M.bind (M.bind (M.ok cloth1) fun y26 => M.bind (M.bind (M.ok ends2) fun y24 => M.bind (M.bind (M.ok strand21) fun y22 => M.bind (M.ok ()) fun y23 => M.ok (y22, y23)) fun y25 => M.ok (y24, y25)) fun y27 => M.ok (y26, y27)) c_beneath_strand) fun xs44 => M.bind (forM (r_f_way_within_l1 held3 strand21) (s20.1, s20.2) xs44) fun (s45 : ((List (Key × Int)) × (List Int))) => M.ok (s45.1, s45.2)
def f_way_within_l2 (cloth1 : (List Tx)) (ends2 : Int) (held3 : (List (Key × Bool))) : ((List (Key × Int)) × (List Int)) → Int → M ((List (Key × Int)) × (List Int)) := fun s20 strand21 => M.bind (f_beneath_strand cloth1 ends2 strand21) fun xs44 => M.bind (forM (f_way_within_l1 held3 strand21) (s20.1, s20.2) xs44) fun (s45 : ((List (Key × Int)) × (List Int))) => M.ok (s45.1, s45.2)
theorem eq_f_way_within_l2 (cloth1 : (List Tx)) (ends2 : Int) (held3 : (List (Key × Bool))) : r_f_way_within_l2 cloth1 ends2 held3 = f_way_within_l2 cloth1 ends2 held3 := by funext s20 strand21; first | (simp only [r_f_way_within_l2, f_way_within_l2, M.bind_assoc, M.bok, eq_f_way_within_l1, c_beneath_strand]; done) | (simp only [r_f_way_within_l2, f_way_within_l2, M.bind_assoc, M.bok, eq_f_way_within_l1, c_beneath_strand]; rfl)
def r_f_way_within_t3 (other5 : Int) : ((List (Key × Int)) × (List Int)) → M Bool := fun s13 => M.ok ((decide ((0 : Int) < (s13.2.length : Int))) && (!(dgetL s13.1 (.inl other5)).isSome))
def f_way_within_t3 (other5 : Int) : ((List (Key × Int)) × (List Int)) → M Bool := fun s13 => M.ok ((decide ((0 : Int) < (s13.2.length : Int))) && (!(dgetL s13.1 (.inl other5)).isSome))
theorem eq_f_way_within_t3 (other5 : Int) : r_f_way_within_t3 other5 = f_way_within_t3 other5 := by funext s13; first | (simp only [r_f_way_within_t3, f_way_within_t3, M.bind_assoc, M.bok, eq_f_way_within_l1, eq_f_way_within_l2, c_beneath_strand]; done) | (simp only [r_f_way_within_t3, f_way_within_t3, M.bind_assoc, M.bok, eq_f_way_within_l1, eq_f_way_within_l2, c_beneath_strand]; rfl)
def r_f_way_within_w4 (cloth1 : (List Tx)) (ends2 : Int) (held3 : (List (Key × Bool))) : ((List (Key × Int)) × (List Int)) → M ((List (Key × Int)) × (List Int)) := fun s13 => M.bind (M.ok []) fun further19 => M.bind (M.ok s13.2) fun xs46 => M.bind (forM (r_f_way_within_l2 cloth1 ends2 held3) (s13.1, further19) xs46) fun (s47 : ((List (Key × Int)) × (List Int))) => M.bind (M.ok s47.2) fun line49 => M.ok (s47.1, line49)
def f_way_within_w4 (cloth1 : (List Tx)) (ends2 : Int) (held3 : (List (Key × Bool))) : ((List (Key × Int)) × (List Int)) → M ((List (Key × Int)) × (List Int)) := fun s13 => let further19 : (List Int) := []; M.bind (forM (f_way_within_l2 cloth1 ends2 held3) (s13.1, further19) s13.2) fun (s47 : ((List (Key × Int)) × (List Int))) => let line49 : (List Int) := s47.2; M.ok (s47.1, line49)
theorem eq_f_way_within_w4 (cloth1 : (List Tx)) (ends2 : Int) (held3 : (List (Key × Bool))) : r_f_way_within_w4 cloth1 ends2 held3 = f_way_within_w4 cloth1 ends2 held3 := by funext s13; first | (simp only [r_f_way_within_w4, f_way_within_w4, M.bind_assoc, M.bok, eq_f_way_within_l1, eq_f_way_within_l2, eq_f_way_within_t3, c_beneath_strand]; done) | (simp only [r_f_way_within_w4, f_way_within_w4, M.bind_assoc, M.bok, eq_f_way_within_l1, eq_f_way_within_l2, eq_f_way_within_t3, c_beneath_strand]; rfl)
def r_f_way_within_t5 (one4 : Int) : ((List Int)) → M Bool := fun s58 => M.bind (M.bind (M.ok s58) fun y60 => M.bind (M.bind (M.ok (1 : Int)) fun y59 => M.ok (-y59)) fun y61 => getM y60 y61) fun y62 => M.bind (M.ok one4) fun y63 => M.ok (!decide (y62 = y63))
def f_way_within_t5 (one4 : Int) : ((List Int)) → M Bool := fun s58 => M.bind (getM s58 (-(1 : Int))) fun y62 => M.ok (!decide (y62 = one4))
theorem eq_f_way_within_t5 (one4 : Int) : r_f_way_within_t5 one4 = f_way_within_t5 one4 := by funext s58; first | (simp only [r_f_way_within_t5, f_way_within_t5, M.bind_assoc, M.bok, eq_f_way_within_l1, eq_f_way_within_l2, eq_f_way_within_t3, eq_f_way_within_w4, c_beneath_strand]; done) | (simp only [r_f_way_within_t5, f_way_within_t5, M.bind_assoc, M.bok, eq_f_way_within_l1, eq_f_way_within_l2, eq_f_way_within_t3, eq_f_way_within_w4, c_beneath_strand]; rfl)
def r_f_way_within_w6 (s50 : ((List (Key × Int)) × (List Int))) : ((List Int)) → M ((List Int)) := fun s58 => M.bind (M.bind (M.bind (M.ok s58) fun y66 => M.bind (M.bind (M.ok (1 : Int)) fun y65 => M.ok (-y65)) fun y67 => getM y66 y67) fun y68 => getDM s50.1 (.inl y68)) fun y69 => M.bind (pushM s58 y69) fun found64 => M.ok found64
def f_way_within_w6 (s50 : ((List (Key × Int)) × (List Int))) : ((List Int)) → M ((List Int)) := fun s58 => M.bind (M.bind (getM s58 (-(1 : Int))) fun y68 => getDM s50.1 (.inl y68)) fun y69 => M.bind (pushM s58 y69) fun found64 => M.ok found64
theorem eq_f_way_within_w6 (s50 : ((List (Key × Int)) × (List Int))) : r_f_way_within_w6 s50 = f_way_within_w6 s50 := by funext s58; first | (simp only [r_f_way_within_w6, f_way_within_w6, M.bind_assoc, M.bok, eq_f_way_within_l1, eq_f_way_within_l2, eq_f_way_within_t3, eq_f_way_within_w4, eq_f_way_within_t5, c_beneath_strand]; done) | (simp only [r_f_way_within_w6, f_way_within_w6, M.bind_assoc, M.bok, eq_f_way_within_l1, eq_f_way_within_l2, eq_f_way_within_t3, eq_f_way_within_w4, eq_f_way_within_t5, c_beneath_strand]; rfl)
def q_way_within (cloth1 : (List Tx)) (ends2 : Int) (held3 : (List (Key × Bool))) (one4 : Int) (other5 : Int) : M (Option (List Int)) := M.bind (M.ok one4) fun i7 => M.bind (M.ok one4) fun y8 => M.bind (M.ok [(.inl i7, y8)]) fun came6 => M.bind (M.bind (M.ok one4) fun y10 => M.bind (M.ok []) fun y11 => M.ok (y10 :: y11)) fun line9 => M.bind (whileM (r_f_way_within_t3 other5) (r_f_way_within_w4 cloth1 ends2 held3) fuel (came6, line9)) fun (s50 : ((List (Key × Int)) × (List Int))) => M.bind (M.bind (M.ok other5) fun y51 => M.ok (!(dgetL s50.1 (.inl y51)).isSome)) fun c52 => if c52 = true then M.ok none else M.bind (M.bind (M.ok other5) fun y55 => M.bind (M.ok []) fun y56 => M.ok (y55 :: y56)) fun found54 => M.bind (whileM (r_f_way_within_t5 one4) (r_f_way_within_w6 s50) fuel found54) fun (s70 : ((List Int))) => M.bind (M.bind (M.ok s70) fun y71 => M.ok y71.reverse) fun y72 => M.ok (some y72)
def f_way_within (cloth1 : (List Tx)) (ends2 : Int) (held3 : (List (Key × Bool))) (one4 : Int) (other5 : Int) : M (Option (List Int)) := let came6 : (List (Key × Int)) := [(.inl one4, one4)]; let line9 : (List Int) := [one4]; M.bind (whileM (f_way_within_t3 other5) (f_way_within_w4 cloth1 ends2 held3) fuel (came6, line9)) fun (s50 : ((List (Key × Int)) × (List Int))) => if (!(dgetL s50.1 (.inl other5)).isSome) = true then M.ok none else let found54 : (List Int) := [other5]; M.bind (whileM (f_way_within_t5 one4) (f_way_within_w6 s50) fuel found54) fun (s70 : ((List Int))) => M.ok (some s70.reverse)
def r_way_within (d : ((List Tx) × Int × (List (Key × Bool)) × Int × Int × Unit)) : M (Option (List Int)) := q_way_within d.1 d.2.1 d.2.2.1 d.2.2.2.1 d.2.2.2.2.1
def c_way_within (d : ((List Tx) × Int × (List (Key × Bool)) × Int × Int × Unit)) : M (Option (List Int)) := f_way_within d.1 d.2.1 d.2.2.1 d.2.2.2.1 d.2.2.2.2.1
theorem eq_way_within : r_way_within = c_way_within := by funext d; first | (simp only [r_way_within, c_way_within, q_way_within, f_way_within, M.bind_assoc, M.bok, eq_f_way_within_l1, eq_f_way_within_l2, eq_f_way_within_t3, eq_f_way_within_w4, eq_f_way_within_t5, eq_f_way_within_w6, c_beneath_strand]; done) | (simp only [r_way_within, c_way_within, q_way_within, f_way_within, M.bind_assoc, M.bok, eq_f_way_within_l1, eq_f_way_within_l2, eq_f_way_within_t3, eq_f_way_within_w4, eq_f_way_within_t5, eq_f_way_within_w6, c_beneath_strand]; rfl)
theorem bb_way_within {p : Pr} (X : Facts p) {g : G} (ok : OkS p (defScope s_way_within) N_way_within V_way_within G_way_within 1 g) (hX : g.LX = List.replicate N_way_within.length sAny) (cloth1 : (List Tx)) (ends2 : Int) (held3 : (List (Key × Bool))) (one4 : Int) (other5 : Int) : EvB g [(sV false (tList tStr) cloth1), (sV false tInt ends2), (sV false (tDict tBool) held3), (sV false tInt one4), (sV false tInt other5), sAny, sAny, sAny, sAny, sAny, sAny] (defBody s_way_within) (fun r => .rt false (tOpt (tList tInt)) r) (q_way_within cloth1 ends2 held3 one4 other5) := (evb_newD1 (S := tInt) ok (wkX hX rfl) (i := 5) (j := 5) rfl rfl flInt (ev_vsh ok.toOk (i := 3) (j := 3) rfl rfl rfl) (ev_vsh ok.toOk (i := 3) (j := 3) rfl rfl rfl) fun came6 => (evb_set ok (i := 6) (j := 6) rfl rfl (wkX hX rfl) .sh (ev_ofL (evl_lstN (n := 1) (lnS ln0) (by decide) (evs_cons (ev_vsh ok.toOk (i := 3) (j := 3) rfl rfl rfl) evs_nil))) fun line9 => (evb_while (LF := (fun (s13 : ((List (Key × Int)) × (List Int))) => [(sV false (tList tStr) cloth1), (sV false tInt ends2), (sV false (tDict tBool) held3), (sV false tInt one4), (sV false tInt other5), (sDict false tInt s13.1), (sV false (tList tInt) s13.2), sAny, sAny, sAny, sAny])) (s0 := (came6, line9)) ok (fun _ => wkX hX rfl) (Wk.s (Wk.s (Wk.s (Wk.s (Wk.s (Wk.s (Wk.s (Wk.s (Wk.s (Wk.s (Wk.s Wk.n))))))))))) (fun s13 => (EvW.t (evw_andP (pureT (m := M.bind (M.bind (M.ok s13.2) fun y14 => M.ok (y14.length : Int)) fun y15 => M.bind (M.ok (0 : Int)) fun y16 => M.ok (decide (y16 < y15))) (evt_c ok.toOk c_gt (ev_lenQ (md' := .sh) ok.toOk sq_l (j := 0) rfl X.g_len (ev_vsh ok.toOk (i := 6) (j := 6) rfl rfl rfl)) (ev_int (md := .sh))) rfl) (pureW (m := M.bind (M.ok other5) fun y17 => M.ok (!(dgetL s13.1 (.inl y17)).isSome)) (evw_and1 (evt_notinOwn ok.toOk (i := 5) (j := 5) rfl rfl rfl (ev_vsh ok.toOk (i := 4) (j := 4) rfl rfl rfl))) rfl)))) (fun s13 => (evb_own ok (i := 7) (j := 7) rfl rfl (wkX hX rfl) .sh (evl_nil (md := .sh) (S := tInt)) fun further19 => (evb_for (LF := (fun (s20 : ((List (Key × Int)) × (List Int))) => [(sV false (tList tStr) cloth1), (sV false tInt ends2), (sV false (tDict tBool) held3), (sV false tInt one4), (sV false tInt other5), (sDict false tInt s20.1), (sV false (tList tInt) s13.2), (sOwn false tInt s20.2), sAny, sAny, sAny])) (s0 := (s13.1, further19)) ok (wkX hX rfl) (evi_seq ok.toOk sq_l (ev_vsh ok.toOk (i := 6) (j := 6) rfl rfl rfl)) (Wk.s (Wk.s (Wk.s (Wk.s (Wk.s (Wk.s (Wk.s (Wk.s (Wk.s (Wk.s (Wk.s Wk.n))))))))))) (fun _ => evg_name ok (i := 8) (j := 8) rfl rfl) (fun s20 strand21 => (evb_for (LF := (fun (s31 : ((List (Key × Int)) × (List Int))) => [(sV false (tList tStr) cloth1), (sV false tInt ends2), (sV false (tDict tBool) held3), (sV false tInt one4), (sV false tInt other5), (sDict false tInt s31.1), (sV false (tList tInt) s13.2), (sOwn false tInt s31.2), (sV false tInt strand21), sAny, sAny])) (s0 := (s20.1, s20.2)) ok (wkX hX rfl) (evi_seq ok.toOk sq_l (ev_ofL (evl_call (md' := .sh) ok.toOk (fn_beneath_strand X) (by decide) (j := 1) rfl .sh (eva_cons (md := .sh) (ev_vsh ok.toOk (i := 0) (j := 0) rfl rfl rfl) (eva_cons (md := .sh) (ev_vsh ok.toOk (i := 1) (j := 1) rfl rfl rfl) (eva_cons (md := .sh) (ev_vsh ok.toOk (i := 8) (j := 8) rfl rfl rfl) eva_nil)))))) (Wk.s (Wk.s (Wk.s (Wk.s (Wk.s (Wk.s (Wk.s (Wk.s (Wk.s (Wk.s (Wk.s Wk.n))))))))))) (fun _ => evg_name ok (i := 9) (j := 9) rfl rfl) (fun s31 lower32 => (evb_ifl (wkX hX rfl) (EvW.t (evw_andP (pureT (m := M.bind (M.ok lower32) fun y33 => M.bind (M.ok held3) fun y34 => M.ok ((dgetL y34 (.inl y33)).isSome)) (evt_inV ok.toOk (ev_vsh ok.toOk (i := 9) (j := 9) rfl rfl rfl) (ev_vsh ok.toOk (i := 2) (j := 2) rfl rfl rfl)) rfl) (pureW (m := M.bind (M.ok lower32) fun y35 => M.ok (!(dgetL s31.1 (.inl y35)).isSome)) (evw_and1 (evt_notinOwn ok.toOk (i := 5) (j := 5) rfl rfl rfl (ev_vsh ok.toOk (i := 9) (j := 9) rfl rfl rfl))) rfl))) (evb_putD ok (wkX hX rfl) (i := 5) (j := 5) rfl rfl rfl .sh (ev_vsh ok.toOk (i := 8) (j := 8) rfl rfl rfl) (ev_vsh ok.toOk (i := 9) (j := 9) rfl rfl rfl) fun came40 => (evb_append ok (wkX hX rfl) (i := 7) (j := 7) rfl rfl rfl .sh (ev_vsh ok.toOk (i := 9) (j := 9) rfl rfl rfl) fun further41 => (evb_go (by rfl) (Wk.s (Wk.s (Wk.s (Wk.s (Wk.s (Wk.s (Wk.s (Wk.s (Wk.s (Wk.a (Wk.s Wk.n)))))))))))))) (evb_go (by rfl) (Wk.s (Wk.s (Wk.s (Wk.s (Wk.s (Wk.s (Wk.s (Wk.s (Wk.s (Wk.a (Wk.s Wk.n)))))))))))))) fun s45 => (evb_go (by rfl) (Wk.s (Wk.s (Wk.s (Wk.s (Wk.s (Wk.s (Wk.s (Wk.s (Wk.a (Wk.s (Wk.s Wk.n)))))))))))))) fun s47 => (evb_freeze (i := 7) rfl (evb_set ok (i := 6) (j := 6) rfl rfl (wkX hX rfl) .sh (ev_vsh ok.toOk (i := 7) (j := 7) rfl rfl rfl) fun line49 => (evb_go (by rfl) (Wk.s (Wk.s (Wk.s (Wk.s (Wk.s (Wk.s (Wk.s (Wk.a (Wk.s (Wk.s (Wk.s Wk.n))))))))))))))))) fun s50 => (evb_ifx (wkX hX rfl) (evt_notinOwn ok.toOk (i := 5) (j := 5) rfl rfl rfl (ev_vsh ok.toOk (i := 4) (j := 4) rfl rfl rfl)) (evb_ret (wkX hX rfl) .sh (by intro _; rfl) (ev_optN (md := .sh))) (evb_own ok (i := 10) (j := 10) rfl rfl (wkX hX rfl) .sh (evl_lstN (n := 1) (lnS ln0) (by decide) (evs_cons (ev_vsh ok.toOk (i := 4) (j := 4) rfl rfl rfl) evs_nil)) fun found54 => (evb_while (LF := (fun (s58 : ((List Int))) => [(sV false (tList tStr) cloth1), (sV false tInt ends2), (sV false (tDict tBool) held3), (sV false tInt one4), (sV false tInt other5), (sDict false tInt s50.1), (sV false (tList tInt) s50.2), sAny, sAny, sAny, (sOwn false tInt s58)])) (s0 := found54) ok (fun _ => wkX hX rfl) (Wk.s (Wk.s (Wk.s (Wk.s (Wk.s (Wk.s (Wk.s (Wk.s (Wk.s (Wk.s (Wk.s Wk.n))))))))))) (fun s58 => (evt_borrow (i := 10) rfl (evt_c ok.toOk (c_ne s_int) (ev_ixQ ok.toOk sq_l (ev_vsh ok.toOk (i := 10) (j := 10) rfl rfl rfl) (ev_neg (md' := .sh) ok.toOk (ev_int (md := .sh)))) (ev_vsh ok.toOk (i := 3) (j := 3) rfl rfl rfl)))) (fun s58 => (evb_append ok (wkX hX rfl) (i := 10) (j := 10) rfl rfl rfl .sh (ev_borrow (i := 10) (.inl flInt) rfl (ev_subOwn ok.toOk (i := 5) (j := 5) rfl rfl rfl (ev_ixQ ok.toOk sq_l (ev_vsh ok.toOk (i := 10) (j := 10) rfl rfl rfl) (ev_neg (md' := .sh) ok.toOk (ev_int (md := .sh)))))) fun found64 => (evb_go (by rfl) (Wk.s (Wk.s (Wk.s (Wk.s (Wk.s (Wk.s (Wk.s (Wk.s (Wk.s (Wk.s (Wk.s Wk.n)))))))))))))) fun s70 => (evb_freeze (i := 10) rfl (evb_ret (wkX hX rfl) .sh (by intro _; rfl) (ev_some nn_list (ev_ofL (evl_listRev (md := .sh) ok.toOk sq_l sqL_list (j := 2) rfl X.g_list (j2 := 3) rfl X.g_reversed (ev_vsh ok.toOk (i := 10) (j := 10) rfl rfl rfl))))))))))))
theorem b_way_within {p : Pr} (X : Facts p) : Body p s_way_within N_way_within V_way_within G_way_within 1 (fun (d : ((List Tx) × Int × (List (Key × Bool)) × Int × Int × Unit)) => [(sV false (tList tStr) d.1), (sV false tInt d.2.1), (sV false (tDict tBool) d.2.2.1), (sV false tInt d.2.2.2.1), (sV false tInt d.2.2.2.2.1), sAny, sAny, sAny, sAny, sAny, sAny]) (fun r => .rt false (tOpt (tList tInt)) r) r_way_within := fun g ok hX d => bb_way_within X ok hX d.1 d.2.1 d.2.2.1 d.2.2.2.1 d.2.2.2.2.1
theorem fn_way_within {p : Pr} (X : Facts p) : Fn p 2 "way_within" ["cloth", "ends", "held", "one", "other"] (spM p (aCons (tList tStr) (aCons tInt (aCons (tDict tBool) (aCons tInt (aCons tInt aNil))))) (fun r => .rt false (tOpt (tList tInt)) r) c_way_within) := by
  obtain ⟨f, fd, hF, hm⟩ := X.d_way_within
  exact ⟨f, fd, eq_way_within ▸ fn_rt (m := 6) hF sc_way_within (.cons (.cons (.cons (.cons (.cons .nil))))) rfl rfl (b_way_within X), hm, hF.kp, hF.bindsN fun _ _ _ _ _ _ us hl => match us, hl with | [_, _, _, _, _], _ => rfl⟩
/-! ### round_way -/
abbrev s_round_way : Stmt := topS 14
abbrev N_round_way : List Str := ["cloth", "strands", "ends", "picks", "held", "found", "k", "part"]
abbrev V_round_way : List Str := ["cloth", "strands", "ends", "picks", "held", "found", "k", "part"]
abbrev G_round_way : List Str := ["measured", "held_strands", "len", "range", "way_within"]
theorem sc_round_way : Sc s_round_way N_round_way V_round_way ["cloth", "strands"] G_round_way := ⟨⟨rfl, rfl, rfl, by decide +kernel, rfl, by decide +kernel, by decide +kernel⟩, by decide +kernel, by decide +kernel, by decide +kernel⟩
def r_f_round_way_l1 (cloth1 : (List Tx)) (strands2 : (List Int)) (t6 : (Int × Int × Unit)) (held7 : (List (Key × Bool))) : ((List Int)) → Int → M (Fl ((List Int)) (Option (List Int))) := fun s29 k30 => M.bind (M.bind (M.bind (M.ok cloth1) fun y49 => M.bind (M.bind (M.ok t6.1) fun y47 => M.bind (M.bind (M.ok held7) fun y45 => M.bind (M.bind (M.bind (M.ok strands2) fun y32 => M.bind (M.ok k30) fun y33 => getM y32 y33) fun y43 => M.bind (M.bind (M.bind (M.ok strands2) fun y39 => M.bind (M.bind (M.bind (M.ok k30) fun y34 => M.bind (M.ok (1 : Int)) fun y35 => M.ok (y34 + y35)) fun y37 => M.bind (M.bind (M.ok strands2) fun y36 => M.ok (y36.length : Int)) fun y38 => modM y37 y38) fun y40 => getM y39 y40) fun y41 => M.bind (M.ok ()) fun y42 => M.ok (y41, y42)) fun y44 => M.ok (y43, y44)) fun y46 => M.ok (y45, y46)) fun y48 => M.ok (y47, y48)) fun y50 => M.ok (y49, y50)) c_way_within) fun part31 => M.bind (M.bind (M.ok part31) fun y56 => M.ok y56.isNone) fun c57 => if c57 = true then M.bind (M.ok ()) fun _ => M.ok (Fl.rt none) else M.bind (M.bind (M.bind (M.ok part31) fun y59 => unM y59) fun y62 => M.bind (M.ok (none : Option Int)) fun y63 => M.bind (M.bind (M.bind (M.ok (1 : Int)) fun y60 => M.ok (-y60)) fun y61 => M.ok (some y61)) fun y64 => M.ok (cutL y62 y63 y64)) fun y65 => M.bind (catL s29 y65) fun found58 => M.ok (Fl.nx found58)
def f_round_way_l1 (cloth1 : (List Tx)) (strands2 : (List Int)) (t6 : (Int × Int × Unit)) (held7 : (List (Key × Bool))) : ((List Int)) → Int → M (Fl ((List Int)) (Option (List Int))) := fun s29 k30 => M.bind (M.bind (getM strands2 k30) fun y54 => M.bind (M.bind (modM (k30 + (1 : Int)) (strands2.length : Int)) fun y40 => getM strands2 y40) fun y55 => f_way_within cloth1 t6.1 held7 y54 y55) fun part31 => if part31.isNone = true then M.ok (Fl.rt none) else M.bind (M.bind (unM part31) fun y62 => M.ok (cutL y62 none (some (-(1 : Int))))) fun y65 => M.bind (catL s29 y65) fun found58 => M.ok (Fl.nx found58)
theorem eq_f_round_way_l1 (cloth1 : (List Tx)) (strands2 : (List Int)) (t6 : (Int × Int × Unit)) (held7 : (List (Key × Bool))) : r_f_round_way_l1 cloth1 strands2 t6 held7 = f_round_way_l1 cloth1 strands2 t6 held7 := by funext s29 k30; first | (simp only [r_f_round_way_l1, f_round_way_l1, M.bind_assoc, M.bok, c_held_strands, c_measured, c_way_within]; done) | (simp only [r_f_round_way_l1, f_round_way_l1, M.bind_assoc, M.bok, c_held_strands, c_measured, c_way_within]; rfl)
def q_round_way (cloth1 : (List Tx)) (strands2 : (List Int)) : M (Option (List Int)) := M.bind (M.bind (M.bind (M.ok cloth1) fun y3 => M.bind (M.ok ()) fun y4 => M.ok (y3, y4)) c_measured) fun t6 => M.bind (M.bind (M.bind (M.ok strands2) fun y12 => M.bind (M.bind (M.bind (M.ok t6.1) fun y8 => M.bind (M.ok t6.2.1) fun y9 => M.ok (y8 + y9)) fun y10 => M.bind (M.ok ()) fun y11 => M.ok (y10, y11)) fun y13 => M.ok (y12, y13)) c_held_strands) fun held7 => M.bind (M.bind (M.bind (M.ok strands2) fun y16 => M.ok (y16.length : Int)) fun y17 => M.bind (M.ok (1 : Int)) fun y18 => M.ok (decide (y17 = y18))) fun c19 => if c19 = true then M.bind (M.bind (M.bind (M.ok strands2) fun y20 => M.bind (M.ok (0 : Int)) fun y21 => getM y20 y21) fun y22 => M.bind (M.ok []) fun y23 => M.ok (y22 :: y23)) fun r25 => M.ok (some r25) else M.bind (M.ok []) fun found26 => M.bind (M.bind (M.bind (M.ok strands2) fun y27 => M.ok (y27.length : Int)) fun y28 => rangeM 0 y28) fun xs67 => M.bind (forF (r_f_round_way_l1 cloth1 strands2 t6 held7) found26 xs67) (Fl.el (fun (s68 : ((List Int))) => M.ok (some s68)) fun r69 => M.ok r69)
def f_round_way (cloth1 : (List Tx)) (strands2 : (List Int)) : M (Option (List Int)) := M.bind (f_measured cloth1) fun t6 => M.bind (f_held_strands strands2 (t6.1 + t6.2.1)) fun held7 => if (decide ((strands2.length : Int) = (1 : Int))) = true then M.bind (M.bind (getM strands2 (0 : Int)) fun y24 => M.ok ([y24])) fun r25 => M.ok (some r25) else let found26 : (List Int) := []; M.bind (rangeM 0 (strands2.length : Int)) fun xs67 => M.bind (forF (f_round_way_l1 cloth1 strands2 t6 held7) found26 xs67) (Fl.el (fun (s68 : ((List Int))) => M.ok (some s68)) fun r69 => M.ok r69)
def r_round_way (d : ((List Tx) × (List Int) × Unit)) : M (Option (List Int)) := q_round_way d.1 d.2.1
def c_round_way (d : ((List Tx) × (List Int) × Unit)) : M (Option (List Int)) := f_round_way d.1 d.2.1
theorem eq_round_way : r_round_way = c_round_way := by funext d; first | (simp only [r_round_way, c_round_way, q_round_way, f_round_way, M.bind_assoc, M.bok, eq_f_round_way_l1, c_held_strands, c_measured, c_way_within]; done) | (simp only [r_round_way, c_round_way, q_round_way, f_round_way, M.bind_assoc, M.bok, eq_f_round_way_l1, c_held_strands, c_measured, c_way_within]; rfl)
theorem bb_round_way {p : Pr} (X : Facts p) {g : G} (ok : OkS p (defScope s_round_way) N_round_way V_round_way G_round_way 2 g) (hX : g.LX = List.replicate N_round_way.length sAny) (cloth1 : (List Tx)) (strands2 : (List Int)) : EvB g [(sV false (tList tStr) cloth1), (sV false (tList tInt) strands2), sAny, sAny, sAny, sAny, sAny, sAny] (defBody s_round_way) (fun r => optL tInt r) (q_round_way cloth1 strands2) := (evb_asg ok (wkX hX rfl) (ev_call (md' := .sh) ok.toOk (fn_measured X) (by decide) (j := 0) rfl .sh (eva_cons (md := .sh) (ev_vsh ok.toOk (i := 0) (j := 0) rfl rfl rfl) eva_nil)) (evg_tup ok.toOk (lenS (lenS len0)) (evgs_cons (evg_name ok (i := 2) (j := 2) rfl rfl) fun _ => (evgs_cons (evg_name ok (i := 3) (j := 3) rfl rfl) fun _ => evgs_nil))) fun t6 => (evb_set ok (i := 4) (j := 4) rfl rfl (wkX hX rfl) .sh (ev_call (md' := .sh) ok.toOk (fn_held_strands X) (by decide) (j := 1) rfl .sh (eva_cons (md := .sh) (ev_vsh ok.toOk (i := 1) (j := 1) rfl rfl rfl) (eva_cons (md := .sh) (ev_add (md' := .sh) ok.toOk (ev_vsh ok.toOk (i := 2) (j := 2) rfl rfl rfl) (ev_vsh ok.toOk (i := 3) (j := 3) rfl rfl rfl)) eva_nil))) fun held7 => (evb_ifx (wkX hX rfl) (evt_c ok.toOk (c_eq s_int) (ev_lenQ (md' := .sh) ok.toOk sq_l (j := 2) rfl X.g_len (ev_vsh ok.toOk (i := 1) (j := 1) rfl rfl rfl)) (ev_int (md := .sh))) (evb_retLF (mk := fun r25 => (some r25)) (wkX hX rfl) .sh (by intro _; rfl) (evl_lstN (n := 1) (lnS ln0) (by decide) (evs_cons (ev_ixQ ok.toOk sq_l (ev_vsh ok.toOk (i := 1) (j := 1) rfl rfl rfl) (ev_int (md := .sh))) evs_nil))) (evb_own ok (i := 5) (j := 5) rfl rfl (wkX hX rfl) .sh (evl_nil (md := .sh) (S := tInt)) fun found26 => (evb_forF (LF := (fun (s29 : ((List Int))) => [(sV false (tList tStr) cloth1), (sV false (tList tInt) strands2), (sV false tInt t6.1), (sV false tInt t6.2.1), (sV false (tDict tBool) held7), (sOwn false tInt s29), sAny, sAny])) (s0 := found26) (dr := fun r69 => r69) ok (wkX hX rfl) (evi_range1 ok.toOk (j := 3) rfl X.g_range (ev_lenQ (md' := .sh) ok.toOk sq_l (j := 2) rfl X.g_len (ev_vsh ok.toOk (i := 1) (j := 1) rfl rfl rfl))) (Wk.s (Wk.s (Wk.s (Wk.s (Wk.s (Wk.s (Wk.s (Wk.s Wk.n)))))))) (fun _ => evg_name ok (i := 6) (j := 6) rfl rfl) (fun s29 k30 => (evb_set ok (i := 7) (j := 7) rfl rfl (wkX hX rfl) .sh (ev_call (md' := .sh) ok.toOk (fn_way_within X) (by decide) (j := 4) rfl .sh (eva_cons (md := .sh) (ev_vsh ok.toOk (i := 0) (j := 0) rfl rfl rfl) (eva_cons (md := .sh) (ev_vsh ok.toOk (i := 2) (j := 2) rfl rfl rfl) (eva_cons (md := .sh) (ev_vsh ok.toOk (i := 4) (j := 4) rfl rfl rfl) (eva_cons (md := .sh) (ev_ixQ ok.toOk sq_l (ev_vsh ok.toOk (i := 1) (j := 1) rfl rfl rfl) (ev_vsh ok.toOk (i := 6) (j := 6) rfl rfl rfl)) (eva_cons (md := .sh) (ev_ixQ ok.toOk sq_l (ev_vsh ok.toOk (i := 1) (j := 1) rfl rfl rfl) (ev_mod (md' := .sh) ok.toOk (ev_add (md' := .sh) ok.toOk (ev_vsh ok.toOk (i := 6) (j := 6) rfl rfl rfl) (ev_int (md := .sh))) (ev_lenQ (md' := .sh) ok.toOk sq_l (j := 2) rfl X.g_len (ev_vsh ok.toOk (i := 1) (j := 1) rfl rfl rfl)))) eva_nil)))))) fun part31 => (evb_ifx (wkX hX rfl) (evt_isN ok.toOk (ev_vsh ok.toOk (i := 7) (j := 7) rfl rfl rfl)) (evb_retF (mk := fun _ => Fl.rt none) (wkX hX rfl) .sh (by intro _; rfl) (ev_none (md := .sh))) (evb_extend ok (wkX hX rfl) (i := 5) (j := 5) rfl rfl rfl .sh (ev_ofL (evl_slQ (md := .sh) ok.toOk sq_l (ev_un1 (ev_vsh ok.toOk (i := 7) (j := 7) rfl rfl rfl)) evo_none (evo_some (ev_neg (md' := .sh) ok.toOk (ev_int (md := .sh)))))) fun found58 => (evb_go (by rfl) (Wk.s (Wk.s (Wk.s (Wk.s (Wk.s (Wk.s (Wk.a (Wk.a Wk.n))))))))))))) fun s68 => (evb_retOwn ok.toOk (i := 5) (j := 5) rfl rfl rfl (.inl rfl) (by rfl)))))))
theorem b_round_way {p : Pr} (X : Facts p) : Body p s_round_way N_round_way V_round_way G_round_way 2 (fun (d : ((List Tx) × (List Int) × Unit)) => [(sV false (tList tStr) d.1), (sV false (tList tInt) d.2.1), sAny, sAny, sAny, sAny, sAny, sAny]) (fun r => optL tInt r) r_round_way := fun g ok hX d => bb_round_way X ok hX d.1 d.2.1
theorem fn_round_way {p : Pr} (X : Facts p) : Fn p 3 "round_way" ["cloth", "strands"] (spM p (aCons (tList tStr) (aCons (tList tInt) aNil)) (fun r => optL tInt r) c_round_way) := by
  obtain ⟨f, fd, hF, hm⟩ := X.d_round_way
  exact ⟨f, fd, eq_round_way ▸ fn_rtO (m := 6) hF sc_round_way (.cons (.cons .nil)) rfl rfl (b_round_way X), hm, hF.kp, hF.bindsN fun _ _ _ _ _ _ us hl => match us, hl with | [_, _], _ => rfl⟩
/-! ### above_strand -/
abbrev s_above_strand : Stmt := topS 10
abbrev N_above_strand : List Str := ["cloth", "ends", "strand", "end", "pick"]
abbrev V_above_strand : List Str := ["cloth", "ends", "strand"]
abbrev G_above_strand : List Str := ["len", "range"]
theorem sc_above_strand : Sc s_above_strand N_above_strand V_above_strand ["cloth", "ends", "strand"] G_above_strand := ⟨⟨rfl, rfl, rfl, by decide +kernel, rfl, by decide +kernel, by decide +kernel⟩, by decide +kernel, by decide +kernel, by decide +kernel⟩
def q_above_strand (cloth1 : (List Tx)) (ends2 : Int) (strand3 : Int) : M (List Int) := M.bind (M.bind (M.ok strand3) fun y4 => M.bind (M.ok ends2) fun y5 => M.ok (decide (y4 < y5))) fun c6 => if c6 = true then M.bind (M.bind (M.bind (M.ok cloth1) fun y7 => M.ok (y7.length : Int)) fun y8 => rangeM 0 y8) fun xs20 => compM (fun pick9 => M.bind (M.bind (M.bind (M.bind (M.ok cloth1) fun y10 => M.bind (M.ok pick9) fun y11 => getM y10 y11) fun y12 => M.bind (M.ok strand3) fun y13 => getS y12 y13) fun y14 => M.bind (M.ok (tx ".")) fun y15 => M.ok (decide (y14 = y15))) fun c18 => if c18 = true then M.bind (M.bind (M.ok ends2) fun y16 => M.bind (M.ok pick9) fun y17 => M.ok (y16 + y17)) fun y19 => M.ok (some y19) else M.ok none) xs20 else M.bind (M.bind (M.ok ends2) fun y22 => rangeM 0 y22) fun xs34 => compM (fun end23 => M.bind (M.bind (M.bind (M.bind (M.ok cloth1) fun y26 => M.bind (M.bind (M.ok strand3) fun y24 => M.bind (M.ok ends2) fun y25 => M.ok (y24 - y25)) fun y27 => getM y26 y27) fun y28 => M.bind (M.ok end23) fun y29 => getS y28 y29) fun y30 => M.bind (M.ok (tx "#")) fun y31 => M.ok (decide (y30 = y31))) fun c32 => if c32 = true then M.bind (M.ok end23) fun y33 => M.ok (some y33) else M.ok none) xs34
def f_above_strand (cloth1 : (List Tx)) (ends2 : Int) (strand3 : Int) : M (List Int) := if (decide (strand3 < ends2)) = true then M.bind (rangeM 0 (cloth1.length : Int)) fun xs20 => compM (fun pick9 => M.bind (M.bind (M.bind (getM cloth1 pick9) fun y12 => getS y12 strand3) fun y14 => M.ok (decide (y14 = (tx ".")))) fun c18 => if c18 = true then M.ok (some (ends2 + pick9)) else M.ok none) xs20 else M.bind (rangeM 0 ends2) fun xs34 => compM (fun end23 => M.bind (M.bind (M.bind (getM cloth1 (strand3 - ends2)) fun y28 => getS y28 end23) fun y30 => M.ok (decide (y30 = (tx "#")))) fun c32 => if c32 = true then M.ok (some end23) else M.ok none) xs34
def r_above_strand (d : ((List Tx) × Int × Int × Unit)) : M (List Int) := q_above_strand d.1 d.2.1 d.2.2.1
def c_above_strand (d : ((List Tx) × Int × Int × Unit)) : M (List Int) := f_above_strand d.1 d.2.1 d.2.2.1
theorem eq_above_strand : r_above_strand = c_above_strand := by funext d; first | (simp only [r_above_strand, c_above_strand, q_above_strand, f_above_strand, M.bind_assoc, M.bok]; done) | (simp only [r_above_strand, c_above_strand, q_above_strand, f_above_strand, M.bind_assoc, M.bok]; rfl)
theorem bb_above_strand {p : Pr} (X : Facts p) {g : G} (ok : OkS p (defScope s_above_strand) N_above_strand V_above_strand G_above_strand 0 g) (hX : g.LX = List.replicate N_above_strand.length sAny) (cloth1 : (List Tx)) (ends2 : Int) (strand3 : Int) : EvB g [(sV false (tList tStr) cloth1), (sV false tInt ends2), (sV false tInt strand3), sAny, sAny] (defBody s_above_strand) (fun r => .rtL false tInt r) (q_above_strand cloth1 ends2 strand3) := (evb_ifx (wkX hX rfl) (evt_c ok.toOk c_lt (ev_vsh ok.toOk (i := 2) (j := 2) rfl rfl rfl) (ev_vsh ok.toOk (i := 1) (j := 1) rfl rfl rfl)) (evb_retL (wkX hX rfl) .sh (by intro _; rfl) (evl_lc (md := .sh) (VV' := ["cloth", "pick", "strand", "ends"]) (GG' := []) (i := 4) ok.toOk (evi_range1 ok.toOk (j := 1) rfl X.g_range (ev_lenQ (md' := .sh) ok.toOk sq_l (j := 0) rfl X.g_len (ev_vsh ok.toOk (i := 0) (j := 0) rfl rfl rfl))) rfl rfl no_any (by decide +kernel) (by decide +kernel) (by decide +kernel) (by decide +kernel) (fun g' okc pick9 => (evpts_one (evt_c okc (c_eq s_str) (ev_ixS (md' := .sh) okc (ev_ixQ okc sq_l (ev_vsh okc (i := 0) (j := 0) rfl rfl rfl) (ev_vsh okc (i := 4) (j := 1) rfl rfl rfl)) (ev_vsh okc (i := 2) (j := 2) rfl rfl rfl)) (ev_str (md := .sh) (by decide +kernel))))) (fun g' okc pick9 => (ev_add (md' := .sh) okc (ev_vsh okc (i := 1) (j := 3) rfl rfl rfl) (ev_vsh okc (i := 4) (j := 1) rfl rfl rfl))))) (evb_retL (wkX hX rfl) .sh (by intro _; rfl) (evl_lc (md := .sh) (VV' := ["cloth", "strand", "ends", "end"]) (GG' := []) (i := 3) ok.toOk (evi_range1 ok.toOk (j := 1) rfl X.g_range (ev_vsh ok.toOk (i := 1) (j := 1) rfl rfl rfl)) rfl rfl no_any (by decide +kernel) (by decide +kernel) (by decide +kernel) (by decide +kernel) (fun g' okc end23 => (evpts_one (evt_c okc (c_eq s_str) (ev_ixS (md' := .sh) okc (ev_ixQ okc sq_l (ev_vsh okc (i := 0) (j := 0) rfl rfl rfl) (ev_subt (md' := .sh) okc (ev_vsh okc (i := 2) (j := 1) rfl rfl rfl) (ev_vsh okc (i := 1) (j := 2) rfl rfl rfl))) (ev_vsh okc (i := 3) (j := 3) rfl rfl rfl)) (ev_str (md := .sh) (by decide +kernel))))) (fun g' okc end23 => (ev_vsh okc (i := 3) (j := 3) rfl rfl rfl)))))
theorem b_above_strand {p : Pr} (X : Facts p) : Body p s_above_strand N_above_strand V_above_strand G_above_strand 0 (fun (d : ((List Tx) × Int × Int × Unit)) => [(sV false (tList tStr) d.1), (sV false tInt d.2.1), (sV false tInt d.2.2.1), sAny, sAny]) (fun r => .rtL false tInt r) r_above_strand := fun g ok hX d => bb_above_strand X ok hX d.1 d.2.1 d.2.2.1
theorem fn_above_strand {p : Pr} (X : Facts p) : Fn p 1 "above_strand" ["cloth", "ends", "strand"] (spM p (aCons (tList tStr) (aCons tInt (aCons tInt aNil))) (fun r => .rtL false tInt r) c_above_strand) := by
  obtain ⟨f, fd, hF, hm⟩ := X.d_above_strand
  exact ⟨f, fd, eq_above_strand ▸ fn_rtL (m := 2) hF sc_above_strand (.cons (.cons (.cons .nil))) rfl rfl (b_above_strand X), hm, hF.kp, hF.bindsN fun _ _ _ _ _ _ us hl => match us, hl with | [_, _, _], _ => rfl⟩
/-! ### met_from -/
abbrev s_met_from : Stmt := topS 15
abbrev N_met_from : List Str := ["cloth", "ends", "held", "start", "upwards", "met", "line", "further", "strand", "nearby", "other"]
abbrev V_met_from : List Str := ["cloth", "ends", "held", "start", "upwards", "met", "line", "further", "strand", "nearby", "other"]
abbrev G_met_from : List Str := ["len", "above_strand", "beneath_strand"]
theorem sc_met_from : Sc s_met_from N_met_from V_met_from ["cloth", "ends", "held", "start", "upwards"] G_met_from := ⟨⟨rfl, rfl, rfl, by decide +kernel, rfl, by decide +kernel, by decide +kernel⟩, by decide +kernel, by decide +kernel, by decide +kernel⟩
def r_f_met_from_l1 (held3 : (List (Key × Bool))) : ((List (Key × Bool)) × (List Int)) → Int → M ((List (Key × Bool)) × (List Int)) := fun s40 other41 => M.bind (M.ok ((dgetL held3 (.inl other41)).isSome && (!(dgetL s40.1 (.inl other41)).isSome))) fun c46 => if c46 = true then M.bind (M.ok true) fun y47 => M.bind (M.ok other41) fun i48 => M.bind (dputM s40.1 (.inl i48) y47) fun met49 => M.bind (M.ok other41) fun y51 => M.bind (pushM s40.2 y51) fun further50 => M.ok (met49, further50) else M.ok (s40.1, s40.2)
def f_met_from_l1 (held3 : (List (Key × Bool))) : ((List (Key × Bool)) × (List Int)) → Int → M ((List (Key × Bool)) × (List Int)) := fun s40 other41 => if ((dgetL held3 (.inl other41)).isSome && (!(dgetL s40.1 (.inl other41)).isSome)) = true then M.bind (dputM s40.1 (.inl other41) true) fun met49 => M.bind (pushM s40.2 other41) fun further50 => M.ok (met49, further50) else M.ok (s40.1, s40.2)
theorem eq_f_met_from_l1 (held3 : (List (Key × Bool))) : r_f_met_from_l1 held3 = f_met_from_l1 held3 := by funext s40 other41; first | (simp only [r_f_met_from_l1, f_met_from_l1, M.bind_assoc, M.bok, c_above_strand, c_beneath_strand]; done) | (simp only [r_f_met_from_l1, f_met_from_l1, M.bind_assoc, M.bok, c_above_strand, c_beneath_strand]; rfl)
def r_f_met_from_l2 (cloth1 : (List Tx)) (ends2 : Int) (held3 : (List (Key × Bool))) (upwards5 : Bool) : ((List (Key × Bool)) × (List Int)) → Int → M ((List (Key × Bool)) × (List Int)) := fun s18 strand19 => M.bind (M.bind (M.ok upwards5) fun c39 => if c39 = true then M.bind (M.bind (M.ok cloth1) fun y25 => M.bind (M.bind (M.ok ends2) fun y23 => M.bind (M.bind (M.ok strand19) fun y21 => M.bind (M.ok ()) fun y22 => M.ok (y21, y22)) fun y24 => M.ok (y23, y24)) fun y26 => M.ok (y25, y26)) c_above_strand else M.bind (M.bind (M.ok cloth1) fun y34 => M.bind (M.bind (M.ok ends2) fun y32 => M.bind (M.bind (M.ok strand19) fun y30 => M.bind (M.ok ()) fun y31 => M.ok (y30, y31)) fun y33 => M.ok (y32, y33)) fun y35 => M.ok (y34, y35)) c_beneath_strand) fun nearby20 => M.bind (M.ok nearby20) fun xs53 => M.bind (forM (r_f_met_from_l1 held3) (s18.1, s18.2) xs53) fun (s54 : ((List (Key × Bool)) × (List Int))) => M.ok (s54.1, s54.2)
def f_met_from_l2 (cloth1 : (List Tx)) (ends2 : Int) (held3 : (List (Key × Bool))) (upwards5 : Bool) : ((List (Key × Bool)) × (List Int)) → Int → M ((List (Key × Bool)) × (List Int)) := fun s18 strand19 => M.bind (if upwards5 = true then f_above_strand cloth1 ends2 strand19 else f_beneath_strand cloth1 ends2 strand19) fun nearby20 => M.bind (forM (f_met_from_l1 held3) (s18.1, s18.2) nearby20) fun (s54 : ((List (Key × Bool)) × (List Int))) => M.ok (s54.1, s54.2)
theorem eq_f_met_from_l2 (cloth1 : (List Tx)) (ends2 : Int) (held3 : (List (Key × Bool))) (upwards5 : Bool) : r_f_met_from_l2 cloth1 ends2 held3 upwards5 = f_met_from_l2 cloth1 ends2 held3 upwards5 := by funext s18 strand19; first | (simp only [r_f_met_from_l2, f_met_from_l2, M.bind_assoc, M.bok, eq_f_met_from_l1, c_above_strand, c_beneath_strand]; done) | (simp only [r_f_met_from_l2, f_met_from_l2, M.bind_assoc, M.bok, eq_f_met_from_l1, c_above_strand, c_beneath_strand]; rfl)
def r_f_met_from_t3  : ((List (Key × Bool)) × (List Int)) → M Bool := fun s13 => M.bind (M.bind (M.ok s13.2) fun y14 => M.ok (y14.length : Int)) fun y15 => M.bind (M.ok (0 : Int)) fun y16 => M.ok (decide (y16 < y15))
def f_met_from_t3  : ((List (Key × Bool)) × (List Int)) → M Bool := fun s13 => M.ok (decide ((0 : Int) < (s13.2.length : Int)))
theorem eq_f_met_from_t3  : r_f_met_from_t3  = f_met_from_t3  := by funext s13; first | (simp only [r_f_met_from_t3, f_met_from_t3, M.bind_assoc, M.bok, eq_f_met_from_l1, eq_f_met_from_l2, c_above_strand, c_beneath_strand]; done) | (simp only [r_f_met_from_t3, f_met_from_t3, M.bind_assoc, M.bok, eq_f_met_from_l1, eq_f_met_from_l2, c_above_strand, c_beneath_strand]; rfl)
def r_f_met_from_w4 (cloth1 : (List Tx)) (ends2 : Int) (held3 : (List (Key × Bool))) (upwards5 : Bool) : ((List (Key × Bool)) × (List Int)) → M ((List (Key × Bool)) × (List Int)) := fun s13 => M.bind (M.ok []) fun further17 => M.bind (M.ok s13.2) fun xs55 => M.bind (forM (r_f_met_from_l2 cloth1 ends2 held3 upwards5) (s13.1, further17) xs55) fun (s56 : ((List (Key × Bool)) × (List Int))) => M.bind (M.ok s56.2) fun line58 => M.ok (s56.1, line58)
def f_met_from_w4 (cloth1 : (List Tx)) (ends2 : Int) (held3 : (List (Key × Bool))) (upwards5 : Bool) : ((List (Key × Bool)) × (List Int)) → M ((List (Key × Bool)) × (List Int)) := fun s13 => let further17 : (List Int) := []; M.bind (forM (f_met_from_l2 cloth1 ends2 held3 upwards5) (s13.1, further17) s13.2) fun (s56 : ((List (Key × Bool)) × (List Int))) => let line58 : (List Int) := s56.2; M.ok (s56.1, line58)
theorem eq_f_met_from_w4 (cloth1 : (List Tx)) (ends2 : Int) (held3 : (List (Key × Bool))) (upwards5 : Bool) : r_f_met_from_w4 cloth1 ends2 held3 upwards5 = f_met_from_w4 cloth1 ends2 held3 upwards5 := by funext s13; first | (simp only [r_f_met_from_w4, f_met_from_w4, M.bind_assoc, M.bok, eq_f_met_from_l1, eq_f_met_from_l2, eq_f_met_from_t3, c_above_strand, c_beneath_strand]; done) | (simp only [r_f_met_from_w4, f_met_from_w4, M.bind_assoc, M.bok, eq_f_met_from_l1, eq_f_met_from_l2, eq_f_met_from_t3, c_above_strand, c_beneath_strand]; rfl)
def q_met_from (cloth1 : (List Tx)) (ends2 : Int) (held3 : (List (Key × Bool))) (start4 : Int) (upwards5 : Bool) : M (List (Key × Bool)) := M.bind (M.ok start4) fun i7 => M.bind (M.ok true) fun y8 => M.bind (M.ok [(.inl i7, y8)]) fun met6 => M.bind (M.bind (M.ok start4) fun y10 => M.bind (M.ok []) fun y11 => M.ok (y10 :: y11)) fun line9 => M.bind (whileM r_f_met_from_t3 (r_f_met_from_w4 cloth1 ends2 held3 upwards5) fuel (met6, line9)) fun (s59 : ((List (Key × Bool)) × (List Int))) => M.ok s59.1
def f_met_from (cloth1 : (List Tx)) (ends2 : Int) (held3 : (List (Key × Bool))) (start4 : Int) (upwards5 : Bool) : M (List (Key × Bool)) := let met6 : (List (Key × Bool)) := [(.inl start4, true)]; let line9 : (List Int) := [start4]; M.bind (whileM f_met_from_t3 (f_met_from_w4 cloth1 ends2 held3 upwards5) fuel (met6, line9)) fun (s59 : ((List (Key × Bool)) × (List Int))) => M.ok s59.1
def r_met_from (d : ((List Tx) × Int × (List (Key × Bool)) × Int × Bool × Unit)) : M (List (Key × Bool)) := q_met_from d.1 d.2.1 d.2.2.1 d.2.2.2.1 d.2.2.2.2.1
def c_met_from (d : ((List Tx) × Int × (List (Key × Bool)) × Int × Bool × Unit)) : M (List (Key × Bool)) := f_met_from d.1 d.2.1 d.2.2.1 d.2.2.2.1 d.2.2.2.2.1
theorem eq_met_from : r_met_from = c_met_from := by funext d; first | (simp only [r_met_from, c_met_from, q_met_from, f_met_from, M.bind_assoc, M.bok, eq_f_met_from_l1, eq_f_met_from_l2, eq_f_met_from_t3, eq_f_met_from_w4, c_above_strand, c_beneath_strand]; done) | (simp only [r_met_from, c_met_from, q_met_from, f_met_from, M.bind_assoc, M.bok, eq_f_met_from_l1, eq_f_met_from_l2, eq_f_met_from_t3, eq_f_met_from_w4, c_above_strand, c_beneath_strand]; rfl)
theorem bb_met_from {p : Pr} (X : Facts p) {g : G} (ok : OkS p (defScope s_met_from) N_met_from V_met_from G_met_from 1 g) (hX : g.LX = List.replicate N_met_from.length sAny) (cloth1 : (List Tx)) (ends2 : Int) (held3 : (List (Key × Bool))) (start4 : Int) (upwards5 : Bool) : EvB g [(sV false (tList tStr) cloth1), (sV false tInt ends2), (sV false (tDict tBool) held3), (sV false tInt start4), (sV false tBool upwards5), sAny, sAny, sAny, sAny, sAny, sAny] (defBody s_met_from) (fun r => .rt false (tDict tBool) r) (q_met_from cloth1 ends2 held3 start4 upwards5) := (evb_newD1 (S := tBool) ok (wkX hX rfl) (i := 5) (j := 5) rfl rfl flBool (ev_vsh ok.toOk (i := 3) (j := 3) rfl rfl rfl) (ev_bool (md := .sh)) fun met6 => (evb_set ok (i := 6) (j := 6) rfl rfl (wkX hX rfl) .sh (ev_ofL (evl_lstN (n := 1) (lnS ln0) (by decide) (evs_cons (ev_vsh ok.toOk (i := 3) (j := 3) rfl rfl rfl) evs_nil))) fun line9 => (evb_while (LF := (fun (s13 : ((List (Key × Bool)) × (List Int))) => [(sV false (tList tStr) cloth1), (sV false tInt ends2), (sV false (tDict tBool) held3), (sV false tInt start4), (sV false tBool upwards5), (sDict false tBool s13.1), (sV false (tList tInt) s13.2), sAny, sAny, sAny, sAny])) (s0 := (met6, line9)) ok (fun _ => wkX hX rfl) (Wk.s (Wk.s (Wk.s (Wk.s (Wk.s (Wk.s (Wk.s (Wk.s (Wk.s (Wk.s (Wk.s Wk.n))))))))))) (fun s13 => (evt_c ok.toOk c_gt (ev_lenQ (md' := .sh) ok.toOk sq_l (j := 0) rfl X.g_len (ev_vsh ok.toOk (i := 6) (j := 6) rfl rfl rfl)) (ev_int (md := .sh)))) (fun s13 => (evb_own ok (i := 7) (j := 7) rfl rfl (wkX hX rfl) .sh (evl_nil (md := .sh) (S := tInt)) fun further17 => (evb_for (LF := (fun (s18 : ((List (Key × Bool)) × (List Int))) => [(sV false (tList tStr) cloth1), (sV false tInt ends2), (sV false (tDict tBool) held3), (sV false tInt start4), (sV false tBool upwards5), (sDict false tBool s18.1), (sV false (tList tInt) s13.2), (sOwn false tInt s18.2), sAny, sAny, sAny])) (s0 := (s13.1, further17)) ok (wkX hX rfl) (evi_seq ok.toOk sq_l (ev_vsh ok.toOk (i := 6) (j := 6) rfl rfl rfl)) (Wk.s (Wk.s (Wk.s (Wk.s (Wk.s (Wk.s (Wk.s (Wk.s (Wk.s (Wk.s (Wk.s Wk.n))))))))))) (fun _ => evg_name ok (i := 8) (j := 8) rfl rfl) (fun s18 strand19 => (evb_set ok (i := 9) (j := 9) rfl rfl (wkX hX rfl) .sh (ev_ifx (evt_of (ev_vsh ok.toOk (i := 4) (j := 4) rfl rfl rfl)) (ev_ofL (evl_call (md' := .sh) ok.toOk (fn_above_strand X) (by decide) (j := 1) rfl .sh (eva_cons (md := .sh) (ev_vsh ok.toOk (i := 0) (j := 0) rfl rfl rfl) (eva_cons (md := .sh) (ev_vsh ok.toOk (i := 1) (j := 1) rfl rfl rfl) (eva_cons (md := .sh) (ev_vsh ok.toOk (i := 8) (j := 8) rfl rfl rfl) eva_nil))))) (ev_ofL (evl_call (md' := .sh) ok.toOk (fn_beneath_strand X) (by decide) (j := 2) rfl .sh (eva_cons (md := .sh) (ev_vsh ok.toOk (i := 0) (j := 0) rfl rfl rfl) (eva_cons (md := .sh) (ev_vsh ok.toOk (i := 1) (j := 1) rfl rfl rfl) (eva_cons (md := .sh) (ev_vsh ok.toOk (i := 8) (j := 8) rfl rfl rfl) eva_nil)))))) fun nearby20 => (evb_for (LF := (fun (s40 : ((List (Key × Bool)) × (List Int))) => [(sV false (tList tStr) cloth1), (sV false tInt ends2), (sV false (tDict tBool) held3), (sV false tInt start4), (sV false tBool upwards5), (sDict false tBool s40.1), (sV false (tList tInt) s13.2), (sOwn false tInt s40.2), (sV false tInt strand19), (sV false (tList tInt) nearby20), sAny])) (s0 := (s18.1, s18.2)) ok (wkX hX rfl) (evi_seq ok.toOk sq_l (ev_vsh ok.toOk (i := 9) (j := 9) rfl rfl rfl)) (Wk.s (Wk.s (Wk.s (Wk.s (Wk.s (Wk.s (Wk.s (Wk.s (Wk.s (Wk.s (Wk.s Wk.n))))))))))) (fun _ => evg_name ok (i := 10) (j := 10) rfl rfl) (fun s40 other41 => (evb_ifl (wkX hX rfl) (EvW.t (evw_andP (pureT (m := M.bind (M.ok other41) fun y42 => M.bind (M.ok held3) fun y43 => M.ok ((dgetL y43 (.inl y42)).isSome)) (evt_inV ok.toOk (ev_vsh ok.toOk (i := 10) (j := 10) rfl rfl rfl) (ev_vsh ok.toOk (i := 2) (j := 2) rfl rfl rfl)) rfl) (pureW (m := M.bind (M.ok other41) fun y44 => M.ok (!(dgetL s40.1 (.inl y44)).isSome)) (evw_and1 (evt_notinOwn ok.toOk (i := 5) (j := 5) rfl rfl rfl (ev_vsh ok.toOk (i := 10) (j := 10) rfl rfl rfl))) rfl))) (evb_putD ok (wkX hX rfl) (i := 5) (j := 5) rfl rfl rfl .sh (ev_bool (md := .sh)) (ev_vsh ok.toOk (i := 10) (j := 10) rfl rfl rfl) fun met49 => (evb_append ok (wkX hX rfl) (i := 7) (j := 7) rfl rfl rfl .sh (ev_vsh ok.toOk (i := 10) (j := 10) rfl rfl rfl) fun further50 => (evb_go (by rfl) (Wk.s (Wk.s (Wk.s (Wk.s (Wk.s (Wk.s (Wk.s (Wk.s (Wk.s (Wk.s (Wk.a Wk.n)))))))))))))) (evb_go (by rfl) (Wk.s (Wk.s (Wk.s (Wk.s (Wk.s (Wk.s (Wk.s (Wk.s (Wk.s (Wk.s (Wk.a Wk.n)))))))))))))) fun s54 => (evb_go (by rfl) (Wk.s (Wk.s (Wk.s (Wk.s (Wk.s (Wk.s (Wk.s (Wk.s (Wk.a (Wk.a (Wk.s Wk.n))))))))))))))) fun s56 => (evb_freeze (i := 7) rfl (evb_set ok (i := 6) (j := 6) rfl rfl (wkX hX rfl) .sh (ev_vsh ok.toOk (i := 7) (j := 7) rfl rfl rfl) fun line58 => (evb_go (by rfl) (Wk.s (Wk.s (Wk.s (Wk.s (Wk.s (Wk.s (Wk.s (Wk.a (Wk.s (Wk.s (Wk.s Wk.n))))))))))))))))) fun s59 => (evb_freezeD (i := 5) rfl (evb_ret (wkX hX rfl) .sh (by intro _; rfl) (ev_vsh ok.toOk (i := 5) (j := 5) rfl rfl rfl))))))
theorem b_met_from {p : Pr} (X : Facts p) : Body p s_met_from N_met_from V_met_from G_met_from 1 (fun (d : ((List Tx) × Int × (List (Key × Bool)) × Int × Bool × Unit)) => [(sV false (tList tStr) d.1), (sV false tInt d.2.1), (sV false (tDict tBool) d.2.2.1), (sV false tInt d.2.2.2.1), (sV false tBool d.2.2.2.2.1), sAny, sAny, sAny, sAny, sAny, sAny]) (fun r => .rt false (tDict tBool) r) r_met_from := fun g ok hX d => bb_met_from X ok hX d.1 d.2.1 d.2.2.1 d.2.2.2.1 d.2.2.2.2.1
theorem fn_met_from {p : Pr} (X : Facts p) : Fn p 2 "met_from" ["cloth", "ends", "held", "start", "upwards"] (spM p (aCons (tList tStr) (aCons tInt (aCons (tDict tBool) (aCons tInt (aCons tBool aNil))))) (fun r => .rt false (tDict tBool) r) c_met_from) := by
  obtain ⟨f, fd, hF, hm⟩ := X.d_met_from
  exact ⟨f, fd, eq_met_from ▸ fn_rt (m := 6) hF sc_met_from (.cons (.cons (.cons (.cons (.cons .nil))))) rfl rfl (b_met_from X), hm, hF.kp, hF.bindsN fun _ _ _ _ _ _ us hl => match us, hl with | [_, _, _, _, _], _ => rfl⟩
/-! ### lifted_off -/
abbrev s_lifted_off : Stmt := topS 16
abbrev N_lifted_off : List Str := ["cloth", "strands", "ends", "picks", "held", "lower", "upper", "strand"]
abbrev V_lifted_off : List Str := ["cloth", "strands", "ends", "picks", "held", "lower", "upper"]
abbrev G_lifted_off : List Str := ["measured", "held_strands", "met_from", "len"]
theorem sc_lifted_off : Sc s_lifted_off N_lifted_off V_lifted_off ["cloth", "strands"] G_lifted_off := ⟨⟨rfl, rfl, rfl, by decide +kernel, rfl, by decide +kernel, by decide +kernel⟩, by decide +kernel, by decide +kernel, by decide +kernel⟩
def q_lifted_off (cloth1 : (List Tx)) (strands2 : (List Int)) : M (Option (List Int)) := M.bind (M.bind (M.bind (M.ok cloth1) fun y3 => M.bind (M.ok ()) fun y4 => M.ok (y3, y4)) c_measured) fun t6 => M.bind (M.bind (M.bind (M.ok strands2) fun y12 => M.bind (M.bind (M.bind (M.ok t6.1) fun y8 => M.bind (M.ok t6.2.1) fun y9 => M.ok (y8 + y9)) fun y10 => M.bind (M.ok ()) fun y11 => M.ok (y10, y11)) fun y13 => M.ok (y12, y13)) c_held_strands) fun held7 => M.bind (M.bind (M.bind (M.ok cloth1) fun y27 => M.bind (M.bind (M.ok t6.1) fun y25 => M.bind (M.bind (M.ok held7) fun y23 => M.bind (M.bind (M.bind (M.ok strands2) fun y17 => M.bind (M.ok (0 : Int)) fun y18 => getM y17 y18) fun y21 => M.bind (M.bind (M.ok false) fun y19 => M.bind (M.ok ()) fun y20 => M.ok (y19, y20)) fun y22 => M.ok (y21, y22)) fun y24 => M.ok (y23, y24)) fun y26 => M.ok (y25, y26)) fun y28 => M.ok (y27, y28)) c_met_from) fun lower16 => M.bind (M.bind (M.bind (M.ok lower16) fun y34 => M.ok (y34.length : Int)) fun y36 => M.bind (M.bind (M.ok strands2) fun y35 => M.ok (y35.length : Int)) fun y37 => M.ok (decide (y36 < y37))) fun c38 => if c38 = true then M.bind (M.bind (M.ok strands2) fun xs44 => compM (fun strand39 => M.bind (M.bind (M.ok strand39) fun y40 => M.bind (M.ok lower16) fun y41 => M.ok (!(dgetL y41 (.inl y40)).isSome)) fun c42 => if c42 = true then M.bind (M.ok strand39) fun y43 => M.ok (some y43) else M.ok none) xs44) fun r45 => M.ok (some r45) else M.bind (M.bind (M.bind (M.ok cloth1) fun y57 => M.bind (M.bind (M.ok t6.1) fun y55 => M.bind (M.bind (M.ok held7) fun y53 => M.bind (M.bind (M.bind (M.ok strands2) fun y47 => M.bind (M.ok (0 : Int)) fun y48 => getM y47 y48) fun y51 => M.bind (M.bind (M.ok true) fun y49 => M.bind (M.ok ()) fun y50 => M.ok (y49, y50)) fun y52 => M.ok (y51, y52)) fun y54 => M.ok (y53, y54)) fun y56 => M.ok (y55, y56)) fun y58 => M.ok (y57, y58)) c_met_from) fun upper46 => M.bind (M.bind (M.bind (M.ok upper46) fun y64 => M.ok (y64.length : Int)) fun y66 => M.bind (M.bind (M.ok strands2) fun y65 => M.ok (y65.length : Int)) fun y67 => M.ok (decide (y66 < y67))) fun c68 => if c68 = true then M.bind (M.bind (M.ok strands2) fun xs74 => compM (fun strand69 => M.bind (M.bind (M.ok strand69) fun y70 => M.bind (M.ok upper46) fun y71 => M.ok ((dgetL y71 (.inl y70)).isSome)) fun c72 => if c72 = true then M.bind (M.ok strand69) fun y73 => M.ok (some y73) else M.ok none) xs74) fun r75 => M.ok (some r75) else M.bind (M.ok ()) fun _ => M.ok none
def f_lifted_off (cloth1 : (List Tx)) (strands2 : (List Int)) : M (Option (List Int)) := M.bind (f_measured cloth1) fun t6 => M.bind (f_held_strands strands2 (t6.1 + t6.2.1)) fun held7 => M.bind (M.bind (getM strands2 (0 : Int)) fun y32 => f_met_from cloth1 t6.1 held7 y32 false) fun lower16 => if (decide ((lower16.length : Int) < (strands2.length : Int))) = true then M.bind (compM (fun strand39 => if (!(dgetL lower16 (.inl strand39)).isSome) = true then M.ok (some strand39) else M.ok none) strands2) fun r45 => M.ok (some r45) else M.bind (M.bind (getM strands2 (0 : Int)) fun y62 => f_met_from cloth1 t6.1 held7 y62 true) fun upper46 => if (decide ((upper46.length : Int) < (strands2.length : Int))) = true then M.bind (compM (fun strand69 => if (dgetL upper46 (.inl strand69)).isSome = true then M.ok (some strand69) else M.ok none) strands2) fun r75 => M.ok (some r75) else M.ok none
def r_lifted_off (d : ((List Tx) × (List Int) × Unit)) : M (Option (List Int)) := q_lifted_off d.1 d.2.1
def c_lifted_off (d : ((List Tx) × (List Int) × Unit)) : M (Option (List Int)) := f_lifted_off d.1 d.2.1
theorem eq_lifted_off : r_lifted_off = c_lifted_off := by funext d; first | (simp only [r_lifted_off, c_lifted_off, q_lifted_off, f_lifted_off, M.bind_assoc, M.bok, c_held_strands, c_measured, c_met_from]; done) | (simp only [r_lifted_off, c_lifted_off, q_lifted_off, f_lifted_off, M.bind_assoc, M.bok, c_held_strands, c_measured, c_met_from]; rfl)
theorem bb_lifted_off {p : Pr} (X : Facts p) {g : G} (ok : OkS p (defScope s_lifted_off) N_lifted_off V_lifted_off G_lifted_off 2 g) (hX : g.LX = List.replicate N_lifted_off.length sAny) (cloth1 : (List Tx)) (strands2 : (List Int)) : EvB g [(sV false (tList tStr) cloth1), (sV false (tList tInt) strands2), sAny, sAny, sAny, sAny, sAny, sAny] (defBody s_lifted_off) (fun r => optL tInt r) (q_lifted_off cloth1 strands2) := (evb_asg ok (wkX hX rfl) (ev_call (md' := .sh) ok.toOk (fn_measured X) (by decide) (j := 0) rfl .sh (eva_cons (md := .sh) (ev_vsh ok.toOk (i := 0) (j := 0) rfl rfl rfl) eva_nil)) (evg_tup ok.toOk (lenS (lenS len0)) (evgs_cons (evg_name ok (i := 2) (j := 2) rfl rfl) fun _ => (evgs_cons (evg_name ok (i := 3) (j := 3) rfl rfl) fun _ => evgs_nil))) fun t6 => (evb_set ok (i := 4) (j := 4) rfl rfl (wkX hX rfl) .sh (ev_call (md' := .sh) ok.toOk (fn_held_strands X) (by decide) (j := 1) rfl .sh (eva_cons (md := .sh) (ev_vsh ok.toOk (i := 1) (j := 1) rfl rfl rfl) (eva_cons (md := .sh) (ev_add (md' := .sh) ok.toOk (ev_vsh ok.toOk (i := 2) (j := 2) rfl rfl rfl) (ev_vsh ok.toOk (i := 3) (j := 3) rfl rfl rfl)) eva_nil))) fun held7 => (evb_set ok (i := 5) (j := 5) rfl rfl (wkX hX rfl) .sh (ev_call (md' := .sh) ok.toOk (fn_met_from X) (by decide) (j := 2) rfl .sh (eva_cons (md := .sh) (ev_vsh ok.toOk (i := 0) (j := 0) rfl rfl rfl) (eva_cons (md := .sh) (ev_vsh ok.toOk (i := 2) (j := 2) rfl rfl rfl) (eva_cons (md := .sh) (ev_vsh ok.toOk (i := 4) (j := 4) rfl rfl rfl) (eva_cons (md := .sh) (ev_ixQ ok.toOk sq_l (ev_vsh ok.toOk (i := 1) (j := 1) rfl rfl rfl) (ev_int (md := .sh))) (eva_cons (md := .sh) (ev_bool (md := .sh)) eva_nil)))))) fun lower16 => (evb_ifx (wkX hX rfl) (evt_c ok.toOk c_lt (ev_lenD (md' := .sh) ok.toOk (j := 3) rfl X.g_len (ev_vsh ok.toOk (i := 5) (j := 5) rfl rfl rfl)) (ev_lenQ (md' := .sh) ok.toOk sq_l (j := 3) rfl X.g_len (ev_vsh ok.toOk (i := 1) (j := 1) rfl rfl rfl))) (evb_retLF (mk := fun r45 => (some r45)) (wkX hX rfl) .sh (by intro _; rfl) (evl_lc (md := .sh) (VV' := ["strand", "lower"]) (GG' := []) (i := 7) ok.toOk (evi_seq ok.toOk sq_l (ev_vsh ok.toOk (i := 1) (j := 1) rfl rfl rfl)) rfl rfl no_any (by decide +kernel) (by decide +kernel) (by decide +kernel) (by decide +kernel) (fun g' okc strand39 => (evpts_one (evt_notinV okc (ev_vsh okc (i := 7) (j := 0) rfl rfl rfl) (ev_vsh okc (i := 5) (j := 1) rfl rfl rfl)))) (fun g' okc strand39 => (ev_vsh okc (i := 7) (j := 0) rfl rfl rfl)))) (evb_set ok (i := 6) (j := 6) rfl rfl (wkX hX rfl) .sh (ev_call (md' := .sh) ok.toOk (fn_met_from X) (by decide) (j := 2) rfl .sh (eva_cons (md := .sh) (ev_vsh ok.toOk (i := 0) (j := 0) rfl rfl rfl) (eva_cons (md := .sh) (ev_vsh ok.toOk (i := 2) (j := 2) rfl rfl rfl) (eva_cons (md := .sh) (ev_vsh ok.toOk (i := 4) (j := 4) rfl rfl rfl) (eva_cons (md := .sh) (ev_ixQ ok.toOk sq_l (ev_vsh ok.toOk (i := 1) (j := 1) rfl rfl rfl) (ev_int (md := .sh))) (eva_cons (md := .sh) (ev_bool (md := .sh)) eva_nil)))))) fun upper46 => (evb_ifx (wkX hX rfl) (evt_c ok.toOk c_lt (ev_lenD (md' := .sh) ok.toOk (j := 3) rfl X.g_len (ev_vsh ok.toOk (i := 6) (j := 6) rfl rfl rfl)) (ev_lenQ (md' := .sh) ok.toOk sq_l (j := 3) rfl X.g_len (ev_vsh ok.toOk (i := 1) (j := 1) rfl rfl rfl))) (evb_retLF (mk := fun r75 => (some r75)) (wkX hX rfl) .sh (by intro _; rfl) (evl_lc (md := .sh) (VV' := ["strand", "upper"]) (GG' := []) (i := 7) ok.toOk (evi_seq ok.toOk sq_l (ev_vsh ok.toOk (i := 1) (j := 1) rfl rfl rfl)) rfl rfl no_any (by decide +kernel) (by decide +kernel) (by decide +kernel) (by decide +kernel) (fun g' okc strand69 => (evpts_one (evt_inV okc (ev_vsh okc (i := 7) (j := 0) rfl rfl rfl) (ev_vsh okc (i := 6) (j := 1) rfl rfl rfl)))) (fun g' okc strand69 => (ev_vsh okc (i := 7) (j := 0) rfl rfl rfl)))) (evb_retF (mk := fun _ => none) (wkX hX rfl) .sh (by intro _; rfl) (ev_none (md := .sh)))))))))
theorem b_lifted_off {p : Pr} (X : Facts p) : Body p s_lifted_off N_lifted_off V_lifted_off G_lifted_off 2 (fun (d : ((List Tx) × (List Int) × Unit)) => [(sV false (tList tStr) d.1), (sV false (tList tInt) d.2.1), sAny, sAny, sAny, sAny, sAny, sAny]) (fun r => optL tInt r) r_lifted_off := fun g ok hX d => bb_lifted_off X ok hX d.1 d.2.1
theorem fn_lifted_off {p : Pr} (X : Facts p) : Fn p 3 "lifted_off" ["cloth", "strands"] (spM p (aCons (tList tStr) (aCons (tList tInt) aNil)) (fun r => optL tInt r) c_lifted_off) := by
  obtain ⟨f, fd, hF, hm⟩ := X.d_lifted_off
  exact ⟨f, fd, eq_lifted_off ▸ fn_rtO (m := 6) hF sc_lifted_off (.cons (.cons .nil)) rfl rfl (b_lifted_off X), hm, hF.kp, hF.bindsN fun _ _ _ _ _ _ us hl => match us, hl with | [_, _], _ => rfl⟩
/-! ### _law_whole -/
abbrev s__law_whole : Stmt := topS 23
abbrev N__law_whole : List Str := ["found"]
abbrev V__law_whole : List Str := ["found"]
abbrev G__law_whole : List Str := ["int", "isinstance", "bool"]
theorem sc__law_whole : Sc s__law_whole N__law_whole V__law_whole ["found"] G__law_whole := ⟨⟨rfl, rfl, rfl, by decide +kernel, rfl, by decide +kernel, by decide +kernel⟩, by decide +kernel, by decide +kernel, by decide +kernel⟩
def q__law_whole (found1 : Int) : M Bool := M.ok (true && (!false))
def f_law_whole (found1 : Int) : M Bool := M.ok (true && (!false))
def r__law_whole (d : (Int × Unit)) : M Bool := q__law_whole d.1
def c__law_whole (d : (Int × Unit)) : M Bool := f_law_whole d.1
theorem eq__law_whole : r__law_whole = c__law_whole := by funext d; first | (simp only [r__law_whole, c__law_whole, q__law_whole, f_law_whole, M.bind_assoc, M.bok]; done) | (simp only [r__law_whole, c__law_whole, q__law_whole, f_law_whole, M.bind_assoc, M.bok]; rfl)
theorem bb__law_whole {p : Pr} (X : Facts p) {g : G} (ok : OkS p (defScope s__law_whole) N__law_whole V__law_whole G__law_whole 0 g) (hX : g.LX = List.replicate N__law_whole.length sAny) (found1 : Int) : EvB g [(sV false tInt found1)] (defBody s__law_whole) (fun r => .rt false tBool r) (q__law_whole found1) := (evb_ret (wkX hX rfl) .sh (by intro _; rfl) (ev_andP (pureE (m := M.bind (M.ok found1) fun y2 => M.ok true) (ev_isi (md' := .sh) (r := true) ok.toOk (j := 1) rfl X.g_isinstance i_int (by decide +kernel) (ev_vsh ok.toOk (i := 0) (j := 0) rfl rfl rfl) (ev_ty (n := "int") (md := .sh) ok.toOk (j := 0) rfl X.g_int (by decide +kernel))) rfl) (pureE (m := M.bind (M.bind (M.ok found1) fun y3 => M.ok false) fun y4 => M.ok (!y4)) (ev_one (ev_not (md' := .sh) (ev_isi (md' := .sh) (r := false) ok.toOk (j := 1) rfl X.g_isinstance i_int (by decide +kernel) (ev_vsh ok.toOk (i := 0) (j := 0) rfl rfl rfl) (ev_ty (n := "bool") (md := .sh) ok.toOk (j := 2) rfl X.g_bool (by decide +kernel))))) rfl)))
theorem b__law_whole {p : Pr} (X : Facts p) : Body p s__law_whole N__law_whole V__law_whole G__law_whole 0 (fun (d : (Int × Unit)) => [(sV false tInt d.1)]) (fun r => .rt false tBool r) r__law_whole := fun g ok hX d => bb__law_whole X ok hX d.1
theorem fn__law_whole {p : Pr} (X : Facts p) : Fn p 1 "_law_whole" ["found"] (spM p (aCons tInt aNil) (fun r => .rt false tBool r) c__law_whole) := by
  obtain ⟨f, fd, hF, hm⟩ := X.d__law_whole
  exact ⟨f, fd, eq__law_whole ▸ fn_rt (m := 0) hF sc__law_whole (.cons .nil) rfl rfl (b__law_whole X), hm, hF.kp, hF.bindsN fun _ _ _ _ _ _ us hl => match us, hl with | [_], _ => rfl⟩
/-! ### _law_numbered -/
abbrev s__law_numbered : Stmt := topS 26
abbrev N__law_numbered : List Str := ["found", "some", "one"]
abbrev V__law_numbered : List Str := ["found", "some"]
abbrev G__law_numbered : List Str := ["list", "isinstance", "len", "all"]
theorem sc__law_numbered : Sc s__law_numbered N__law_numbered V__law_numbered ["found", "some"] G__law_numbered := ⟨⟨rfl, rfl, rfl, by decide +kernel, rfl, by decide +kernel, by decide +kernel⟩, by decide +kernel, by decide +kernel, by decide +kernel⟩
def q__law_numbered (found1 : (Option (List Int))) (some2 : (List Int)) : M Bool := M.bind (M.bind (M.bind (M.bind (M.ok found1) fun y3 => M.ok (y3.isSome && true)) fun y4 => M.ok (!y4)) fun c9 => if c9 = true then M.ok true else M.bind (M.bind (M.bind (M.ok found1) fun y5 => unM y5) fun y6 => M.ok (y6.length : Int)) fun y7 => M.bind (M.ok (0 : Int)) fun y8 => M.ok (decide (y7 = y8))) fun c11 => if c11 = true then M.ok false else M.bind (M.bind (M.bind (M.ok found1) fun y13 => unM y13) fun xs24 => compM (fun one14 => M.bind (M.ok true) fun c22 => if c22 = true then M.bind (M.bind (M.bind (M.bind (M.ok one14) fun y15 => M.bind (M.ok ()) fun y16 => M.ok (y15, y16)) c__law_whole) fun c20 => if c20 = true then M.bind (M.ok one14) fun y18 => M.bind (M.ok some2) fun y19 => M.ok (decide (y18 ∈ y19)) else M.ok false) fun y23 => M.ok (some y23) else M.ok none) xs24) fun y25 => M.ok (y25.all id)
def f_law_numbered (found1 : (Option (List Int))) (some2 : (List Int)) : M Bool := M.bind (if (!(found1.isSome && true)) = true then M.ok true else M.bind (M.bind (unM found1) fun y6 => M.ok (y6.length : Int)) fun y7 => M.ok (decide (y7 = (0 : Int)))) fun c27 => if c27 = true then M.ok false else M.bind (M.bind (unM found1) fun xs24 => compM (fun one14 => M.bind (M.bind (f_law_whole one14) fun c21 => if c21 = true then M.ok (decide (one14 ∈ some2)) else M.ok false) fun y23 => M.ok (some y23)) xs24) fun y25 => M.ok (y25.all id)
def r__law_numbered (d : ((Option (List Int)) × (List Int) × Unit)) : M Bool := q__law_numbered d.1 d.2.1
def c__law_numbered (d : ((Option (List Int)) × (List Int) × Unit)) : M Bool := f_law_numbered d.1 d.2.1
theorem eq__law_numbered : r__law_numbered = c__law_numbered := by funext d; first | (simp only [r__law_numbered, c__law_numbered, q__law_numbered, f_law_numbered, M.bind_assoc, M.bok, c__law_whole]; done) | (simp only [r__law_numbered, c__law_numbered, q__law_numbered, f_law_numbered, M.bind_assoc, M.bok, c__law_whole]; rfl)
theorem bb__law_numbered {p : Pr} (X : Facts p) {g : G} (ok : OkS p (defScope s__law_numbered) N__law_numbered V__law_numbered G__law_numbered 1 g) (hX : g.LX = List.replicate N__law_numbered.length sAny) (found1 : (Option (List Int))) (some2 : (List Int)) : EvB g [(sV false (tOpt (tList tInt)) found1), (sV false (tList tInt) some2), sAny] (defBody s__law_numbered) (fun r => .rt false tBool r) (q__law_numbered found1 some2) := (evb_ifx (wkX hX rfl) (EvW.t (evw_or (evt_not (evt_of (ev_isiO (md' := .sh) (r := true) ok.toOk (j := 1) rfl X.g_isinstance i_list (by decide +kernel) (by decide +kernel) (ev_vsh ok.toOk (i := 0) (j := 0) rfl rfl rfl) (ev_ty (n := "list") (md := .sh) ok.toOk (j := 0) rfl X.g_list (by decide +kernel))))) (evw_or1 (evt_c ok.toOk (c_eq s_int) (ev_lenQ (md' := .sh) ok.toOk sq_l (j := 2) rfl X.g_len (ev_un1 (ev_vsh ok.toOk (i := 0) (j := 0) rfl rfl rfl))) (ev_int (md := .sh)))))) (evb_ret (wkX hX rfl) .sh (by intro _; rfl) (ev_bool (md := .sh))) (evb_ret (wkX hX rfl) .sh (by intro _; rfl) (ev_all (md' := .sh) ok.toOk (j := 3) rfl X.g_all (ev_ofL (evl_lc (md := .sh) (VV' := ["one", "some"]) (GG' := ["_law_whole"]) (i := 2) ok.toOk (evi_seq ok.toOk sq_l (ev_un1 (ev_vsh ok.toOk (i := 0) (j := 0) rfl rfl rfl))) rfl rfl no_any (by decide +kernel) (by decide +kernel) (by decide +kernel) (by decide +kernel) (fun g' okc one14 => evpts_nil) (fun g' okc one14 => (ev_and (ev_call (md' := .sh) okc (fn__law_whole X) (by decide) (j := 0) rfl .sh (eva_cons (md := .sh) (ev_vsh okc (i := 2) (j := 0) rfl rfl rfl) eva_nil)) (ev_one (ev_c (md' := .sh) okc (c_in okc.K f_int) (ev_vsh okc (i := 2) (j := 0) rfl rfl rfl) (ev_vsh okc (i := 1) (j := 1) rfl rfl rfl))))))))))
theorem b__law_numbered {p : Pr} (X : Facts p) : Body p s__law_numbered N__law_numbered V__law_numbered G__law_numbered 1 (fun (d : ((Option (List Int)) × (List Int) × Unit)) => [(sV false (tOpt (tList tInt)) d.1), (sV false (tList tInt) d.2.1), sAny]) (fun r => .rt false tBool r) r__law_numbered := fun g ok hX d => bb__law_numbered X ok hX d.1 d.2.1
theorem fn__law_numbered {p : Pr} (X : Facts p) : Fn p 2 "_law_numbered" ["found", "some"] (spM p (aCons (tOpt (tList tInt)) (aCons (tList tInt) aNil)) (fun r => .rt false tBool r) c__law_numbered) := by
  obtain ⟨f, fd, hF, hm⟩ := X.d__law_numbered
  exact ⟨f, fd, eq__law_numbered ▸ fn_rt (m := 1) hF sc__law_numbered (.cons (.cons .nil)) rfl rfl (b__law_numbered X), hm, hF.kp, hF.bindsN fun _ _ _ _ _ _ us hl => match us, hl with | [_, _], _ => rfl⟩
/-! ### _law_over -/
abbrev s__law_over : Stmt := topS 24
abbrev N__law_over : List Str := ["rows", "one", "other", "ends"]
abbrev V__law_over : List Str := ["rows", "one", "other", "ends"]
abbrev G__law_over : List Str := ["len"]
theorem sc__law_over : Sc s__law_over N__law_over V__law_over ["rows", "one", "other"] G__law_over := ⟨⟨rfl, rfl, rfl, by decide +kernel, rfl, by decide +kernel, by decide +kernel⟩, by decide +kernel, by decide +kernel, by decide +kernel⟩
def q__law_over (rows1 : (List Tx)) (one2 : Int) (other3 : Int) : M Bool := M.bind (M.bind (M.bind (M.ok rows1) fun y5 => M.bind (M.ok (0 : Int)) fun y6 => getM y5 y6) fun y7 => M.ok (y7.length : Int)) fun ends4 => M.bind (M.ok ((decide (one2 < ends4)) && (decide (ends4 ≤ other3)))) fun c13 => if c13 = true then M.bind (M.bind (M.bind (M.ok rows1) fun y16 => M.bind (M.bind (M.ok other3) fun y14 => M.bind (M.ok ends4) fun y15 => M.ok (y14 - y15)) fun y17 => getM y16 y17) fun y18 => M.bind (M.ok one2) fun y19 => getS y18 y19) fun y20 => M.bind (M.ok (tx "#")) fun y21 => M.ok (decide (y20 = y21)) else M.bind (M.ok ((decide (other3 < ends4)) && (decide (ends4 ≤ one2)))) fun c28 => if c28 = true then M.bind (M.bind (M.bind (M.ok rows1) fun y31 => M.bind (M.bind (M.ok one2) fun y29 => M.bind (M.ok ends4) fun y30 => M.ok (y29 - y30)) fun y32 => getM y31 y32) fun y33 => M.bind (M.ok other3) fun y34 => getS y33 y34) fun y35 => M.bind (M.ok (tx ".")) fun y36 => M.ok (decide (y35 = y36)) else M.ok false
def f_law_over (rows1 : (List Tx)) (one2 : Int) (other3 : Int) : M Bool := M.bind (M.bind (getM rows1 (0 : Int)) fun y7 => M.ok (y7.length : Int)) fun ends4 => if ((decide (one2 < ends4)) && (decide (ends4 ≤ other3))) = true then M.bind (M.bind (getM rows1 (other3 - ends4)) fun y18 => getS y18 one2) fun y20 => M.ok (decide (y20 = (tx "#"))) else if ((decide (other3 < ends4)) && (decide (ends4 ≤ one2))) = true then M.bind (M.bind (getM rows1 (one2 - ends4)) fun y33 => getS y33 other3) fun y35 => M.ok (decide (y35 = (tx "."))) else M.ok false
def r__law_over (d : ((List Tx) × Int × Int × Unit)) : M Bool := q__law_over d.1 d.2.1 d.2.2.1
def c__law_over (d : ((List Tx) × Int × Int × Unit)) : M Bool := f_law_over d.1 d.2.1 d.2.2.1
theorem eq__law_over : r__law_over = c__law_over := by funext d; first | (simp only [r__law_over, c__law_over, q__law_over, f_law_over, M.bind_assoc, M.bok]; done) | (simp only [r__law_over, c__law_over, q__law_over, f_law_over, M.bind_assoc, M.bok]; rfl)
theorem bb__law_over {p : Pr} (X : Facts p) {g : G} (ok : OkS p (defScope s__law_over) N__law_over V__law_over G__law_over 0 g) (hX : g.LX = List.replicate N__law_over.length sAny) (rows1 : (List Tx)) (one2 : Int) (other3 : Int) : EvB g [(sV false (tList tStr) rows1), (sV false tInt one2), (sV false tInt other3), sAny] (defBody s__law_over) (fun r => .rt false tBool r) (q__law_over rows1 one2 other3) := (evb_set ok (i := 3) (j := 3) rfl rfl (wkX hX rfl) .sh (ev_lenS (md' := .sh) ok.toOk (j := 0) rfl X.g_len (ev_ixQ ok.toOk sq_l (ev_vsh ok.toOk (i := 0) (j := 0) rfl rfl rfl) (ev_int (md := .sh)))) fun ends4 => (evb_ifx (wkX hX rfl) (EvW.t (evw_andP (pureT (m := M.bind (M.ok one2) fun y8 => M.bind (M.ok ends4) fun y9 => M.ok (decide (y8 < y9))) (evt_c ok.toOk c_lt (ev_vsh ok.toOk (i := 1) (j := 1) rfl rfl rfl) (ev_vsh ok.toOk (i := 3) (j := 3) rfl rfl rfl)) rfl) (pureW (m := M.bind (M.ok other3) fun y10 => M.bind (M.ok ends4) fun y11 => M.ok (decide (y11 ≤ y10))) (evw_and1 (evt_c ok.toOk c_ge (ev_vsh ok.toOk (i := 2) (j := 2) rfl rfl rfl) (ev_vsh ok.toOk (i := 3) (j := 3) rfl rfl rfl))) rfl))) (evb_ret (wkX hX rfl) .sh (by intro _; rfl) (ev_c (md' := .sh) ok.toOk (c_eq s_str) (ev_ixS (md' := .sh) ok.toOk (ev_ixQ ok.toOk sq_l (ev_vsh ok.toOk (i := 0) (j := 0) rfl rfl rfl) (ev_subt (md' := .sh) ok.toOk (ev_vsh ok.toOk (i := 2) (j := 2) rfl rfl rfl) (ev_vsh ok.toOk (i := 3) (j := 3) rfl rfl rfl))) (ev_vsh ok.toOk (i := 1) (j := 1) rfl rfl rfl)) (ev_str (md := .sh) (by decide +kernel)))) (evb_ifx (wkX hX rfl) (EvW.t (evw_andP (pureT (m := M.bind (M.ok other3) fun y23 => M.bind (M.ok ends4) fun y24 => M.ok (decide (y23 < y24))) (evt_c ok.toOk c_lt (ev_vsh ok.toOk (i := 2) (j := 2) rfl rfl rfl) (ev_vsh ok.toOk (i := 3) (j := 3) rfl rfl rfl)) rfl) (pureW (m := M.bind (M.ok one2) fun y25 => M.bind (M.ok ends4) fun y26 => M.ok (decide (y26 ≤ y25))) (evw_and1 (evt_c ok.toOk c_ge (ev_vsh ok.toOk (i := 1) (j := 1) rfl rfl rfl) (ev_vsh ok.toOk (i := 3) (j := 3) rfl rfl rfl))) rfl))) (evb_ret (wkX hX rfl) .sh (by intro _; rfl) (ev_c (md' := .sh) ok.toOk (c_eq s_str) (ev_ixS (md' := .sh) ok.toOk (ev_ixQ ok.toOk sq_l (ev_vsh ok.toOk (i := 0) (j := 0) rfl rfl rfl) (ev_subt (md' := .sh) ok.toOk (ev_vsh ok.toOk (i := 1) (j := 1) rfl rfl rfl) (ev_vsh ok.toOk (i := 3) (j := 3) rfl rfl rfl))) (ev_vsh ok.toOk (i := 2) (j := 2) rfl rfl rfl)) (ev_str (md := .sh) (by decide +kernel)))) (evb_ret (wkX hX rfl) .sh (by intro _; rfl) (ev_bool (md := .sh))))))
theorem b__law_over {p : Pr} (X : Facts p) : Body p s__law_over N__law_over V__law_over G__law_over 0 (fun (d : ((List Tx) × Int × Int × Unit)) => [(sV false (tList tStr) d.1), (sV false tInt d.2.1), (sV false tInt d.2.2.1), sAny]) (fun r => .rt false tBool r) r__law_over := fun g ok hX d => bb__law_over X ok hX d.1 d.2.1 d.2.2.1
theorem fn__law_over {p : Pr} (X : Facts p) : Fn p 1 "_law_over" ["rows", "one", "other"] (spM p (aCons (tList tStr) (aCons tInt (aCons tInt aNil))) (fun r => .rt false tBool r) c__law_over) := by
  obtain ⟨f, fd, hF, hm⟩ := X.d__law_over
  exact ⟨f, fd, eq__law_over ▸ fn_rt (m := 1) hF sc__law_over (.cons (.cons (.cons .nil))) rfl rfl (b__law_over X), hm, hF.kp, hF.bindsN fun _ _ _ _ _ _ us hl => match us, hl with | [_, _, _], _ => rfl⟩
/-! ### _law_round -/
abbrev s__law_round : Stmt := topS 27
abbrev N__law_round : List Str := ["rows", "found", "some", "k", "one"]
abbrev V__law_round : List Str := ["rows", "found", "some", "k"]
abbrev G__law_round : List Str := ["_law_numbered", "len", "range", "_law_over", "all"]
theorem sc__law_round : Sc s__law_round N__law_round V__law_round ["rows", "found", "some"] G__law_round := ⟨⟨rfl, rfl, rfl, by decide +kernel, rfl, by decide +kernel, by decide +kernel⟩, by decide +kernel, by decide +kernel, by decide +kernel⟩
def r_f_law_round_l1 (rows1 : (List Tx)) (found2 : (Option (List Int))) : Unit → Int → M (Fl Unit Bool) := fun s43 k44 => M.bind (M.bind (M.bind (M.bind (M.ok rows1) fun y61 => M.bind (M.bind (M.bind (M.bind (M.ok found2) fun y45 => unM y45) fun y46 => M.bind (M.ok k44) fun y47 => getM y46 y47) fun y59 => M.bind (M.bind (M.bind (M.bind (M.ok found2) fun y48 => unM y48) fun y55 => M.bind (M.bind (M.bind (M.ok k44) fun y49 => M.bind (M.ok (1 : Int)) fun y50 => M.ok (y49 + y50)) fun y53 => M.bind (M.bind (M.bind (M.ok found2) fun y51 => unM y51) fun y52 => M.ok (y52.length : Int)) fun y54 => modM y53 y54) fun y56 => getM y55 y56) fun y57 => M.bind (M.ok ()) fun y58 => M.ok (y57, y58)) fun y60 => M.ok (y59, y60)) fun y62 => M.ok (y61, y62)) c__law_over) fun y66 => M.ok (!y66)) fun c67 => if c67 = true then M.bind (M.ok false) fun r68 => M.ok (Fl.rt r68) else M.ok (Fl.nx ())
def f_law_round_l1 (rows1 : (List Tx)) (found2 : (Option (List Int))) : Unit → Int → M (Fl Unit Bool) := fun s43 k44 => M.bind (M.bind (M.bind (M.bind (unM found2) fun y46 => getM y46 k44) fun y64 => M.bind (M.bind (unM found2) fun y55 => M.bind (M.bind (M.bind (unM found2) fun y52 => M.ok (y52.length : Int)) fun y54 => modM (k44 + (1 : Int)) y54) fun y56 => getM y55 y56) fun y65 => f_law_over rows1 y64 y65) fun y66 => M.ok (!y66)) fun c69 => if c69 = true then M.ok (Fl.rt false) else M.ok (Fl.nx ())
theorem eq_f_law_round_l1 (rows1 : (List Tx)) (found2 : (Option (List Int))) : r_f_law_round_l1 rows1 found2 = f_law_round_l1 rows1 found2 := by funext s43 k44; first | (simp only [r_f_law_round_l1, f_law_round_l1, M.bind_assoc, M.bok, c__law_numbered, c__law_over]; done) | (simp only [r_f_law_round_l1, f_law_round_l1, M.bind_assoc, M.bok, c__law_numbered, c__law_over]; rfl)
def q__law_round (rows1 : (List Tx)) (found2 : (Option (List Int))) (some3 : (List Int)) : M Bool := M.bind (M.bind (M.bind (M.bind (M.bind (M.ok found2) fun y6 => M.bind (M.bind (M.ok some3) fun y4 => M.bind (M.ok ()) fun y5 => M.ok (y4, y5)) fun y7 => M.ok (y6, y7)) c__law_numbered) fun y10 => M.ok (!y10)) fun c28 => if c28 = true then M.ok true else M.bind (M.bind (M.bind (M.bind (M.ok found2) fun y11 => unM y11) fun y12 => M.bind (M.ok (0 : Int)) fun y13 => getM y12 y13) fun y16 => M.bind (M.bind (M.ok some3) fun y14 => M.bind (M.ok (0 : Int)) fun y15 => getM y14 y15) fun y17 => M.ok (!decide (y16 = y17))) fun c26 => if c26 = true then M.ok true else M.bind (M.bind (M.bind (M.ok found2) fun y18 => unM y18) fun y19 => M.ok (y19.length : Int)) fun y24 => M.bind (M.bind (M.bind (M.ok some3) fun y20 => M.ok (y20.length : Int)) fun y22 => M.bind (M.bind (M.ok some3) fun y21 => M.ok (y21.length : Int)) fun y23 => mulM y22 y23) fun y25 => M.ok (decide (y25 < y24))) fun c30 => if c30 = true then M.ok false else M.bind (M.bind (M.bind (M.ok some3) fun y32 => M.ok (y32.length : Int)) fun y33 => M.bind (M.ok (1 : Int)) fun y34 => M.ok (decide (y33 = y34))) fun c35 => if c35 = true then M.bind (M.ok found2) fun y37 => M.bind (M.bind (M.ok some3) fun y36 => M.ok (some y36)) fun y38 => M.ok (decide (y37 = y38)) else M.bind (M.bind (M.bind (M.bind (M.ok found2) fun y40 => unM y40) fun y41 => M.ok (y41.length : Int)) fun y42 => rangeM 0 y42) fun xs70 => M.bind (forF (r_f_law_round_l1 rows1 found2) () xs70) (Fl.el (fun (s71 : Unit) => M.bind (M.bind (M.ok some3) fun xs78 => compM (fun one72 => M.bind (M.ok true) fun c76 => if c76 = true then M.bind (M.bind (M.ok one72) fun y74 => M.bind (M.bind (M.ok found2) fun y73 => unM y73) fun y75 => M.ok (decide (y74 ∈ y75))) fun y77 => M.ok (some y77) else M.ok none) xs78) fun y79 => M.ok (y79.all id)) fun r81 => M.ok r81)
def f_law_round (rows1 : (List Tx)) (found2 : (Option (List Int))) (some3 : (List Int)) : M Bool := M.bind (M.bind (M.bind (f_law_numbered found2 some3) fun y10 => M.ok (!y10)) fun c29 => if c29 = true then M.ok true else M.bind (M.bind (M.bind (unM found2) fun y12 => getM y12 (0 : Int)) fun y16 => M.bind (getM some3 (0 : Int)) fun y17 => M.ok (!decide (y16 = y17))) fun c27 => if c27 = true then M.ok true else M.bind (M.bind (unM found2) fun y19 => M.ok (y19.length : Int)) fun y24 => M.bind (mulM (some3.length : Int) (some3.length : Int)) fun y25 => M.ok (decide (y25 < y24))) fun c83 => if c83 = true then M.ok false else if (decide ((some3.length : Int) = (1 : Int))) = true then M.ok (decide (found2 = (some some3))) else M.bind (M.bind (M.bind (unM found2) fun y41 => M.ok (y41.length : Int)) fun y42 => rangeM 0 y42) fun xs70 => M.bind (forF (f_law_round_l1 rows1 found2) () xs70) (Fl.el (fun (s71 : Unit) => M.bind (compM (fun one72 => M.bind (M.bind (unM found2) fun y75 => M.ok (decide (one72 ∈ y75))) fun y77 => M.ok (some y77)) some3) fun y79 => M.ok (y79.all id)) fun r81 => M.ok r81)
def r__law_round (d : ((List Tx) × (Option (List Int)) × (List Int) × Unit)) : M Bool := q__law_round d.1 d.2.1 d.2.2.1
def c__law_round (d : ((List Tx) × (Option (List Int)) × (List Int) × Unit)) : M Bool := f_law_round d.1 d.2.1 d.2.2.1
theorem eq__law_round : r__law_round = c__law_round := by funext d; first | (simp only [r__law_round, c__law_round, q__law_round, f_law_round, M.bind_assoc, M.bok, eq_f_law_round_l1, c__law_numbered, c__law_over]; done) | (simp only [r__law_round, c__law_round, q__law_round, f_law_round, M.bind_assoc, M.bok, eq_f_law_round_l1, c__law_numbered, c__law_over]; rfl)
theorem bb__law_round {p : Pr} (X : Facts p) {g : G} (ok : OkS p (defScope s__law_round) N__law_round V__law_round G__law_round 2 g) (hX : g.LX = List.replicate N__law_round.length sAny) (rows1 : (List Tx)) (found2 : (Option (List Int))) (some3 : (List Int)) : EvB g [(sV false (tList tStr) rows1), (sV false (tOpt (tList tInt)) found2), (sV false (tList tInt) some3), sAny, sAny] (defBody s__law_round) (fun r => .rt false tBool r) (q__law_round rows1 found2 some3) := (evb_ifx (wkX hX rfl) (EvW.t (evw_or (evt_not (evt_of (ev_call (md' := .sh) ok.toOk (fn__law_numbered X) (by decide) (j := 0) rfl .sh (eva_cons (md := .sh) (ev_vsh ok.toOk (i := 1) (j := 1) rfl rfl rfl) (eva_cons (md := .sh) (ev_vsh ok.toOk (i := 2) (j := 2) rfl rfl rfl) eva_nil))))) (evw_or (evt_c ok.toOk (c_ne s_int) (ev_ixQ ok.toOk sq_l (ev_un1 (ev_vsh ok.toOk (i := 1) (j := 1) rfl rfl rfl)) (ev_int (md := .sh))) (ev_ixQ ok.toOk sq_l (ev_vsh ok.toOk (i := 2) (j := 2) rfl rfl rfl) (ev_int (md := .sh)))) (evw_or1 (evt_c ok.toOk c_gt (ev_lenQ (md' := .sh) ok.toOk sq_l (j := 1) rfl X.g_len (ev_un1 (ev_vsh ok.toOk (i := 1) (j := 1) rfl rfl rfl))) (ev_mul (md' := .sh) ok.toOk (ev_lenQ (md' := .sh) ok.toOk sq_l (j := 1) rfl X.g_len (ev_vsh ok.toOk (i := 2) (j := 2) rfl rfl rfl)) (ev_lenQ (md' := .sh) ok.toOk sq_l (j := 1) rfl X.g_len (ev_vsh ok.toOk (i := 2) (j := 2) rfl rfl rfl)))))))) (evb_ret (wkX hX rfl) .sh (by intro _; rfl) (ev_bool (md := .sh))) (evb_ifx (wkX hX rfl) (evt_c ok.toOk (c_eq s_int) (ev_lenQ (md' := .sh) ok.toOk sq_l (j := 1) rfl X.g_len (ev_vsh ok.toOk (i := 2) (j := 2) rfl rfl rfl)) (ev_int (md := .sh))) (evb_ret (wkX hX rfl) .sh (by intro _; rfl) (ev_c (md' := .sh) ok.toOk (c_eqD ok.toOk (dOpt (dList dInt) (by intro d z; cases z)) (by decide)) (ev_vsh ok.toOk (i := 1) (j := 1) rfl rfl rfl) (ev_some nn_list (ev_vsh ok.toOk (i := 2) (j := 2) rfl rfl rfl)))) (evb_forF (LF := (fun (s43 : Unit) => [(sV false (tList tStr) rows1), (sV false (tOpt (tList tInt)) found2), (sV false (tList tInt) some3), sAny, sAny])) (s0 := ()) (dr := fun r81 => r81) ok (wkX hX rfl) (evi_range1 ok.toOk (j := 2) rfl X.g_range (ev_lenQ (md' := .sh) ok.toOk sq_l (j := 1) rfl X.g_len (ev_un1 (ev_vsh ok.toOk (i := 1) (j := 1) rfl rfl rfl)))) (Wk.s (Wk.s (Wk.s (Wk.s (Wk.s Wk.n))))) (fun _ => evg_name ok (i := 3) (j := 3) rfl rfl) (fun s43 k44 => (evb_ifl (wkX hX rfl) (evt_not (evt_of (ev_call (md' := .sh) ok.toOk (fn__law_over X) (by decide) (j := 3) rfl .sh (eva_cons (md := .sh) (ev_vsh ok.toOk (i := 0) (j := 0) rfl rfl rfl) (eva_cons (md := .sh) (ev_ixQ ok.toOk sq_l (ev_un1 (ev_vsh ok.toOk (i := 1) (j := 1) rfl rfl rfl)) (ev_vsh ok.toOk (i := 3) (j := 3) rfl rfl rfl)) (eva_cons (md := .sh) (ev_ixQ ok.toOk sq_l (ev_un1 (ev_vsh ok.toOk (i := 1) (j := 1) rfl rfl rfl)) (ev_mod (md' := .sh) ok.toOk (ev_add (md' := .sh) ok.toOk (ev_vsh ok.toOk (i := 3) (j := 3) rfl rfl rfl) (ev_int (md := .sh))) (ev_lenQ (md' := .sh) ok.toOk sq_l (j := 1) rfl X.g_len (ev_un1 (ev_vsh ok.toOk (i := 1) (j := 1) rfl rfl rfl))))) eva_nil)))))) (evb_retF (mk := fun r68 => Fl.rt r68) (wkX hX rfl) .sh (by intro _; rfl) (ev_bool (md := .sh))) (evb_go (by rfl) (Wk.s (Wk.s (Wk.s (Wk.a (Wk.s Wk.n)))))))) fun s71 => (evb_ret (wkX hX rfl) .sh (by intro _; rfl) (ev_all (md' := .sh) ok.toOk (j := 4) rfl X.g_all (ev_ofL (evl_lc (md := .sh) (VV' := ["one", "found"]) (GG' := []) (i := 4) ok.toOk (evi_seq ok.toOk sq_l (ev_vsh ok.toOk (i := 2) (j := 2) rfl rfl rfl)) rfl rfl no_any (by decide +kernel) (by decide +kernel) (by decide +kernel) (by decide +kernel) (fun g' okc one72 => evpts_nil) (fun g' okc one72 => (ev_c (md' := .sh) okc (c_in okc.K f_int) (ev_vsh okc (i := 4) (j := 0) rfl rfl rfl) (ev_un1 (ev_vsh okc (i := 1) (j := 1) rfl rfl rfl)))))))))))
theorem b__law_round {p : Pr} (X : Facts p) : Body p s__law_round N__law_round V__law_round G__law_round 2 (fun (d : ((List Tx) × (Option (List Int)) × (List Int) × Unit)) => [(sV false (tList tStr) d.1), (sV false (tOpt (tList tInt)) d.2.1), (sV false (tList tInt) d.2.2.1), sAny, sAny]) (fun r => .rt false tBool r) r__law_round := fun g ok hX d => bb__law_round X ok hX d.1 d.2.1 d.2.2.1
theorem fn__law_round {p : Pr} (X : Facts p) : Fn p 3 "_law_round" ["rows", "found", "some"] (spM p (aCons (tList tStr) (aCons (tOpt (tList tInt)) (aCons (tList tInt) aNil))) (fun r => .rt false tBool r) c__law_round) := by
  obtain ⟨f, fd, hF, hm⟩ := X.d__law_round
  exact ⟨f, fd, eq__law_round ▸ fn_rt (m := 2) hF sc__law_round (.cons (.cons (.cons .nil))) rfl rfl (b__law_round X), hm, hF.kp, hF.bindsN fun _ _ _ _ _ _ us hl => match us, hl with | [_, _, _], _ => rfl⟩
/-! ### _law_lifted -/
abbrev s__law_lifted : Stmt := topS 28
abbrev N__law_lifted : List Str := ["rows", "found", "some", "k", "other", "one"]
abbrev V__law_lifted : List Str := ["rows", "found", "some", "k", "other", "one"]
abbrev G__law_lifted : List Str := ["_law_numbered", "len", "range", "_law_over"]
theorem sc__law_lifted : Sc s__law_lifted N__law_lifted V__law_lifted ["rows", "found", "some"] G__law_lifted := ⟨⟨rfl, rfl, rfl, by decide +kernel, rfl, by decide +kernel, by decide +kernel⟩, by decide +kernel, by decide +kernel, by decide +kernel⟩
def r_f_law_lifted_l1 (found2 : (Option (List Int))) : Unit → Int → M (Fl Unit Bool) := fun s25 k26 => M.bind (M.bind (M.bind (M.bind (M.ok found2) fun y27 => unM y27) fun y28 => M.bind (M.ok k26) fun y29 => getM y28 y29) fun y35 => M.bind (M.bind (M.bind (M.ok found2) fun y30 => unM y30) fun y33 => M.bind (M.bind (M.ok k26) fun y31 => M.bind (M.ok (1 : Int)) fun y32 => M.ok (y31 + y32)) fun y34 => getM y33 y34) fun y36 => M.ok (decide (y36 ≤ y35))) fun c37 => if c37 = true then M.bind (M.ok false) fun r38 => M.ok (Fl.rt r38) else M.ok (Fl.nx ())
def f_law_lifted_l1 (found2 : (Option (List Int))) : Unit → Int → M (Fl Unit Bool) := fun s25 k26 => M.bind (M.bind (M.bind (unM found2) fun y28 => getM y28 k26) fun y35 => M.bind (M.bind (unM found2) fun y33 => getM y33 (k26 + (1 : Int))) fun y36 => M.ok (decide (y36 ≤ y35))) fun c39 => if c39 = true then M.ok (Fl.rt false) else M.ok (Fl.nx ())
theorem eq_f_law_lifted_l1 (found2 : (Option (List Int))) : r_f_law_lifted_l1 found2 = f_law_lifted_l1 found2 := by funext s25 k26; first | (simp only [r_f_law_lifted_l1, f_law_lifted_l1, M.bind_assoc, M.bok, c__law_numbered, c__law_over]; done) | (simp only [r_f_law_lifted_l1, f_law_lifted_l1, M.bind_assoc, M.bok, c__law_numbered, c__law_over]; rfl)
def r_f_law_lifted_l2 (rows1 : (List Tx)) (found2 : (Option (List Int))) (other43 : Int) : Unit → Int → M (Fl Unit Bool) := fun s45 one46 => M.bind (M.bind (M.bind (M.ok other43) fun y48 => M.bind (M.bind (M.ok found2) fun y47 => unM y47) fun y49 => M.ok (!decide (y48 ∈ y49))) fun c59 => if c59 = true then M.bind (M.bind (M.ok rows1) fun y54 => M.bind (M.bind (M.ok other43) fun y52 => M.bind (M.bind (M.ok one46) fun y50 => M.bind (M.ok ()) fun y51 => M.ok (y50, y51)) fun y53 => M.ok (y52, y53)) fun y55 => M.ok (y54, y55)) c__law_over else M.ok false) fun c61 => if c61 = true then M.bind (M.ok false) fun r62 => M.ok (Fl.rt r62) else M.ok (Fl.nx ())
def f_law_lifted_l2 (rows1 : (List Tx)) (found2 : (Option (List Int))) (other43 : Int) : Unit → Int → M (Fl Unit Bool) := fun s45 one46 => M.bind (M.bind (M.bind (unM found2) fun y49 => M.ok (!decide (other43 ∈ y49))) fun c60 => if c60 = true then f_law_over rows1 other43 one46 else M.ok false) fun c63 => if c63 = true then M.ok (Fl.rt false) else M.ok (Fl.nx ())
theorem eq_f_law_lifted_l2 (rows1 : (List Tx)) (found2 : (Option (List Int))) (other43 : Int) : r_f_law_lifted_l2 rows1 found2 other43 = f_law_lifted_l2 rows1 found2 other43 := by funext s45 one46; first | (simp only [r_f_law_lifted_l2, f_law_lifted_l2, M.bind_assoc, M.bok, eq_f_law_lifted_l1, c__law_numbered, c__law_over]; done) | (simp only [r_f_law_lifted_l2, f_law_lifted_l2, M.bind_assoc, M.bok, eq_f_law_lifted_l1, c__law_numbered, c__law_over]; rfl)
def r_f_law_lifted_l3 (rows1 : (List Tx)) (found2 : (Option (List Int))) : Unit → Int → M (Fl Unit Bool) := fun s42 other43 => M.bind (M.bind (M.ok found2) fun y44 => unM y44) fun xs64 => M.bind (forF (r_f_law_lifted_l2 rows1 found2 other43) () xs64) (Fl.el (fun (s65 : Unit) => M.ok (Fl.nx ())) fun r66 => M.ok (Fl.rt r66))
def f_law_lifted_l3 (rows1 : (List Tx)) (found2 : (Option (List Int))) : Unit → Int → M (Fl Unit Bool) := fun s42 other43 => M.bind (unM found2) fun xs64 => M.bind (forF (f_law_lifted_l2 rows1 found2 other43) () xs64) (Fl.el (fun (s65 : Unit) => M.ok (Fl.nx ())) fun r66 => M.ok (Fl.rt r66))
theorem eq_f_law_lifted_l3 (rows1 : (List Tx)) (found2 : (Option (List Int))) : r_f_law_lifted_l3 rows1 found2 = f_law_lifted_l3 rows1 found2 := by funext s42 other43; first | (simp only [r_f_law_lifted_l3, f_law_lifted_l3, M.bind_assoc, M.bok, eq_f_law_lifted_l1, eq_f_law_lifted_l2, c__law_numbered, c__law_over]; done) | (simp only [r_f_law_lifted_l3, f_law_lifted_l3, M.bind_assoc, M.bok, eq_f_law_lifted_l1, eq_f_law_lifted_l2, c__law_numbered, c__law_over]; rfl)
def q__law_lifted (rows1 : (List Tx)) (found2 : (Option (List Int))) (some3 : (List Int)) : M Bool := M.bind (M.bind (M.bind (M.bind (M.bind (M.ok found2) fun y6 => M.bind (M.bind (M.ok some3) fun y4 => M.bind (M.ok ()) fun y5 => M.ok (y4, y5)) fun y7 => M.ok (y6, y7)) c__law_numbered) fun y10 => M.ok (!y10)) fun c16 => if c16 = true then M.ok true else M.bind (M.bind (M.bind (M.ok found2) fun y11 => unM y11) fun y12 => M.ok (y12.length : Int)) fun y14 => M.bind (M.bind (M.ok some3) fun y13 => M.ok (y13.length : Int)) fun y15 => M.ok (decide (y15 ≤ y14))) fun c18 => if c18 = true then M.ok false else M.bind (M.bind (M.bind (M.bind (M.bind (M.ok found2) fun y20 => unM y20) fun y21 => M.ok (y21.length : Int)) fun y22 => M.bind (M.ok (1 : Int)) fun y23 => M.ok (y22 - y23)) fun y24 => rangeM 0 y24) fun xs40 => M.bind (forF (r_f_law_lifted_l1 found2) () xs40) (Fl.el (fun (s41 : Unit) => M.bind (M.ok some3) fun xs67 => M.bind (forF (r_f_law_lifted_l3 rows1 found2) () xs67) (Fl.el (fun (s68 : Unit) => M.ok true) fun r70 => M.ok r70)) fun r71 => M.ok r71)
def f_law_lifted (rows1 : (List Tx)) (found2 : (Option (List Int))) (some3 : (List Int)) : M Bool := M.bind (M.bind (M.bind (f_law_numbered found2 some3) fun y10 => M.ok (!y10)) fun c17 => if c17 = true then M.ok true else M.bind (M.bind (unM found2) fun y12 => M.ok (y12.length : Int)) fun y14 => M.ok (decide ((some3.length : Int) ≤ y14))) fun c72 => if c72 = true then M.ok false else M.bind (M.bind (M.bind (M.bind (unM found2) fun y21 => M.ok (y21.length : Int)) fun y22 => M.ok (y22 - (1 : Int))) fun y24 => rangeM 0 y24) fun xs40 => M.bind (forF (f_law_lifted_l1 found2) () xs40) (Fl.el (fun (s41 : Unit) => M.bind (forF (f_law_lifted_l3 rows1 found2) () some3) (Fl.el (fun (s68 : Unit) => M.ok true) fun r70 => M.ok r70)) fun r71 => M.ok r71)
def r__law_lifted (d : ((List Tx) × (Option (List Int)) × (List Int) × Unit)) : M Bool := q__law_lifted d.1 d.2.1 d.2.2.1
def c__law_lifted (d : ((List Tx) × (Option (List Int)) × (List Int) × Unit)) : M Bool := f_law_lifted d.1 d.2.1 d.2.2.1
theorem eq__law_lifted : r__law_lifted = c__law_lifted := by funext d; first | (simp only [r__law_lifted, c__law_lifted, q__law_lifted, f_law_lifted, M.bind_assoc, M.bok, eq_f_law_lifted_l1, eq_f_law_lifted_l2, eq_f_law_lifted_l3, c__law_numbered, c__law_over]; done) | (simp only [r__law_lifted, c__law_lifted, q__law_lifted, f_law_lifted, M.bind_assoc, M.bok, eq_f_law_lifted_l1, eq_f_law_lifted_l2, eq_f_law_lifted_l3, c__law_numbered, c__law_over]; rfl)
theorem bb__law_lifted {p : Pr} (X : Facts p) {g : G} (ok : OkS p (defScope s__law_lifted) N__law_lifted V__law_lifted G__law_lifted 2 g) (hX : g.LX = List.replicate N__law_lifted.length sAny) (rows1 : (List Tx)) (found2 : (Option (List Int))) (some3 : (List Int)) : EvB g [(sV false (tList tStr) rows1), (sV false (tOpt (tList tInt)) found2), (sV false (tList tInt) some3), sAny, sAny, sAny] (defBody s__law_lifted) (fun r => .rt false tBool r) (q__law_lifted rows1 found2 some3) := (evb_ifx (wkX hX rfl) (EvW.t (evw_or (evt_not (evt_of (ev_call (md' := .sh) ok.toOk (fn__law_numbered X) (by decide) (j := 0) rfl .sh (eva_cons (md := .sh) (ev_vsh ok.toOk (i := 1) (j := 1) rfl rfl rfl) (eva_cons (md := .sh) (ev_vsh ok.toOk (i := 2) (j := 2) rfl rfl rfl) eva_nil))))) (evw_or1 (evt_c ok.toOk c_ge (ev_lenQ (md' := .sh) ok.toOk sq_l (j := 1) rfl X.g_len (ev_un1 (ev_vsh ok.toOk (i := 1) (j := 1) rfl rfl rfl))) (ev_lenQ (md' := .sh) ok.toOk sq_l (j := 1) rfl X.g_len (ev_vsh ok.toOk (i := 2) (j := 2) rfl rfl rfl)))))) (evb_ret (wkX hX rfl) .sh (by intro _; rfl) (ev_bool (md := .sh))) (evb_forF (LF := (fun (s25 : Unit) => [(sV false (tList tStr) rows1), (sV false (tOpt (tList tInt)) found2), (sV false (tList tInt) some3), sAny, sAny, sAny])) (s0 := ()) (dr := fun r71 => r71) ok (wkX hX rfl) (evi_range1 ok.toOk (j := 2) rfl X.g_range (ev_subt (md' := .sh) ok.toOk (ev_lenQ (md' := .sh) ok.toOk sq_l (j := 1) rfl X.g_len (ev_un1 (ev_vsh ok.toOk (i := 1) (j := 1) rfl rfl rfl))) (ev_int (md := .sh)))) (Wk.s (Wk.s (Wk.s (Wk.s (Wk.s (Wk.s Wk.n)))))) (fun _ => evg_name ok (i := 3) (j := 3) rfl rfl) (fun s25 k26 => (evb_ifl (wkX hX rfl) (evt_c ok.toOk c_ge (ev_ixQ ok.toOk sq_l (ev_un1 (ev_vsh ok.toOk (i := 1) (j := 1) rfl rfl rfl)) (ev_vsh ok.toOk (i := 3) (j := 3) rfl rfl rfl)) (ev_ixQ ok.toOk sq_l (ev_un1 (ev_vsh ok.toOk (i := 1) (j := 1) rfl rfl rfl)) (ev_add (md' := .sh) ok.toOk (ev_vsh ok.toOk (i := 3) (j := 3) rfl rfl rfl) (ev_int (md := .sh))))) (evb_retF (mk := fun r38 => Fl.rt r38) (wkX hX rfl) .sh (by intro _; rfl) (ev_bool (md := .sh))) (evb_go (by rfl) (Wk.s (Wk.s (Wk.s (Wk.a (Wk.s (Wk.s Wk.n))))))))) fun s41 => (evb_forF (LF := (fun (s42 : Unit) => [(sV false (tList tStr) rows1), (sV false (tOpt (tList tInt)) found2), (sV false (tList tInt) some3), sAny, sAny, sAny])) (s0 := ()) (dr := fun r70 => r70) ok (wkX hX rfl) (evi_seq ok.toOk sq_l (ev_vsh ok.toOk (i := 2) (j := 2) rfl rfl rfl)) (Wk.s (Wk.s (Wk.s (Wk.s (Wk.s (Wk.s Wk.n)))))) (fun _ => evg_name ok (i := 4) (j := 4) rfl rfl) (fun s42 other43 => (evb_forF (LF := (fun (s45 : Unit) => [(sV false (tList tStr) rows1), (sV false (tOpt (tList tInt)) found2), (sV false (tList tInt) some3), sAny, (sV false tInt other43), sAny])) (s0 := ()) (dr := fun r66 => Fl.rt r66) ok (wkX hX rfl) (evi_seq ok.toOk sq_l (ev_un1 (ev_vsh ok.toOk (i := 1) (j := 1) rfl rfl rfl))) (Wk.s (Wk.s (Wk.s (Wk.s (Wk.s (Wk.s Wk.n)))))) (fun _ => evg_name ok (i := 5) (j := 5) rfl rfl) (fun s45 one46 => (evb_ifl (wkX hX rfl) (EvW.t (evw_and (evt_c ok.toOk (c_notin ok.toOk.K f_int) (ev_vsh ok.toOk (i := 4) (j := 4) rfl rfl rfl) (ev_un1 (ev_vsh ok.toOk (i := 1) (j := 1) rfl rfl rfl))) (evw_and1 (evt_of (ev_call (md' := .sh) ok.toOk (fn__law_over X) (by decide) (j := 3) rfl .sh (eva_cons (md := .sh) (ev_vsh ok.toOk (i := 0) (j := 0) rfl rfl rfl) (eva_cons (md := .sh) (ev_vsh ok.toOk (i := 4) (j := 4) rfl rfl rfl) (eva_cons (md := .sh) (ev_vsh ok.toOk (i := 5) (j := 5) rfl rfl rfl) eva_nil)))))))) (evb_retF (mk := fun r62 => Fl.rt r62) (wkX hX rfl) .sh (by intro _; rfl) (ev_bool (md := .sh))) (evb_go (by rfl) (Wk.s (Wk.s (Wk.s (Wk.s (Wk.s (Wk.a Wk.n))))))))) fun s65 => (evb_go (by rfl) (Wk.s (Wk.s (Wk.s (Wk.s (Wk.a (Wk.s Wk.n))))))))) fun s68 => (evb_ret (wkX hX rfl) .sh (by intro _; rfl) (ev_bool (md := .sh))))))
theorem b__law_lifted {p : Pr} (X : Facts p) : Body p s__law_lifted N__law_lifted V__law_lifted G__law_lifted 2 (fun (d : ((List Tx) × (Option (List Int)) × (List Int) × Unit)) => [(sV false (tList tStr) d.1), (sV false (tOpt (tList tInt)) d.2.1), (sV false (tList tInt) d.2.2.1), sAny, sAny, sAny]) (fun r => .rt false tBool r) r__law_lifted := fun g ok hX d => bb__law_lifted X ok hX d.1 d.2.1 d.2.2.1
theorem fn__law_lifted {p : Pr} (X : Facts p) : Fn p 3 "_law_lifted" ["rows", "found", "some"] (spM p (aCons (tList tStr) (aCons (tOpt (tList tInt)) (aCons (tList tInt) aNil))) (fun r => .rt false tBool r) c__law_lifted) := by
  obtain ⟨f, fd, hF, hm⟩ := X.d__law_lifted
  exact ⟨f, fd, eq__law_lifted ▸ fn_rt (m := 3) hF sc__law_lifted (.cons (.cons (.cons .nil))) rfl rfl (b__law_lifted X), hm, hF.kp, hF.bindsN fun _ _ _ _ _ _ us hl => match us, hl with | [_, _, _], _ => rfl⟩
/-! ### _law_bad -/
abbrev s__law_bad : Stmt := topS 30
abbrev N__law_bad : List Str := ["some", "strands", "cell", "at", "far", "bad", "spot"]
abbrev V__law_bad : List Str := ["some", "strands", "cell", "at", "far", "bad", "spot"]
abbrev G__law_bad : List Str := ["len"]
theorem sc__law_bad : Sc s__law_bad N__law_bad V__law_bad ["some", "strands", "cell"] G__law_bad := ⟨⟨rfl, rfl, rfl, by decide +kernel, rfl, by decide +kernel, by decide +kernel⟩, by decide +kernel, by decide +kernel, by decide +kernel⟩
def q__law_bad (some1 : (List Int)) (strands2 : Int) (cell3 : Int) : M (List (List Int)) := M.bind (M.bind (M.ok cell3) fun y6 => M.bind (M.bind (M.ok some1) fun y5 => M.ok (y5.length : Int)) fun y7 => modM y6 y7) fun at4 => M.bind (M.bind (M.bind (M.ok cell3) fun y9 => M.ok (y9 / (41 : Int))) fun y10 => M.ok (y10 % ((10 : Int) ^ 60))) fun far8 => M.bind (M.bind (M.ok []) fun y26 => M.bind (M.bind (M.bind (M.bind (M.ok some1) fun y15 => M.bind (M.ok (none : Option Int)) fun y16 => M.bind (M.bind (M.bind (M.ok at4) fun y12 => M.bind (M.ok (1 : Int)) fun y13 => M.ok (y12 + y13)) fun y14 => M.ok (some y14)) fun y17 => M.ok (cutL y15 y16 y17)) fun y22 => M.bind (M.bind (M.ok some1) fun y19 => M.bind (M.bind (M.ok at4) fun y18 => M.ok (some y18)) fun y20 => M.bind (M.ok (none : Option Int)) fun y21 => M.ok (cutL y19 y20 y21)) fun y23 => catL y22 y23) fun y24 => M.bind (M.ok []) fun y25 => M.ok (y24 :: y25)) fun y27 => M.ok (y26 :: y27)) fun bad11 => M.bind (M.bind (M.bind (M.bind (M.ok some1) fun y32 => M.bind (M.ok (none : Option Int)) fun y33 => M.bind (M.bind (M.ok at4) fun y31 => M.ok (some y31)) fun y34 => M.ok (cutL y32 y33 y34)) fun y40 => M.bind (M.bind (M.bind (M.ok strands2) fun y35 => M.bind (M.ok far8) fun y36 => M.ok (y35 + y36)) fun y37 => M.bind (M.ok []) fun y38 => M.ok (y37 :: y38)) fun y41 => catL y40 y41) fun y46 => M.bind (M.bind (M.ok some1) fun y43 => M.bind (M.bind (M.ok at4) fun y42 => M.ok (some y42)) fun y44 => M.bind (M.ok (none : Option Int)) fun y45 => M.ok (cutL y43 y44 y45)) fun y47 => catL y46 y47) fun y48 => M.bind (pushM bad11 y48) fun bad30 => M.bind (M.bind (M.bind (M.bind (M.ok some1) fun y51 => M.bind (M.ok (none : Option Int)) fun y52 => M.bind (M.bind (M.ok at4) fun y50 => M.ok (some y50)) fun y53 => M.ok (cutL y51 y52 y53)) fun y60 => M.bind (M.bind (M.bind (M.bind (M.ok (1 : Int)) fun y54 => M.ok (-y54)) fun y55 => M.bind (M.ok far8) fun y56 => M.ok (y55 - y56)) fun y57 => M.bind (M.ok []) fun y58 => M.ok (y57 :: y58)) fun y61 => catL y60 y61) fun y66 => M.bind (M.bind (M.ok some1) fun y63 => M.bind (M.bind (M.ok at4) fun y62 => M.ok (some y62)) fun y64 => M.bind (M.ok (none : Option Int)) fun y65 => M.ok (cutL y63 y64 y65)) fun y67 => catL y66 y67) fun y68 => M.bind (pushM bad30 y68) fun bad49 => M.bind (M.bind (M.ok some1) fun y75 => M.bind (M.bind (M.bind (M.ok strands2) fun y70 => M.bind (M.ok far8) fun y71 => M.ok (y70 + y71)) fun y72 => M.bind (M.ok []) fun y73 => M.ok (y72 :: y73)) fun y76 => catL y75 y76) fun y77 => M.bind (pushM bad49 y77) fun bad69 => M.bind (M.bind (M.bind (M.ok some1) fun y78 => M.ok (y78.length : Int)) fun y79 => M.bind (M.ok (1 : Int)) fun y80 => M.ok (decide (y80 < y79))) fun c81 => M.bind (if c81 = true then M.bind (M.bind (M.bind (M.ok cell3) fun y83 => M.ok (y83 / (41 : Int))) fun y87 => M.bind (M.bind (M.bind (M.ok some1) fun y84 => M.ok (y84.length : Int)) fun y85 => M.bind (M.ok (1 : Int)) fun y86 => M.ok (y85 - y86)) fun y88 => modM y87 y88) fun spot82 => M.bind (M.bind (M.bind (M.bind (M.ok some1) fun y91 => M.bind (M.ok (none : Option Int)) fun y92 => M.bind (M.bind (M.ok spot82) fun y90 => M.ok (some y90)) fun y93 => M.ok (cutL y91 y92 y93)) fun y106 => M.bind (M.bind (M.bind (M.ok some1) fun y96 => M.bind (M.bind (M.ok spot82) fun y94 => M.bind (M.ok (1 : Int)) fun y95 => M.ok (y94 + y95)) fun y97 => getM y96 y97) fun y102 => M.bind (M.bind (M.bind (M.ok some1) fun y98 => M.bind (M.ok spot82) fun y99 => getM y98 y99) fun y100 => M.bind (M.ok []) fun y101 => M.ok (y100 :: y101)) fun y103 => M.ok (y102 :: y103)) fun y107 => catL y106 y107) fun y114 => M.bind (M.bind (M.ok some1) fun y111 => M.bind (M.bind (M.bind (M.ok spot82) fun y108 => M.bind (M.ok (2 : Int)) fun y109 => M.ok (y108 + y109)) fun y110 => M.ok (some y110)) fun y112 => M.bind (M.ok (none : Option Int)) fun y113 => M.ok (cutL y111 y112 y113)) fun y115 => catL y114 y115) fun y116 => M.bind (pushM bad69 y116) fun bad89 => M.ok bad89 else M.ok bad69) fun (s117 : ((List (List Int)))) => M.ok s117
def f_law_bad (some1 : (List Int)) (strands2 : Int) (cell3 : Int) : M (List (List Int)) := M.bind (modM cell3 (some1.length : Int)) fun at4 => let far8 : Int := ((cell3 / (41 : Int)) % ((10 : Int) ^ 60)); M.bind (M.bind (catL (cutL some1 none (some (at4 + (1 : Int)))) (cutL some1 (some at4) none)) fun y29 => M.ok ([([]), y29])) fun bad11 => M.bind (M.bind (catL (cutL some1 none (some at4)) ([(strands2 + far8)])) fun y46 => catL y46 (cutL some1 (some at4) none)) fun y48 => M.bind (pushM bad11 y48) fun bad30 => M.bind (M.bind (catL (cutL some1 none (some at4)) ([((-(1 : Int)) - far8)])) fun y66 => catL y66 (cutL some1 (some at4) none)) fun y68 => M.bind (pushM bad30 y68) fun bad49 => M.bind (catL some1 ([(strands2 + far8)])) fun y77 => M.bind (pushM bad49 y77) fun bad69 => M.bind (if (decide ((1 : Int) < (some1.length : Int))) = true then M.bind (modM (cell3 / (41 : Int)) ((some1.length : Int) - (1 : Int))) fun spot82 => M.bind (M.bind (M.bind (M.bind (getM some1 (spot82 + (1 : Int))) fun y104 => M.bind (getM some1 spot82) fun y105 => M.ok ([y104, y105])) fun y107 => catL (cutL some1 none (some spot82)) y107) fun y114 => catL y114 (cutL some1 (some (spot82 + (2 : Int))) none)) fun y116 => M.bind (pushM bad69 y116) fun bad89 => M.ok bad89 else M.ok bad69) fun (s117 : ((List (List Int)))) => M.ok s117
def r__law_bad (d : ((List Int) × Int × Int × Unit)) : M (List (List Int)) := q__law_bad d.1 d.2.1 d.2.2.1
def c__law_bad (d : ((List Int) × Int × Int × Unit)) : M (List (List Int)) := f_law_bad d.1 d.2.1 d.2.2.1
theorem eq__law_bad : r__law_bad = c__law_bad := by funext d; first | (simp only [r__law_bad, c__law_bad, q__law_bad, f_law_bad, M.bind_assoc, M.bok]; done) | (simp only [r__law_bad, c__law_bad, q__law_bad, f_law_bad, M.bind_assoc, M.bok]; rfl)
theorem bb__law_bad {p : Pr} (X : Facts p) {g : G} (ok : OkS p (defScope s__law_bad) N__law_bad V__law_bad G__law_bad 0 g) (hX : g.LX = List.replicate N__law_bad.length sAny) (some1 : (List Int)) (strands2 : Int) (cell3 : Int) : EvB g [(sV false (tList tInt) some1), (sV false tInt strands2), (sV false tInt cell3), sAny, sAny, sAny, sAny] (defBody s__law_bad) (fun r => .rtL false (tList tInt) r) (q__law_bad some1 strands2 cell3) := (evb_set ok (i := 3) (j := 3) rfl rfl (wkX hX rfl) .sh (ev_mod (md' := .sh) ok.toOk (ev_vsh ok.toOk (i := 2) (j := 2) rfl rfl rfl) (ev_lenQ (md' := .sh) ok.toOk sq_l (j := 0) rfl X.g_len (ev_vsh ok.toOk (i := 0) (j := 0) rfl rfl rfl))) fun at4 => (evb_set ok (i := 4) (j := 4) rfl rfl (wkX hX rfl) .sh (ev_modC (md' := .sh) ok.toOk (by decide) (ev_divC (md' := .sh) ok.toOk (by decide) (by decide) (ev_vsh ok.toOk (i := 2) (j := 2) rfl rfl rfl) (ev_int (md := .sh))) (ev_powC (md' := .sh) (n := 60) ok.toOk (by decide) (by decide) (ev_int (md := .sh)) (ev_int (md := .sh)))) fun far8 => (evb_own ok (i := 5) (j := 5) rfl rfl (wkX hX rfl) .sh (evl_lstN (n := 2) (lnS (lnS ln0)) (by decide) (evs_cons (ev_ofL (evl_nil (md := .sh) (S := tInt))) (evs_cons (ev_ofL (evl_cat (md := .sh) ok.toOk (ev_ofL (evl_slQ (md := .sh) ok.toOk sq_l (ev_vsh ok.toOk (i := 0) (j := 0) rfl rfl rfl) evo_none (evo_some (ev_add (md' := .sh) ok.toOk (ev_vsh ok.toOk (i := 3) (j := 3) rfl rfl rfl) (ev_int (md := .sh)))))) (ev_ofL (evl_slQ (md := .sh) ok.toOk sq_l (ev_vsh ok.toOk (i := 0) (j := 0) rfl rfl rfl) (evo_some (ev_vsh ok.toOk (i := 3) (j := 3) rfl rfl rfl)) evo_none)))) evs_nil))) fun bad11 => (evb_append ok (wkX hX rfl) (i := 5) (j := 5) rfl rfl rfl .sh (ev_ofL (evl_cat (md := .sh) ok.toOk (ev_ofL (evl_cat (md := .sh) ok.toOk (ev_ofL (evl_slQ (md := .sh) ok.toOk sq_l (ev_vsh ok.toOk (i := 0) (j := 0) rfl rfl rfl) evo_none (evo_some (ev_vsh ok.toOk (i := 3) (j := 3) rfl rfl rfl)))) (ev_ofL (evl_lstN (n := 1) (lnS ln0) (by decide) (evs_cons (ev_add (md' := .sh) ok.toOk (ev_vsh ok.toOk (i := 1) (j := 1) rfl rfl rfl) (ev_vsh ok.toOk (i := 4) (j := 4) rfl rfl rfl)) evs_nil))))) (ev_ofL (evl_slQ (md := .sh) ok.toOk sq_l (ev_vsh ok.toOk (i := 0) (j := 0) rfl rfl rfl) (evo_some (ev_vsh ok.toOk (i := 3) (j := 3) rfl rfl rfl)) evo_none)))) fun bad30 => (evb_append ok (wkX hX rfl) (i := 5) (j := 5) rfl rfl rfl .sh (ev_ofL (evl_cat (md := .sh) ok.toOk (ev_ofL (evl_cat (md := .sh) ok.toOk (ev_ofL (evl_slQ (md := .sh) ok.toOk sq_l (ev_vsh ok.toOk (i := 0) (j := 0) rfl rfl rfl) evo_none (evo_some (ev_vsh ok.toOk (i := 3) (j := 3) rfl rfl rfl)))) (ev_ofL (evl_lstN (n := 1) (lnS ln0) (by decide) (evs_cons (ev_subt (md' := .sh) ok.toOk (ev_neg (md' := .sh) ok.toOk (ev_int (md := .sh))) (ev_vsh ok.toOk (i := 4) (j := 4) rfl rfl rfl)) evs_nil))))) (ev_ofL (evl_slQ (md := .sh) ok.toOk sq_l (ev_vsh ok.toOk (i := 0) (j := 0) rfl rfl rfl) (evo_some (ev_vsh ok.toOk (i := 3) (j := 3) rfl rfl rfl)) evo_none)))) fun bad49 => (evb_append ok (wkX hX rfl) (i := 5) (j := 5) rfl rfl rfl .sh (ev_ofL (evl_cat (md := .sh) ok.toOk (ev_vsh ok.toOk (i := 0) (j := 0) rfl rfl rfl) (ev_ofL (evl_lstN (n := 1) (lnS ln0) (by decide) (evs_cons (ev_add (md' := .sh) ok.toOk (ev_vsh ok.toOk (i := 1) (j := 1) rfl rfl rfl) (ev_vsh ok.toOk (i := 4) (j := 4) rfl rfl rfl)) evs_nil))))) fun bad69 => (evb_if (LJ := (fun (s117 : ((List (List Int)))) => [(sV false (tList tInt) some1), (sV false tInt strands2), (sV false tInt cell3), (sV false tInt at4), (sV false tInt far8), (sOwn false (tList tInt) s117), sAny])) (wkX hX rfl) (evt_c ok.toOk c_gt (ev_lenQ (md' := .sh) ok.toOk sq_l (j := 0) rfl X.g_len (ev_vsh ok.toOk (i := 0) (j := 0) rfl rfl rfl)) (ev_int (md := .sh))) (evb_set ok (i := 6) (j := 6) rfl rfl (wkX hX rfl) .sh (ev_mod (md' := .sh) ok.toOk (ev_divC (md' := .sh) ok.toOk (by decide) (by decide) (ev_vsh ok.toOk (i := 2) (j := 2) rfl rfl rfl) (ev_int (md := .sh))) (ev_subt (md' := .sh) ok.toOk (ev_lenQ (md' := .sh) ok.toOk sq_l (j := 0) rfl X.g_len (ev_vsh ok.toOk (i := 0) (j := 0) rfl rfl rfl)) (ev_int (md := .sh)))) fun spot82 => (evb_append ok (wkX hX rfl) (i := 5) (j := 5) rfl rfl rfl .sh (ev_ofL (evl_cat (md := .sh) ok.toOk (ev_ofL (evl_cat (md := .sh) ok.toOk (ev_ofL (evl_slQ (md := .sh) ok.toOk sq_l (ev_vsh ok.toOk (i := 0) (j := 0) rfl rfl rfl) evo_none (evo_some (ev_vsh ok.toOk (i := 6) (j := 6) rfl rfl rfl)))) (ev_ofL (evl_lstN (n := 2) (lnS (lnS ln0)) (by decide) (evs_cons (ev_ixQ ok.toOk sq_l (ev_vsh ok.toOk (i := 0) (j := 0) rfl rfl rfl) (ev_add (md' := .sh) ok.toOk (ev_vsh ok.toOk (i := 6) (j := 6) rfl rfl rfl) (ev_int (md := .sh)))) (evs_cons (ev_ixQ ok.toOk sq_l (ev_vsh ok.toOk (i := 0) (j := 0) rfl rfl rfl) (ev_vsh ok.toOk (i := 6) (j := 6) rfl rfl rfl)) evs_nil)))))) (ev_ofL (evl_slQ (md := .sh) ok.toOk sq_l (ev_vsh ok.toOk (i := 0) (j := 0) rfl rfl rfl) (evo_some (ev_add (md' := .sh) ok.toOk (ev_vsh ok.toOk (i := 6) (j := 6) rfl rfl rfl) (ev_int (md := .sh)))) evo_none)))) fun bad89 => (evb_nx (by rfl) (Wk.s (Wk.s (Wk.s (Wk.s (Wk.s (Wk.s (Wk.a Wk.n)))))))))) (evb_nx (by rfl) (Wk.s (Wk.s (Wk.s (Wk.s (Wk.s (Wk.s (Wk.s Wk.n)))))))) fun s117 => (evb_retOwn ok.toOk (i := 5) (j := 5) rfl rfl rfl (.inl rfl) (by rfl)))))))))
theorem b__law_bad {p : Pr} (X : Facts p) : Body p s__law_bad N__law_bad V__law_bad G__law_bad 0 (fun (d : ((List Int) × Int × Int × Unit)) => [(sV false (tList tInt) d.1), (sV false tInt d.2.1), (sV false tInt d.2.2.1), sAny, sAny, sAny, sAny]) (fun r => .rtL false (tList tInt) r) r__law_bad := fun g ok hX d => bb__law_bad X ok hX d.1 d.2.1 d.2.2.1
theorem fn__law_bad {p : Pr} (X : Facts p) : Fn p 1 "_law_bad" ["some", "strands", "cell"] (spM p (aCons (tList tInt) (aCons tInt (aCons tInt aNil))) (fun r => .rtL false (tList tInt) r) c__law_bad) := by
  obtain ⟨f, fd, hF, hm⟩ := X.d__law_bad
  exact ⟨f, fd, eq__law_bad ▸ fn_rtL (m := 4) hF sc__law_bad (.cons (.cons (.cons .nil))) rfl rfl (b__law_bad X), hm, hF.kp, hF.bindsN fun _ _ _ _ _ _ us hl => match us, hl with | [_, _, _], _ => rfl⟩
/-! ### _law_refused -/
abbrev s__law_refused : Stmt := topS 29
abbrev N__law_refused : List Str := ["rows", "bad", "refused"]
abbrev V__law_refused : List Str := ["rows", "bad", "refused"]
abbrev G__law_refused : List Str := ["list", "round_way", "lifted_off", "NoStrand"]
theorem sc__law_refused : Sc s__law_refused N__law_refused V__law_refused ["rows", "bad"] G__law_refused := ⟨⟨rfl, rfl, rfl, by decide +kernel, rfl, by decide +kernel, by decide +kernel⟩, by decide +kernel, by decide +kernel, by decide +kernel⟩
def q__law_refused (rows1 : (List Tx)) (bad2 : (List Int)) : M Bool := M.bind (M.ok (0 : Int)) fun refused3 => M.bind (tryM kn_ .noStrand (M.bind (M.bind (M.bind (M.ok rows1) fun y6 => M.bind (M.bind (M.ok bad2) fun y4 => M.bind (M.ok ()) fun y5 => M.ok (y4, y5)) fun y7 => M.ok (y6, y7)) c_round_way) fun u10 => M.ok refused3) fun e12 => (refused3 + (1 : Int))) fun (s11 : (Int)) => M.bind (tryM kn_ .noStrand (M.bind (M.bind (M.bind (M.ok rows1) fun y15 => M.bind (M.bind (M.ok bad2) fun y13 => M.bind (M.ok ()) fun y14 => M.ok (y13, y14)) fun y16 => M.ok (y15, y16)) c_lifted_off) fun u19 => M.ok s11) fun e21 => (s11 + (1 : Int))) fun (s20 : (Int)) => M.bind (M.ok s20) fun y22 => M.bind (M.ok (2 : Int)) fun y23 => M.ok (decide (y22 = y23))
def f_law_refused (rows1 : (List Tx)) (bad2 : (List Int)) : M Bool := let refused3 : Int := (0 : Int); M.bind (tryM kn_ .noStrand (M.bind (f_round_way rows1 bad2) fun u10 => M.ok refused3) fun e12 => (refused3 + (1 : Int))) fun (s11 : (Int)) => M.bind (tryM kn_ .noStrand (M.bind (f_lifted_off rows1 bad2) fun u19 => M.ok s11) fun e21 => (s11 + (1 : Int))) fun (s20 : (Int)) => M.ok (decide (s20 = (2 : Int)))
def r__law_refused (d : ((List Tx) × (List Int) × Unit)) : M Bool := q__law_refused d.1 d.2.1
def c__law_refused (d : ((List Tx) × (List Int) × Unit)) : M Bool := f_law_refused d.1 d.2.1
theorem eq__law_refused : r__law_refused = c__law_refused := by funext d; first | (simp only [r__law_refused, c__law_refused, q__law_refused, f_law_refused, M.bind_assoc, M.bok, c_lifted_off, c_round_way]; done) | (simp only [r__law_refused, c__law_refused, q__law_refused, f_law_refused, M.bind_assoc, M.bok, c_lifted_off, c_round_way]; rfl)
theorem bb__law_refused {p : Pr} (X : Facts p) {g : G} (ok : OkS p (defScope s__law_refused) N__law_refused V__law_refused G__law_refused 3 g) (hX : g.LX = List.replicate N__law_refused.length sAny) (rows1 : (List Tx)) (bad2 : (List Int)) : EvB g [(sV false (tList tStr) rows1), (sV false (tList tInt) bad2), sAny] (defBody s__law_refused) (fun r => .rt false tBool r) (q__law_refused rows1 bad2) := (evb_set ok (i := 2) (j := 2) rfl rfl (wkX hX rfl) .sh (ev_int (md := .sh)) fun refused3 => (evb_tryI (LJ := (fun (s11 : (Int)) => [(sV false (tList tStr) rows1), (sV false (tList tInt) bad2), (sV false tInt s11)])) (h := (refused3 + (1 : Int))) ok (wkX hX rfl) X.kn (by decide) X.x_NoStrand.gP (j := 3) rfl (iC := 2) (jC := 2) rfl rfl rfl (fun g' ok hX => (evb_expr (wkL hX (Wk.s (Wk.s (Wk.s Wk.n)))) (ev_ofO2 (evo2_call ok.toOk (fn_round_way X) (by decide) (j := 1) rfl (eva_cons (md := .sh) (ev_vsh ok.toOk (i := 0) (j := 0) rfl rfl rfl) (eva_cons (md := .sh) (ev_ofL (evl_copyQ (md := .sh) ok.toOk sq_l (j := 0) rfl X.g_list (ev_vsh ok.toOk (i := 1) (j := 1) rfl rfl rfl))) eva_nil)))) fun u10 => (evb_nx (by rfl) (Wk.s (Wk.s (Wk.s Wk.n)))))) (Wk.s (Wk.s (Wk.s Wk.n))) fun s11 => (evb_tryI (LJ := (fun (s20 : (Int)) => [(sV false (tList tStr) rows1), (sV false (tList tInt) bad2), (sV false tInt s20)])) (h := (s11 + (1 : Int))) ok (wkX hX rfl) X.kn (by decide) X.x_NoStrand.gP (j := 3) rfl (iC := 2) (jC := 2) rfl rfl rfl (fun g' ok hX => (evb_expr (wkL hX (Wk.s (Wk.s (Wk.s Wk.n)))) (ev_ofO2 (evo2_call ok.toOk (fn_lifted_off X) (by decide) (j := 2) rfl (eva_cons (md := .sh) (ev_vsh ok.toOk (i := 0) (j := 0) rfl rfl rfl) (eva_cons (md := .sh) (ev_ofL (evl_copyQ (md := .sh) ok.toOk sq_l (j := 0) rfl X.g_list (ev_vsh ok.toOk (i := 1) (j := 1) rfl rfl rfl))) eva_nil)))) fun u19 => (evb_nx (by rfl) (Wk.s (Wk.s (Wk.s Wk.n)))))) (Wk.s (Wk.s (Wk.s Wk.n))) fun s20 => (evb_ret (wkX hX rfl) .sh (by intro _; rfl) (ev_c (md' := .sh) ok.toOk (c_eq s_int) (ev_vsh ok.toOk (i := 2) (j := 2) rfl rfl rfl) (ev_int (md := .sh)))))))
theorem b__law_refused {p : Pr} (X : Facts p) : Body p s__law_refused N__law_refused V__law_refused G__law_refused 3 (fun (d : ((List Tx) × (List Int) × Unit)) => [(sV false (tList tStr) d.1), (sV false (tList tInt) d.2.1), sAny]) (fun r => .rt false tBool r) r__law_refused := fun g ok hX d => bb__law_refused X ok hX d.1 d.2.1
theorem fn__law_refused {p : Pr} (X : Facts p) : Fn p 4 "_law_refused" ["rows", "bad"] (spM p (aCons (tList tStr) (aCons (tList tInt) aNil)) (fun r => .rt false tBool r) c__law_refused) := by
  obtain ⟨f, fd, hF, hm⟩ := X.d__law_refused
  exact ⟨f, fd, eq__law_refused ▸ fn_rt (m := 1) hF sc__law_refused (.cons (.cons .nil)) rfl rfl (b__law_refused X), hm, hF.kp, hF.bindsN fun _ _ _ _ _ _ us hl => match us, hl with | [_, _], _ => rfl⟩
/-! ### law -/
abbrev s_law : Stmt := topS 31
abbrev N_law : List Str := ["script", "rows", "strands", "some", "handed", "walked", "raised", "bad"]
abbrev V_law : List Str := ["script", "rows", "strands", "some", "handed", "walked", "raised", "bad"]
abbrev G_law : List Str := ["_law_cloth", "len", "_law_set", "list", "round_way", "lifted_off", "_law_round", "_law_lifted", "_law_at", "_law_bad", "_law_refused"]
theorem sc_law : Sc s_law N_law V_law ["script"] G_law := ⟨⟨rfl, rfl, rfl, by decide +kernel, rfl, by decide +kernel, by decide +kernel⟩, by decide +kernel, by decide +kernel, by decide +kernel⟩
def r_f_law_l1 (rows2 : (List Tx)) : Unit → (List Int) → M (Fl Unit Bool) := fun s108 bad109 => M.bind (M.bind (M.bind (M.bind (M.ok rows2) fun y112 => M.bind (M.bind (M.ok bad109) fun y110 => M.bind (M.ok ()) fun y111 => M.ok (y110, y111)) fun y113 => M.ok (y112, y113)) c__law_refused) fun y116 => M.ok (!y116)) fun c117 => if c117 = true then M.bind (M.ok false) fun r118 => M.ok (Fl.rt r118) else M.ok (Fl.nx ())
def f_law_l1 (rows2 : (List Tx)) : Unit → (List Int) → M (Fl Unit Bool) := fun s108 bad109 => M.bind (M.bind (f_law_refused rows2 bad109) fun y116 => M.ok (!y116)) fun c119 => if c119 = true then M.ok (Fl.rt false) else M.ok (Fl.nx ())
theorem eq_f_law_l1 (rows2 : (List Tx)) : r_f_law_l1 rows2 = f_law_l1 rows2 := by funext s108 bad109; first | (simp only [r_f_law_l1, f_law_l1, M.bind_assoc, M.bok, c__law_at, c__law_bad, c__law_cloth, c__law_lifted, c__law_refused, c__law_round, c__law_set, c_lifted_off, c_round_way]; done) | (simp only [r_f_law_l1, f_law_l1, M.bind_assoc, M.bok, c__law_at, c__law_bad, c__law_cloth, c__law_lifted, c__law_refused, c__law_round, c__law_set, c_lifted_off, c_round_way]; rfl)
def q_law (script1 : (List Int)) : M Bool := M.bind (M.bind (M.bind (M.ok script1) fun y5 => M.bind (M.bind (M.ok (10 : Int)) fun y3 => M.bind (M.ok ()) fun y4 => M.ok (y3, y4)) fun y6 => M.ok (y5, y6)) c__law_cloth) fun rows2 => M.bind (M.bind (M.bind (M.bind (M.ok rows2) fun y10 => M.bind (M.ok (0 : Int)) fun y11 => getM y10 y11) fun y12 => M.ok (y12.length : Int)) fun y14 => M.bind (M.bind (M.ok rows2) fun y13 => M.ok (y13.length : Int)) fun y15 => M.ok (y14 + y15)) fun strands9 => M.bind (M.bind (M.bind (M.ok script1) fun y19 => M.bind (M.bind (M.ok strands9) fun y17 => M.bind (M.ok ()) fun y18 => M.ok (y17, y18)) fun y20 => M.ok (y19, y20)) c__law_set) fun some16 => M.bind (M.bind (M.ok rows2) fun y26 => M.bind (M.bind (M.ok some16) fun y24 => M.bind (M.ok ()) fun y25 => M.ok (y24, y25)) fun y27 => M.ok (y26, y27)) fun handed23 => M.bind (M.bind (M.bind (M.bind (M.ok handed23) fun y31 => M.ok y31.1) fun y35 => M.bind (M.bind (M.bind (M.ok handed23) fun y32 => M.ok y32.2.1) fun y33 => M.bind (M.ok ()) fun y34 => M.ok (y33, y34)) fun y36 => M.ok (y35, y36)) c_round_way) fun walked30 => M.bind (M.bind (M.bind (M.bind (M.ok handed23) fun y40 => M.ok y40.1) fun y44 => M.bind (M.bind (M.bind (M.ok handed23) fun y41 => M.ok y41.2.1) fun y42 => M.bind (M.ok ()) fun y43 => M.ok (y42, y43)) fun y45 => M.ok (y44, y45)) c_lifted_off) fun raised39 => M.bind (M.ok ((!decide (handed23 = (rows2, some16, ()))) || (decide (walked30.isNone = raised39.isNone)))) fun c61 => if c61 = true then M.ok false else M.bind (M.bind (M.bind (M.ok raised39) fun y63 => M.ok y63.isNone) fun c74 => if c74 = true then M.bind (M.bind (M.bind (M.ok rows2) fun y68 => M.bind (M.bind (M.ok walked30) fun y66 => M.bind (M.bind (M.ok some16) fun y64 => M.bind (M.ok ()) fun y65 => M.ok (y64, y65)) fun y67 => M.ok (y66, y67)) fun y69 => M.ok (y68, y69)) c__law_round) fun y73 => M.ok (!y73) else M.ok false) fun c76 => if c76 = true then M.ok false else M.bind (M.bind (M.bind (M.ok walked30) fun y78 => M.ok y78.isNone) fun c89 => if c89 = true then M.bind (M.bind (M.bind (M.ok rows2) fun y83 => M.bind (M.bind (M.ok raised39) fun y81 => M.bind (M.bind (M.ok some16) fun y79 => M.bind (M.ok ()) fun y80 => M.ok (y79, y80)) fun y82 => M.ok (y81, y82)) fun y84 => M.ok (y83, y84)) c__law_lifted) fun y88 => M.ok (!y88) else M.ok false) fun c91 => if c91 = true then M.ok false else M.bind (M.bind (M.bind (M.ok some16) fun y103 => M.bind (M.bind (M.ok strands9) fun y101 => M.bind (M.bind (M.bind (M.bind (M.ok script1) fun y95 => M.bind (M.bind (M.ok (6 : Int)) fun y93 => M.bind (M.ok ()) fun y94 => M.ok (y93, y94)) fun y96 => M.ok (y95, y96)) c__law_at) fun y99 => M.bind (M.ok ()) fun y100 => M.ok (y99, y100)) fun y102 => M.ok (y101, y102)) fun y104 => M.ok (y103, y104)) c__law_bad) fun xs120 => M.bind (forF (r_f_law_l1 rows2) () xs120) (Fl.el (fun (s121 : Unit) => M.bind (M.bind (M.ok walked30) fun y122 => M.ok y122.isSome) fun c123 => M.bind (if c123 = true then M.bind (unO walked30) fun u126 => M.bind (M.ok (0 : Int)) fun y125 => M.bind (pushM u126 y125) fun walked124 => M.ok () else M.ok ()) fun (s127 : Unit) => M.bind (M.bind (M.ok raised39) fun y128 => M.ok y128.isSome) fun c129 => M.bind (if c129 = true then M.bind (unO raised39) fun u132 => M.bind (M.ok (0 : Int)) fun y131 => M.bind (pushM u132 y131) fun raised130 => M.ok () else M.ok ()) fun (s133 : Unit) => M.bind (M.ok handed23) fun y140 => M.bind (M.bind (M.ok rows2) fun y136 => M.bind (M.bind (M.ok some16) fun y134 => M.bind (M.ok ()) fun y135 => M.ok (y134, y135)) fun y137 => M.ok (y136, y137)) fun y141 => M.ok (decide (y140 = y141))) fun r143 => M.ok r143)
def f_law (script1 : (List Int)) : M Bool := M.bind (f_law_cloth script1 (10 : Int)) fun rows2 => M.bind (M.bind (M.bind (getM rows2 (0 : Int)) fun y12 => M.ok (y12.length : Int)) fun y14 => M.ok (y14 + (rows2.length : Int))) fun strands9 => M.bind (f_law_set script1 strands9) fun some16 => let handed23 : ((List Tx) × (List Int) × Unit) := (rows2, some16, ()); M.bind (f_round_way handed23.1 handed23.2.1) fun walked30 => M.bind (f_lifted_off handed23.1 handed23.2.1) fun raised39 => if ((!decide (handed23 = (rows2, some16, ()))) || (decide (walked30.isNone = raised39.isNone))) = true then M.ok false else M.bind (if raised39.isNone = true then M.bind (f_law_round rows2 walked30 some16) fun y73 => M.ok (!y73) else M.ok false) fun c145 => if c145 = true then M.ok false else M.bind (if walked30.isNone = true then M.bind (f_law_lifted rows2 raised39 some16) fun y88 => M.ok (!y88) else M.ok false) fun c144 => if c144 = true then M.ok false else M.bind (M.bind (f_law_at script1 (6 : Int)) fun y107 => f_law_bad some16 strands9 y107) fun xs120 => M.bind (forF (f_law_l1 rows2) () xs120) (Fl.el (fun (s121 : Unit) => M.bind (if walked30.isSome = true then M.bind (unO walked30) fun u126 => M.bind (pushM u126 (0 : Int)) fun walked124 => M.ok () else M.ok ()) fun (s127 : Unit) => M.bind (if raised39.isSome = true then M.bind (unO raised39) fun u132 => M.bind (pushM u132 (0 : Int)) fun raised130 => M.ok () else M.ok ()) fun (s133 : Unit) => M.ok (decide (handed23 = (rows2, some16, ())))) fun r143 => M.ok r143)
def r_law (d : ((List Int) × Unit)) : M Bool := q_law d.1
def c_law (d : ((List Int) × Unit)) : M Bool := f_law d.1
theorem eq_law : r_law = c_law := by funext d; first | (simp only [r_law, c_law, q_law, f_law, M.bind_assoc, M.bok, eq_f_law_l1, c__law_at, c__law_bad, c__law_cloth, c__law_lifted, c__law_refused, c__law_round, c__law_set, c_lifted_off, c_round_way]; done) | (simp only [r_law, c_law, q_law, f_law, M.bind_assoc, M.bok, eq_f_law_l1, c__law_at, c__law_bad, c__law_cloth, c__law_lifted, c__law_refused, c__law_round, c__law_set, c_lifted_off, c_round_way]; rfl)
theorem bb_law {p : Pr} (X : Facts p) {g : G} (ok : OkS p (defScope s_law) N_law V_law G_law 4 g) (hX : g.LX = List.replicate N_law.length sAny) (script1 : (List Int)) : EvB g [(sV false (tListK p.K tInt) script1), sAny, sAny, sAny, sAny, sAny, sAny, sAny] (defBody s_law) (fun r => .rt false tBool r) (q_law script1) := (evb_set ok (i := 1) (j := 1) rfl rfl (wkX hX rfl) .sh (ev_ofL (evl_call (md' := .sh) ok.toOk (fn__law_cloth X) (by decide) (j := 0) rfl .sh (eva_cons (md := .sh) (ev_vsh ok.toOk (i := 0) (j := 0) rfl rfl rfl) (eva_cons (md := .sh) (ev_int (md := .sh)) eva_nil)))) fun rows2 => (evb_set ok (i := 2) (j := 2) rfl rfl (wkX hX rfl) .sh (ev_add (md' := .sh) ok.toOk (ev_lenS (md' := .sh) ok.toOk (j := 1) rfl X.g_len (ev_ixQ ok.toOk sq_l (ev_vsh ok.toOk (i := 1) (j := 1) rfl rfl rfl) (ev_int (md := .sh)))) (ev_lenQ (md' := .sh) ok.toOk sq_l (j := 1) rfl X.g_len (ev_vsh ok.toOk (i := 1) (j := 1) rfl rfl rfl))) fun strands9 => (evb_set ok (i := 3) (j := 3) rfl rfl (wkX hX rfl) .sh (ev_call (md' := .sh) ok.toOk (fn__law_set X) (by decide) (j := 2) rfl .sh (eva_cons (md := .sh) (ev_vsh ok.toOk (i := 0) (j := 0) rfl rfl rfl) (eva_cons (md := .sh) (ev_vsh ok.toOk (i := 2) (j := 2) rfl rfl rfl) eva_nil))) fun some16 => (evb_set ok (i := 4) (j := 4) rfl rfl (wkX hX rfl) .sh (ev_hl (fun d vs R h => by rw [(lenS (lenS len0)) h]; decide) (eva_cons (ev_ofL (evl_copyQ (md := .sh) ok.toOk sq_l (j := 3) rfl X.g_list (ev_vsh ok.toOk (i := 1) (j := 1) rfl rfl rfl))) (eva_cons (ev_ofL (evl_copyQ (md := .sh) ok.toOk sq_l (j := 3) rfl X.g_list (ev_vsh ok.toOk (i := 3) (j := 3) rfl rfl rfl))) eva_nil))) fun handed23 => (evb_setO2 ok (i := 5) (j := 5) rfl rfl (wkX hX rfl) (evo2_call ok.toOk (fn_round_way X) (by decide) (j := 4) rfl (eva_cons (md := .sh) (ev_hlIx (n := 0) ok.toOk .z (ev_vsh ok.toOk (i := 4) (j := 4) rfl rfl rfl) (ev_int (md := .sh))) (eva_cons (md := .sh) (ev_hlIx (n := 1) ok.toOk (.s .z) (ev_vsh ok.toOk (i := 4) (j := 4) rfl rfl rfl) (ev_int (md := .sh))) eva_nil))) fun walked30 => (evb_setO2 ok (i := 6) (j := 6) rfl rfl (wkX hX rfl) (evo2_call ok.toOk (fn_lifted_off X) (by decide) (j := 5) rfl (eva_cons (md := .sh) (ev_hlIx (n := 0) ok.toOk .z (ev_vsh ok.toOk (i := 4) (j := 4) rfl rfl rfl) (ev_int (md := .sh))) (eva_cons (md := .sh) (ev_hlIx (n := 1) ok.toOk (.s .z) (ev_vsh ok.toOk (i := 4) (j := 4) rfl rfl rfl) (ev_int (md := .sh))) eva_nil))) fun raised39 => (evb_ifx (wkX hX rfl) (evt_borrowO2 (i := 6) rfl (evt_borrowO2 (i := 5) rfl (EvW.t (evw_orP (pureT (m := M.bind (M.ok handed23) fun y54 => M.bind (M.bind (M.ok rows2) fun y50 => M.bind (M.bind (M.ok some16) fun y48 => M.bind (M.ok ()) fun y49 => M.ok (y48, y49)) fun y51 => M.ok (y50, y51)) fun y55 => M.ok (!decide (y54 = y55))) (evt_c ok.toOk (c_neD ok.toOk (dHl (dCons (dList dStr) (dCons (dList dInt) dNil))) (by decide)) (ev_vsh ok.toOk (i := 4) (j := 4) rfl rfl rfl) (ev_hl (fun d vs R h => by rw [(lenS (lenS len0)) h]; decide) (eva_cons (ev_vsh ok.toOk (i := 1) (j := 1) rfl rfl rfl) (eva_cons (ev_vsh ok.toOk (i := 3) (j := 3) rfl rfl rfl) eva_nil)))) rfl) (pureW (m := M.bind (M.bind (M.ok walked30) fun y56 => M.ok y56.isNone) fun y58 => M.bind (M.bind (M.ok raised39) fun y57 => M.ok y57.isNone) fun y59 => M.ok (decide (y58 = y59))) (evw_or1 (evt_c ok.toOk (c_eq s_bool) (ev_isN (md' := .sh) ok.toOk (ev_vsh ok.toOk (i := 5) (j := 5) rfl rfl rfl)) (ev_isN (md' := .sh) ok.toOk (ev_vsh ok.toOk (i := 6) (j := 6) rfl rfl rfl)))) rfl))))) (evb_ret (wkX hX rfl) .sh (by intro _; rfl) (ev_bool (md := .sh))) (evb_ifx (wkX hX rfl) (evt_borrowO2 (i := 5) rfl (evt_borrowO2 (i := 6) rfl (EvW.t (evw_and (evt_isN ok.toOk (ev_vsh ok.toOk (i := 6) (j := 6) rfl rfl rfl)) (evw_and1 (evt_not (evt_of (ev_call (md' := .sh) ok.toOk (fn__law_round X) (by decide) (j := 6) rfl .sh (eva_cons (md := .sh) (ev_vsh ok.toOk (i := 1) (j := 1) rfl rfl rfl) (eva_cons (md := .sh) (ev_vsh ok.toOk (i := 5) (j := 5) rfl rfl rfl) (eva_cons (md := .sh) (ev_vsh ok.toOk (i := 3) (j := 3) rfl rfl rfl) eva_nil))))))))))) (evb_ret (wkX hX rfl) .sh (by intro _; rfl) (ev_bool (md := .sh))) (evb_ifx (wkX hX rfl) (evt_borrowO2 (i := 6) rfl (evt_borrowO2 (i := 5) rfl (EvW.t (evw_and (evt_isN ok.toOk (ev_vsh ok.toOk (i := 5) (j := 5) rfl rfl rfl)) (evw_and1 (evt_not (evt_of (ev_call (md' := .sh) ok.toOk (fn__law_lifted X) (by decide) (j := 7) rfl .sh (eva_cons (md := .sh) (ev_vsh ok.toOk (i := 1) (j := 1) rfl rfl rfl) (eva_cons (md := .sh) (ev_vsh ok.toOk (i := 6) (j := 6) rfl rfl rfl) (eva_cons (md := .sh) (ev_vsh ok.toOk (i := 3) (j := 3) rfl rfl rfl) eva_nil))))))))))) (evb_ret (wkX hX rfl) .sh (by intro _; rfl) (ev_bool (md := .sh))) (evb_forF (LF := (fun (s108 : Unit) => [(sV false (tListK p.K tInt) script1), (sV false (tList tStr) rows2), (sV false tInt strands9), (sV false (tList tInt) some16), (sV false (tHl (aCons (tList tStr) (aCons (tList tInt) aNil))) handed23), (sOO false tInt walked30), (sOO false tInt raised39), sAny])) (s0 := ()) (dr := fun r143 => r143) ok (wkX hX rfl) (evi_seq ok.toOk sq_l (ev_ofL (evl_call (md' := .sh) ok.toOk (fn__law_bad X) (by decide) (j := 9) rfl .sh (eva_cons (md := .sh) (ev_vsh ok.toOk (i := 3) (j := 3) rfl rfl rfl) (eva_cons (md := .sh) (ev_vsh ok.toOk (i := 2) (j := 2) rfl rfl rfl) (eva_cons (md := .sh) (ev_call (md' := .sh) ok.toOk (fn__law_at X) (by decide) (j := 8) rfl .sh (eva_cons (md := .sh) (ev_vsh ok.toOk (i := 0) (j := 0) rfl rfl rfl) (eva_cons (md := .sh) (ev_int (md := .sh)) eva_nil))) eva_nil)))))) (Wk.s (Wk.s (Wk.s (Wk.s (Wk.s (Wk.s (Wk.s (Wk.s Wk.n)))))))) (fun _ => evg_name ok (i := 7) (j := 7) rfl rfl) (fun s108 bad109 => (evb_ifl (wkX hX rfl) (evt_not (evt_of (ev_call (md' := .sh) ok.toOk (fn__law_refused X) (by decide) (j := 10) rfl .sh (eva_cons (md := .sh) (ev_ofL (evl_copyQ (md := .sh) ok.toOk sq_l (j := 3) rfl X.g_list (ev_vsh ok.toOk (i := 1) (j := 1) rfl rfl rfl))) (eva_cons (md := .sh) (ev_vsh ok.toOk (i := 7) (j := 7) rfl rfl rfl) eva_nil))))) (evb_retF (mk := fun r118 => Fl.rt r118) (wkX hX rfl) .sh (by intro _; rfl) (ev_bool (md := .sh))) (evb_go (by rfl) (Wk.s (Wk.s (Wk.s (Wk.s (Wk.s (Wk.s (Wk.s (Wk.a Wk.n))))))))))) fun s121 => (evb_if (LJ := (fun (s127 : Unit) => [(sV false (tListK p.K tInt) script1), (sV false (tList tStr) rows2), (sV false tInt strands9), (sV false (tList tInt) some16), (sV false (tHl (aCons (tList tStr) (aCons (tList tInt) aNil))) handed23), sAny, (sOO false tInt raised39), sAny])) (wkX hX rfl) (evt_borrowO2 (i := 5) rfl (evt_notN ok.toOk (ev_vsh ok.toOk (i := 5) (j := 5) rfl rfl rfl))) (evb_appendO2 ok (wkX hX rfl) (i := 5) (j := 5) rfl rfl rfl .sh (ev_int (md := .sh)) fun walked124 => (evb_nx (by rfl) (Wk.s (Wk.s (Wk.s (Wk.s (Wk.s (Wk.a (Wk.s (Wk.s Wk.n)))))))))) (evb_nx (by rfl) (Wk.s (Wk.s (Wk.s (Wk.s (Wk.s (Wk.a (Wk.s (Wk.s Wk.n))))))))) fun s127 => (evb_if (LJ := (fun (s133 : Unit) => [(sV false (tListK p.K tInt) script1), (sV false (tList tStr) rows2), (sV false tInt strands9), (sV false (tList tInt) some16), (sV false (tHl (aCons (tList tStr) (aCons (tList tInt) aNil))) handed23), sAny, sAny, sAny])) (wkX hX rfl) (evt_borrowO2 (i := 6) rfl (evt_notN ok.toOk (ev_vsh ok.toOk (i := 6) (j := 6) rfl rfl rfl))) (evb_appendO2 ok (wkX hX rfl) (i := 6) (j := 6) rfl rfl rfl .sh (ev_int (md := .sh)) fun raised130 => (evb_nx (by rfl) (Wk.s (Wk.s (Wk.s (Wk.s (Wk.s (Wk.s (Wk.a (Wk.s Wk.n)))))))))) (evb_nx (by rfl) (Wk.s (Wk.s (Wk.s (Wk.s (Wk.s (Wk.s (Wk.a (Wk.s Wk.n))))))))) fun s133 => (evb_ret (wkX hX rfl) .sh (by intro _; rfl) (ev_c (md' := .sh) ok.toOk (c_eqD ok.toOk (dHl (dCons (dList dStr) (dCons (dList dInt) dNil))) (by decide)) (ev_vsh ok.toOk (i := 4) (j := 4) rfl rfl rfl) (ev_hl (fun d vs R h => by rw [(lenS (lenS len0)) h]; decide) (eva_cons (ev_vsh ok.toOk (i := 1) (j := 1) rfl rfl rfl) (eva_cons (ev_vsh ok.toOk (i := 3) (j := 3) rfl rfl rfl) eva_nil)))))))))))))))))
theorem b_law {p : Pr} (X : Facts p) : Body p s_law N_law V_law G_law 4 (fun (d : ((List Int) × Unit)) => [(sV false (tListK p.K tInt) d.1), sAny, sAny, sAny, sAny, sAny, sAny, sAny]) (fun r => .rt false tBool r) r_law := fun g ok hX d => bb_law X ok hX d.1
theorem fnok_law {p : Pr} (X : Facts p) {f : Addr} {fd : FuncData} (hF : FunD p.K "law" "law" (defArgs s_law) (defBody s_law) (defScope s_law) [] [] f fd) : FnOk p.P p.w p.K p.mg p.base (L2.CX p.P p.w) 5 f fd ["script"] (spM p (aCons (tListK p.K tInt) aNil) (fun r => .rt false tBool r) c_law) := eq_law ▸ fn_rt (m := 7) hF sc_law (.cons .nil) rfl rfl (b_law X)
theorem dget_map {α : Type} (k k' : Key) (d : α) : ∀ ds : List (Key × α), dgetL (ds.map fun kv => if kv.1 = k then (kv.1, d) else kv) k' = (dgetL ds k').map fun x => if k' = k then d else x
  | [] => rfl
  | (q, x) :: ds => by
    have ih := dget_map k k' d ds
    unfold dgetL at ih ⊢
    rw [List.map_cons]
    by_cases a : q = k'
    · subst a
      by_cases b : q = k
      · subst b; simp [List.find?_cons]
      · simp [List.find?_cons, b]
    · by_cases b : q = k
      · subst b; simpa [List.find?_cons, a] using ih
      · simpa [List.find?_cons, a, b] using ih
theorem dget_snoc {α : Type} (k k' : Key) (d : α) : ∀ ds : List (Key × α), dgetL (ds ++ [(k, d)]) k' = match dgetL ds k' with | some x => some x | none => if k' = k then some d else none
  | [] => by
    unfold dgetL
    by_cases a : k = k'
    · subst a; simp [List.find?_cons]
    · have : ¬ k' = k := fun e => a e.symm
      simp [List.find?_cons, a, this]
  | (q, x) :: ds => by
    have ih := dget_snoc k k' d ds
    unfold dgetL at ih ⊢
    by_cases a : q = k'
    · subst a; simp [List.find?_cons]
    · simpa [List.find?_cons, a] using ih
theorem dget_any {α : Type} (k : Key) : ∀ ds : List (Key × α), (ds.any fun kv => decide (kv.1 = k)) = (dgetL ds k).isSome
  | [] => rfl
  | (q, x) :: ds => by
    have ih := dget_any k ds
    unfold dgetL at ih ⊢
    by_cases a : q = k
    · subst a; simp [List.find?_cons]
    · simpa [List.find?_cons, a] using ih
theorem dget_put {α : Type} (ds : List (Key × α)) (k k' : Key) (d : α) : dgetL (dputL ds k d) k' = if k' = k then some d else dgetL ds k' := by
  unfold dputL
  split
  · rename_i h
    rw [dget_map]
    by_cases a : k' = k
    · subst a
      rw [dget_any] at h
      obtain ⟨x, hx⟩ := Option.isSome_iff_exists.mp h
      rw [hx]; simp
    · simp [a]
  · rename_i h
    rw [dget_snoc]
    by_cases a : k' = k
    · subst a
      rw [dget_any] at h
      cases hx : dgetL ds k' with
      | none => rfl
      | some x => rw [hx] at h; exact absurd rfl h
    · simp only [a, if_false]
      cases dgetL ds k' <;> rfl
theorem dput_len {α : Type} (ds : List (Key × α)) (k : Key) (d : α) : (dputL ds k d).length ≤ ds.length + 1 := by
  unfold dputL
  split <;> simp

/-! ways in a finite graph -/
def WR (ov : Int → Int → Bool) (hd : Int → Bool) (one : Int) : Nat → Int → Prop
  | 0, x => x = one
  | n + 1, y => ∃ x, WR ov hd one n x ∧ ov x y = true ∧ hd y = true
def WD (ov : Int → Int → Bool) (hd : Int → Bool) (one : Int) (n : Nat) (x : Int) : Prop := WR ov hd one n x ∧ ∀ m, m < n → ¬ WR ov hd one m x
section
variable {ov : Int → Int → Bool} {hd : Int → Bool} {one : Int}
theorem WD.zero : WD ov hd one 0 one := ⟨rfl, fun m h => absurd h (Nat.not_lt_zero m)⟩
theorem WD.zero_eq {x : Int} (h : WD ov hd one 0 x) : x = one := h.1
theorem WD.pred {n : Nat} {y : Int} (h : WD ov hd one (n + 1) y) : ∃ x, WD ov hd one n x ∧ ov x y = true ∧ hd y = true := by
  obtain ⟨⟨x, h1, h2, h3⟩, h4⟩ := h
  exact ⟨x, ⟨h1, fun m hm hr => h4 (m + 1) (by omega) ⟨x, hr, h2, h3⟩⟩, h2, h3⟩
theorem WR.least {n : Nat} {x : Int} (h : WR ov hd one n x) : ∃ m, m ≤ n ∧ WD ov hd one m x := by
  induction n using Nat.strongRecOn with
  | ind n ih =>
    by_cases q : ∃ m, m < n ∧ WR ov hd one m x
    · obtain ⟨m, hm, hr⟩ := q
      obtain ⟨k, hk, hd⟩ := ih m hm hr
      exact ⟨k, by omega, hd⟩
    · exact ⟨n, Nat.le_refl _, h, fun m hm hr => q ⟨m, hm, hr⟩⟩
theorem WD.uniq {n m : Nat} {x : Int} (h : WD ov hd one n x) (h' : WD ov hd one m x) : n = m := by
  rcases Nat.lt_trichotomy n m with q | q | q
  · exact absurd h.1 (h'.2 n q)
  · exact q
  · exact absurd h'.1 (h.2 m q)
theorem WD.chain {n : Nat} {x : Int} (h : WD ov hd one n x) : ∀ {m : Nat}, m ≤ n → ∃ y, WD ov hd one m y := by
  induction n generalizing x with
  | zero => intro m hm; exact ⟨x, by rw [Nat.le_zero.mp hm]; exact h⟩
  | succ n ih =>
    intro m hm
    rcases Nat.lt_or_ge m (n + 1) with q | q
    · obtain ⟨y, hy, _⟩ := h.pred
      exact ih hy (by omega)
    · rw [show m = n + 1 by omega]; exact ⟨x, h⟩
theorem nodup_bound : ∀ (N : Nat) (l : List Int), l.Nodup → (∀ x ∈ l, 0 ≤ x ∧ x < N) → l.length ≤ N
  | 0, l, _, h => by
    cases l with
    | nil => exact Nat.le_refl _
    | cons x r => have := h x List.mem_cons_self; omega
  | N + 1, l, hn, h => by
    have h2 : (l.filter fun x => decide (x ≠ (N : Int))).length ≤ N := nodup_bound N _ (hn.sublist List.filter_sublist) fun x hx => by
      have h1 := h x (List.mem_filter.mp hx).1
      have h3 := (List.mem_filter.mp hx).2
      simp at h3
      omega
    have h3 : l.length ≤ (l.filter fun x => decide (x ≠ (N : Int))).length + 1 := by
      clear h2 h
      induction l with
      | nil => simp
      | cons a r ih =>
        obtain ⟨hn1, hn2⟩ := List.nodup_cons.mp hn
        rw [List.filter_cons]
        by_cases e : a = (N : Int)
        · subst e
          rw [if_neg (by simp)]
          rw [List.filter_eq_self.mpr fun x hx => by simp; intro z; subst z; exact hn1 hx]
          exact Nat.le_refl _
        · rw [if_pos (by simp [e])]
          have := ih hn2
          simp only [List.length_cons]
          omega
    omega
theorem WD.far {N : Nat} (hb : ∀ n x, WR ov hd one n x → 0 ≤ x ∧ x < N) {n : Nat} {x : Int} (h : WD ov hd one n x) : n < N := by
  have key : ∀ n x, WD ov hd one n x → ∃ l : List Int, l.length = n + 1 ∧ l.Nodup ∧ ∀ y ∈ l, ∃ m, m ≤ n ∧ WD ov hd one m y := by
    intro n
    induction n with
    | zero => intro x h; exact ⟨[x], rfl, by simp, fun y hy => ⟨0, Nat.le_refl _, by rw [List.mem_singleton.mp hy]; exact h⟩⟩
    | succ n ih =>
      intro x h
      obtain ⟨y, hy, _⟩ := h.pred
      obtain ⟨l, h1, h2, h3⟩ := ih y hy
      refine ⟨x :: l, by simp [h1], List.nodup_cons.mpr ⟨fun hm => ?_, h2⟩, fun z hz => ?_⟩
      · obtain ⟨m, hm1, hm2⟩ := h3 x hm
        have := hm2.uniq h
        omega
      · rcases List.mem_cons.mp hz with e | hz
        · exact ⟨n + 1, Nat.le_refl _, by rw [e]; exact h⟩
        · obtain ⟨m, hm1, hm2⟩ := h3 z hz
          exact ⟨m, by omega, hm2⟩
  obtain ⟨l, h1, h2, h3⟩ := key n x h
  have := nodup_bound N l h2 fun y hy => by obtain ⟨m, _, hm⟩ := h3 y hy; exact hb m y hm.1
  omega
end
theorem countP_lt {α : Type} {p q : α → Bool} {l : List α} (h : ∀ x ∈ l, p x = true → q x = true) {a : α} (ha : a ∈ l) (hp : p a = false) (hq : q a = true) : l.countP p < l.countP q := by
  induction l with
  | nil => cases ha
  | cons b r ih =>
    rw [List.countP_cons, List.countP_cons]
    have hle : r.countP p ≤ r.countP q := List.countP_mono_left fun x hx => h x (List.mem_cons_of_mem _ hx)
    rcases List.mem_cons.mp ha with e | ha
    · subst e
      rw [hp, hq]
      simp
      omega
    · have := ih (fun x hx => h x (List.mem_cons_of_mem _ hx)) ha
      have hb := h b List.mem_cons_self
      cases hpb : p b
      · cases hqb : q b <;> simp <;> omega
      · rw [hb hpb]; simp; omega

def sgn (rows : List Tx) (j k : Int) : Nat := ((rows[j.toNat]?.getD [])[k.toNat]?).getD 0
def ovB (rows : List Tx) (w : Int) (a b : Int) : Bool := if a < w ∧ w ≤ b then sgn rows (b - w) a == 35 else if b < w ∧ w ≤ a then sgn rows (a - w) b == 46 else false
theorem sgn_ok {rows : List Tx} {w h : Nat} (hc : Cloth rows w h) {j k : Int} (j0 : 0 ≤ j) (j1 : j < h) (k0 : 0 ≤ k) (k1 : k < w) : ∃ r, getM rows j = .ok r ∧ getS r k = .ok [sgn rows j k] := by
  obtain ⟨r, e, hr⟩ := ok_get (xs := rows) j0 (by have := hc.hh; omega)
  have hw := hc.ww r (List.mem_of_getElem? hr)
  obtain ⟨v, e2, c, hc', rfl⟩ := ok_getS (x := r) k0 (by omega)
  refine ⟨r, e, ?_⟩
  unfold sgn
  rw [hr]
  show _ = M.ok [(r[k.toNat]?).getD 0]
  rw [hc']
  exact e2
theorem sgn_or {rows : List Tx} {w h : Nat} (hc : Cloth rows w h) {j k : Int} (j0 : 0 ≤ j) (j1 : j < h) (k0 : 0 ≤ k) (k1 : k < w) : sgn rows j k = 35 ∨ sgn rows j k = 46 := by
  have hj : j.toNat < rows.length := by have := hc.hh; omega
  have hm : rows[j.toNat] ∈ rows := List.getElem_mem hj
  have hw := hc.ww _ hm
  have hk : k.toNat < rows[j.toNat].length := by omega
  have e : sgn rows j k = rows[j.toNat][k.toNat] := by
    unfold sgn
    rw [List.getElem?_eq_getElem hj]
    show (rows[j.toNat][k.toNat]?).getD 0 = _
    rw [List.getElem?_eq_getElem hk]; rfl
  rw [e]
  exact hc.sg _ hm _ (List.getElem_mem hk)
theorem first_row {rows : List Tx} {w h : Nat} (hc : Cloth rows w h) : ∃ r0, getM rows 0 = .ok r0 ∧ r0.length = w := by
  have hh := hc.hh
  have h1 := hc.h1
  obtain ⟨r0, hr0⟩ : ∃ r, rows[0]? = some r := ⟨rows[0], by simp⟩
  exact ⟨r0, getM_at (by omega) hr0, hc.ww r0 (List.mem_of_getElem? hr0)⟩
theorem one_tx {n m : Nat} : decide (([n] : Tx) = [m]) = (n == m) := by
  by_cases h : n = m
  · subst h; simp
  · simp [h]
theorem ovB_irr {rows : List Tx} {w : Int} (a : Int) : ovB rows w a a = false := by
  unfold ovB
  rw [if_neg (by omega), if_neg (by omega)]
/-- two strands that cross: just one lies over -/
theorem ovB_not {rows : List Tx} {w h : Nat} (hc : Cloth rows w h) {a b : Int} (a0 : 0 ≤ a) (a1 : a < w) (b0 : (w : Int) ≤ b) (b1 : b < (w : Int) + h) : ovB rows w b a = !ovB rows w a b := by
  unfold ovB
  rw [if_neg (by omega), if_pos (by omega), if_pos (by omega)]
  rcases sgn_or hc (j := b - w) (k := a) (by omega) (by omega) a0 a1 with e | e <;> rw [e] <;> rfl

theorem over_ok {rows : List Tx} {w h : Nat} (hc : Cloth rows w h) {a b : Int} (a0 : 0 ≤ a) (a1 : a < (w : Int) + h) (b0 : 0 ≤ b) (b1 : b < (w : Int) + h) : f_law_over rows a b = .ok (ovB rows w a b) := by
  obtain ⟨r0, e0, hr0⟩ := first_row hc
  unfold f_law_over ovB
  rw [e0]
  simp only [M.bind_ok, hr0, Bool.and_eq_true, decide_eq_true_eq]
  by_cases c1 : a < w ∧ (w : Int) ≤ b
  · rw [if_pos c1, if_pos c1]
    obtain ⟨r, e1, e2⟩ := sgn_ok hc (j := b - w) (k := a) (by omega) (by omega) (by omega) (by omega)
    rw [e1, M.bind_ok, e2, M.bind_ok, tx_hash, one_tx]
  · rw [if_neg c1, if_neg c1]
    by_cases c2 : b < w ∧ (w : Int) ≤ a
    · rw [if_pos c2, if_pos c2]
      obtain ⟨r, e1, e2⟩ := sgn_ok hc (j := a - w) (k := b) (by omega) (by omega) (by omega) (by omega)
      rw [e1, M.bind_ok, e2, M.bind_ok, tx_dot, one_tx]
    · rw [if_neg c2, if_neg c2]

theorem beneath_ok {rows : List Tx} {w h : Nat} (hc : Cloth rows w h) {s : Int} (s0 : 0 ≤ s) (s1 : s < (w : Int) + h) : Okm (f_beneath_strand rows w s) (fun l => ∀ x, x ∈ l ↔ (0 ≤ x ∧ x < (w : Int) + h) ∧ ovB rows w s x = true) := by
  have hh := hc.hh
  have h2 := hc.h2
  have w2 := hc.w2
  unfold f_beneath_strand
  refine okif (fun c => ?_) fun c => ?_
  · rw [decide_eq_true_eq] at c
    refine okb ok_range fun xs e => ?_
    subst e
    rw [comp_eq (g := fun pick => if (sgn rows pick s == 35) = true then some ((w : Int) + pick) else none) (by rw [upFrom_len]; omega) fun pick hp => ?_]
    · refine okv fun x => ?_
      rw [List.mem_filterMap]
      constructor
      · rintro ⟨pick, hp, e⟩
        rw [upFrom_mem] at hp
        by_cases q : (sgn rows pick s == 35) = true
        · rw [if_pos q] at e
          cases e
          refine ⟨by omega, ?_⟩
          unfold ovB
          rw [if_pos (by omega), show (w : Int) + pick - w = pick by omega]
          exact q
        · rw [if_neg q] at e; cases e
      · rintro ⟨hx, q⟩
        unfold ovB at q
        split at q
        · exact ⟨x - w, by rw [upFrom_mem]; omega, by rw [if_pos q]; congr 1; omega⟩
        · split at q
          · omega
          · cases q
    · rw [upFrom_mem] at hp
      obtain ⟨r, e1, e2⟩ := sgn_ok hc (j := pick) (k := s) (by omega) (by omega) (by omega) (by omega)
      rw [e1, M.bind_ok, e2, M.bind_ok, M.bind_ok, tx_hash, one_tx]
      split <;> rfl
  · rw [decide_eq_false_iff_not] at c
    refine okb ok_range fun xs e => ?_
    subst e
    rw [comp_eq (g := fun end_ => if (sgn rows (s - w) end_ == 46) = true then some end_ else none) (by rw [upFrom_len]; omega) fun end_ hp => ?_]
    · refine okv fun x => ?_
      rw [List.mem_filterMap]
      constructor
      · rintro ⟨end_, hp, e⟩
        rw [upFrom_mem] at hp
        by_cases q : (sgn rows (s - w) end_ == 46) = true
        · rw [if_pos q] at e
          cases e
          refine ⟨by omega, ?_⟩
          unfold ovB
          rw [if_neg (by omega), if_pos (by omega)]
          exact q
        · rw [if_neg q] at e; cases e
      · rintro ⟨hx, q⟩
        unfold ovB at q
        split at q
        · omega
        · split at q
          · exact ⟨x, by rw [upFrom_mem]; omega, by rw [if_pos q]⟩
          · cases q
    · rw [upFrom_mem] at hp
      obtain ⟨r, e1, e2⟩ := sgn_ok hc (j := s - w) (k := end_) (by omega) (by omega) (by omega) (by omega)
      rw [e1, M.bind_ok, e2, M.bind_ok, M.bind_ok, tx_dot, one_tx]
      split <;> rfl
/-- how many of the first N numbers are not among the keys -/
def unkey {α : Type} (N : Nat) (c : List (Key × α)) : Nat := (upFrom 0 N).countP fun x => (dgetL c (.inl x)).isNone
theorem unkey_put {α : Type} {N : Nat} {c : List (Key × α)} {x : Int} {d : α} (x0 : 0 ≤ x) (x1 : x < N) (hx : dgetL c (.inl x) = none) : unkey N (dputL c (.inl x) d) < unkey N c := by
  unfold unkey
  refine countP_lt (a := x) (fun y _ hy => ?_) (by rw [upFrom_mem]; omega) ?_ (by rw [hx]; rfl)
  · rw [dget_put] at hy
    split at hy
    · cases hy
    · exact hy
  · rw [dget_put, if_pos rfl]; rfl
theorem unkey_le {α : Type} (N : Nat) (c : List (Key × α)) : unkey N c ≤ N := by
  unfold unkey
  have := List.countP_le_length (p := fun x => (dgetL c (.inl x)).isNone) (l := upFrom 0 N)
  rwa [upFrom_len] at this
theorem key_ne {x y : Int} (h : x ≠ y) : (Sum.inl x : Key) ≠ .inl y := fun e => h (by cases e; rfl)
/-- a path of n steps -/
def IsPath (ov : Int → Int → Bool) (hd : Int → Bool) (one other : Int) (n : Nat) (p : List Int) : Prop :=
  p.length = n + 1 ∧ p[0]? = some one ∧ p[n]? = some other ∧ ∀ i, i < n → ∃ a b, p[i]? = some a ∧ p[i + 1]? = some b ∧ ov a b = true ∧ hd b = true
section
variable {rows : List Tx} {w h : Nat} {held : List (Key × Bool)} {one other : Int}
abbrev hdB (held : List (Key × Bool)) : Int → Bool := fun x => (dgetL held (.inl x)).isSome
/-- behind some of a line's strands -/
structure Stp (rows : List Tx) (w h : Nat) (held : List (Key × Bool)) (done : List Int) (c0 : List (Key × Int)) (s : List (Key × Int) × List Int) : Prop where
  came : ∀ x, (dgetL s.1 (.inl x)).isSome = true ↔ (dgetL c0 (.inl x)).isSome = true ∨ x ∈ s.2
  mem : ∀ x, x ∈ s.2 → hdB held x = true ∧ dgetL c0 (.inl x) = none ∧ ∃ y ∈ done, ovB rows w y x = true
  all : ∀ x, (0 ≤ x ∧ x < (w : Int) + h) → hdB held x = true → dgetL c0 (.inl x) = none → ∀ y ∈ done, ovB rows w y x = true → x ∈ s.2
  old : ∀ x y, dgetL c0 (.inl x) = some y → dgetL s.1 (.inl x) = some y
  new : ∀ x y, dgetL c0 (.inl x) = none → dgetL s.1 (.inl x) = some y → y ∈ done ∧ ovB rows w y x = true ∧ hdB held x = true
  sz : s.2.length + unkey (w + h) s.1 ≤ unkey (w + h) c0
  sz2 : s.1.length + unkey (w + h) s.1 ≤ c0.length + unkey (w + h) c0
theorem way_within_ok (hc : Cloth rows w h) (hH : ∀ x, hdB held x = true → 0 ≤ x ∧ x < (w : Int) + h) (o0 : 0 ≤ one) (o1 : one < (w : Int) + h) :
    Okm (f_way_within rows w held one other) (fun r => match r with
      | none => ∀ n, ¬ WR (ovB rows w) (hdB held) one n other
      | some p => ∃ n, WD (ovB rows w) (hdB held) one n other ∧ IsPath (ovB rows w) (hdB held) one other n p) := by
  have h2 := hc.h2
  have w2 := hc.w2
  have hb : ∀ n x, WR (ovB rows w) (hdB held) one n x → 0 ≤ x ∧ x < ((w + h : Nat) : Int) := by
    intro n x hr
    cases n with
    | zero => cases (show x = one from hr); omega
    | succ n => obtain ⟨_, _, _, q⟩ := hr; have := hH x q; omega
  unfold f_way_within
  show Okm (M.bind (whileM (f_way_within_t3 other) (f_way_within_w4 rows w held) fuel ([(.inl one, one)], [one])) _) _
  refine okb (ok_while
    (fun s => ∃ t, (∀ x, (dgetL s.1 (.inl x)).isSome = true ↔ ∃ m, m ≤ t ∧ WD (ovB rows w) (hdB held) one m x) ∧ (∀ x, x ∈ s.2 ↔ WD (ovB rows w) (hdB held) one t x) ∧ (∀ x y m, dgetL s.1 (.inl x) = some y → WD (ovB rows w) (hdB held) one (m + 1) x → WD (ovB rows w) (hdB held) one m y ∧ ovB rows w y x = true ∧ hdB held x = true) ∧
      s.1.length + unkey (w + h) s.1 ≤ 1 + (w + h))
    (fun s => unkey (w + h) s.1 + if s.2 = [] then 0 else 1) ⟨0, fun x => ?_, fun x => ?_, fun x y m e hd => ?_, ?_⟩ ?_ fun s ⟨t, a1, a2, a3, a4⟩ => ?_) ?_
  · constructor
    · intro e
      refine ⟨0, Nat.le_refl _, ?_⟩
      have : x = one := by
        by_cases q : (Sum.inl one : Key) = .inl x
        · cases q; rfl
        · simp [dgetL, q] at e
      subst this
      exact WD.zero
    · rintro ⟨m, hm, hd⟩
      rw [Nat.le_zero.mp hm] at hd
      rw [hd.zero_eq]
      simp [dgetL]
  · exact ⟨fun e => by rw [List.mem_singleton.mp e]; exact WD.zero, fun e => by rw [e.zero_eq]; exact List.mem_singleton_self _⟩
  · have : x = one := by
      by_cases q : (Sum.inl one : Key) = .inl x
      · cases q; rfl
      · simp [dgetL, q] at e
    subst this
    exact absurd (hd.uniq WD.zero) (by omega)
  · have := unkey_le (w + h) ([(.inl one, one)] : List (Key × Int))
    simp only [List.length_singleton]
    omega
  · have := unkey_le (w + h) ([(.inl one, one)] : List (Key × Int))
    show unkey (w + h) ([(.inl one, one)] : List (Key × Int)) + (if [one] = [] then 0 else 1) < 1000000
    rw [if_neg (by simp)]
    omega
  · unfold f_way_within_t3
    refine okv fun hc' => ?_
    simp only [Bool.and_eq_true, decide_eq_true_eq, Bool.not_eq_true'] at hc'
    unfold f_way_within_w4
    show Okm (M.bind (forM (f_way_within_l2 rows w held) (s.1, []) s.2) _) _
    refine okb (ok_for (fun i r => Stp rows w h held (s.2.take i) s.1 r) ⟨fun x => by simp, fun x e => by simp at e, fun x _ _ _ y hy => by simp at hy, fun x y e => e, fun x y e e' => (by rw [e] at e'; cases e'), by simp, Nat.le_refl _⟩ fun i strand r hi hr => ?_) fun r hr => okv ?_
    · have hst : strand ∈ s.2 := List.mem_of_getElem? hi
      have sb := hb t strand ((a2 strand).mp hst).1
      unfold f_way_within_l2
      refine okb (beneath_ok hc (by omega) (by omega)) fun low hlow => ?_
      refine okb (ok_for (fun i' (r' : List (Key × Int) × List Int) =>
          (∀ x, (dgetL r'.1 (.inl x)).isSome = true ↔ (dgetL s.1 (.inl x)).isSome = true ∨ x ∈ r'.2) ∧
          (∀ x, x ∈ r'.2 → hdB held x = true ∧ dgetL s.1 (.inl x) = none ∧ ∃ y ∈ s.2.take (i + 1), ovB rows w y x = true) ∧
          (∀ x, x ∈ r.2 → x ∈ r'.2) ∧ (∀ x, x ∈ low.take i' → hdB held x = true → dgetL s.1 (.inl x) = none → x ∈ r'.2) ∧
          (∀ x y, dgetL s.1 (.inl x) = some y → dgetL r'.1 (.inl x) = some y) ∧
          (∀ x y, dgetL s.1 (.inl x) = none → dgetL r'.1 (.inl x) = some y → y ∈ s.2.take (i + 1) ∧ ovB rows w y x = true ∧ hdB held x = true) ∧
          r'.2.length + unkey (w + h) r'.1 ≤ unkey (w + h) s.1 ∧ r'.1.length + unkey (w + h) r'.1 ≤ s.1.length + unkey (w + h) s.1)
        ⟨hr.came, fun x hx => ?_, fun x hx => hx, fun x hx => by simp at hx, hr.old, fun x y e1 e2 => ?_, hr.sz, hr.sz2⟩ fun i' lower r' hi' ⟨b1, b2, b3, b4, b5, b6, b7, b8⟩ => ?_) fun r' ⟨b1, b2, b3, b4, b5, b6, b7, b8⟩ => okv ?_
      · obtain ⟨q1, q2, y, hy, q3⟩ := hr.mem x hx
        exact ⟨q1, q2, y, (List.take_subset_take_left _ (Nat.le_succ i)) hy, q3⟩
      · obtain ⟨q1, q2, q3⟩ := hr.new x y e1 e2
        exact ⟨(List.take_subset_take_left _ (Nat.le_succ i)) q1, q2, q3⟩
      · have hlo := (hlow lower).mp (List.mem_of_getElem? hi')
        unfold f_way_within_l1
        have tk : low.take (i' + 1) = low.take i' ++ [lower] := by rw [List.take_add_one, hi']; rfl
        have sti : strand ∈ s.2.take (i + 1) := by rw [List.take_add_one, hi]; simp
        refine okif (fun c => ?_) fun c => okv ⟨b1, b2, b3, fun x hx hh hn => ?_, b5, b6, b7, b8⟩
        · simp only [Bool.and_eq_true, Bool.not_eq_true'] at c
          have cn : dgetL r'.1 (.inl lower) = none := by
            cases q : dgetL r'.1 (.inl lower) with
            | none => rfl
            | some d => rw [q] at c; exact absurd c.2 (by simp)
          have sn : dgetL s.1 (.inl lower) = none := by
            cases q : dgetL s.1 (.inl lower) with
            | none => rfl
            | some d => rw [b5 _ _ q] at cn; cases cn
          have lt := unkey_put (N := w + h) (d := strand) (by omega) (by omega) cn
          have ln := dput_len r'.1 (.inl lower) strand
          have u0 := unkey_le (w + h) s.1
          refine okb (m := dputM _ _ _) (P := (· = dputL r'.1 (.inl lower) strand)) ?_ fun came' e => ?_
          · unfold dputM
            rw [if_pos (Nat.lt_of_le_of_lt (by omega : _ ≤ 200) (by decide))]
            exact okv rfl
          subst e
          refine okb (ok_push (by omega)) fun f' e => okv ?_
          subst e
          refine ⟨fun x => ?_, fun x hx => ?_, fun x hx => List.mem_append_left _ (b3 x hx), fun x hx hh hn => ?_, fun x y e => ?_, fun x y e1 e2 => ?_, ?_, ?_⟩
          · show (dgetL (dputL r'.1 (.inl lower) strand) (.inl x)).isSome = true ↔ _
            rw [dget_put]
            by_cases q : x = lower
            · subst q; simp
            · rw [if_neg (key_ne q), b1 x]; simp [q]
          · rcases List.mem_append.mp hx with hx | hx
            · exact b2 x hx
            · rw [List.mem_singleton.mp hx]
              exact ⟨c.1, sn, strand, sti, hlo.2⟩
          · rw [tk] at hx
            rcases List.mem_append.mp hx with hx | hx
            · exact List.mem_append_left _ (b4 x hx hh hn)
            · exact List.mem_append_right _ hx
          · show dgetL (dputL r'.1 (.inl lower) strand) (.inl x) = some y
            rw [dget_put, if_neg (key_ne fun q => by rw [q, sn] at e; cases e)]
            exact b5 x y e
          · have e2 : dgetL (dputL r'.1 (.inl lower) strand) (.inl x) = some y := e2
            rw [dget_put] at e2
            by_cases q : x = lower
            · subst q
              rw [if_pos rfl] at e2
              cases e2
              exact ⟨sti, hlo.2, c.1⟩
            · rw [if_neg (key_ne q)] at e2
              exact b6 x y e1 e2
          · show (r'.2 ++ [lower]).length + _ ≤ _
            rw [List.length_append, List.length_singleton]
            show _ + unkey (w + h) (dputL r'.1 (.inl lower) strand) ≤ _
            omega
          · show (dputL r'.1 (.inl lower) strand).length + unkey (w + h) (dputL r'.1 (.inl lower) strand) ≤ _
            omega
        · rw [tk] at hx
          rcases List.mem_append.mp hx with hx | hx
          · exact b4 x hx hh hn
          · rw [List.mem_singleton.mp hx] at hh hn ⊢
            have hh' : (dgetL held (.inl lower)).isSome = true := hh
            rw [hh', Bool.true_and] at c
            have := (b1 lower).mp (by simpa using c)
            rcases this with q | q
            · rw [hn] at q; cases q
            · exact q
      · rw [List.take_of_length_le (Nat.le_refl _)] at b4
        refine ⟨b1, b2, fun x hx hh hn y hy ho => ?_, b5, b6, b7, b8⟩
        rw [List.take_add_one, hi] at hy
        rcases List.mem_append.mp hy with hy | hy
        · exact b3 x (hr.all x hx hh hn y hy ho)
        · have hy : y = strand := by simpa using hy
          subst hy
          exact b4 x ((hlow x).mpr ⟨hx, ho⟩) hh hn
    · rw [List.take_of_length_le (Nat.le_refl _)] at hr
      have lvl : ∀ x, x ∈ r.2 ↔ WD (ovB rows w) (hdB held) one (t + 1) x := by
        intro x
        constructor
        · intro hx
          obtain ⟨q1, q2, y, hy, q3⟩ := hr.mem x hx
          refine ⟨⟨y, ((a2 y).mp hy).1, q3, q1⟩, fun m hm hr' => ?_⟩
          obtain ⟨m', hm', hd⟩ := hr'.least
          have := (a1 x).mpr ⟨m', by omega, hd⟩
          rw [q2] at this
          cases this
        · intro hd
          obtain ⟨y, hy, q1, q2⟩ := hd.pred
          have hx := hH x q2
          refine hr.all x hx q2 ?_ y ((a2 y).mpr hy) q1
          cases q : dgetL s.1 (.inl x) with
          | none => rfl
          | some d =>
            obtain ⟨m, hm, hd'⟩ := (a1 x).mp (by rw [q]; rfl)
            have := hd.uniq hd'
            omega
      refine ⟨⟨t + 1, fun x => ?_, lvl, fun x y m e hd => ?_, by have := hr.sz2; show r.1.length + unkey (w + h) r.1 ≤ _; omega⟩, ?_⟩
      · show (dgetL r.1 (.inl x)).isSome = true ↔ _
        rw [hr.came x, a1 x, lvl x]
        constructor
        · rintro (⟨m, hm, hd⟩ | hd)
          · exact ⟨m, by omega, hd⟩
          · exact ⟨t + 1, Nat.le_refl _, hd⟩
        · rintro ⟨m, hm, hd⟩
          by_cases q : m = t + 1
          · subst q; exact .inr hd
          · exact .inl ⟨m, by omega, hd⟩
      · have e : dgetL r.1 (.inl x) = some y := e
        cases q : dgetL s.1 (.inl x) with
        | some d =>
          have := hr.old x d q
          rw [e] at this
          cases this
          exact a3 x y m q hd
        | none =>
          obtain ⟨q1, q2, q3⟩ := hr.new x y q e
          have hx : x ∈ r.2 := by
            rcases (hr.came x).mp (by rw [e]; rfl) with z | z
            · rw [q] at z; cases z
            · exact z
          have := hd.uniq ((lvl x).mp hx)
          have hm : m = t := by omega
          subst hm
          exact ⟨(a2 y).mp q1, q2, q3⟩
      · show unkey (w + h) r.1 + (if r.2 = [] then 0 else 1) < unkey (w + h) s.1 + (if s.2 = [] then 0 else 1)
        have hne : s.2 ≠ [] := fun z => by rw [z] at hc'; simp at hc'
        rw [if_neg hne]
        have := hr.sz
        by_cases q : r.2 = []
        · rw [if_pos q]; omega
        · have : 0 < r.2.length := List.length_pos_iff.mpr q
          rw [if_neg q]; omega
  · rintro s ⟨⟨t, a1, a2, a3, a4⟩, hend⟩
    refine okif (fun c => okv fun n hn => ?_) fun c => ?_
    · simp only [Bool.not_eq_true'] at c
      unfold f_way_within_t3 at hend
      have hend := M.ok.inj hend
      rw [c] at hend
      simp only [Bool.not_false, Bool.and_true, decide_eq_false_iff_not] at hend
      have hnil : s.2 = [] := List.eq_nil_of_length_eq_zero (by omega)
      obtain ⟨m, _, hd⟩ := hn.least
      by_cases q : m ≤ t
      · have := (a1 other).mpr ⟨m, q, hd⟩
        rw [c] at this; cases this
      · obtain ⟨y, hy⟩ := hd.chain (m := t) (by omega)
        have := (a2 y).mpr hy
        rw [hnil] at this
        cases this
    · simp only [Bool.not_eq_false'] at c
      obtain ⟨n, hn, hd⟩ := (a1 other).mp c
      have hfar := hd.far hb
      show Okm (M.bind (whileM (f_way_within_t5 one) (f_way_within_w6 s) fuel [other]) _) _
      refine okb (ok_while
        (fun f => ∃ m x, m ≤ n ∧ f.length = n - m + 1 ∧ f[0]? = some other ∧ f[n - m]? = some x ∧ WD (ovB rows w) (hdB held) one m x ∧ ∀ i, i < n - m → ∃ a b, f[i + 1]? = some a ∧ f[i]? = some b ∧ ovB rows w a b = true ∧ hdB held b = true)
        (fun f => n + 1 - f.length) ⟨n, other, Nat.le_refl _, by simp, rfl, by simp, hd, fun i hi => by omega⟩ (by simp; omega) fun f ⟨m, x, b1, b2, b3, b4, b5, b6⟩ => ?_) ?_
      · unfold f_way_within_t5
        have gl : f.getLast? = some x := by rw [List.getLast?_eq_getElem?, b2]; exact b4
        rw [getM_last gl, M.bind_ok]
        refine okv fun q => ?_
        simp only [Bool.not_eq_true', decide_eq_false_iff_not] at q
        cases m with
        | zero => exact absurd b5.zero_eq q
        | succ m =>
          unfold f_way_within_w6
          rw [getM_last gl, M.bind_ok]
          obtain ⟨y, hy⟩ : ∃ y, dgetL s.1 (.inl x) = some y := by
            cases z : dgetL s.1 (.inl x) with
            | some y => exact ⟨y, rfl⟩
            | none =>
              have := (a1 x).mpr ⟨m + 1, by omega, b5⟩
              rw [z] at this; cases this
          obtain ⟨y1, y2, y3⟩ := a3 x y m hy b5
          unfold getDM
          rw [hy]
          show Okm (M.bind (pushM f y) _) _
          refine okb (ok_push (by omega)) fun f' e => okv ?_
          subst e
          refine ⟨⟨m, y, by omega, by simp; omega, by rw [List.getElem?_append_left (by omega)]; exact b3, ?_, y1, fun i hi => ?_⟩, by simp; omega⟩
          · rw [List.getElem?_append_right (by omega), show n - m - f.length = 0 by omega]; rfl
          · by_cases z : i < n - (m + 1)
            · obtain ⟨a, b, z1, z2, z3⟩ := b6 i z
              exact ⟨a, b, by rw [List.getElem?_append_left (by omega)]; exact z1, by rw [List.getElem?_append_left (by omega)]; exact z2, z3⟩
            · have : i = n - (m + 1) := by omega
              refine ⟨y, x, ?_, ?_, y2, y3⟩
              · rw [List.getElem?_append_right (by omega), show i + 1 - f.length = 0 by omega]; rfl
              · rw [List.getElem?_append_left (by omega), this]; exact b4
      · rintro f ⟨⟨m, x, b1, b2, b3, b4, b5, b6⟩, q⟩
        unfold f_way_within_t5 at q
        have gl : f.getLast? = some x := by rw [List.getLast?_eq_getElem?, b2]; exact b4
        rw [getM_last gl, M.bind_ok] at q
        have q := M.ok.inj q
        simp only [Bool.not_eq_false', decide_eq_true_eq] at q
        subst q
        have hm : m = 0 := b5.uniq WD.zero
        subst hm
        refine okv ⟨n, hd, by rw [List.length_reverse]; omega, ?_, ?_, fun i hi => ?_⟩
        · rw [List.getElem?_reverse (by omega), show f.length - 1 - 0 = n - 0 by omega]; exact b4
        · rw [List.getElem?_reverse (by omega), show f.length - 1 - n = 0 by omega]; exact b3
        · obtain ⟨a, b, z1, z2, z3⟩ := b6 (n - 1 - i) (by omega)
          refine ⟨a, b, ?_, ?_, z3⟩
          · rw [List.getElem?_reverse (by omega), show f.length - 1 - i = n - 1 - i + 1 by omega]; exact z1
          · rw [List.getElem?_reverse (by omega), show f.length - 1 - (i + 1) = n - 1 - i by omega]; exact z2
end

def Rising (l : List Int) (N : Int) : Prop := (∀ x ∈ l, 0 ≤ x ∧ x < N) ∧ l.Pairwise (· < ·)
theorem rising_at {l : List Int} {N : Int} (hr : Rising l N) {i : Nat} {x y : Int} (h1 : l[i]? = some x) (h2 : l[i + 1]? = some y) : x < y := by
  obtain ⟨a1, e1⟩ := List.getElem?_eq_some_iff.mp h1
  obtain ⟨a2, e2⟩ := List.getElem?_eq_some_iff.mp h2
  rw [← e1, ← e2]
  exact List.pairwise_iff_getElem.mp hr.2 i (i + 1) a1 a2 (Nat.lt_succ_self i)
theorem held_ok {l : List Int} {N : Int} (hr : Rising l N) (hne : l ≠ []) (hl : l.length ≤ 1000) : Okm (f_held_strands l N) (fun held => ∀ x, (dgetL held (.inl x)).isSome = true ↔ x ∈ l) := by
  unfold f_held_strands
  show Okm (M.bind (forM (f_held_strands_l1 N) ([], -(1 : Int)) l) _) _
  refine okb (ok_for (fun i (s : List (Key × Bool) × Int) => (∀ x, (dgetL s.1 (.inl x)).isSome = true ↔ x ∈ l.take i) ∧ s.1.length ≤ i ∧ (i = 0 → s.2 = -1) ∧ (0 < i → l[i - 1]? = some s.2)) ⟨fun x => by simp [dgetL], Nat.le_refl _, fun _ => rfl, fun z => by omega⟩ fun i x s hx ⟨a1, a2, a3, a4⟩ => ?_) fun s ⟨a1, a2, a3, a4⟩ => ?_
  · have hb := hr.1 x (List.mem_of_getElem? hx)
    have hil := (List.getElem?_eq_some_iff.mp hx).1
    unfold f_held_strands_l1
    have hlt : s.2 < x := by
      by_cases z : i = 0
      · rw [a3 z]; omega
      · exact rising_at (i := i - 1) hr (a4 (by omega)) (by rw [show i - 1 + 1 = i by omega]; exact hx)
    refine okif (fun c => ?_) fun _ => ?_
    · simp only [Bool.or_eq_true, decide_eq_true_eq] at c; omega
    refine okb (m := dputM _ _ _) (P := (· = dputL s.1 (.inl x) true)) ?_ fun d e => okv ?_
    · unfold dputM
      rw [if_pos (Nat.lt_of_le_of_lt (by omega : _ ≤ 1000) (by decide))]
      exact okv rfl
    subst e
    have ln := dput_len s.1 (.inl x) true
    refine ⟨fun y => ?_, by show (dputL s.1 (.inl x) true).length ≤ _; omega, fun z => by omega, fun _ => by simpa using hx⟩
    show (dgetL (dputL s.1 (.inl x) true) (.inl y)).isSome = true ↔ _
    rw [dget_put, List.take_add_one, hx]
    by_cases q : y = x
    · subst q; simp
    · rw [if_neg (key_ne q), a1 y]; simp [q]
  · have hp : 0 < l.length := List.length_pos_iff.mpr hne
    refine okif (fun c => ?_) fun _ => okv fun x => by rw [a1 x, List.take_of_length_le (Nat.le_refl _)]
    rw [decide_eq_true_eq] at c
    have := hr.1 s.2 (List.mem_of_getElem? (a4 hp))
    omega
theorem up_rising {N : Nat} : Rising (upFrom 0 N) N := by
  refine ⟨fun x hx => by rw [upFrom_mem] at hx; omega, List.pairwise_iff_getElem.mpr fun i j hi hj h => ?_⟩
  rw [upFrom_len] at hi hj
  have e1 := upFrom_get N 0 i
  have e2 := upFrom_get N 0 j
  rw [if_pos hi, List.getElem?_eq_getElem (by rw [upFrom_len]; exact hi)] at e1
  rw [if_pos hj, List.getElem?_eq_getElem (by rw [upFrom_len]; exact hj)] at e2
  rw [Option.some.inj e1, Option.some.inj e2]
  omega
theorem rangeL_up {N : Int} (h0 : 0 ≤ N) (h : N ≤ 1000000) : rangeL 0 N = .ok (upFrom 0 N.toNat) := by
  unfold rangeL
  rw [if_pos ⟨by omega, by omega, by omega, by omega, by omega⟩, Int.sub_zero]

def scAt (script : List Int) (k : Nat) : Int := script[k]?.getD 0
theorem at_ok {script : List Int} {k : Nat} : f_law_at script (k : Int) = .ok (scAt script k) := by
  refine oke ?_
  unfold f_law_at scAt
  refine okif (fun c => ?_) fun c => ?_
  · rw [decide_eq_true_eq] at c
    refine okmono (ok_get (by omega) c) fun v hv => ?_
    rw [Int.toNat_natCast] at hv
    rw [hv]; rfl
  · rw [decide_eq_false_iff_not] at c
    rw [List.getElem?_eq_none (by omega)]; exact okv rfl
theorem numbers_ok {script : List Int} {picks factor : Int} (hl : script.length ≤ 63) (h1 : 1 ≤ picks) (h2 : picks ≤ 1000) (f1 : 1 ≤ factor) (f2 : factor ≤ 48271) : Okm (f_law_numbers script picks factor) (fun ns => ns.length = picks.toNat) := by
  unfold f_law_numbers
  refine okb (ok_rep1 (by omega) (by omega)) fun s0 e => ?_
  subst e
  refine okb ok_range fun xs e => ?_
  subst e
  refine okb (ok_forR (fun i (s : List Int) => s.length = picks.toNat ∧ ∀ x ∈ s, 0 ≤ x ∧ x < 1099511627776) ⟨by simp, fun x hx => ?_⟩ fun i s hi ⟨a1, a2⟩ => ?_) fun s ⟨a1, a2⟩ => okv a1
  · rw [(List.mem_replicate.mp hx).2]; omega
  · unfold f_law_numbers_l1
    refine okb (ok_mod (by omega)) fun at_ e => ?_
    subst e
    have m0 := Int.emod_nonneg (0 + (i : Int)) (show picks ≠ 0 by omega)
    have m1 := Int.emod_lt_of_pos (0 + (i : Int)) (show 0 < picks by omega)
    refine okb (P := fun _ => True) ?_ fun v _ => ?_
    · refine okb (P := fun _ => True) ?_ fun v _ => ?_
      · refine okb (ok_get m0 (by omega)) fun a ha => ?_
        have := a2 a (List.mem_of_getElem? ha)
        exact okmono (ok_mul 64 64 (by omega) (by omega)) fun _ _ => trivial
      · exact okb (ok_get (by omega) (by omega)) fun a _ => okv trivial
    refine okb (ok_set m0 (by omega)) fun s' e => okv ?_
    subst e
    refine ⟨by rw [List.length_set]; exact a1, fun x hx => ?_⟩
    rcases List.mem_or_eq_of_mem_set hx with hx | hx
    · exact a2 x hx
    · subst hx; exact ⟨Int.emod_nonneg _ (by decide), Int.emod_lt_of_pos _ (by decide)⟩
theorem levels_ok {script : List Int} {strands many : Int} (h1 : 0 ≤ strands) (h2 : strands ≤ 1000) (m1 : 1 ≤ many) : Okm (f_law_levels script strands many) (fun ls => ls.length = strands.toNat) := by
  unfold f_law_levels
  rw [show (3 : Int) = ((3 : Nat) : Int) from rfl, at_ok]
  refine okb (P := fun _ => True) (okv trivial) fun number _ => ?_
  refine okb (m := rangeM 0 strands) ok_range fun xs e => ?_
  subst e
  refine okb (ok_forR (fun i (s : Int × List Int) => s.2.length = i) rfl fun i s hi a1 => ?_) fun s a1 => okv (by rw [a1]; omega)
  unfold f_law_levels_l1
  refine okb (m := modM _ many) (ok_mod (by omega)) fun y _ => ?_
  refine okb (ok_push (by omega)) fun l e => okv ?_
  subst e
  simp [a1]
theorem tx_dh : tx ".#" = [46, 35] := by decide +kernel
theorem text_ok {number pick ends : Int} {levels : List Int} (e0 : 0 ≤ ends) (e1 : ends ≤ 1000) (p0 : 0 ≤ pick) (hl : ends + pick < levels.length) : Okm (f_law_text number pick ends levels) (fun t => t.length = ends.toNat ∧ ∀ c ∈ t, c = 35 ∨ c = 46) := by
  unfold f_law_text
  refine okb (m := rangeM 0 ends) ok_range fun xs e => ?_
  subst e
  refine okb (ok_forR (fun i (s : Int × Tx) => s.2.length = i ∧ ∀ c ∈ s.2, c = 35 ∨ c = 46) ⟨by rw [tx_nil]; rfl, by rw [tx_nil]; exact fun c h => nomatch h⟩ fun i s hi ⟨a1, a2⟩ => ?_) fun s ⟨a1, a2⟩ => okv ⟨by rw [a1]; omega, a2⟩
  unfold f_law_text_l1
  refine okb (P := fun _ => True) ?_ fun c _ => ?_
  · exact okb (ok_get (by omega) (by omega)) fun a _ => okb (ok_get (by omega) (by omega)) fun b _ => okv trivial
  refine okb (P := fun _ => True) (okif (fun _ => ?_) fun _ => okv trivial) fun up _ => ?_
  · exact okb (P := fun _ => True) (okb (ok_get (by omega) (by omega)) fun a _ => okb (ok_get (by omega) (by omega)) fun b _ => okv trivial) fun _ _ => okv trivial
  refine okb (P := fun row => row.length = i + 1 ∧ ∀ c ∈ row, c = 35 ∨ c = 46) ?_ fun row hr => okv hr
  have hg : getS (tx ".#") (bInt up) = .ok [if up then 35 else 46] := by
    rw [tx_dh]
    cases up
    · exact getS_at (by decide) rfl
    · exact getS_at (by decide) rfl
  rw [hg]
  refine okmono (ok_cat (by rw [a1, List.length_singleton]; omega)) fun b e => ?_
  subst e
  refine ⟨by simp [a1], fun c hc => (List.mem_append.mp hc).elim (a2 c) fun h => ?_⟩
  rw [List.mem_singleton.mp h]
  cases up
  · exact .inr rfl
  · exact .inl rfl
theorem cloth_ok {script : List Int} {most : Int} (hl : script.length ≤ 63) (m1 : 1 ≤ most) (m2 : most ≤ 40) : Okm (f_law_cloth script most) (fun rows => ∃ w h, Cloth rows w h) := by
  unfold f_law_cloth
  rw [show f_law_at script 0 = _ from at_ok (k := 0), show f_law_at script 1 = _ from at_ok (k := 1), show f_law_at script 2 = _ from at_ok (k := 2)]
  simp only [M.bind_ok]
  refine okb (P := fun s => 1 ≤ s.1 ∧ s.1 ≤ 40 ∧ 1 ≤ s.2 ∧ s.2 ≤ 40) (okif (fun _ => ?_) fun _ => okv ⟨by omega, by omega, by omega, by omega⟩) fun s ⟨s1, s2, s3, s4⟩ => ?_
  · have a0 := Int.emod_nonneg (scAt script 0) (show most ≠ 0 by omega)
    have a1 := Int.emod_lt_of_pos (scAt script 0) (show 0 < most by omega)
    have b0 := Int.emod_nonneg (scAt script 1) (show most ≠ 0 by omega)
    have b1 := Int.emod_lt_of_pos (scAt script 1) (show 0 < most by omega)
    rw [oke (ok_mod (by omega : 0 < most)), oke (ok_mod (by omega : 0 < most))]
    exact okv ⟨by show 1 ≤ 1 + _; omega, by show 1 + _ ≤ 40; omega, by show 1 ≤ 1 + _; omega, by show 1 + _ ≤ 40; omega⟩
  have hf : Okm (getM [(1 : Int), (3 : Int), (48271 : Int)] (scAt script 2 / 7 % 3)) (fun f => 1 ≤ f ∧ f ≤ 48271) := by
    refine okmono (ok_get (by omega) (by show _ < (3 : Int); omega)) fun f h => ?_
    have := List.mem_of_getElem? h
    simp at this
    omega
  refine okb hf fun factor hfac => ?_
  refine okb (numbers_ok hl s3 (by omega) hfac.1 hfac.2) fun numbers hn => ?_
  refine okb (levels_ok (by omega) (by omega) (by omega)) fun levels hv => ?_
  refine okb ok_range fun xs e => ?_
  subst e
  refine okmono (ok_comp (fun _ (t : Tx) => t.length = s.1.toNat ∧ ∀ c ∈ t, c = 35 ∨ c = 46) (by rw [upFrom_len]; omega) fun j hj => ?_) fun rows ⟨r1, r2⟩ => ?_
  · rw [upFrom_mem] at hj
    refine okb (P := fun t => t.length = s.1.toNat ∧ ∀ c ∈ t, c = 35 ∨ c = 46) ?_ fun t ht => okv ⟨t, rfl, ht⟩
    refine okb (ok_get (by omega) (by omega)) fun a _ => ?_
    exact text_ok (by omega) (by omega) (by omega) (by omega)
  · rw [upFrom_len] at r1
    have key : ∀ r ∈ rows, r.length = s.1.toNat ∧ ∀ c ∈ r, c = 35 ∨ c = 46 := fun r hr => by
      obtain ⟨i, hi⟩ := List.mem_iff_getElem?.mp hr
      have hlt := (List.getElem?_eq_some_iff.mp hi).1
      exact r2 i ((0 : Int) + i) r (by rw [upFrom_get, if_pos (by omega)]) hi
    exact ⟨s.1.toNat, s.2.toNat, by omega, fun r hr => (key r hr).1, fun r hr => (key r hr).2, by omega, by omega, by omega, by omega⟩

theorem measured_ok {rows : List Tx} {w h : Nat} (hc : Cloth rows w h) : f_measured rows = .ok ((w : Int), (h : Int), ()) := by
  obtain ⟨hh, ww, sg, w1, w2, h1, h2⟩ := hc
  have hl : rows ≠ [] := fun e => by subst e; simp at hh; omega
  obtain ⟨r0, rs, rfl⟩ := List.exists_cons_of_ne_nil hl
  have e0 : r0.length = w := ww r0 List.mem_cons_self
  refine oke ?_
  unfold f_measured
  refine okif (fun c => ?_) fun _ => ?_
  · simp only [Bool.or_eq_true, decide_eq_true_eq] at c; omega
  refine okb (P := (· = (w : Int))) ?_ fun wd e => ?_
  · rw [show getM (r0 :: rs) 0 = .ok r0 from getM_at (by omega) rfl]
    exact okv (by omega)
  subst e
  refine okif (fun c => ?_) fun _ => ?_
  · simp only [Bool.or_eq_true, decide_eq_true_eq] at c; omega
  refine okb (P := fun _ => True) (ok_forI (fun _ => True) trivial fun text ht s _ => ?_) fun _ _ => okv (by rw [hh])
  unfold f_measured_l2
  refine okif (fun c => ?_) fun _ => ?_
  · have := ww text ht
    simp only [Bool.not_eq_true', decide_eq_false_iff_not] at c; omega
  refine okb (P := fun _ => True) (ok_forI (fun _ => True) trivial fun sign hs s _ => ?_) fun _ _ => okv trivial
  unfold f_measured_l1
  refine okif (fun c => ?_) fun _ => okv trivial
  obtain ⟨n, hn, rfl⟩ := List.mem_map.mp hs
  rw [tx_hash, tx_dot] at c
  rcases sg text ht n hn with e | e <;> subst e <;> simp at c

/-- loops that ask all -/
theorem forF_chk {α ρ : Type} {f : Unit → α → M (Fl Unit ρ)} {b : α → Bool} {r : ρ} : ∀ {xs : List α}, (∀ x ∈ xs, f () x = .ok (if b x = true then Fl.nx () else Fl.rt r)) → forF f () xs = .ok (if xs.all b = true then Fl.nx () else Fl.rt r)
  | [], _ => rfl
  | x :: xs, h => by
    show (f () x).bind (Fl.el (fun s => forF f s xs) fun q => .ok (.rt q)) = _
    rw [h x List.mem_cons_self]
    cases hb : b x with
    | true =>
      show forF f () xs = _
      rw [forF_chk fun y hy => h y (List.mem_cons_of_mem _ hy), List.all_cons, hb]; rfl
    | false =>
      rw [List.all_cons, hb]; rfl
theorem all_upFrom {n : Nat} {b : Int → Bool} {c : Nat → Bool} (h : ∀ i, i < n → b i = c i) : (upFrom 0 n).all b = (List.range n).all c := by
  rw [Bool.eq_iff_iff, List.all_eq_true, List.all_eq_true]
  constructor
  · intro H i hi
    rw [List.mem_range] at hi
    rw [← h i hi]
    exact H (i : Int) (upFrom_mem.mpr (by omega))
  · intro H i hi
    rw [upFrom_mem] at hi
    obtain ⟨k, rfl⟩ : ∃ k : Nat, i = k := ⟨i.toNat, by omega⟩
    rw [h k (by omega)]
    exact H k (List.mem_range.mpr (by omega))
theorem row_at {rows : List Tx} {w h : Nat} (hc : Cloth rows w h) {i : Int} (h0 : 0 ≤ i) (h1 : i < h) : ∃ r, rows[i.toNat]? = some r ∧ getM rows i = .ok r ∧ r.length = w ∧ r ∈ rows := by
  have hh := hc.hh
  have hlt : i.toNat < rows.length := by omega
  have hr : rows[i.toNat]? = some rows[i.toNat] := by simp [hlt]
  exact ⟨_, hr, getM_at h0 hr, hc.ww _ (List.getElem_mem hlt), List.getElem_mem hlt⟩
theorem getS_m1 {x : Tx} {c : Nat} (h : x.getLast? = some c) : getS x (-1) = .ok [c] := by
  have hne : x ≠ [] := fun e => by rw [e] at h; cases h
  have hl : 0 < x.length := List.length_pos_iff.mpr hne
  unfold getS L2.atI L2.ixN
  rw [if_neg (by decide), if_pos (by omega)]
  show (match x[(-1 + (x.length : Int)).toNat]? with | some d => M.ok [d] | none => .no) = _
  rw [show (-1 + (x.length : Int)).toNat = x.length - 1 by omega, ← List.getLast?_eq_getElem?, h]

/-! ways that go on, and back -/
section
variable {ov : Int → Int → Bool} {hd : Int → Bool}
theorem WR.trans {a x y : Int} {n m : Nat} (h1 : WR ov hd a n x) (h2 : WR ov hd x m y) : WR ov hd a (n + m) y := by
  induction m generalizing y with
  | zero => cases (show y = x from h2); exact h1
  | succ m ih => obtain ⟨z, q1, q2, q3⟩ := h2; exact ⟨z, ih q1, q2, q3⟩
theorem WR.held {a x : Int} {n : Nat} (h : WR ov hd a n x) (ha : hd a = true) : hd x = true := by
  cases n with
  | zero => cases (show x = a from h); exact ha
  | succ n => obtain ⟨_, _, _, q⟩ := h; exact q
theorem WR.rev {a x : Int} {n : Nat} (h : WR (fun p q => ov q p) hd a n x) (ha : hd a = true) : WR ov hd x n a := by
  induction n generalizing x with
  | zero => exact (show x = a from h).symm
  | succ n ih =>
    obtain ⟨y, q1, q2, q3⟩ := h
    have h1 : WR ov hd x 1 y := ⟨x, rfl, q2, q1.held ha⟩
    have := h1.trans (ih q1)
    rwa [Nat.add_comm] at this
theorem nodup_sub : ∀ (l m : List Int), l.Nodup → (∀ x ∈ l, x ∈ m) → l.length ≤ m.length
  | [], m, _, _ => Nat.zero_le _
  | x :: l, m, hn, h => by
    obtain ⟨n1, n2⟩ := List.nodup_cons.mp hn
    have hx := h x List.mem_cons_self
    have := nodup_sub l (m.erase x) n2 fun y hy => (List.mem_erase_of_ne (fun (e : y = x) => n1 (by rw [← e]; exact hy))).mpr (h y (List.mem_cons_of_mem _ hy))
    rw [List.length_erase_of_mem hx] at this
    have := List.length_pos_of_mem hx
    simp only [List.length_cons]; omega
theorem WD.farL {one : Int} {L : List Int} (hb : ∀ n x, WR ov hd one n x → x ∈ L) {n : Nat} {x : Int} (h : WD ov hd one n x) : n < L.length := by
  have key : ∀ n x, WD ov hd one n x → ∃ l : List Int, l.length = n + 1 ∧ l.Nodup ∧ ∀ y ∈ l, ∃ m, m ≤ n ∧ WD ov hd one m y := by
    intro n
    induction n with
    | zero => intro x h; exact ⟨[x], rfl, by simp, fun y hy => ⟨0, Nat.le_refl _, by rw [List.mem_singleton.mp hy]; exact h⟩⟩
    | succ n ih =>
      intro x h
      obtain ⟨y, hy, _⟩ := h.pred
      obtain ⟨l, h1, h2, h3⟩ := ih y hy
      refine ⟨x :: l, by simp [h1], List.nodup_cons.mpr ⟨fun hm => ?_, h2⟩, fun z hz => ?_⟩
      · obtain ⟨m, hm1, hm2⟩ := h3 x hm
        have := hm2.uniq h
        omega
      · rcases List.mem_cons.mp hz with e | hz
        · exact ⟨n + 1, Nat.le_refl _, by rw [e]; exact h⟩
        · obtain ⟨m, hm1, hm2⟩ := h3 z hz
          exact ⟨m, by omega, hm2⟩
  obtain ⟨l, h1, h2, h3⟩ := key n x h
  have := nodup_sub l L h2 fun y hy => by obtain ⟨m, _, hm⟩ := h3 y hy; exact hb m y hm.1
  omega
end
/-! a dict's keys among a list's items -/
def cnD {α : Type} (l : List Int) (c : List (Key × α)) : Nat := l.countP fun x => !(dgetL c (.inl x)).isSome
theorem cnD_put {α : Type} {l : List Int} {c : List (Key × α)} {x : Int} {d : α} (hn : l.Nodup) (hx : x ∈ l) (h : dgetL c (.inl x) = none) : cnD l (dputL c (.inl x) d) + 1 = cnD l c := by
  unfold cnD
  induction l with
  | nil => cases hx
  | cons a r ih =>
    obtain ⟨n1, n2⟩ := List.nodup_cons.mp hn
    rw [List.countP_cons, List.countP_cons, dget_put]
    by_cases e : a = x
    · subst e
      rw [if_pos rfl, h]
      have : r.countP (fun y => !(dgetL (dputL c (.inl a) d) (.inl y)).isSome) = r.countP (fun y => !(dgetL c (.inl y)).isSome) := by
        refine List.countP_congr fun y hy => ?_
        rw [dget_put, if_neg (key_ne fun (z : y = a) => n1 (by rw [← z]; exact hy))]
      rw [this]; simp
    · rw [if_neg (key_ne e)]
      have := ih n2 ((List.mem_cons.mp hx).resolve_left fun z => e z.symm)
      omega
theorem cnD_nil {α : Type} (l : List Int) : cnD l ([] : List (Key × α)) = l.length := by
  unfold cnD
  rw [List.countP_eq_length]
  intro x _; rfl
theorem dput_new {α : Type} {ds : List (Key × α)} {k : Key} {d : α} (h : dgetL ds k = none) : (dputL ds k d).length = ds.length + 1 := by
  unfold dputL
  rw [dget_any, h, if_neg (by simp)]
  simp
section
variable {rows : List Tx} {w h : Nat} {held : List (Key × Bool)}
theorem above_ok (hc : Cloth rows w h) {s : Int} (s0 : 0 ≤ s) (s1 : s < (w : Int) + h) : Okm (f_above_strand rows w s) (fun l => ∀ x, x ∈ l ↔ (0 ≤ x ∧ x < (w : Int) + h) ∧ ovB rows w x s = true) := by
  have hh := hc.hh
  have h2 := hc.h2
  have w2 := hc.w2
  unfold f_above_strand
  refine okif (fun c => ?_) fun c => ?_
  · rw [decide_eq_true_eq] at c
    refine okb ok_range fun xs e => ?_
    subst e
    rw [comp_eq (g := fun pick => if (sgn rows pick s == 46) = true then some ((w : Int) + pick) else none) (by rw [upFrom_len]; omega) fun pick hp => ?_]
    · refine okv fun x => ?_
      rw [List.mem_filterMap]
      constructor
      · rintro ⟨pick, hp, e⟩
        rw [upFrom_mem] at hp
        by_cases q : (sgn rows pick s == 46) = true
        · rw [if_pos q] at e
          cases e
          refine ⟨by omega, ?_⟩
          unfold ovB
          rw [if_neg (by omega), if_pos (by omega), show (w : Int) + pick - w = pick by omega]
          exact q
        · rw [if_neg q] at e; cases e
      · rintro ⟨hx, q⟩
        unfold ovB at q
        split at q
        · omega
        · split at q
          · exact ⟨x - w, by rw [upFrom_mem]; omega, by rw [if_pos q]; congr 1; omega⟩
          · cases q
    · rw [upFrom_mem] at hp
      obtain ⟨r, e1, e2⟩ := sgn_ok hc (j := pick) (k := s) (by omega) (by omega) (by omega) (by omega)
      rw [e1, M.bind_ok, e2, M.bind_ok, M.bind_ok, tx_dot, one_tx]
      split <;> rfl
  · rw [decide_eq_false_iff_not] at c
    refine okb ok_range fun xs e => ?_
    subst e
    rw [comp_eq (g := fun end_ => if (sgn rows (s - w) end_ == 35) = true then some end_ else none) (by rw [upFrom_len]; omega) fun end_ hp => ?_]
    · refine okv fun x => ?_
      rw [List.mem_filterMap]
      constructor
      · rintro ⟨end_, hp, e⟩
        rw [upFrom_mem] at hp
        by_cases q : (sgn rows (s - w) end_ == 35) = true
        · rw [if_pos q] at e
          cases e
          refine ⟨by omega, ?_⟩
          unfold ovB
          rw [if_pos (by omega)]
          exact q
        · rw [if_neg q] at e; cases e
      · rintro ⟨hx, q⟩
        unfold ovB at q
        split at q
        · exact ⟨x, by rw [upFrom_mem]; omega, by rw [if_pos q]⟩
        · split at q
          · omega
          · cases q
    · rw [upFrom_mem] at hp
      obtain ⟨r, e1, e2⟩ := sgn_ok hc (j := s - w) (k := end_) (by omega) (by omega) (by omega) (by omega)
      rw [e1, M.bind_ok, e2, M.bind_ok, M.bind_ok, tx_hash, one_tx]
      split <;> rfl
/-- over, or under -/
def ovU (rows : List Tx) (w : Nat) (up : Bool) : Int → Int → Bool := fun a b => if up = true then ovB rows w b a else ovB rows w a b
theorem near_ok (hc : Cloth rows w h) {s : Int} (s0 : 0 ≤ s) (s1 : s < (w : Int) + h) (up : Bool) : Okm (if up = true then f_above_strand rows w s else f_beneath_strand rows w s) (fun l => ∀ x, x ∈ l ↔ (0 ≤ x ∧ x < (w : Int) + h) ∧ ovU rows w up s x = true) := by
  cases up with
  | true => rw [if_pos rfl]; exact above_ok hc s0 s1
  | false => rw [if_neg Bool.false_ne_true]; exact beneath_ok hc s0 s1
/-- the strands that are met are those to which a way goes -/
theorem met_ok (hc : Cloth rows w h) {l : List Int} (hl : l.Nodup) (hll : l.length ≤ 1000) (hH : ∀ x, hdB held x = true ↔ x ∈ l) (hr : ∀ x ∈ l, 0 ≤ x ∧ x < (w : Int) + h) {start : Int} (hs : start ∈ l) (up : Bool) :
    Okm (f_met_from rows w held start up) (fun met => (∀ x, (dgetL met (.inl x)).isSome = true ↔ ∃ n, WR (ovU rows w up) (hdB held) start n x) ∧ cnD l met + met.length = l.length) := by
  unfold f_met_from
  show Okm (M.bind (whileM f_met_from_t3 (f_met_from_w4 rows w held up) fuel ([(.inl start, true)], [start])) _) _
  have i0 : ∀ x, (dgetL ([(.inl start, true)] : List (Key × Bool)) (.inl x)).isSome = true ↔ x = start := fun x => by
    have e : ([(.inl start, true)] : List (Key × Bool)) = dputL [] (.inl start) true := rfl
    rw [e, dget_put]
    by_cases q : x = start
    · subst q; simp
    · rw [if_neg (key_ne q)]; simp [dgetL, q]
  have cle : ∀ c : List (Key × Bool), cnD l c ≤ l.length := fun c => List.countP_le_length
  refine okb (ok_while (fun (s : List (Key × Bool) × List Int) => (∀ x, (dgetL s.1 (.inl x)).isSome = true → ∃ n, WR (ovU rows w up) (hdB held) start n x) ∧ (dgetL s.1 (.inl start)).isSome = true ∧ (∀ x ∈ s.2, (dgetL s.1 (.inl x)).isSome = true) ∧
      (∀ x, (dgetL s.1 (.inl x)).isSome = true → x ∉ s.2 → ∀ y, ovU rows w up x y = true → hdB held y = true → (dgetL s.1 (.inl y)).isSome = true) ∧ cnD l s.1 + s.1.length = l.length) (fun s => cnD l s.1 + if s.2 = [] then 0 else 1) ?_ ?_ fun s ⟨a1, a2, a3, a4, a5⟩ => okv fun c => ?_) fun s ⟨⟨a1, a2, a3, a4, a5⟩, a6⟩ => okv ⟨fun x => ⟨a1 x, ?_⟩, a5⟩
  · refine ⟨fun x hx => ⟨0, (i0 x).mp hx⟩, (i0 start).mpr rfl, fun x hx => (i0 x).mpr (List.mem_singleton.mp hx), fun x hx hn => absurd (List.mem_singleton.mpr ((i0 x).mp hx)) hn, ?_⟩
    have e := cnD_put (c := ([] : List (Key × Bool))) (d := true) hl hs rfl
    rw [cnD_nil] at e
    show cnD l (dputL ([] : List (Key × Bool)) (.inl start) true) + 1 = _
    exact e
  · have := cle ([(.inl start, true)])
    show cnD l ([(.inl start, true)] : List (Key × Bool)) + (if [start] = [] then 0 else 1) < 1000000
    rw [if_neg (by simp)]; omega
  · rw [decide_eq_true_eq] at c
    unfold f_met_from_w4
    show Okm (M.bind (forM (f_met_from_l2 rows w held up) (s.1, []) s.2) _) _
    refine okb (ok_for (fun i (r : List (Key × Bool) × List Int) => (∀ x, (dgetL r.1 (.inl x)).isSome = true → ∃ n, WR (ovU rows w up) (hdB held) start n x) ∧ (∀ x, (dgetL s.1 (.inl x)).isSome = true → (dgetL r.1 (.inl x)).isSome = true) ∧ (∀ x, (dgetL r.1 (.inl x)).isSome = true → (dgetL s.1 (.inl x)).isSome = true ∨ x ∈ r.2) ∧ (∀ x ∈ r.2, (dgetL r.1 (.inl x)).isSome = true) ∧
      (∀ j, j < i → ∀ x, s.2[j]? = some x → ∀ y, ovU rows w up x y = true → hdB held y = true → (dgetL r.1 (.inl y)).isSome = true) ∧ cnD l r.1 + r.1.length = l.length ∧ r.2.length + cnD l r.1 = cnD l s.1) ⟨a1, fun _ q => q, fun _ q => .inl q, fun x hx => (nomatch hx), fun j hj => absurd hj (Nat.not_lt_zero j), a5, by simp⟩ fun i strand r hi ⟨b1, b2, b3, b4, b5, b6, b7⟩ => ?_) fun r ⟨b1, b2, b3, b4, b5, b6, b7⟩ => okv ⟨⟨b1, b2 _ a2, b4, fun x hx hn y h1 h2 => ?_, b6⟩, ?_⟩
    · obtain ⟨n, hn⟩ := a1 strand (a3 strand (List.mem_of_getElem? hi))
      have bs := hr strand ((hH strand).mp (hn.held ((hH start).mpr hs)))
      unfold f_met_from_l2
      refine okb (near_ok hc bs.1 bs.2 up) fun nb hnb => ?_
      refine okb (ok_for (fun i' (r' : List (Key × Bool) × List Int) => (∀ x, (dgetL r'.1 (.inl x)).isSome = true → ∃ n, WR (ovU rows w up) (hdB held) start n x) ∧ (∀ x, (dgetL r.1 (.inl x)).isSome = true → (dgetL r'.1 (.inl x)).isSome = true) ∧ (∀ x, (dgetL r'.1 (.inl x)).isSome = true → (dgetL s.1 (.inl x)).isSome = true ∨ x ∈ r'.2) ∧ (∀ x ∈ r'.2, (dgetL r'.1 (.inl x)).isSome = true) ∧
        (∀ j, j < i' → ∀ y, nb[j]? = some y → hdB held y = true → (dgetL r'.1 (.inl y)).isSome = true) ∧ cnD l r'.1 + r'.1.length = l.length ∧ r'.2.length + cnD l r'.1 = cnD l s.1) ⟨b1, fun _ q => q, b3, b4, fun j hj => absurd hj (Nat.not_lt_zero j), b6, b7⟩ fun i' other r' hi' ⟨c1, c2, c3, c4, c5, c6, c7⟩ => ?_) fun r' ⟨c1, c2, c3, c4, c5, c6, c7⟩ => okv ⟨c1, fun x q => c2 x (b2 x q), c3, c4, fun j hj x hx y h1 h2 => ?_, c6, c7⟩
      · have hov := ((hnb other).mp (List.mem_of_getElem? hi')).2
        unfold f_met_from_l1
        refine okif (fun q => ?_) fun q => okv ⟨c1, c2, c3, c4, fun j hj y hy h1 => ?_, c6, c7⟩
        · simp only [Bool.and_eq_true, Bool.not_eq_true'] at q
          have ho : other ∈ l := (hH other).mp q.1
          have cn : dgetL r'.1 (.inl other) = none := by
            cases z : dgetL r'.1 (.inl other) with
            | none => rfl
            | some d => rw [z] at q; exact absurd q.2 (by simp)
          have e1 := cnD_put (d := true) hl ho cn
          have e2 := dput_new (d := true) cn
          refine okb (m := dputM _ _ _) (P := (· = dputL r'.1 (.inl other) true)) ?_ fun d e => ?_
          · unfold dputM
            rw [if_pos (Nat.lt_of_le_of_lt (show r'.1.length ≤ 1000 by omega) (by decide))]
            exact okv rfl
          subst e
          have gx : ∀ x, (dgetL (dputL r'.1 (.inl other) true) (.inl x)).isSome = true ↔ x = other ∨ (dgetL r'.1 (.inl x)).isSome = true := fun x => by
            rw [dget_put]
            by_cases z : x = other
            · subst z; simp
            · rw [if_neg (key_ne z)]; simp [z]
          have cl := cle s.1
          refine okb (ok_push (by omega)) fun f e => okv ?_
          subst e
          refine ⟨fun x hx => ?_, fun x hx => (gx x).mpr (.inr (c2 x hx)), fun x hx => ?_, fun x hx => ?_, fun j hj y hy h1 => ?_, ?_, ?_⟩
          · rcases (gx x).mp hx with z | z
            · subst z; exact ⟨n + 1, strand, hn, hov, q.1⟩
            · exact c1 x z
          · rcases (gx x).mp hx with z | z
            · exact .inr (List.mem_append_right _ (List.mem_singleton.mpr z))
            · exact (c3 x z).imp id (List.mem_append_left _)
          · rcases List.mem_append.mp hx with z | z
            · exact (gx x).mpr (.inr (c4 x z))
            · exact (gx x).mpr (.inl (List.mem_singleton.mp z))
          · by_cases z : j = i'
            · subst z
              rw [hi'] at hy; cases hy
              exact (gx _).mpr (.inl rfl)
            · exact (gx y).mpr (.inr (c5 j (by omega) y hy h1))
          · show cnD l (dputL r'.1 (.inl other) true) + (dputL r'.1 (.inl other) true).length = _
            omega
          · show (r'.2 ++ [other]).length + cnD l (dputL r'.1 (.inl other) true) = _
            rw [List.length_append, List.length_singleton]; omega
        · by_cases z : j = i'
          · subst z
            rw [hi'] at hy; cases hy
            cases z : (dgetL r'.1 (.inl other)).isSome with
            | true => rfl
            | false =>
              have : hdB held other = false := by
                unfold hdB at h1 ⊢
                rw [z] at q
                simpa using q
              rw [this] at h1; cases h1
          · exact c5 j (by omega) y hy h1
      · by_cases z : j = i
        · subst z
          rw [hi] at hx; cases hx
          have hy : y ∈ nb := (hnb y).mpr ⟨hr y ((hH y).mp h2), h1⟩
          obtain ⟨j', hj'⟩ := List.mem_iff_getElem?.mp hy
          exact c5 j' (List.getElem?_eq_some_iff.mp hj').1 y hj' h2
        · exact c2 y (b5 j (by omega) x hx y h1 h2)
    · rcases b3 x hx with z | z
      · by_cases q : x ∈ s.2
        · obtain ⟨j, hj⟩ := List.mem_iff_getElem?.mp q
          exact b5 j (List.getElem?_eq_some_iff.mp hj).1 x hj y h1 h2
        · exact b2 y (a4 x z q y h1 h2)
      · exact absurd z hn
    · show cnD l r.1 + (if r.2 = [] then 0 else 1) < cnD l s.1 + (if s.2 = [] then 0 else 1)
      have hs2 : s.2 ≠ [] := fun e => by rw [e] at c; simp at c
      rw [if_neg hs2]
      by_cases z : r.2 = []
      · rw [if_pos z]; omega
      · rw [if_neg z]
        have := List.length_pos_iff.mpr z
        omega
  · rintro ⟨n, hn⟩
    have e : s.2 = [] := by
      have : M.ok (decide ((0 : Int) < (s.2.length : Int))) = M.ok false := a6
      injection this with this
      rw [decide_eq_false_iff_not] at this
      exact List.length_eq_zero_iff.mp (by omega)
    induction n generalizing x with
    | zero => cases (show x = start from hn); exact a2
    | succ n ih =>
      obtain ⟨y, q1, q2, q3⟩ := hn
      exact a4 y (ih y q1) (by rw [e]; simp) x q2 q3
end

section
variable {rows : List Tx} {w h : Nat}
def inL (l : List Int) : Int → Bool := fun x => decide (x ∈ l)
theorem held_fun {held : List (Key × Bool)} {l : List Int} (h : ∀ x, (dgetL held (.inl x)).isSome = true ↔ x ∈ l) : hdB held = inL l := by
  funext x
  have := h x
  unfold inL
  cases q : hdB held x with
  | true => exact (decide_eq_true (this.mp q)).symm
  | false => exact (decide_eq_false fun z => by have := this.mpr z; unfold hdB at q; rw [q] at this; cases this).symm
/-- a set is refused or held -/
theorem held_tot {N : Int} : ∀ (l : List Int) (s : List (Key × Bool) × Int), s.1.length + l.length ≤ 1000 → forM (f_held_strands_l1 N) s l = .ex .noStrand ∨ ((∃ s', forM (f_held_strands_l1 N) s l = .ok s') ∧ (∀ x ∈ l, s.2 < x ∧ x < N) ∧ l.Pairwise (· < ·))
  | [], s, _ => .inr ⟨⟨s, rfl⟩, ⟨(fun x hx => nomatch hx), List.Pairwise.nil⟩⟩
  | x :: l, s, hl => by
    show (f_held_strands_l1 N s x).bind (fun s' => forM (f_held_strands_l1 N) s' l) = _ ∨ (∃ s', (f_held_strands_l1 N s x).bind (fun s' => forM (f_held_strands_l1 N) s' l) = _) ∧ _
    by_cases c : x ≤ s.2 ∨ N ≤ x
    · have e : f_held_strands_l1 N s x = .ex .noStrand := by
        unfold f_held_strands_l1
        rw [if_pos (by simp [c])]
      rw [e]
      exact .inl rfl
    · have hl' : s.1.length + (l.length + 1) ≤ 1000 := hl
      have e : f_held_strands_l1 N s x = .ok (dputL s.1 (.inl x) true, x) := by
        unfold f_held_strands_l1
        rw [if_neg (by simpa using c)]
        unfold dputM
        rw [if_pos (Nat.lt_of_le_of_lt (by omega : s.1.length ≤ 1000) (by decide))]
        rfl
      rw [e, M.bind_ok]
      have ln := dput_len s.1 (.inl x) true
      rcases held_tot l (dputL s.1 (.inl x) true, x) (by show (dputL s.1 (.inl x) true).length + _ ≤ _; omega) with z | ⟨z1, z2, z3⟩
      · exact .inl z
      · have z2 : ∀ y ∈ l, x < y ∧ y < N := z2
        refine .inr ⟨z1, fun y hy => ?_, List.pairwise_cons.mpr ⟨fun y hy => (z2 y hy).1, z3⟩⟩
        rcases List.mem_cons.mp hy with q | hy
        · subst q; omega
        · have := z2 y hy; omega
theorem held_bad {N : Int} {l : List Int} (hl : l.length ≤ 1000) (hb : ¬ (Rising l N ∧ l ≠ [])) : f_held_strands l N = .ex .noStrand := by
  unfold f_held_strands
  show M.bind (forM (f_held_strands_l1 N) ([], -(1 : Int)) l) _ = _
  rcases held_tot (N := N) l ([], -(1 : Int)) (by simpa using hl) with z | ⟨z1, z2, z3⟩
  · rw [z]; rfl
  · by_cases e : l = []
    · subst e; rfl
    · exact absurd ⟨⟨fun x hx => by have := z2 x hx; simp only at this; omega, z3⟩, e⟩ hb
/-- what lifts off -/
theorem lifted_ok (hc : Cloth rows w h) {l : List Int} (hr : Rising l ((w : Int) + h)) (hl : l.length ≤ 1000) {s0 : Int} (h0 : l[0]? = some s0) : Okm (f_lifted_off rows l) (fun r => match r with
      | none => (∀ x ∈ l, ∃ n, WR (ovB rows w) (inL l) s0 n x) ∧ ∀ x ∈ l, ∃ n, WR (fun p q => ovB rows w q p) (inL l) s0 n x
      | some c => c ≠ [] ∧ c.Pairwise (· < ·) ∧ (∀ x ∈ c, x ∈ l) ∧ c.length < l.length ∧ (∀ a ∈ l, a ∉ c → ∀ b ∈ c, ovB rows w a b = false) ∧ ¬ ((∀ x ∈ l, ∃ n, WR (ovB rows w) (inL l) s0 n x) ∧ ∀ x ∈ l, ∃ n, WR (fun p q => ovB rows w q p) (inL l) s0 n x)) := by
  have hs : s0 ∈ l := List.mem_of_getElem? h0
  have hnd : l.Nodup := hr.2.imp fun q e => by omega
  have hne : l ≠ [] := fun e => by rw [e] at hs; cases hs
  unfold f_lifted_off
  rw [measured_ok hc, M.bind_ok]
  show Okm (M.bind (f_held_strands l ((w : Int) + (h : Int))) _) _
  obtain ⟨held, e, hh⟩ := held_ok hr hne hl
  have hf := held_fun hh
  have hH : ∀ x, hdB held x = true ↔ x ∈ l := hh
  have hI : ∀ x, inL l x = true ↔ x ∈ l := fun x => by unfold inL; exact decide_eq_true_iff
  rw [e, M.bind_ok, getM_at (i := 0) (by omega) h0, M.bind_ok]
  have some_out : ∀ met : List (Key × Bool), cnD l met + met.length = l.length → ((met.length : Int) < (l.length : Int) ↔ ∃ x ∈ l, (dgetL met (.inl x)).isSome = false) := fun met hm => by
    have : cnD l met = 0 ↔ ∀ x ∈ l, ¬ (!(dgetL met (.inl x)).isSome) = true := List.countP_eq_zero
    constructor
    · intro q
      refine Classical.byContradiction fun z => ?_
      have := this.mpr fun x hx q => z ⟨x, hx, by simpa using q⟩
      omega
    · rintro ⟨x, hx, q⟩
      have : cnD l met ≠ 0 := fun z => this.mp z x hx (by simp [q])
      omega
  show Okm (M.bind (f_met_from rows (w : Int) held s0 false) _) _
  refine okb (met_ok hc hnd hl hH (fun x hx => hr.1 x hx) hs false) fun lower ⟨l1, l2⟩ => okif (fun c => ?_) fun c => ?_
  · rw [decide_eq_true_eq] at c
    obtain ⟨x0, hx0, q0⟩ := (some_out lower l2).mp c
    rw [comp_eq (g := fun s => if (!(dgetL lower (.inl s)).isSome) = true then some s else none) (by omega) fun s _ => by split <;> rfl, M.bind_ok]
    have ef : (l.filterMap fun s => if (!(dgetL lower (.inl s)).isSome) = true then some s else none) = l.filter fun s => !(dgetL lower (.inl s)).isSome := by
      rw [← List.filterMap_eq_filter]; rfl
    rw [ef]
    have hin : ∀ x, (∃ n, WR (ovB rows w) (inL l) s0 n x) ↔ (dgetL lower (.inl x)).isSome = true := fun x => by rw [l1 x, hf]; rfl
    refine okv ⟨fun z => ?_, hr.2.sublist List.filter_sublist, fun x hx => (List.mem_filter.mp hx).1, ?_, fun a ha hna b hb => ?_, fun z => ?_⟩
    · have := List.filter_eq_nil_iff.mp z x0 hx0
      simp [q0] at this
    · refine Nat.lt_of_le_of_ne (List.length_filter_le _ _) fun z => ?_
      have := List.length_filter_eq_length_iff.mp z s0 hs
      have q := (hin s0).mp ⟨0, rfl⟩
      rw [q] at this; cases this
    · obtain ⟨hb1, hb2⟩ := List.mem_filter.mp hb
      have ha2 : (dgetL lower (.inl a)).isSome = true := by
        cases z : (dgetL lower (.inl a)).isSome with
        | true => rfl
        | false => exact absurd (List.mem_filter.mpr ⟨ha, by simp [z]⟩) hna
      cases z : ovB rows w a b with
      | false => rfl
      | true =>
        obtain ⟨n, hn⟩ := (hin a).mpr ha2
        have := (hin b).mp ⟨n + 1, a, hn, z, (hI b).mpr hb1⟩
        rw [this] at hb2; cases hb2
    · have := (hin x0).mp (z.1 x0 hx0)
      rw [q0] at this; cases this
  · rw [decide_eq_false_iff_not] at c
    have lall : ∀ x ∈ l, ∃ n, WR (ovB rows w) (inL l) s0 n x := fun x hx => by
      rw [← hf]
      refine (l1 x).mp ?_
      cases z : (dgetL lower (.inl x)).isSome with
      | true => rfl
      | false => exact absurd ((some_out lower l2).mpr ⟨x, hx, z⟩) c
    rw [M.bind_ok]
    show Okm (M.bind (f_met_from rows (w : Int) held s0 true) _) _
    refine okb (met_ok hc hnd hl hH (fun x hx => hr.1 x hx) hs true) fun upper ⟨u1, u2⟩ => okif (fun c => ?_) fun c => ?_
    · rw [decide_eq_true_eq] at c
      obtain ⟨x0, hx0, q0⟩ := (some_out upper u2).mp c
      rw [comp_eq (g := fun s => if (dgetL upper (.inl s)).isSome = true then some s else none) (by omega) fun s _ => by split <;> rfl, M.bind_ok]
      have ef : (l.filterMap fun s => if (dgetL upper (.inl s)).isSome = true then some s else none) = l.filter fun s => (dgetL upper (.inl s)).isSome := by
        rw [← List.filterMap_eq_filter]; rfl
      rw [ef]
      have hin : ∀ x, (∃ n, WR (fun p q => ovB rows w q p) (inL l) s0 n x) ↔ (dgetL upper (.inl x)).isSome = true := fun x => by rw [u1 x, hf]; rfl
      have s0i := (hin s0).mp ⟨0, rfl⟩
      refine okv ⟨fun z => ?_, hr.2.sublist List.filter_sublist, fun x hx => (List.mem_filter.mp hx).1, ?_, fun a ha hna b hb => ?_, fun z => ?_⟩
      · have := List.filter_eq_nil_iff.mp z s0 hs
        rw [s0i] at this; exact this rfl
      · refine Nat.lt_of_le_of_ne (List.length_filter_le _ _) fun z => ?_
        have := List.length_filter_eq_length_iff.mp z x0 hx0
        rw [q0] at this; cases this
      · obtain ⟨hb1, hb2⟩ := List.mem_filter.mp hb
        cases z : ovB rows w a b with
        | false => rfl
        | true =>
          obtain ⟨n, hn⟩ := (hin b).mpr hb2
          exact absurd (List.mem_filter.mpr ⟨ha, (hin a).mp ⟨n + 1, b, hn, z, (hI a).mpr ha⟩⟩) hna
      · have := (hin x0).mp (z.2 x0 hx0)
        rw [q0] at this; cases this
    · rw [decide_eq_false_iff_not] at c
      refine okv ⟨lall, fun x hx => ?_⟩
      have : ∃ n, WR (ovU rows w true) (hdB held) s0 n x := by
        refine (u1 x).mp ?_
        cases z : (dgetL upper (.inl x)).isSome with
        | true => rfl
        | false => exact absurd ((some_out upper u2).mpr ⟨x, hx, z⟩) c
      rw [hf] at this
      exact this
/-- each lies over the next -/
def Lnk (ov : Int → Int → Bool) (p : List Int) : Prop := ∀ i x y, p[i]? = some x → p[i + 1]? = some y → ov x y = true
theorem lnk_app {ov : Int → Int → Bool} {c p : List Int} {z : Int} (h1 : Lnk ov (c ++ [z])) (h2 : Lnk ov p) (hz : p[0]? = some z) : Lnk ov (c ++ p) := fun i x y hx hy => by
  by_cases a : i + 1 < c.length
  · rw [List.getElem?_append_left (by omega)] at hx hy
    exact h1 i x y (by rw [List.getElem?_append_left (by omega)]; exact hx) (by rw [List.getElem?_append_left (by omega)]; exact hy)
  · by_cases b : i < c.length
    · rw [List.getElem?_append_left b] at hx
      rw [List.getElem?_append_right (by omega), show i + 1 - c.length = 0 by omega, hz] at hy
      cases hy
      exact h1 i x z (by rw [List.getElem?_append_left b]; exact hx) (by rw [List.getElem?_append_right (by omega), show i + 1 - c.length = 0 by omega]; rfl)
    · rw [List.getElem?_append_right (by omega)] at hx hy
      exact h2 (i - c.length) x y hx (by rw [show i - c.length + 1 = i + 1 - c.length by omega]; exact hy)
theorem cut_last {α : Type} {p : List α} {n : Nat} (h : p.length = n + 1) : cutL p none (some (-1)) = p.take n := by
  unfold cutL HT.sIx
  simp only [List.drop_zero, Nat.sub_zero]
  rw [if_pos (by omega)]
  congr 1
  omega
theorem mem_take_of {p : List Int} {x : Int} {n : Nat} (h : p[0]? = some x) (hn : 0 < n) : x ∈ p.take n :=
  List.mem_of_getElem? (i := 0) (by rw [List.getElem?_take_of_lt hn]; exact h)
/-- a way round a set -/
def Rnd (rows : List Tx) (w : Nat) (l c : List Int) : Prop := c.length ≤ l.length * l.length ∧ c[0]? = l[0]? ∧ (∀ x ∈ c, x ∈ l) ∧ (∀ x ∈ l, x ∈ c) ∧ (∀ i, i < c.length → ∃ x y, c[i]? = some x ∧ c[(i + 1) % c.length]? = some y ∧ ovB rows w x y = true)
theorem round_gen (hc : Cloth rows w h) {l : List Int} (hr : Rising l ((w : Int) + h)) (hl : l.length ≤ 80) (hne : l ≠ []) : Okm (f_round_way rows l) (fun r => match r with
      | none => ∃ a ∈ l, ∃ b ∈ l, ∀ n, ¬ WR (ovB rows w) (inL l) a n b
      | some c => (l.length = 1 → c = l) ∧ (l.length ≠ 1 → Rnd rows w l c) ∧ ∀ i, i < l.length → ∃ a b n, l[i]? = some a ∧ l[(i + 1) % l.length]? = some b ∧ WR (ovB rows w) (inL l) a n b) := by
  have h2 := hc.h2
  have w2 := hc.w2
  have hb : ∀ x ∈ l, 0 ≤ x ∧ x < ((w + h : Nat) : Int) := fun x hx => by have := hr.1 x hx; omega
  have hup := hr.2
  have hnd : l.Nodup := hup.imp fun q e => by omega
  have hpos : 0 < l.length := List.length_pos_iff.mpr hne
  unfold f_round_way
  rw [measured_ok hc, M.bind_ok]
  show Okm (M.bind (f_held_strands l ((w : Int) + (h : Int))) _) _
  obtain ⟨held, e, hh⟩ := held_ok (l := l) (N := (w : Int) + h) hr hne (by omega)
  have hf := held_fun hh
  rw [e, M.bind_ok]
  have hH : ∀ x, hdB held x = true ↔ x ∈ l := hh
  refine okif (fun c => ?_) fun c => ?_
  · rw [decide_eq_true_eq] at c
    obtain ⟨x, rfl⟩ := List.length_eq_one_iff.mp (show l.length = 1 by omega)
    rw [getM_at (i := 0) (v := x) (by omega) rfl, M.bind_ok, M.bind_ok]
    refine okv ⟨fun _ => rfl, fun q => absurd rfl q, fun i hi => ?_⟩
    have : i = 0 := by simp at hi; exact hi
    subst this
    exact ⟨x, x, 0, rfl, by simp, rfl⟩
  · rw [decide_eq_false_iff_not] at c
    have hm2 : 2 ≤ l.length := by omega
    show Okm (M.bind (rangeM 0 (l.length : Int)) _) _
    rw [range_eq, M.bind_ok, show ((l.length : Int) - 0).toNat = l.length by omega]
    have at_ : ∀ i, i < l.length → ∃ x, l[i]? = some x := fun i hi => ⟨_, List.getElem?_eq_getElem hi⟩
    refine okel (N := fun c => Rnd rows w l c ∧ ∀ i, i < l.length → ∃ a b n, l[i]? = some a ∧ l[(i + 1) % l.length]? = some b ∧ WR (ovB rows w) (inL l) a n b) (R := fun r => r = none ∧ ∃ a ∈ l, ∃ b ∈ l, ∀ n, ¬ WR (ovB rows w) (inL l) a n b) (okmono (ok_forFR (fun i (c : List Int) => c.length ≤ i * l.length ∧ (∀ x ∈ c, x ∈ l) ∧ (∀ j x, j < i → l[j]? = some x → x ∈ c) ∧ (0 < i → ∃ x, c[0]? = some x ∧ l[0]? = some x) ∧ (∀ j, j < i → ∃ a b n, l[j]? = some a ∧ l[(j + 1) % l.length]? = some b ∧ WR (ovB rows w) (inL l) a n b) ∧ ∃ z, l[i % l.length]? = some z ∧ Lnk (ovB rows w) (c ++ [z])) (fun r => r = none ∧ ∃ a ∈ l, ∃ b ∈ l, ∀ n, ¬ WR (ovB rows w) (inL l) a n b) ?_ fun i c hi ⟨a1, a2, a3, a4, a6, z, hz, a5⟩ => ?_) fun r hr => ?_) (fun c hcc => okv ⟨fun q => absurd q (by omega), fun _ => hcc.1, hcc.2⟩) fun r h => by obtain ⟨rfl, h⟩ := h; exact okv h
    · refine ⟨by simp, by simp, fun j x hj => by omega, fun q => by omega, fun j hj => by omega, ?_⟩
      obtain ⟨z, hz⟩ := at_ 0 hpos
      refine ⟨z, by rw [Nat.zero_mod]; exact hz, fun i x y hx hy => ?_⟩
      simp at hy
    · rw [Nat.mod_eq_of_lt hi] at hz
      unfold f_round_way_l1
      rw [show (0 : Int) + (i : Int) = (i : Int) by omega, getM_nat hz, M.bind_ok]
      obtain ⟨z', hz'⟩ := at_ ((i + 1) % l.length) (Nat.mod_lt _ hpos)
      have em : modM ((i : Int) + 1) (l.length : Int) = .ok (((i + 1) % l.length : Nat) : Int) := by
        rw [oke (ok_mod (by omega))]; push_cast; rfl
      rw [em, M.bind_ok, getM_nat hz', M.bind_ok]
      have hzl := List.mem_of_getElem? hz
      have hzl' := List.mem_of_getElem? hz'
      have bz := hb z hzl
      show Okm (M.bind (f_way_within rows (w : Int) held z z') _) _
      refine okb (way_within_ok hc (fun x hx => by have := hb x ((hH x).mp hx); omega) bz.1 (by omega)) fun r hr => ?_
      cases r with
      | none =>
        have hr : ∀ n, ¬ WR (ovB rows w) (hdB held) z n z' := hr
        rw [hf] at hr
        exact okv ⟨rfl, z, hzl, z', hzl', hr⟩
      | some p =>
        obtain ⟨n, hw, p1, p2, p3, p4⟩ := hr
        have hwr := hw.1
        rw [hf] at hwr
        have hfar : n < l.length := WD.farL (fun m x hx => by
          cases m with
          | zero => cases (show x = z from hx); exact hzl
          | succ m => obtain ⟨_, _, _, q⟩ := hx; exact (hH x).mp q) hw
        have hn0 : 0 < n := by
          rcases Nat.eq_zero_or_pos n with q | q
          · subst q
            rw [p2] at p3
            cases p3
            exfalso
            by_cases q : i + 1 = l.length
            · rw [q, Nat.mod_self] at hz'
              have := (List.getElem?_inj (by omega) hnd).mp (hz'.trans hz.symm)
              omega
            · rw [Nat.mod_eq_of_lt (by omega)] at hz'
              have := (List.getElem?_inj (by omega) hnd).mp (hz'.trans hz.symm)
              omega
          · exact q
        have pmem : ∀ x ∈ p, x ∈ l := fun x hx => by
          obtain ⟨j, hj⟩ := List.mem_iff_getElem?.mp hx
          have hjl := (List.getElem?_eq_some_iff.mp hj).1
          cases j with
          | zero => rw [p2] at hj; cases hj; exact hzl
          | succ j =>
            obtain ⟨a, b, e1, e2, _, e4⟩ := p4 j (by omega)
            rw [e2] at hj; cases hj
            exact (hH _).mp e4
        have plnk : Lnk (ovB rows w) p := fun j x y hx hy => by
          have hjl := (List.getElem?_eq_some_iff.mp hy).1
          obtain ⟨a, b, e1, e2, e3, _⟩ := p4 j (by omega)
          rw [e1] at hx; cases hx
          rw [e2] at hy; cases hy
          exact e3
        have psplit : p.take n ++ [z'] = p := by
          have e1 : p.take (n + 1) = p := List.take_of_length_le (by omega)
          rw [List.take_succ, p3] at e1
          exact e1
        show Okm (if false = true then M.ok (Fl.rt none) else M.bind (M.bind (unM (some p)) fun y => M.ok (cutL y none (some (-(1 : Int))))) fun y => M.bind (catL c y) fun f => M.ok (Fl.nx f)) _
        rw [if_neg Bool.false_ne_true]
        show Okm (M.bind (M.ok (cutL p none (some (-1)))) _) _
        rw [M.bind_ok, cut_last p1]
        have htl : (p.take n).length = n := by rw [List.length_take]; omega
        have hbig : i * l.length ≤ 80 * 80 := Nat.mul_le_mul (by omega) (by omega)
        refine okb (ok_catL (by rw [htl]; omega)) fun c' e' => okv ?_
        subst e'
        refine ⟨by rw [List.length_append, htl, Nat.add_mul]; omega, fun x hx => ?_, fun j x hj hx => ?_, fun _ => ?_, fun j hj => ?_, z', hz', ?_⟩
        · rcases List.mem_append.mp hx with q | q
          · exact a2 x q
          · exact pmem x (List.mem_of_mem_take q)
        · by_cases q : j = i
          · subst q
            rw [hz] at hx; cases hx
            exact List.mem_append_right _ (mem_take_of p2 hn0)
          · exact List.mem_append_left _ (a3 j x (by omega) hx)
        · by_cases q : i = 0
          · subst q
            have hc0 : c = [] := List.length_eq_zero_iff.mp (by omega)
            subst hc0
            exact ⟨z, by rw [List.nil_append, List.getElem?_take_of_lt hn0]; exact p2, hz⟩
          · obtain ⟨x, q1, q2⟩ := a4 (by omega)
            exact ⟨x, by rw [List.getElem?_append_left (List.getElem?_eq_some_iff.mp q1).1]; exact q1, q2⟩
        · by_cases q : j = i
          · subst q
            exact ⟨z, z', n, hz, hz', hwr⟩
          · exact a6 j (by omega)
        · rw [List.append_assoc, psplit]
          exact lnk_app a5 plnk p2
    · cases r with
      | rt r => exact hr
      | nx c =>
        obtain ⟨a1, a2, a3, a4, a6, z, hz, a5⟩ := hr
        obtain ⟨x0, q1, q2⟩ := a4 (by omega)
        rw [Nat.mod_self, q2] at hz
        cases hz
        have hcl := (List.getElem?_eq_some_iff.mp q1).1
        refine ⟨⟨a1, q1.trans q2.symm, a2, fun x hx => ?_, fun i hi => ?_⟩, a6⟩
        · obtain ⟨j, hj⟩ := List.mem_iff_getElem?.mp hx
          exact a3 j x (List.getElem?_eq_some_iff.mp hj).1 hj
        · obtain ⟨x, hx⟩ : ∃ x, c[i]? = some x := ⟨_, List.getElem?_eq_getElem hi⟩
          by_cases q : i + 1 = c.length
          · rw [q, Nat.mod_self]
            exact ⟨x, z, hx, q1, a5 i x z (by rw [List.getElem?_append_left hi]; exact hx) (by rw [List.getElem?_append_right (by omega), show i + 1 - c.length = 0 by omega]; rfl)⟩
          · rw [Nat.mod_eq_of_lt (by omega)]
            obtain ⟨y, hy⟩ : ∃ y, c[i + 1]? = some y := ⟨_, List.getElem?_eq_getElem (by omega)⟩
            exact ⟨x, y, hx, hy, a5 i x y (by rw [List.getElem?_append_left hi]; exact hx) (by rw [List.getElem?_append_left (by omega)]; exact hy)⟩
/-- where a way goes from each to the next one round, ways go from each to each -/
theorem round_all {l : List Int} {ov : Int → Int → Bool} {hd : Int → Bool} (hc : ∀ i, i < l.length → ∃ a b n, l[i]? = some a ∧ l[(i + 1) % l.length]? = some b ∧ WR ov hd a n b) {x y : Int} (hx : x ∈ l) (hy : y ∈ l) : ∃ n, WR ov hd x n y := by
  obtain ⟨i, hi⟩ := List.mem_iff_getElem?.mp hx
  obtain ⟨j, hj⟩ := List.mem_iff_getElem?.mp hy
  have il := (List.getElem?_eq_some_iff.mp hi).1
  have jl := (List.getElem?_eq_some_iff.mp hj).1
  have key : ∀ d, ∃ b n, l[(i + d) % l.length]? = some b ∧ WR ov hd x n b := by
    intro d
    induction d with
    | zero => exact ⟨x, 0, by rw [Nat.add_zero, Nat.mod_eq_of_lt il]; exact hi, rfl⟩
    | succ d ih =>
      obtain ⟨b, n, e, hn⟩ := ih
      obtain ⟨a', b', m, e1, e2, e3⟩ := hc ((i + d) % l.length) (Nat.mod_lt _ (by omega))
      rw [e] at e1; cases e1
      exact ⟨b', n + m, by rw [Nat.mod_add_mod] at e2; exact e2, hn.trans e3⟩
  obtain ⟨b, n, e, hn⟩ := key (j + l.length - i)
  rw [show i + (j + l.length - i) = j + l.length by omega, Nat.add_mod_right, Nat.mod_eq_of_lt jl, hj] at e
  cases e
  exact ⟨n, hn⟩
end

theorem filterMap_if {α : Type} (q : α → Bool) : ∀ l : List α, (l.filterMap fun k => if q k = true then some k else none) = l.filter q
  | [] => rfl
  | a :: l => by
    rw [List.filterMap_cons, List.filter_cons]
    cases h : q a <;> simp [filterMap_if q l]
theorem set_ok {script : List Int} {n : Nat} (hl : script.length ≤ 63) (h1 : 1 ≤ n) (h2 : n ≤ 80) : Okm (f_law_set script (n : Int)) (fun l => Rising l (n : Int) ∧ l ≠ [] ∧ l.length ≤ n) := by
  have hup : (upFrom 0 n).length = n := upFrom_len n 0
  unfold f_law_set
  rw [show f_law_at script 4 = _ from at_ok (k := 4), show f_law_at script 5 = _ from at_ok (k := 5)]
  simp only [M.bind_ok]
  refine okif (fun c => ?_) fun c => ?_
  · rw [rangeL_up (by omega) (by omega), Int.toNat_natCast]
    exact okv ⟨up_rising, fun e => by rw [e] at hup; simp at hup; omega, by omega⟩
  · refine okb (numbers_ok hl (by omega) (by omega) (by omega) (by omega)) fun turns ht => ?_
    rw [Int.toNat_natCast] at ht
    refine okb (P := fun l => Rising l (n : Int) ∧ l.length ≤ n) ?_ fun l ⟨q1, q2⟩ => okif (fun c => ?_) fun c => ?_
    · rw [range_eq, M.bind_ok, show ((n : Int) - 0).toNat = n by omega]
      rw [comp_eq (g := fun k => if (!decide ((turns[k.toNat]?.getD 0) % 3 = 1)) = true then some k else none) (by omega) fun k hk => ?_]
      · rw [filterMap_if]
        exact okv ⟨⟨fun x hx => up_rising.1 x (List.mem_filter.mp hx).1, up_rising.2.sublist List.filter_sublist⟩, Nat.le_trans (List.length_filter_le _ _) (by omega)⟩
      · rw [upFrom_mem] at hk
        obtain ⟨v, e, hv⟩ := ok_get (xs := turns) (i := k) (by omega) (by omega)
        rw [e, hv]
        simp only [M.bind_ok, Option.getD_some]
        split <;> rfl
    · have e : modM (scAt script 5) (n : Int) = .ok (scAt script 5 % (n : Int)) := oke (ok_mod (by omega))
      rw [e, M.bind_ok]
      have a0 := Int.emod_nonneg (scAt script 5) (show (n : Int) ≠ 0 by omega)
      have a1 := Int.emod_lt_of_pos (scAt script 5) (show 0 < (n : Int) by omega)
      exact okv ⟨⟨fun x hx => by rw [List.mem_singleton.mp hx]; exact ⟨a0, a1⟩, List.pairwise_singleton _ _⟩, by simp, h1⟩
    · rw [decide_eq_false_iff_not] at c
      exact okv ⟨q1, fun e => by rw [e] at c; simp at c, q2⟩
section
variable {rows : List Tx} {w h : Nat}
theorem numbered_ok {c l : List Int} (h1 : c ≠ []) (h2 : ∀ x ∈ c, x ∈ l) (h3 : c.length ≤ 1000000) : f_law_numbered (some c) l = .ok true := by
  have hp : 0 < c.length := List.length_pos_iff.mpr h1
  have eu : unM (some c) = M.ok c := rfl
  unfold f_law_numbered
  rw [if_neg (by simp), eu]
  simp only [M.bind_ok]
  rw [if_neg (by simp [h1])]
  rw [comp_map (g := fun _ => true) h3 fun x hx => ?_]
  · simp [M.bind_ok]
  · unfold f_law_whole
    rw [M.bind_ok, if_pos (by rfl), M.bind_ok]
    rw [decide_eq_true (h2 x hx)]
theorem sq_ok {n : Nat} (hn : n ≤ 80) : mulM (n : Int) (n : Int) = .ok ((n * n : Nat) : Int) := by
  rw [oke (ok_mul 64 64 (by omega) (by omega))]
  push_cast; rfl
theorem law_round_ok (hc : Cloth rows w h) {l c : List Int} (hr : Rising l ((w : Int) + h)) (hl : l.length ≤ 80) (hne : l ≠ []) (c1 : l.length = 1 → c = l) (c2 : l.length ≠ 1 → Rnd rows w l c) : f_law_round rows (some c) l = .ok true := by
  have hpos : 0 < l.length := List.length_pos_iff.mpr hne
  have hsq : l.length * l.length ≤ 80 * 80 := Nat.mul_le_mul hl hl
  have key : c.length ≤ l.length * l.length ∧ c[0]? = l[0]? ∧ (∀ x ∈ c, x ∈ l) := by
    by_cases q : l.length = 1
    · rw [c1 q]; exact ⟨by rw [q]; omega, rfl, fun x hx => hx⟩
    · have := c2 q; exact ⟨this.1, this.2.1, this.2.2.1⟩
  obtain ⟨k1, k2, k3⟩ := key
  obtain ⟨x0, hx0⟩ : ∃ x, l[0]? = some x := ⟨_, List.getElem?_eq_getElem hpos⟩
  have hcp : 0 < c.length := (List.getElem?_eq_some_iff.mp (k2.trans hx0)).1
  have hcne : c ≠ [] := List.length_pos_iff.mp hcp
  have eu : unM (some c) = M.ok c := rfl
  refine oke ?_
  have ev := sq_ok hl
  unfold f_law_round
  generalize mulM (l.length : Int) (l.length : Int) = mm at ev ⊢
  have k4 : c.length ≤ 1000000 := Nat.le_trans k1 (Nat.le_trans hsq (by decide))
  have k5 := numbered_ok hcne k3 k4
  generalize f_law_numbered (some c) l = nm at k5
  rw [k5, eu]
  repeat rw [M.bind_ok]
  rw [if_neg (by simp), getM_at (i := 0) (by omega) (k2.trans hx0), getM_at (i := 0) (by omega) hx0]
  repeat rw [M.bind_ok]
  rw [if_neg (by simp)]
  rw [ev]
  repeat rw [M.bind_ok]
  rw [decide_eq_false (show ¬ ((l.length * l.length : Nat) : Int) < (c.length : Int) by omega), if_neg Bool.false_ne_true]
  refine okif (fun q => ?_) fun q => ?_
  · rw [decide_eq_true_eq] at q
    rw [c1 (by omega)]
    exact okv (by simp)
  · rw [decide_eq_false_iff_not] at q
    obtain ⟨_, _, r2, r3, r4⟩ := c2 (by omega)
    rw [range_eq, M.bind_ok, show ((c.length : Int) - 0).toNat = c.length by omega]
    refine okel (N := fun _ => True) (R := fun _ => False) (ok_forFR (fun _ _ => True) (fun _ => False) trivial fun i u hi _ => ?_) (fun u _ => ?_) fun r h => h.elim
    · obtain ⟨x, y, e1, e2, e3⟩ := r4 i hi
      have bx := hr.1 x (r2 x (List.mem_of_getElem? e1))
      have by_ := hr.1 y (r2 y (List.mem_of_getElem? e2))
      unfold f_law_round_l1
      have em : modM ((i : Int) + 1) (c.length : Int) = .ok (((i + 1) % c.length : Nat) : Int) := by
        rw [oke (ok_mod (by omega))]; push_cast; rfl
      rw [eu, show (0 : Int) + (i : Int) = (i : Int) by omega]
      simp only [M.bind_ok]
      rw [getM_nat e1]
      simp only [M.bind_ok]
      rw [em]
      simp only [M.bind_ok]
      rw [getM_nat e2]
      simp only [M.bind_ok]
      rw [over_ok hc bx.1 bx.2 by_.1 by_.2, e3]
      exact okv trivial
    · rw [show compM _ l = .ok (l.map fun _ => true) from comp_map (by omega) fun x hx => ?_]
      · exact okv (by simp)
      · have := r3 x hx
        simp [M.bind_ok, this]
theorem law_lifted_ok (hc : Cloth rows w h) {l c : List Int} (hr : Rising l ((w : Int) + h)) (hl : l.length ≤ 80) (c1 : c ≠ []) (c2 : c.Pairwise (· < ·)) (c3 : ∀ x ∈ c, x ∈ l) (c4 : c.length < l.length) (c5 : ∀ a ∈ l, a ∉ c → ∀ b ∈ c, ovB rows w a b = false) : f_law_lifted rows (some c) l = .ok true := by
  have eu : unM (some c) = M.ok c := rfl
  have hcp : 0 < c.length := List.length_pos_iff.mpr c1
  refine oke ?_
  unfold f_law_lifted
  rw [numbered_ok c1 c3 (by omega), eu]
  simp only [M.bind_ok]
  rw [if_neg (by simp)]
  simp only [M.bind_ok]
  rw [if_neg (by simp; omega), range_eq, M.bind_ok]
  refine okel (N := fun _ => True) (R := fun _ => False) (okmono (ok_forFR (fun _ _ => True) (fun _ => False) trivial fun i u hi _ => ?_) fun r hr => by cases r <;> exact hr) (fun u _ => ?_) fun r h => h.elim
  · obtain ⟨x, hx⟩ : ∃ x, c[i]? = some x := ⟨_, List.getElem?_eq_getElem (by omega)⟩
    obtain ⟨y, hy⟩ : ∃ x, c[i + 1]? = some x := ⟨_, List.getElem?_eq_getElem (by omega)⟩
    have hlt := rising_at (N := (w : Int) + h) ⟨fun x hx => hr.1 x (c3 x hx), c2⟩ hx hy
    unfold f_law_lifted_l1
    rw [eu, show (0 : Int) + (i : Int) = (i : Int) by omega]
    simp only [M.bind_ok]
    rw [getM_nat hx, show (i : Int) + 1 = ((i + 1 : Nat) : Int) by omega, getM_nat hy]
    simp only [M.bind_ok]
    rw [if_neg (by rw [decide_eq_true_eq]; omega)]
    exact okv trivial
  · refine okel (N := fun _ => True) (R := fun _ => False) (okmono (ok_forF (fun _ _ => True) (fun _ => False) trivial fun i other u hi _ => ?_) fun r hr => by cases r <;> exact hr) (fun u _ => okv rfl) fun r h => h.elim
    have hol := List.mem_of_getElem? hi
    have bo := hr.1 other hol
    unfold f_law_lifted_l3
    rw [eu, M.bind_ok]
    refine okel (N := fun _ => True) (R := fun _ => False) (okmono (ok_forF (fun _ _ => True) (fun _ => False) trivial fun j one u hj _ => ?_) fun r hr => by cases r <;> exact hr) (fun u _ => okv trivial) fun r h => h.elim
    have hoc := List.mem_of_getElem? hj
    have b1 := hr.1 one (c3 one hoc)
    unfold f_law_lifted_l2
    rw [eu]
    simp only [M.bind_ok]
    refine okb (P := (· = false)) ?_ fun b e => by subst e; rw [if_neg Bool.false_ne_true]; exact okv trivial
    refine okif (fun q => ?_) fun _ => okv rfl
    have q : other ∉ c := by simpa using q
    rw [over_ok hc bo.1 bo.2 b1.1 b1.2]
    exact okv (c5 other hol q one hoc)
theorem refused_ok (hc : Cloth rows w h) {l : List Int} (hl : l.length ≤ 1000) (hb : ¬ (Rising l ((w : Int) + h) ∧ l ≠ [])) : f_law_refused rows l = .ok true := by
  have e1 : f_round_way rows l = .ex .noStrand := by
    unfold f_round_way
    rw [measured_ok hc, M.bind_ok]
    show M.bind (f_held_strands l ((w : Int) + (h : Int))) _ = _
    rw [held_bad hl hb]; rfl
  have e2 : f_lifted_off rows l = .ex .noStrand := by
    unfold f_lifted_off
    rw [measured_ok hc, M.bind_ok]
    show M.bind (f_held_strands l ((w : Int) + (h : Int))) _ = _
    rw [held_bad hl hb]; rfl
  unfold f_law_refused
  rw [e1, e2]
  have t : ∀ (x : Int) (h : Ec → Int), tryM kn_ .noStrand (M.bind (M.ex .noStrand : M (Option (List Int))) fun _ => M.ok x) h = M.ok (h .noStrand) := fun x h => by
    show tryM kn_ .noStrand (M.ex .noStrand) h = _
    unfold tryM
    simp only
    rw [if_pos (by decide), if_pos (by decide)]
  simp only [t, M.bind_ok]
  rfl
theorem bad_ok {l : List Int} {n : Nat} {cell : Int} (hr : Rising l (n : Int)) (hne : l ≠ []) (hl : l.length ≤ 80) : Okm (f_law_bad l (n : Int) cell) (fun bs => ∀ b ∈ bs, b.length ≤ 1000 ∧ ¬ (Rising b (n : Int) ∧ b ≠ [])) := by
  have hpos : 0 < l.length := List.length_pos_iff.mpr hne
  unfold f_law_bad
  refine okb (ok_mod (x := cell) (y := (l.length : Int)) (by omega)) fun at_ e => ?_
  have a0 := Int.emod_nonneg cell (show (l.length : Int) ≠ 0 by omega)
  have a1 := Int.emod_lt_of_pos cell (show 0 < (l.length : Int) by omega)
  rw [← e] at a0 a1
  clear e
  generalize hfar : cell / (41 : Int) % ((10 : Int) ^ 60) = far
  have f0 : 0 ≤ far := by rw [← hfar]; exact Int.emod_nonneg _ (by decide)
  clear hfar
  obtain ⟨t, rfl⟩ : ∃ t : Nat, at_ = t := ⟨at_.toNat, by omega⟩
  have ht : t < l.length := by omega
  rw [cut_to (by omega) (by omega), cut_from (by omega) (by omega), cut_to (by omega) (by omega), show ((t : Int) + 1).toNat = t + 1 by omega, Int.toNat_natCast]
  obtain ⟨v, hv⟩ : ∃ v, l[t]? = some v := ⟨_, List.getElem?_eq_getElem ht⟩
  have lt1 : (l.take (t + 1)).length = t + 1 := by rw [List.length_take]; omega
  have lt0 : (l.take t).length = t := by rw [List.length_take]; omega
  have ld : (l.drop t).length = l.length - t := List.length_drop
  have bad1 : ∀ (b : List Int) (x : Int), x ∈ b → (x < 0 ∨ (n : Int) ≤ x) → ¬ (Rising b (n : Int) ∧ b ≠ []) := fun b x hx hb z => by
    have := z.1.1 x hx; omega
  have badat : ∀ (b : List Int) (i : Nat) (x y : Int), b[i]? = some x → b[i + 1]? = some y → y ≤ x → ¬ (Rising b (n : Int) ∧ b ≠ []) := fun b i x y hx hy hb z => by
    have := rising_at z.1 hx hy; omega
  refine okb (P := fun bs => bs.length = 2 ∧ ∀ b ∈ bs, b.length ≤ 1000 ∧ ¬ (Rising b (n : Int) ∧ b ≠ [])) (okb (ok_catL (by omega)) fun y e => okv (by
    refine ⟨rfl, ?_⟩
    intro b hb
    rcases List.mem_cons.mp hb with q | hb
    · subst q; exact ⟨by simp, fun z => z.2 rfl⟩
    · rw [List.mem_singleton.mp hb, e]
      exact ⟨by rw [List.length_append]; omega, badat _ t v v (by rw [List.getElem?_append_left (by omega), List.getElem?_take_of_lt (by omega)]; exact hv) (by rw [List.getElem?_append_right (by omega), lt1, Nat.sub_self, List.getElem?_drop]; exact hv) (Int.le_refl _)⟩)) fun bs ⟨hbl, hbs⟩ => ?_
  have step : ∀ (bs : List (List Int)) (b : List Int), bs.length < 1000000 → (∀ b ∈ bs, b.length ≤ 1000 ∧ ¬ (Rising b (n : Int) ∧ b ≠ [])) → (b.length ≤ 1000 ∧ ¬ (Rising b (n : Int) ∧ b ≠ [])) → Okm (pushM bs b) (fun bs' => bs' = bs ++ [b] ∧ ∀ b ∈ bs', b.length ≤ 1000 ∧ ¬ (Rising b (n : Int) ∧ b ≠ [])) := fun bs b hl h1 h2 => okmono (ok_push hl) fun bs' e => ⟨e, fun c hc => by
    rw [e] at hc
    rcases List.mem_append.mp hc with q | q
    · exact h1 c q
    · rw [List.mem_singleton.mp q]; exact h2⟩
  have app3 : ∀ (b c d : List Int), b.length ≤ 100 → c.length ≤ 100 → d.length ≤ 100 → Okm (M.bind (catL b c) fun y => catL y d) (· = b ++ c ++ d) := fun b c d hb hc hd => okb (ok_catL (by omega)) fun y e => by
    rw [e]
    exact ok_catL (by rw [List.length_append]; omega)
  have put : ∀ (bs : List (List Int)) (z : Int), bs.length < 1000 → (∀ b ∈ bs, b.length ≤ 1000 ∧ ¬ (Rising b (n : Int) ∧ b ≠ [])) → (z < 0 ∨ (n : Int) ≤ z) → Okm (M.bind (M.bind (catL (l.take t) [z]) fun y => catL y (l.drop t)) fun y => pushM bs y) (fun bs' => bs'.length = bs.length + 1 ∧ ∀ b ∈ bs', b.length ≤ 1000 ∧ ¬ (Rising b (n : Int) ∧ b ≠ [])) := fun bs z h1 h2 h3 => okb (app3 (l.take t) [z] (l.drop t) (by omega) (by simp) (by omega)) fun y e => by
    subst e
    exact okmono (step bs _ (by omega) h2 ⟨by simp only [List.length_append, List.length_singleton]; omega, bad1 _ z (by simp) h3⟩) fun bs' ⟨e, hh⟩ => ⟨by rw [e]; simp, hh⟩
  have reb : ∀ {α β γ : Type} (m : M α) (f : α → M β) (g : β → M γ), (M.bind m fun x => M.bind (f x) g) = M.bind (M.bind m f) g := fun m f g => (M.bind_assoc m f g).symm
  rw [reb]
  refine okb (put bs ((n : Int) + far) (by omega) hbs (.inr (by omega))) fun bs2 ⟨hl2, hb2⟩ => ?_
  rw [reb]
  refine okb (put bs2 ((-(1 : Int)) - far) (by omega) hb2 (.inl (by omega))) fun bs3 ⟨hl3, hb3⟩ => ?_
  refine okb (ok_catL (x := l) (y := [(n : Int) + far]) (by simp; omega)) fun y e => ?_
  subst e
  refine okb (step bs3 _ (by omega) hb3 ⟨by simp; omega, bad1 _ ((n : Int) + far) (by simp) (.inr (by omega))⟩) fun bs4 ⟨e4, hb4⟩ => ?_
  refine okb (P := fun bs' => ∀ b ∈ bs', b.length ≤ 1000 ∧ ¬ (Rising b (n : Int) ∧ b ≠ [])) (okif (fun c => ?_) fun _ => okv hb4) fun bs' hh => okv hh
  rw [decide_eq_true_eq] at c
  refine okb (ok_mod (x := cell / 41) (y := (l.length : Int) - 1) (by omega)) fun sp e => ?_
  have s0 := Int.emod_nonneg (cell / 41) (show (l.length : Int) - 1 ≠ 0 by omega)
  have s1 := Int.emod_lt_of_pos (cell / 41) (show 0 < (l.length : Int) - 1 by omega)
  rw [← e] at s0 s1
  clear e
  obtain ⟨u, rfl⟩ : ∃ u : Nat, sp = u := ⟨sp.toNat, by omega⟩
  obtain ⟨x, hx⟩ : ∃ v, l[u]? = some v := ⟨_, List.getElem?_eq_getElem (by omega)⟩
  obtain ⟨y, hy⟩ : ∃ v, l[u + 1]? = some v := ⟨_, List.getElem?_eq_getElem (by omega)⟩
  have hxy := rising_at hr hx hy
  rw [show (u : Int) + 1 = ((u + 1 : Nat) : Int) by omega, getM_nat hy, M.bind_ok, getM_nat hx, M.bind_ok, M.bind_ok, cut_to (by omega) (by omega), cut_from (by omega) (by omega), Int.toNat_natCast, show ((u : Int) + 2).toNat = u + 2 by omega]
  have lu : (l.take u).length = u := by rw [List.length_take]; omega
  have ld2 : (l.drop (u + 2)).length = l.length - (u + 2) := List.length_drop
  refine okb (app3 (l.take u) [y, x] (l.drop (u + 2)) (by omega) (by simp) (by omega)) fun b e => ?_
  subst e
  refine okb (step bs4 _ (by rw [e4]; simp; omega) hb4 ⟨by simp only [List.length_append, List.length_cons, List.length_nil]; omega, badat _ u y x ?_ ?_ (by omega)⟩) fun bs5 ⟨_, hb5⟩ => okv hb5
  · rw [List.append_assoc, List.getElem?_append_right (by omega), lu, Nat.sub_self]; rfl
  · rw [List.append_assoc, List.getElem?_append_right (by omega), lu, show u + 1 - u = 1 by omega]; rfl
end

theorem law_math : ∀ ns : List Int, ns.length ≤ 63 → c_law (ns, ()) = .ok true := by
  intro script hl
  refine oke ?_
  show Okm (f_law script) _
  unfold f_law
  refine okb (cloth_ok hl (by omega) (by omega)) fun rows ⟨w, h, hc⟩ => ?_
  have hh := hc.hh
  have h1 := hc.h1
  have h2 := hc.h2
  have w2 := hc.w2
  obtain ⟨r0, hr0⟩ : ∃ r, rows[0]? = some r := ⟨rows[0], by simp⟩
  have hr0w : r0.length = w := hc.ww r0 (List.mem_of_getElem? hr0)
  rw [getM_at (i := 0) (by omega) hr0, M.bind_ok, M.bind_ok, M.bind_ok, hr0w, hh, show (w : Int) + (h : Int) = ((w + h : Nat) : Int) by omega]
  refine okb (set_ok hl (by omega) (by omega)) fun l ⟨lr', lne, ll⟩ => ?_
  have lr : Rising l ((w : Int) + h) := by rw [show (w : Int) + (h : Int) = ((w + h : Nat) : Int) by omega]; exact lr'
  have hnd : l.Nodup := lr.2.imp fun q e => by omega
  have l80 : l.length ≤ 80 := by omega
  have lpos : 0 < l.length := List.length_pos_iff.mpr lne
  obtain ⟨s0, hs0⟩ : ∃ s, l[0]? = some s := ⟨_, List.getElem?_eq_getElem lpos⟩
  have hs : s0 ∈ l := List.mem_of_getElem? hs0
  have hI : inL l s0 = true := decide_eq_true hs
  show Okm (M.bind (f_round_way rows l) fun walked => M.bind (f_lifted_off rows l) _) _
  refine okb (round_gen hc lr l80 lne) fun walked hw => ?_
  refine okb (lifted_ok hc lr (by omega) hs0) fun raised hrs => ?_
  obtain ⟨v6, e6⟩ : ∃ v, f_law_at script 6 = .ok v := ⟨_, at_ok (k := 6)⟩
  have hbads : Okm (M.bind (f_law_at script (6 : Int)) fun y => f_law_bad l ((w + h : Nat) : Int) y) (fun bs => ∀ b ∈ bs, b.length ≤ 1000 ∧ ¬ (Rising b ((w : Int) + h) ∧ b ≠ [])) := by
    rw [e6, M.bind_ok]
    refine okmono (bad_ok lr' lne l80) fun bs hb => ?_
    rw [show (w : Int) + (h : Int) = ((w + h : Nat) : Int) by omega]
    exact hb
  have tail : ∀ {β : Type} (t : M Bool), Okm t (· = true) → Okm (M.bind (M.bind (f_law_at script (6 : Int)) fun y => f_law_bad l ((w + h : Nat) : Int) y) fun xs => M.bind (forF (f_law_l1 rows) () xs) (Fl.el (fun (_ : Unit) => t) fun r => M.ok r)) (· = true) := fun t ht => by
    refine okb hbads fun bs hb => ?_
    refine okel (N := fun _ => True) (R := fun _ => False) (okmono (ok_forF (fun _ _ => True) (fun _ => False) trivial fun i b u hi _ => ?_) fun r hr => by cases r <;> exact hr) (fun u _ => ht) fun r h => h.elim
    have q := hb b (List.mem_of_getElem? hi)
    unfold f_law_l1
    rw [refused_ok hc q.1 q.2, M.bind_ok, M.bind_ok, if_neg (by simp)]
    exact okv trivial
  cases walked with
  | none =>
    obtain ⟨a, ha, b, hb, hn⟩ := hw
    cases raised with
    | none =>
      obtain ⟨z1, z2⟩ := hrs
      obtain ⟨n, hna⟩ := z2 a ha
      obtain ⟨m, hmb⟩ := z1 b hb
      exact absurd ((hna.rev hI).trans hmb) (hn _)
    | some c =>
      obtain ⟨c1, c2, c3, c4, c5, _⟩ := hrs
      rw [if_neg (by simp), if_neg (by simp), M.bind_ok, if_neg (by simp), if_pos (by simp), law_lifted_ok hc lr l80 c1 c2 c3 c4 c5, M.bind_ok, M.bind_ok, if_neg (by simp)]
      refine tail (β := Unit) _ ?_
      rw [if_neg (by simp), M.bind_ok, if_pos (by simp)]
      show Okm (M.bind (M.bind (pushM c 0) fun _ => M.ok ()) _) _
      rw [oke (ok_push (by omega)), M.bind_ok, M.bind_ok]
      exact okv (by simp)
  | some c =>
    obtain ⟨c1, c2, c3⟩ := hw
    have clen : c.length ≤ 6400 := by
      by_cases q : l.length = 1
      · rw [c1 q]; omega
      · exact Nat.le_trans (c2 q).1 (Nat.mul_le_mul l80 l80)
    cases raised with
    | some d =>
      obtain ⟨_, _, _, _, _, no⟩ := hrs
      refine absurd ⟨fun x hx => round_all c3 hs hx, fun x hx => ?_⟩ no
      obtain ⟨n, hn⟩ := round_all c3 hx hs
      have : WR (fun p q => (fun p q => ovB rows w q p) q p) (inL l) x n s0 := hn
      exact ⟨n, this.rev (decide_eq_true hx)⟩
    | none =>
      rw [if_neg (by simp), if_pos (by simp), law_round_ok hc lr l80 lne c1 c2, M.bind_ok, M.bind_ok, if_neg (by simp), if_neg (by simp), M.bind_ok, if_neg (by simp)]
      refine tail (β := Unit) _ ?_
      rw [if_pos (by simp)]
      show Okm (M.bind (M.bind (pushM c 0) fun _ => M.ok ()) _) _
      rw [oke (ok_push (by omega)), M.bind_ok, M.bind_ok, if_neg (by simp), M.bind_ok]
      exact okv (by simp)
/-! ### the head and the end -/
def dds : List He.DefD := ([⟨("_law_at", none), "_law_at", "_law_at", defArgs (topS 18), defBody (topS 18), defScope (topS 18), [], []⟩, ⟨("_law_numbers", none), "_law_numbers", "_law_numbers", defArgs (topS 19), defBody (topS 19), defScope (topS 19), [], []⟩, ⟨("_law_levels", none), "_law_levels", "_law_levels", defArgs (topS 20), defBody (topS 20), defScope (topS 20), [], []⟩, ⟨("_law_text", none), "_law_text", "_law_text", defArgs (topS 21), defBody (topS 21), defScope (topS 21), [], []⟩, ⟨("_law_cloth", none), "_law_cloth", "_law_cloth", defArgs (topS 22), defBody (topS 22), defScope (topS 22), [], []⟩, ⟨("_law_set", none), "_law_set", "_law_set", defArgs (topS 25), defBody (topS 25), defScope (topS 25), [], []⟩, ⟨("measured", none), "measured", "measured", defArgs (topS 7), defBody (topS 7), defScope (topS 7), [], []⟩, ⟨("held_strands", none), "held_strands", "held_strands", defArgs (topS 12), defBody (topS 12), defScope (topS 12), [], []⟩, ⟨("beneath_strand", none), "beneath_strand", "beneath_strand", defArgs (topS 9), defBody (topS 9), defScope (topS 9), [], []⟩, ⟨("way_within", none), "way_within", "way_within", defArgs (topS 13), defBody (topS 13), defScope (topS 13), [], []⟩, ⟨("round_way", none), "round_way", "round_way", defArgs (topS 14), defBody (topS 14), defScope (topS 14), [], []⟩, ⟨("above_strand", none), "above_strand", "above_strand", defArgs (topS 10), defBody (topS 10), defScope (topS 10), [], []⟩, ⟨("met_from", none), "met_from", "met_from", defArgs (topS 15), defBody (topS 15), defScope (topS 15), [], []⟩, ⟨("lifted_off", none), "lifted_off", "lifted_off", defArgs (topS 16), defBody (topS 16), defScope (topS 16), [], []⟩, ⟨("_law_whole", none), "_law_whole", "_law_whole", defArgs (topS 23), defBody (topS 23), defScope (topS 23), [], []⟩, ⟨("_law_numbered", none), "_law_numbered", "_law_numbered", defArgs (topS 26), defBody (topS 26), defScope (topS 26), [], []⟩, ⟨("_law_over", none), "_law_over", "_law_over", defArgs (topS 24), defBody (topS 24), defScope (topS 24), [], []⟩, ⟨("_law_round", none), "_law_round", "_law_round", defArgs (topS 27), defBody (topS 27), defScope (topS 27), [], []⟩, ⟨("_law_lifted", none), "_law_lifted", "_law_lifted", defArgs (topS 28), defBody (topS 28), defScope (topS 28), [], []⟩, ⟨("_law_bad", none), "_law_bad", "_law_bad", defArgs (topS 30), defBody (topS 30), defScope (topS 30), [], []⟩, ⟨("_law_refused", none), "_law_refused", "_law_refused", defArgs (topS 29), defBody (topS 29), defScope (topS 29), [], []⟩, ⟨("law", none), "law", "law", defArgs (topS 31), defBody (topS 31), defScope (topS 31), [], []⟩] : List He.DefD)
def fas : List He.Fa := ([.glo "_law_at", .glo "_law_numbers", .glo "_law_levels", .glo "_law_text", .glo "_law_cloth", .glo "_law_set", .glo "measured", .glo "held_strands", .glo "beneath_strand", .glo "way_within", .glo "round_way", .glo "above_strand", .glo "met_from", .glo "lifted_off", .glo "_law_whole", .glo "_law_numbered", .glo "_law_over", .glo "_law_round", .glo "_law_lifted", .glo "_law_bad", .glo "_law_refused", .glo "law", .free "all", .free "bool", .free "int", .free "isinstance", .free "len", .free "list", .free "range", .free "reversed"] : List He.Fa) ++ ([.int "MOST_STRANDS" 40, .glo "NoCloth", .exc "NoCloth", .glo "NoStrand", .exc "NoStrand", .glo "WeaveError"] : List He.Fa)
def loose : List Str := (["_wall", "WeaveError", "NoCloth", "NoStrand", "MOST_STRANDS", "measured", "beneath_strand", "above_strand", "held_strands", "way_within", "round_way", "met_from", "lifted_off", "_law_at", "_law_numbers", "_law_levels", "_law_text", "_law_cloth", "_law_whole", "_law_over", "_law_set", "_law_numbered", "_law_round", "_law_lifted", "_law_refused", "_law_bad"] : List Str)
abbrev hdR : PySem.W.OpenRow := PySem.W.OpenLaw.row PySem.Challenge.rw_heddle_k30_round_or_lifted
abbrev hk : PySem.W.Hook := hookE 6 fas dds (knB kn_)
def ob (s : PySem.W.SharedT) : AlE := obsEG 6 fas dds (knB kn_) (HandSHeadRun.getT s)
theorem ob_eq (s : PySem.W.SharedT) : ob s = hk.obs s.abs := obsEG_eq (HandSHeadRun.getT_eq s)
theorem run (w : World) : HandSHeadRun.RunEq hdR (PySem.W.view hdR.prog [31]) hk ob 3000 loose w := by intro os; kernel_rfl
theorem facts_of {K : PySem.W.Frag} {h : Heap} {mg : Str → Option Value} {P : Program} {w : World} {base : Heap} (X : K.In h) (G : h.Ns mainGlobals mg) (kx : knB kn_ K = true) (c : He.SaysD fas dds K) : Facts ⟨P, w, K, mg, base, fun c => He.ga K (ecName c), none⟩ where
  g_all := He.free_ok X G (c.fact 22 (f := .free "all") rfl)
  g_bool := He.free_ok X G (c.fact 23 (f := .free "bool") rfl)
  g_int := He.free_ok X G (c.fact 24 (f := .free "int") rfl)
  g_isinstance := He.free_ok X G (c.fact 25 (f := .free "isinstance") rfl)
  g_len := He.free_ok X G (c.fact 26 (f := .free "len") rfl)
  g_list := He.free_ok X G (c.fact 27 (f := .free "list") rfl)
  g_range := He.free_ok X G (c.fact 28 (f := .free "range") rfl)
  g_reversed := He.free_ok X G (c.fact 29 (f := .free "reversed") rfl)
  c_MOST_STRANDS := He.int_ok X G (c.fact 30 (f := .int "MOST_STRANDS" 40) rfl)
  x_NoCloth := exF X G rfl (c.fact 31 (f := .glo "NoCloth") rfl) (c.fact 32 (f := .exc "NoCloth") rfl)
  x_NoStrand := exF X G rfl (c.fact 33 (f := .glo "NoStrand") rfl) (c.fact 34 (f := .exc "NoStrand") rfl)
  kn := kn_ok kx
  d__law_at := by
    obtain ⟨fd, F⟩ := c.def_ 0 (d := ⟨("_law_at", none), "_law_at", "_law_at", defArgs (topS 18), defBody (topS 18), defScope (topS 18), [], []⟩) rfl
    exact ⟨_, fd, F, He.glo_ok X G (c.fact 0 (f := .glo "_law_at") rfl)⟩
  d__law_numbers := by
    obtain ⟨fd, F⟩ := c.def_ 1 (d := ⟨("_law_numbers", none), "_law_numbers", "_law_numbers", defArgs (topS 19), defBody (topS 19), defScope (topS 19), [], []⟩) rfl
    exact ⟨_, fd, F, He.glo_ok X G (c.fact 1 (f := .glo "_law_numbers") rfl)⟩
  d__law_levels := by
    obtain ⟨fd, F⟩ := c.def_ 2 (d := ⟨("_law_levels", none), "_law_levels", "_law_levels", defArgs (topS 20), defBody (topS 20), defScope (topS 20), [], []⟩) rfl
    exact ⟨_, fd, F, He.glo_ok X G (c.fact 2 (f := .glo "_law_levels") rfl)⟩
  d__law_text := by
    obtain ⟨fd, F⟩ := c.def_ 3 (d := ⟨("_law_text", none), "_law_text", "_law_text", defArgs (topS 21), defBody (topS 21), defScope (topS 21), [], []⟩) rfl
    exact ⟨_, fd, F, He.glo_ok X G (c.fact 3 (f := .glo "_law_text") rfl)⟩
  d__law_cloth := by
    obtain ⟨fd, F⟩ := c.def_ 4 (d := ⟨("_law_cloth", none), "_law_cloth", "_law_cloth", defArgs (topS 22), defBody (topS 22), defScope (topS 22), [], []⟩) rfl
    exact ⟨_, fd, F, He.glo_ok X G (c.fact 4 (f := .glo "_law_cloth") rfl)⟩
  d__law_set := by
    obtain ⟨fd, F⟩ := c.def_ 5 (d := ⟨("_law_set", none), "_law_set", "_law_set", defArgs (topS 25), defBody (topS 25), defScope (topS 25), [], []⟩) rfl
    exact ⟨_, fd, F, He.glo_ok X G (c.fact 5 (f := .glo "_law_set") rfl)⟩
  d_measured := by
    obtain ⟨fd, F⟩ := c.def_ 6 (d := ⟨("measured", none), "measured", "measured", defArgs (topS 7), defBody (topS 7), defScope (topS 7), [], []⟩) rfl
    exact ⟨_, fd, F, He.glo_ok X G (c.fact 6 (f := .glo "measured") rfl)⟩
  d_held_strands := by
    obtain ⟨fd, F⟩ := c.def_ 7 (d := ⟨("held_strands", none), "held_strands", "held_strands", defArgs (topS 12), defBody (topS 12), defScope (topS 12), [], []⟩) rfl
    exact ⟨_, fd, F, He.glo_ok X G (c.fact 7 (f := .glo "held_strands") rfl)⟩
  d_beneath_strand := by
    obtain ⟨fd, F⟩ := c.def_ 8 (d := ⟨("beneath_strand", none), "beneath_strand", "beneath_strand", defArgs (topS 9), defBody (topS 9), defScope (topS 9), [], []⟩) rfl
    exact ⟨_, fd, F, He.glo_ok X G (c.fact 8 (f := .glo "beneath_strand") rfl)⟩
  d_way_within := by
    obtain ⟨fd, F⟩ := c.def_ 9 (d := ⟨("way_within", none), "way_within", "way_within", defArgs (topS 13), defBody (topS 13), defScope (topS 13), [], []⟩) rfl
    exact ⟨_, fd, F, He.glo_ok X G (c.fact 9 (f := .glo "way_within") rfl)⟩
  d_round_way := by
    obtain ⟨fd, F⟩ := c.def_ 10 (d := ⟨("round_way", none), "round_way", "round_way", defArgs (topS 14), defBody (topS 14), defScope (topS 14), [], []⟩) rfl
    exact ⟨_, fd, F, He.glo_ok X G (c.fact 10 (f := .glo "round_way") rfl)⟩
  d_above_strand := by
    obtain ⟨fd, F⟩ := c.def_ 11 (d := ⟨("above_strand", none), "above_strand", "above_strand", defArgs (topS 10), defBody (topS 10), defScope (topS 10), [], []⟩) rfl
    exact ⟨_, fd, F, He.glo_ok X G (c.fact 11 (f := .glo "above_strand") rfl)⟩
  d_met_from := by
    obtain ⟨fd, F⟩ := c.def_ 12 (d := ⟨("met_from", none), "met_from", "met_from", defArgs (topS 15), defBody (topS 15), defScope (topS 15), [], []⟩) rfl
    exact ⟨_, fd, F, He.glo_ok X G (c.fact 12 (f := .glo "met_from") rfl)⟩
  d_lifted_off := by
    obtain ⟨fd, F⟩ := c.def_ 13 (d := ⟨("lifted_off", none), "lifted_off", "lifted_off", defArgs (topS 16), defBody (topS 16), defScope (topS 16), [], []⟩) rfl
    exact ⟨_, fd, F, He.glo_ok X G (c.fact 13 (f := .glo "lifted_off") rfl)⟩
  d__law_whole := by
    obtain ⟨fd, F⟩ := c.def_ 14 (d := ⟨("_law_whole", none), "_law_whole", "_law_whole", defArgs (topS 23), defBody (topS 23), defScope (topS 23), [], []⟩) rfl
    exact ⟨_, fd, F, He.glo_ok X G (c.fact 14 (f := .glo "_law_whole") rfl)⟩
  d__law_numbered := by
    obtain ⟨fd, F⟩ := c.def_ 15 (d := ⟨("_law_numbered", none), "_law_numbered", "_law_numbered", defArgs (topS 26), defBody (topS 26), defScope (topS 26), [], []⟩) rfl
    exact ⟨_, fd, F, He.glo_ok X G (c.fact 15 (f := .glo "_law_numbered") rfl)⟩
  d__law_over := by
    obtain ⟨fd, F⟩ := c.def_ 16 (d := ⟨("_law_over", none), "_law_over", "_law_over", defArgs (topS 24), defBody (topS 24), defScope (topS 24), [], []⟩) rfl
    exact ⟨_, fd, F, He.glo_ok X G (c.fact 16 (f := .glo "_law_over") rfl)⟩
  d__law_round := by
    obtain ⟨fd, F⟩ := c.def_ 17 (d := ⟨("_law_round", none), "_law_round", "_law_round", defArgs (topS 27), defBody (topS 27), defScope (topS 27), [], []⟩) rfl
    exact ⟨_, fd, F, He.glo_ok X G (c.fact 17 (f := .glo "_law_round") rfl)⟩
  d__law_lifted := by
    obtain ⟨fd, F⟩ := c.def_ 18 (d := ⟨("_law_lifted", none), "_law_lifted", "_law_lifted", defArgs (topS 28), defBody (topS 28), defScope (topS 28), [], []⟩) rfl
    exact ⟨_, fd, F, He.glo_ok X G (c.fact 18 (f := .glo "_law_lifted") rfl)⟩
  d__law_bad := by
    obtain ⟨fd, F⟩ := c.def_ 19 (d := ⟨("_law_bad", none), "_law_bad", "_law_bad", defArgs (topS 30), defBody (topS 30), defScope (topS 30), [], []⟩) rfl
    exact ⟨_, fd, F, He.glo_ok X G (c.fact 19 (f := .glo "_law_bad") rfl)⟩
  d__law_refused := by
    obtain ⟨fd, F⟩ := c.def_ 20 (d := ⟨("_law_refused", none), "_law_refused", "_law_refused", defArgs (topS 29), defBody (topS 29), defScope (topS 29), [], []⟩) rfl
    exact ⟨_, fd, F, He.glo_ok X G (c.fact 20 (f := .glo "_law_refused") rfl)⟩
  d_law := by
    obtain ⟨fd, F⟩ := c.def_ 21 (d := ⟨("law", none), "law", "law", defArgs (topS 31), defBody (topS 31), defScope (topS 31), [], []⟩) rfl
    exact ⟨_, fd, F, He.glo_ok X G (c.fact 21 (f := .glo "law") rfl)⟩
end Hd
open PySem PySem.W PySem.Calls PyProof.Rows
set_option maxHeartbeats 0
theorem PySem.Challenge.cw_heddle_k30_round_or_lifted_holds : PySem.Challenge.rw_heddle_k30_round_or_lifted.Holds := by
  w_on; o_law
  refine HandSHeadRun.head_any (r := OpenLaw.row PySem.Challenge.rw_heddle_k30_round_or_lifted) (q := view (OpenLaw.row PySem.Challenge.rw_heddle_k30_round_or_lifted).prog [31]) (H := Hd.hk) (ob := Hd.ob) (M := 3000) (loose := Hd.loose) (d := HandSHeadRun.topDef (OpenLaw.row PySem.Challenge.rw_heddle_k30_round_or_lifted).prog 31) (kwd := []) Hd.ob_eq
    (by kernel_rfl) (fun s => by kernel_rfl) Hd.run (by kernel_rfl) (by kernel_rfl) (by kernel_rfl) (by rfl) (by first | assumption | decide +kernel) (by decide +kernel) ⟨rfl, rfl, rfl, rfl, rfl, by decide +kernel⟩ ?hw ?hc
  case hw => w_witness2
  case hc =>
    refine Hd.law_end (l := PySem.Challenge.rw_heddle_k30_round_or_lifted) (k := 5) (cl := Hd.c_law) rfl (by kernel_rfl) ⟨rfl, by decide, by decide⟩ ?F Hd.law_math
    intro w mg fa h Y G hmg0
    obtain ⟨K, KX, kx, c⟩ := Y
    have hmg : mg ("law" : PySem.Str) = some (.ref fa) := by
      have e : (HandSHeadRun.topDef (OpenLaw.row PySem.Challenge.rw_heddle_k30_round_or_lifted).prog 31).name = ("law" : PySem.Str) := by kernel_rfl
      rw [← e]
      exact hmg0
    obtain ⟨f, fd, hF, hm⟩ := (Hd.facts_of (P := (PySem.Challenge.rw_heddle_k30_round_or_lifted).prog) (w := w) (base := h) KX G kx c).d_law
    have e := hm.symm.trans hmg
    cases e
    exact ⟨K, fd, fun c => He.ga K (Hd.ecName c), KX, fun s v => Hd.L2_bindsA hF s v, fun base => Hd.fnok_law (Hd.facts_of KX G kx c) hF⟩
