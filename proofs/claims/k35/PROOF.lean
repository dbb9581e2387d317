import PyProof.Rows.All
import Wide.All
import OpenK.AllK
import Wide.FinOn
import HandS.Base
import HandS.Call
import HandS.List
import HandS.Comp
import HandS.Ends
import HandS.Dict
import HandS.Iter
import HandS.Text
import HandS.Words
import HandS.WordsList
import HandS.Exc
import HandS.TryOnly
import HandS.ExcOwn
import HandS.Defaults
import HandS.Lambda
import HandS.Flow
import HandS.RaiseOp
import HandS.TryElse
import HandS.Wide
import HandS.StrMore
import HandS.StrSplit
import HandS.WordsExc
import HandS.Strs
import HandS.IsInst
import HandS.SetFor
import KE.KStateDown
import HandS.Head0
import HandS.Head1
import HandS.Head2
import HandS.HeadEnd
import HandS.HeadHook1
import HandS.HeadHook2
import PyProof.Rows.RegReprOcc
import PyProof.StrOps2
import HandS.ExcIs
import HandS.TryMany
import KE.KExcMore
import HandS.Deep
import PyProof.Draws
import PyProof.EnumMake
import PyProof.LongRange
import KE.GoesZip
import KE.GoesMore
import HandS.RevTup
import HandS.Small
import HandS.Conv
import HandS.Rev
import KE.SortKeyHeap
import HandS.Nested
import HandS.Sort
import HandS.HeadWalk
import HandS.HeadHook4
import HandS.More
import HandS.WideBits
import PyProof.ListIndexNeg
import KE.DataCmp
import KE.SortData
import HandS.Codes
import KE.KDictDisplayH
import HandS.ClsMeth
import HandS.NoneIn
import KE.KWords
import HandS.HotCalls
import PySem.Challenge.RW_heddle_k35_taken_apart
set_option Elab.async false
set_option linter.all false
set_option maxRecDepth 100000
set_option maxHeartbeats 0
set_option exponentiation.threshold 20000
set_option synthInstance.maxSize 100000
set_option synthInstance.maxHeartbeats 0
noncomputable section
namespace Hd
open PySem PySem.Spec L2
/-- the classes of refusals -/
inductive Ec where
  | weave | noRow | tooLarge | noCloth | noDraft | noStrand | noDeed | noLaying | noShuttle | noColour | noBlock | noPattern | unknown | twice
  deriving DecidableEq, Repr
/-- what a piece of the program comes to: a value, a refusal, or nothing that is promised here -/
inductive M (α : Type) where
  | ok (a : α)
  | ex (c : Ec)
  | no
def M.bind {α β : Type} : M α → (α → M β) → M β
  | .ok a, f => f a
  | .ex c, _ => .ex c
  | .no, _ => .no
/-- where nothing can be let out -/
def M.nox {α : Type} : M α → M α
  | .ok a => .ok a
  | _ => .no
@[simp] theorem M.bind_ok {α β : Type} (a : α) (f : α → M β) : M.bind (.ok a) f = f a := rfl
@[simp] theorem M.bind_ex {α β : Type} (c : Ec) (f : α → M β) : M.bind (.ex c) f = .ex c := rfl
@[simp] theorem M.bind_no {α β : Type} (f : α → M β) : M.bind .no f = .no := rfl
@[simp] theorem M.nox_ok {α : Type} (a : α) : M.nox (.ok a) = .ok a := rfl
/-- all but the tables of code objects -/
def nt : HO → Bool
  | .tbl _ => false
  | _ => true
def cl (H : Hp) : Hp := fun a => match H a with
  | some (.tbl _) => none
  | x => x
theorem cl_of {H : Hp} {a : Addr} {o : HO} (h : H a = some o) (n : nt o = true := by rfl) : cl H a = some o := by
  unfold cl; rw [h]; cases o <;> first | rfl | cases n
theorem cl_raw {H : Hp} {a : Addr} {o : HO} (h : cl H a = some o) : H a = some o := by
  unfold cl at h; split at h <;> first | exact h | cases h
theorem cl_nt {H : Hp} {a : Addr} {o : HO} (h : cl H a = some o) : nt o = true := by
  unfold cl at h
  split at h
  · cases h
  · rename_i x hx
    cases o <;> first | rfl | exact absurd h (hx _)
theorem cl_none {H : Hp} {a : Addr} (h : H a = none) : cl H a = none := by unfold cl; rw [h]
theorem cl_upd_ne {H : Hp} {a q : Addr} {o : HO} (h : a ≠ q) : cl (upd H q o) a = cl H a := by unfold cl; rw [upd_ne h]
/-- the one lambda of the program: its name -/
def lamQ : Str := "by_count.<locals>.<lambda>"
/-- a later heap: tables may have grown -/
structure Same (H H' : Hp) : Prop where
  keep : ∀ a o, H a = some o → nt o = true → H' a = some o
  fr : ∀ a, H' a = none → H a = none
  tab : ∀ P, LamX.TabS H P lamQ → LamX.TabS H' P lamQ
theorem Same.of {H H' : Hp} (h : L2.Same H H') : Same H H' := ⟨fun a o e _ => h a o e, fun a e => h.free e, fun P t => t.ext h⟩
theorem Same.refl (H : Hp) : Same H H := .of (L2.Same.refl H)
theorem Same.trans {H H1 H2 : Hp} (a : Same H H1) (b : Same H1 H2) : Same H H2 := ⟨fun x o e n => b.keep x o (a.keep x o e n) n, fun x e => a.fr x (b.fr x e), fun P t => b.tab P (a.tab P t)⟩
theorem Same.free {H H' : Hp} (s : Same H H') {l : Addr} (h : H' l = none) : H l = none := s.fr l h
theorem Same.cl {H H' : Hp} (s : Same H H') : L2.Same (cl H) (cl H') := fun a o e => cl_of (s.keep a o (cl_raw e) (cl_nt e)) (cl_nt e)
/-- a thing of one's own is written -/
theorem Same.wr {H0 H : Hp} {q : Addr} {o u : HO} (s : Same H0 H) (n0 : H0 q = none) (hq : H q = some u) (hu : ∀ φ, u ≠ .ext φ) (hn : nt u = true) : Same H0 (upd H q o) := by
  refine ⟨fun a o' e n => ?_, fun a e => ?_, fun P t => ?_⟩
  · rw [upd_ne (ne_of_none e n0)]; exact s.keep a o' e n
  · by_cases z : a = q
    · rw [z, upd_same] at e; cases e
    · rw [upd_ne z] at e; exact s.fr a e
  · obtain ⟨ps, h1, h2, h3⟩ := s.tab P t
    have np : P ≠ q := fun z => by rw [z, hq] at h1; cases h1; cases hn
    refine ⟨ps, by rw [upd_ne np]; exact h1, h2, fun pos cv hc => ?_⟩
    obtain ⟨c, e1, e2⟩ := h3 pos cv hc
    have nc : c ≠ q := fun z => by rw [z, hq] at e2; exact hu _ (Option.some.inj e2)
    exact ⟨c, e1, by rw [upd_ne nc]; exact e2⟩
/-- what may be read -/
abbrev RdR := Addr → HO → Prop
/-- data of a kind, and how a value of the program stands for it -/
structure Ty (α : Type) where
  rep : α → V → RdR → Prop
  mono : ∀ {d v} {R R' : RdR}, rep d v R → (∀ a o, R a o → R' a o) → rep d v R'
inductive Reps {α : Type} (T : Ty α) (R : RdR) : List α → List V → Prop where
  | nil : Reps T R [] []
  | cons {d ds v vs} : T.rep d v R → Reps T R ds vs → Reps T R (d :: ds) (v :: vs)
section
variable {α : Type} {T : Ty α} {R R' : RdR} {ds es : List α} {vs ws : List V}
theorem Reps.mono (h : Reps T R ds vs) (s : ∀ a o, R a o → R' a o) : Reps T R' ds vs := by
  induction h with
  | nil => exact .nil
  | cons r _ ih => exact .cons (T.mono r s) ih
theorem Reps.length (h : Reps T R ds vs) : ds.length = vs.length := by
  induction h with
  | nil => rfl
  | cons _ _ ih => simp [ih]
theorem Reps.append (h : Reps T R ds vs) (k : Reps T R es ws) : Reps T R (ds ++ es) (vs ++ ws) := by
  induction h with
  | nil => exact k
  | cons r _ ih => exact .cons r ih
theorem Reps.get (h : Reps T R ds vs) : ∀ {i : Nat} {d : α}, ds[i]? = some d → ∃ v, vs[i]? = some v ∧ T.rep d v R := by
  induction h with
  | nil => intro i d e; simp at e
  | cons r _ ih =>
    intro i d e
    cases i with
    | zero => simp at e; subst e; exact ⟨_, rfl, r⟩
    | succ i => obtain ⟨v, e1, r1⟩ := ih (i := i) (d := d) (by simpa using e); exact ⟨v, by simpa using e1, r1⟩
theorem Reps.get' (h : Reps T R ds vs) : ∀ {i : Nat} {v : V}, vs[i]? = some v → ∃ d, ds[i]? = some d ∧ T.rep d v R := by
  induction h with
  | nil => intro i d e; simp at e
  | cons r _ ih =>
    intro i d e
    cases i with
    | zero => simp at e; subst e; exact ⟨_, rfl, r⟩
    | succ i => obtain ⟨v, e1, r1⟩ := ih (i := i) (v := d) (by simpa using e); exact ⟨v, by simpa using e1, r1⟩
theorem Reps.set {d : α} {v : V} (h : Reps T R ds vs) (r : T.rep d v R) : ∀ (i : Nat), Reps T R (ds.set i d) (vs.set i v) := by
  induction h with
  | nil => intro i; exact .nil
  | cons q t ih =>
    intro i
    cases i with
    | zero => exact .cons r t
    | succ i => exact .cons q (ih i)
theorem Reps.take (h : Reps T R ds vs) : ∀ n, Reps T R (ds.take n) (vs.take n) := by
  induction h with
  | nil => intro n; simp; exact .nil
  | cons r _ ih => intro n; cases n with
    | zero => exact .nil
    | succ n => exact .cons r (ih n)
theorem Reps.drop (h : Reps T R ds vs) : ∀ n, Reps T R (ds.drop n) (vs.drop n) := by
  induction h with
  | nil => intro n; simp; exact .nil
  | cons r t ih => intro n; cases n with
    | zero => exact .cons r t
    | succ n => exact ih n
theorem Reps.reverse (h : Reps T R ds vs) : Reps T R ds.reverse vs.reverse := by
  induction h with
  | nil => exact .nil
  | cons r _ ih => rw [List.reverse_cons, List.reverse_cons]; exact ih.append (.cons r .nil)
end
def tInt : Ty Int := ⟨fun n v _ => v = .int n, fun h _ => h⟩
def tBool : Ty Bool := ⟨fun b v _ => v = .bl b, fun h _ => h⟩
/-- a text, as its signs -/
abbrev Tx := List Nat
def toS (x : Tx) : Str := ⟨x.toArray⟩
/-- short enough, of signs -/
def OkTx (x : Tx) : Prop := x.length ≤ sizeLine ∧ ∀ c ∈ x, c < 0x110000
def tStr : Ty Tx := ⟨fun x v _ => v = .str (toS x) ∧ OkTx x, fun h _ => h⟩
def tNone : Ty Unit := ⟨fun _ v _ => v = .non, fun h _ => h⟩
def tList {α : Type} (T : Ty α) : Ty (List α) := ⟨fun ds v R => ∃ a vs, v = .ref a ∧ R a (.lst vs) ∧ Reps T R ds vs, fun ⟨a, vs, e, r, h⟩ s => ⟨a, vs, e, s _ _ r, h.mono s⟩⟩
/-- the written items of a list, an argument list, a tuple -/
structure Ar (δ : Type) where
  rep : δ → List V → RdR → Prop
  mono : ∀ {d vs} {R R' : RdR}, rep d vs R → (∀ a o, R a o → R' a o) → rep d vs R'
def aNil : Ar Unit := ⟨fun _ vs _ => vs = [], fun h _ => h⟩
def aCons {α β : Type} (T : Ty α) (A : Ar β) : Ar (α × β) := ⟨fun d vs R => ∃ v r, vs = v :: r ∧ T.rep d.1 v R ∧ A.rep d.2 r R, fun ⟨v, r, e, h1, h2⟩ s => ⟨v, r, e, T.mono h1 s, A.mono h2 s⟩⟩
/-- a tuple of written items -/
def tTup {δ : Type} (A : Ar δ) : Ty δ := ⟨fun d v R => ∃ a vs, v = .ref a ∧ R a (.tup vs) ∧ A.rep d vs R, fun ⟨a, vs, e, r, h⟩ s => ⟨a, vs, e, s _ _ r, A.mono h s⟩⟩
/-- all items of one kind -/
def aAll {α : Type} (T : Ty α) : Ar (List α) := ⟨fun ds vs R => Reps T R ds vs, fun h s => h.mono s⟩
/-- a tuple of the written part -/
def KObj (K : PySem.W.Frag) (a : Addr) : HO → Prop
  | .tup xs => ∃ (o : Obj) (its : Array Value) (n : Nat), K.lookup a = some o ∧ o.cls = .type "tuple" ∧ o.data = .seq its n ∧ its.size ≤ sizeLine ∧ Vals xs its.toList
  | _ => False
/-- a def's frame: the heap it began with; the callers' own things, which its arguments don't reach -/
structure Fm where
  K : PySem.W.Frag
  H0 : Hp
  z : Addr → Prop
/-- how new a thing is: sh: it may be shared; f0: made since the def began; fx: made since the expression began -/
inductive Md where | sh | f0 | fx
/-- a value of the table of a code object, as a value of the program (used for marks only) -/
def decV : Value → V
  | .int i _ => .int i
  | .str x _ => .str x
  | _ => .non
/-- how else a thing may be there that is read as o: frozen; a tuple of ints and texts that is no written one is read by a mark too -/
def Alt (o u : HO) : Prop := (nt o = true ∧ ∃ f, u = .frz f o) ∨ ∃ ps : Array Value, o = .tbl ps ∧ u = .tup (ps.toList.map decV)
def Rd (H : Hp) (a : Addr) (o : HO) : Prop := H a = some o ∨ ∃ f : {u : HO // Alt o u}, H a = some f.1
def RD (fm : Fm) (own : List Addr) (H : Hp) : RdR := fun a o => (Rd (cl H) a o ∧ a ∉ own ∧ ¬ fm.z a) ∨ KObj fm.K a o
/-- .. at H' behind an expression that began at H -/
def RX (fm : Fm) (own : List Addr) (H H' : Hp) : Md → RdR
  | .sh => RD fm own H'
  | .f0 => fun a o => cl H' a = some o ∧ a ∉ own ∧ ¬ fm.z a ∧ fm.H0 a = none
  | .fx => fun a o => cl H' a = some o ∧ a ∉ own ∧ ¬ fm.z a ∧ fm.H0 a = none ∧ H a = none
theorem Rd.clo {H : Hp} {a : Addr} {o : HO} (r : L2.Rd H a o) (n : nt o = true := by rfl) : Rd (cl H) a o := r.imp (fun h => cl_of h n) fun ⟨f, h⟩ => ⟨⟨.frz f o, .inl ⟨n, f, rfl⟩⟩, cl_of h⟩
theorem Rd.raw {H : Hp} {a : Addr} {o : HO} (r : Rd (cl H) a o) (n : nt o = true := by rfl) : L2.Rd H a o := by
  rcases r with r | ⟨⟨u, x⟩, r⟩
  · exact .inl (cl_raw r)
  · rcases x with ⟨_, f, e⟩ | ⟨ps, e, _⟩
    · exact .inr ⟨f, by rw [← e]; exact cl_raw r⟩
    · rw [e] at n; cases n
theorem Rd.same {H H' : Hp} {a : Addr} {o : HO} (s : Same H H') (r : Rd (cl H) a o) : Rd (cl H') a o := by
  rcases r with r | ⟨f, r⟩
  · exact .inl (s.cl _ _ r)
  · exact .inr ⟨f, s.cl _ _ r⟩
theorem Rd.some {H : Hp} {a : Addr} {o : HO} (r : Rd H a o) : H a ≠ none := by
  rcases r with r | ⟨f, r⟩ <;> rw [r] <;> exact fun e => by cases e
theorem Rd.there {H : Hp} {a : Addr} {o : HO} (r : Rd (cl H) a o) : H a ≠ none := fun e => Rd.some r (cl_none e)
theorem RD.same {fm : Fm} {own : List Addr} {H H' : Hp} (s : Same H H') : ∀ a o, RD fm own H a o → RD fm own H' a o := fun _ _ r => r.imp (fun ⟨r, h⟩ => ⟨Rd.same s r, h⟩) id
theorem RX.same {fm : Fm} {own : List Addr} {H H1 H2 : Hp} {md : Md} (s : Same H1 H2) : ∀ a o, RX fm own H H1 md a o → RX fm own H H2 md a o := fun a o r => by
  cases md with
  | sh => exact RD.same s a o r
  | f0 => exact ⟨s.cl _ _ r.1, r.2⟩
  | fx => exact ⟨s.cl _ _ r.1, r.2⟩
/-- from a later beginning -/
theorem RX.later {fm : Fm} {own : List Addr} {H H1 H2 : Hp} {md : Md} (s : Same H H1) : ∀ a o, RX fm own H1 H2 md a o → RX fm own H H2 md a o := fun a o r => by
  cases md with
  | sh => exact r
  | f0 => exact r
  | fx => exact ⟨r.1, r.2.1, r.2.2.1, r.2.2.2.1, s.free r.2.2.2.2⟩
theorem RX.sh {fm : Fm} {own : List Addr} {H H' : Hp} {md : Md} : ∀ a o, RX fm own H H' md a o → RX fm own H H' .sh a o := fun a o r => by
  cases md with
  | sh => exact r
  | f0 => exact .inl ⟨.inl r.1, r.2.1, r.2.2.1⟩
  | fx => exact .inl ⟨.inl r.1, r.2.1, r.2.2.1⟩
theorem RX.f0 {fm : Fm} {own : List Addr} {H H' : Hp} : ∀ a o, RX fm own H H' .fx a o → RX fm own H H' .f0 a o := fun a o r => ⟨r.1, r.2.1, r.2.2.1, r.2.2.2.1⟩
theorem RX.fx {fm : Fm} {own : List Addr} {H H' : Hp} (md : Md) : ∀ a o, RX fm own H H' .fx a o → RX fm own H H' md a o := fun a o r => by
  cases md with
  | sh => exact RX.sh a o r
  | f0 => exact RX.f0 a o r
  | fx => exact r
/-- what can be read is there -/
theorem RX.list {fm : Fm} {own : List Addr} {H H' : Hp} {md : Md} {a : Addr} {vs : List V} (r : RX fm own H H' md a (.lst vs)) : SqL fm.K H' a vs := by
  rcases RX.sh a _ r with r | r
  · exact .inl (Rd.raw r.1)
  · exact r.elim
theorem RX.tup {fm : Fm} {own : List Addr} {H H' : Hp} {md : Md} {a : Addr} {vs : List V} (r : RX fm own H H' md a (.tup vs)) : SqT fm.K H' a vs := by
  rcases RX.sh a _ r with r | r
  · exact .inl (Rd.raw r.1)
  · exact .inr r
structure Slot where
  ok : Option V → Hp → (Bool → RdR) → List Addr → Prop
  st : ∀ {v H H' F} {R R' : Bool → RdR}, ok v H R F → (∀ b a o, R b a o → R' b a o) → (∀ p ∈ F, H' p = H p) → ok v H' R' F
  tb : ∀ {v H F} {R : Bool → RdR}, ok v H R F → ∀ p ∈ F, cl H p ≠ none
/-- nothing is known of it -/
def sAny : Slot := ⟨fun _ _ _ F => F = [], fun h _ _ => h, fun h p hp => by subst h; exact nomatch hp⟩
/-- a value (b: made since the def began) -/
def sV {α : Type} (b : Bool) (T : Ty α) (d : α) : Slot := ⟨fun v _ R F => F = [] ∧ ∃ x, v = some x ∧ T.rep d x (R b), fun ⟨e, x, h, r⟩ s _ => ⟨e, x, h, T.mono r (s b)⟩, fun ⟨e, _⟩ p hp => by subst e; exact nomatch hp⟩
/-- a list of one's own, which may be changed -/
def sOwn {α : Type} (b : Bool) (T : Ty α) (ds : List α) : Slot := ⟨fun v H R F => ∃ p xs, v = some (.ref p) ∧ F = [p] ∧ H p = some (.lst xs) ∧ Reps T (R b) ds xs,
  fun ⟨p, xs, e, f, h, r⟩ s k => ⟨p, xs, e, f, by rw [k p (by simp [f])]; exact h, r.mono (s b)⟩, fun ⟨p, xs, e, f, h, r⟩ q hq => by subst f; rw [List.mem_singleton.mp hq, cl_of h]; exact fun z => nomatch z⟩
inductive AllS (H : Hp) (R : Bool → RdR) : List Slot → L2.St → List (List Addr) → Prop where
  | nil : AllS H R [] [] []
  | cons {s L v σ F Fs} : s.ok v H R F → AllS H R L σ Fs → AllS H R (s :: L) (v :: σ) (F :: Fs)
def RB (fm : Fm) (own : List Addr) (H : Hp) (b : Bool) : RdR := RX fm own H H (if b then .f0 else .sh)
section
variable {H H' : Hp} {R R' : Bool → RdR} {L : List Slot} {σ : L2.St} {Fs : List (List Addr)}
theorem AllS.st (h : AllS H R L σ Fs) (s : ∀ b a o, R b a o → R' b a o) (k : ∀ p ∈ Fs.flatten, H' p = H p) : AllS H' R' L σ Fs := by
  induction h with
  | nil => exact .nil
  | @cons sl L v σ F Fs r t ih =>
    exact .cons (sl.st r s fun p hp => k p (by simp [hp])) (ih fun p hp => k p (by simp only [List.flatten_cons, List.mem_append]; exact .inr hp))
theorem AllS.tb (h : AllS H R L σ Fs) : ∀ p ∈ Fs.flatten, cl H p ≠ none := by
  induction h with
  | nil => intro p hp; simp at hp
  | @cons s L v σ F Fs r _ ih =>
    intro p hp
    rw [List.flatten_cons, List.mem_append] at hp
    exact hp.elim (s.tb r p) (ih p)
theorem AllS.len (h : AllS H R L σ Fs) : σ.length = L.length := by
  induction h with
  | nil => rfl
  | cons _ _ ih => simp [ih]
theorem AllS.get (h : AllS H R L σ Fs) : ∀ {i : Nat} {s : Slot}, L[i]? = some s → ∃ v F, σ[i]? = some v ∧ Fs[i]? = some F ∧ s.ok v H R F := by
  induction h with
  | nil => intro i s e; simp at e
  | cons r _ ih =>
    intro i s e
    cases i with
    | zero => simp at e; subst e; exact ⟨_, _, rfl, rfl, r⟩
    | succ i => obtain ⟨v, F, e1, e2, r1⟩ := ih (i := i) (s := s) (by simpa using e); exact ⟨v, F, by simpa using e1, by simpa using e2, r1⟩
theorem AllS.set (h : AllS H R L σ Fs) {s : Slot} {v : Option V} {F : List Addr} (r : s.ok v H R F) : ∀ (i : Nat), AllS H R (L.set i s) (σ.set i v) (Fs.set i F) := by
  induction h with
  | nil => intro i; exact .nil
  | cons q t ih =>
    intro i
    cases i with
    | zero => exact .cons r t
    | succ i => exact .cons q (ih i)
end
/-- where a def's body stands: its frame, its slots, what it owns, what is kept readable -/
structure At (fm : Fm) (kp : RdR) (L : List Slot) (σ : L2.St) (H : Hp) (own : List Addr) : Prop where
  same : Same fm.H0 H
  zin : ∀ a, fm.z a → H a ≠ none
  sl : ∃ Fs, AllS H (RB fm own H) L σ Fs ∧ own = Fs.flatten
  nd : own.Nodup
  new : ∀ p ∈ own, H p ≠ none ∧ fm.H0 p = none ∧ ¬ fm.z p
  kept : ∀ a o, kp a o → RD fm own H a o
theorem RB.same {fm : Fm} {own : List Addr} {H H' : Hp} (s : Same H H') : ∀ b a o, RB fm own H b a o → RB fm own H' b a o := fun b a o r => by
  unfold RB at r ⊢
  cases b <;> exact RX.same s a o r
section
variable {fm : Fm} {kp : RdR} {L : List Slot} {σ : L2.St} {H H' : Hp} {own : List Addr}
theorem At.ext (h : At fm kp L σ H own) (s : Same H H') : At fm kp L σ H' own := by
  obtain ⟨h1, h2, ⟨Fs, h3, e⟩, h4, h5, h6⟩ := h
  refine ⟨h1.trans s, fun a z n => h2 a z (s.free n), ⟨Fs, h3.st (RB.same s) fun p hp => ?_, e⟩, h4, fun p hp => ?_, fun a o k => RD.same s a o (h6 a o k)⟩
  · obtain ⟨q, _⟩ := h5 p (by rw [e]; exact hp)
    cases r : cl H p with
    | none => exact absurd r (h3.tb p hp)
    | some o => rw [cl_raw r]; exact s.keep _ _ (cl_raw r) (cl_nt r)
  · obtain ⟨q, q2⟩ := h5 p hp
    refine ⟨fun z => q (s.free z), q2⟩
end
/-- some slots forgotten -/
inductive Wk : List Slot → List Slot → Prop where
  | n : Wk [] []
  | s {s L L'} : Wk L L' → Wk (s :: L) (s :: L')
  | a {s L L'} : Wk L L' → Wk (s :: L) (sAny :: L')
theorem Wk.refl : ∀ L, Wk L L
  | [] => .n
  | _ :: L => .s (Wk.refl L)
theorem Wk.anys : ∀ {L : List Slot} {n : Nat}, L.length = n → Wk L (List.replicate n sAny)
  | [], _, e => by subst e; exact .n
  | _ :: L, _, e => by subst e; exact Wk.a (Wk.anys (L := L) rfl)
theorem RX.own {fm : Fm} {own own' : List Addr} {H H' : Hp} {md : Md} (k : ∀ p ∈ own', p ∈ own) : ∀ a o, RX fm own H H' md a o → RX fm own' H H' md a o := fun a o r => by
  cases md with
  | sh => exact r.imp (fun ⟨h1, h2, h3⟩ => ⟨h1, fun q => h2 (k a q), h3⟩) id
  | f0 => exact ⟨r.1, fun q => r.2.1 (k a q), r.2.2⟩
  | fx => exact ⟨r.1, fun q => r.2.1 (k a q), r.2.2⟩
theorem RB.own {fm : Fm} {own own' : List Addr} {H : Hp} (k : ∀ p ∈ own', p ∈ own) : ∀ b a o, RB fm own H b a o → RB fm own' H b a o := fun _ a o r => RX.own k a o r
theorem wk_fs {H : Hp} {R : Bool → RdR} {L L' : List Slot} (w : Wk L L') : ∀ {σ : L2.St} {Fs : List (List Addr)}, AllS H R L σ Fs → ∃ Fs', AllS H R L' σ Fs' ∧ List.Sublist Fs'.flatten Fs.flatten := by
  induction w with
  | n => intro σ Fs h; exact ⟨Fs, h, List.Sublist.refl _⟩
  | s _ ih =>
    intro σ Fs h
    cases h with
    | @cons _ _ _ _ F _ r t =>
      obtain ⟨Fs', h', k⟩ := ih t
      exact ⟨F :: Fs', .cons r h', by simpa using List.Sublist.append (List.Sublist.refl F) k⟩
  | a _ ih =>
    intro σ Fs h
    cases h with
    | @cons _ _ _ _ F _ r t =>
      obtain ⟨Fs', h', k⟩ := ih t
      exact ⟨[] :: Fs', .cons rfl h', by simpa using List.Sublist.trans k (List.sublist_append_right F _)⟩
section
variable {fm : Fm} {kp kp' : RdR} {L L' : List Slot} {σ : L2.St} {H H' : Hp} {own : List Addr}
theorem At.weak (h : At fm kp L σ H own) (w : Wk L L') : ∃ own', At fm kp L' σ H own' ∧ ∀ p ∈ own', p ∈ own := by
  obtain ⟨h1, h2, ⟨Fs, h3, rfl⟩, h4, h5, h6⟩ := h
  obtain ⟨Fs', h7, k⟩ := wk_fs w h3
  have kk : ∀ p ∈ Fs'.flatten, p ∈ Fs.flatten := fun p hp => k.subset hp
  exact ⟨_, ⟨h1, h2, ⟨Fs', h7.st (RB.own kk) fun _ _ => rfl, rfl⟩, h4.sublist k, fun p hp => h5 p (kk p hp), fun a o q => RX.own (md := .sh) (H := H) kk a o (h6 a o q)⟩, kk⟩
theorem At.keep (h : At fm kp L σ H own) (k : ∀ a o, kp' a o → kp a o) : At fm kp' L σ H own := ⟨h.same, h.zin, h.sl, h.nd, h.new, fun a o q => h.kept a o (k a o q)⟩
/-- the slots' count -/
theorem At.len (h : At fm kp L σ H own) : σ.length = L.length := by
  obtain ⟨_, h3, _⟩ := h.sl
  exact h3.len
/-- a slot that owns nothing is set to a thing that owns nothing -/
theorem set_same_nil {Fs : List (List Addr)} : ∀ {i : Nat}, Fs[i]? = some [] → (Fs.set i []).flatten = Fs.flatten := by
  induction Fs with
  | nil => intro i _; rfl
  | cons F Fs ih =>
    intro i e
    cases i with
    | zero => simp at e; subst e; rfl
    | succ i => simp only [List.set_cons_succ, List.flatten_cons]; rw [ih (by simpa using e)]
theorem set_sub {Fs : List (List Addr)} : ∀ {i : Nat}, List.Sublist (Fs.set i []).flatten Fs.flatten := by
  induction Fs with
  | nil => intro i; exact List.Sublist.refl _
  | cons F Fs ih =>
    intro i
    cases i with
    | zero => simpa using List.sublist_append_right F _
    | succ i => simpa using List.Sublist.append (List.Sublist.refl F) (ih (i := i))
theorem At.setV {i : Nat} {b : Bool} {α : Type} {T : Ty α} {d : α} {v : V} (h : At fm kp L σ H own) (r : T.rep d v (RB fm own H b)) : ∃ own', At fm kp (L.set i (sV b T d)) (σ.set i (some v)) H own' := by
  obtain ⟨h1, h2, ⟨Fs, h3, rfl⟩, h4, h5, h6⟩ := h
  have kk : ∀ p ∈ (Fs.set i []).flatten, p ∈ Fs.flatten := fun p hp => (set_sub (i := i)).subset hp
  refine ⟨_, h1, h2, ⟨Fs.set i [], (h3.st (RB.own kk) fun _ _ => rfl).set (s := sV b T d) ⟨rfl, v, rfl, T.mono r (RB.own kk b)⟩ i, rfl⟩, h4.sublist set_sub, fun p hp => h5 p (kk p hp), fun a o q => RX.own (md := .sh) (H := H) kk a o (h6 a o q)⟩
end
/-- what is wanted of a refusal -/
abbrev Wx := Ec → L2.St → Hp → Prop
structure G where
  X : Cx
  fm : Fm
  W : Wx
  LX : List Slot
/-- an expression that is worth m, told as T; md: how new it is -/
def tE (fm : Fm) (W : Wx) (L : List Slot) (md : Md) {α : Type} (T : Ty α) (m : M α) : TE := fun σ H Q => ∃ kp own, At fm kp L σ H own ∧
  match m with
  | .ok d => ∀ v H', Same H H' → T.rep d v (RX fm own H H' md) → Q v H'
  | .ex c => ∀ H', Same H H' → W c σ H'
  | .no => False
def tT (fm : Fm) (W : Wx) (L : List Slot) (m : M Bool) : TT := fun σ H Q => ∃ kp own, At fm kp L σ H own ∧
  match m with
  | .ok d => ∀ H', Same H H' → Q d H'
  | .ex c => ∀ H', Same H H' → W c σ H'
  | .no => False
def tA (fm : Fm) (W : Wx) (L : List Slot) (md : Md) {δ : Type} (A : Ar δ) (m : M δ) : TA := fun σ H Q => ∃ kp own, At fm kp L σ H own ∧
  match m with
  | .ok d => ∀ vs H', Same H H' → A.rep d vs (RX fm own H H' md) → Q vs H'
  | .ex c => ∀ H', Same H H' → W c σ H'
  | .no => False
/-- a list that the expression makes -/
def tL (fm : Fm) (W : Wx) (L : List Slot) (md : Md) {α : Type} (S : Ty α) (m : M (List α)) : TE := fun σ H Q => ∃ kp own, At fm kp L σ H own ∧
  match m with
  | .ok ds => ∀ p vs H', Same H H' → H p = none → H' p = some (.lst vs) → Reps S (RX fm (p :: own) H H' md) ds vs → Q (.ref p) H'
  | .ex c => ∀ H', Same H H' → W c σ H'
  | .no => False
def EvL (g : G) (L : List Slot) (e : Expr) (md : Md) {α : Type} (S : Ty α) (m : M (List α)) : Prop := PE g.X e (tL g.fm g.W L md S m)
def EvE (g : G) (L : List Slot) (e : Expr) (md : Md) {α : Type} (T : Ty α) (m : M α) : Prop := PE g.X e (tE g.fm g.W L md T m)
def EvT (g : G) (L : List Slot) (e : Expr) (m : M Bool) : Prop := PT g.X e (tT g.fm g.W L m)
def EvA (g : G) (L : List Slot) (es : List Expr) (md : Md) {δ : Type} (A : Ar δ) (m : M δ) : Prop := PA g.X es (tA g.fm g.W L md A m)
/-- how a block ends -/
inductive Out where
  | nx (L : List Slot)
  | ct (L : List Slot)
  | go (L : List Slot)
  | rt {ρ : Type} (md : Bool) (T : Ty ρ) (r : ρ)
  | rtL {ρ : Type} (md : Bool) (T : Ty ρ) (r : List ρ)
  /-- any other way of handing back -/
  | gen (f : Fm → VK → Prop)
  | bad
def Out.cut : Out → Out
  | .go L => .ct L
  | .nx _ => .bad
  | o => o
/-- .. of what is handed back; q: not by this one -/
def RT (fm : Fm) (H' : Hp) (b : Bool) (q : Option Addr := none) : RdR := RX fm q.toList H' H' (if b then .f0 else .sh)
def OutOk (fm : Fm) (kp : RdR) (E : Ends) : Out → Prop
  | .nx L => ∀ σ H own, At fm kp L σ H own → E.nx σ H
  | .ct L => ∀ σ H own, At fm kp L σ H own → E.ct σ H
  | .go L => ∀ σ H own, At fm kp L σ H own → E.nx σ H ∧ E.ct σ H
  | .rt md T r => ∀ v H', Same fm.H0 H' → T.rep r v (RT fm H' md) → E.rt v H'
  | .rtL md T r => ∀ p vs H', Same fm.H0 H' → ¬ fm.z p → fm.H0 p = none → H' p = some (.lst vs) → Reps T (RT fm H' md (some p)) r vs → E.rt (.ref p) H'
  | .gen f => f fm E.rt
  | .bad => False
def BOk (g : G) (kp : RdR) (E : Ends) {δ : Type} (D : δ → Out) : M δ → Prop
  | .ok d => OutOk g.fm kp E (D d)
  | .ex c => ∀ σ H own, At g.fm kp g.LX σ H own → g.W c σ H
  | .no => False
def tB (g : G) (L : List Slot) {δ : Type} (D : δ → Out) (m : M δ) : TS := fun E σ H => ∃ kp own, At g.fm kp L σ H own ∧ BOk g kp E D m
def EvB (g : G) (L : List Slot) (st : List Stmt) {δ : Type} (D : δ → Out) (m : M δ) : Prop := PSs g.X st (tB g L D m)
theorem PE.imp {X : Cx} {e : Expr} {t t' : TE} (h : PE X e t) (k : ∀ σ H Q, t' σ H Q → t σ H Q) : PE X e t' := ⟨fun pins s σ H Q I q => h.run pins s σ H Q I (k _ _ _ q)⟩
theorem PT.imp {X : Cx} {e : Expr} {t t' : TT} (h : PT X e t) (k : ∀ σ H Q, t' σ H Q → t σ H Q) : PT X e t' := ⟨fun pins s σ H Q I q => h.run pins s σ H Q I (k _ _ _ q)⟩
theorem PW.imp {X : Cx} {e : Expr} {t t' : TT} (h : PW X e t) (k : ∀ σ H Q, t' σ H Q → t σ H Q) : PW X e t' := ⟨fun wh pins s σ H Q I q => h.run wh pins s σ H Q I (k _ _ _ q)⟩
theorem PA.imp {X : Cx} {e : List Expr} {t t' : TA} (h : PA X e t) (k : ∀ σ H Q, t' σ H Q → t σ H Q) : PA X e t' := ⟨fun pos pins s σ H Q I q => h.run pos pins s σ H Q I (k _ _ _ q)⟩
theorem PSs.imp {X : Cx} {e : List Stmt} {t t' : TS} (h : PSs X e t) (k : ∀ E σ H, t' E σ H → t E σ H) : PSs X e t' := ⟨fun pins s σ H D I q => h.run pins s σ H D I (k _ _ _ q)⟩
section
variable {g : G} {L : List Slot} {e e' : Expr} {es : List Expr} {md : Md} {α β γ δ : Type} {S : Ty α} {T : Ty β} {U : Ty γ} {A : Ar δ}
/-- the end of an expression, as a wish about its worth -/
def FinE (fm : Fm) (W : Wx) (own : List Addr) (σ : L2.St) (H : Hp) (md : Md) (T : Ty β) (Q : VK) : M β → Prop
  | .ok d => ∀ v H', Same H H' → T.rep d v (RX fm own H H' md) → Q v H'
  | .ex c => ∀ H', Same H H' → W c σ H'
  | .no => False
def FinL (fm : Fm) (W : Wx) (own : List Addr) (σ : L2.St) (H : Hp) (md : Md) (T : Ty β) (Q : VK) : M (List β) → Prop
  | .ok ds => ∀ p vs H', Same H H' → H p = none → H' p = some (.lst vs) → Reps T (RX fm (p :: own) H H' md) ds vs → Q (.ref p) H'
  | .ex c => ∀ H', Same H H' → W c σ H'
  | .no => False
theorem tL_iff {fm : Fm} {W : Wx} {m : M (List β)} {σ : L2.St} {H : Hp} {Q : VK} : tL fm W L md T m σ H Q ↔ ∃ kp own, At fm kp L σ H own ∧ FinL fm W own σ H md T Q m := by
  cases m <;> exact Iff.rfl
def FinT (W : Wx) (σ : L2.St) (H : Hp) (Q : Bool → Hp → Prop) : M Bool → Prop
  | .ok d => ∀ H', Same H H' → Q d H'
  | .ex c => ∀ H', Same H H' → W c σ H'
  | .no => False
def FinA (fm : Fm) (W : Wx) (own : List Addr) (σ : L2.St) (H : Hp) (md : Md) (A : Ar δ) (Q : List V → Hp → Prop) : M δ → Prop
  | .ok d => ∀ vs H', Same H H' → A.rep d vs (RX fm own H H' md) → Q vs H'
  | .ex c => ∀ H', Same H H' → W c σ H'
  | .no => False
theorem tE_iff {fm : Fm} {W : Wx} {m : M β} {σ : L2.St} {H : Hp} {Q : VK} : tE fm W L md T m σ H Q ↔ ∃ kp own, At fm kp L σ H own ∧ FinE fm W own σ H md T Q m := by
  cases m <;> exact Iff.rfl
theorem tT_iff {fm : Fm} {W : Wx} {m : M Bool} {σ : L2.St} {H : Hp} {Q : Bool → Hp → Prop} : tT fm W L m σ H Q ↔ ∃ kp own, At fm kp L σ H own ∧ FinT W σ H Q m := by
  cases m <;> exact Iff.rfl
theorem tA_iff {fm : Fm} {W : Wx} {m : M δ} {σ : L2.St} {H : Hp} {Q : List V → Hp → Prop} : tA fm W L md A m σ H Q ↔ ∃ kp own, At fm kp L σ H own ∧ FinA fm W own σ H md A Q m := by
  cases m <;> exact Iff.rfl
/-- ends that let refusals pass -/
structure Fin (W : Wx) (σ : L2.St) (H0 : Hp) (F : M β → Prop) : Prop where
  ex : ∀ {c}, F (.ex c) → ∀ H', Same H0 H' → W c σ H'
  no : ¬ F .no
theorem finE {fm : Fm} {W : Wx} {own : List Addr} {σ : L2.St} {H : Hp} {Q : VK} : Fin W σ H (FinE fm W own σ H md T Q) := ⟨fun h => h, fun h => h⟩
theorem finL {fm : Fm} {W : Wx} {own : List Addr} {σ : L2.St} {H : Hp} {Q : VK} : Fin (β := List β) W σ H (FinL fm W own σ H md T Q) := ⟨fun h => h, fun h => h⟩
theorem finT {W : Wx} {σ : L2.St} {H : Hp} {Q : Bool → Hp → Prop} : Fin W σ H (FinT W σ H Q) := ⟨fun h => h, fun h => h⟩
theorem finA {fm : Fm} {W : Wx} {own : List Addr} {σ : L2.St} {H : Hp} {Q : List V → Hp → Prop} : Fin W σ H (FinA fm W own σ H md A Q) := ⟨fun h => h, fun h => h⟩
section
variable {fm : Fm} {W : Wx} {kp : RdR} {own : List Addr} {σ : L2.St} {H0 H : Hp} {F : M β → Prop}
/-- a sub-expression, then what follows -/
theorem sub {m : M α} {f : α → M β} {K : VK} (hF : Fin W σ H0 F) (s0 : Same H0 H) (at_ : At fm kp L σ H own) (q : F (m.bind f))
    (h : ∀ d v H1, Same H H1 → S.rep d v (RX fm own H0 H1 md) → At fm kp L σ H1 own → F (f d) → K v H1) : tE fm W L md S m σ H K := by
  refine tE_iff.mpr ⟨kp, own, at_, ?_⟩
  cases m with
  | ok d => exact fun v H1 s r => h d v H1 s (S.mono r (RX.later s0)) (at_.ext s) q
  | ex c => exact fun H' s => hF.ex q H' (s0.trans s)
  | no => exact hF.no q
theorem subT {m : M Bool} {f : Bool → M β} {K : Bool → Hp → Prop} (hF : Fin W σ H0 F) (s0 : Same H0 H) (at_ : At fm kp L σ H own) (q : F (m.bind f))
    (h : ∀ d H1, Same H H1 → At fm kp L σ H1 own → F (f d) → K d H1) : tT fm W L m σ H K := by
  refine tT_iff.mpr ⟨kp, own, at_, ?_⟩
  cases m with
  | ok d => exact fun H1 s => h d H1 s (at_.ext s) q
  | ex c => exact fun H' s => hF.ex q H' (s0.trans s)
  | no => exact hF.no q
theorem subA {m : M δ} {f : δ → M β} {K : List V → Hp → Prop} (hF : Fin W σ H0 F) (s0 : Same H0 H) (at_ : At fm kp L σ H own) (q : F (m.bind f))
    (h : ∀ d vs H1, Same H H1 → A.rep d vs (RX fm own H0 H1 md) → At fm kp L σ H1 own → F (f d) → K vs H1) : tA fm W L md A m σ H K := by
  refine tA_iff.mpr ⟨kp, own, at_, ?_⟩
  cases m with
  | ok d => exact fun vs H1 s r => h d vs H1 s (A.mono r (RX.later s0)) (at_.ext s) q
  | ex c => exact fun H' s => hF.ex q H' (s0.trans s)
  | no => exact hF.no q
end
structure Rdb (K : PySem.W.Frag) (R : RdR) (H : Hp) : Prop where
  rd : ∀ a o, R a o → nt o = true → L2.Rd H a o ∨ KObj K a o
instance {K : PySem.W.Frag} {R : RdR} {H : Hp} : CoeFun (Rdb K R H) (fun _ => ∀ a o, R a o → (n : nt o = true) → L2.Rd H a o ∨ KObj K a o) := ⟨fun rb a o h n => rb.rd a o h n⟩
/-- what an operation's answer may reach: its operands' things (unless fr), new things -/
def Nw (fr : Bool) (R : RdR) (H H' : Hp) : RdR := fun a o => (fr = false ∧ R a o) ∨ (cl H' a = some o ∧ H a = none)
def OpEnd (U : Ty γ) (fr : Bool) (R : RdR) (H : Hp) (Q : VK) : M γ → Prop
  | .ok u => ∀ v H', Same H H' → U.rep u v (Nw fr R H H') → Q v H'
  | _ => False
structure Op1 (K : PySem.W.Frag) (r : V → Hp → VK → Prop) (S : Ty α) (U : Ty γ) (f : α → M γ) (fr : Bool) : Prop where
  run : ∀ {d x R H Q}, Rdb K R H → S.rep d x R → OpEnd U fr R H Q (f d) → r x H Q
structure Op2 (K : PySem.W.Frag) (r : R2) (S : Ty α) (T : Ty β) (U : Ty γ) (f : α → β → M γ) (fr : Bool) : Prop where
  run : ∀ {d e x y R H Q}, Rdb K R H → S.rep d x R → T.rep e y R → OpEnd U fr R H Q (f d e) → r x y H Q
structure OpC (K : PySem.W.Frag) (r : List V → Hp → VK → Prop) (A : Ar δ) (U : Ty γ) (f : δ → M γ) (fr : Bool) : Prop where
  run : ∀ {d xs R H Q}, Rdb K R H → A.rep d xs R → OpEnd U fr R H Q (f d) → r xs H Q
structure OpM (K : PySem.W.Frag) (ty : String) (r : V → List V → Hp → VK → Prop) (S : Ty α) (A : Ar δ) (U : Ty γ) (f : α → δ → M γ) (fr : Bool) : Prop where
  ty : ∀ {d x R H}, Rdb K R H → S.rep d x R → tyV K ty x H
  run : ∀ {d e x xs R H Q}, Rdb K R H → S.rep d x R → A.rep e xs R → OpEnd U fr R H Q (f d e) → r x xs H Q
/-- how new an answer is -/
inductive MdOk : Bool → Md → Md → Prop where
  | same {fr md} : MdOk fr md md
  | fresh {md md'} : MdOk true md md'
theorem RX.rdb {fm : Fm} {own : List Addr} {H H' : Hp} : Rdb fm.K (RX fm own H H' md) H' := ⟨fun a o r n => (RX.sh a o r).imp (fun h => Rd.raw h.1 n) id⟩
theorem Nw.rx {fm : Fm} {kp : RdR} {own : List Addr} {σ : L2.St} {H H1 H2 : Hp} {fr : Bool} {md' : Md} (hm : MdOk fr md md') (s : Same H H1) (at_ : At fm kp L σ H1 own) (s2 : Same H1 H2) :
    ∀ a o, Nw fr (RX fm own H H1 md) H1 H2 a o → RX fm own H H2 md' a o := fun a o r => by
  rcases r with ⟨e, r⟩ | ⟨r, n⟩
  · cases hm with
    | same => exact RX.same s2 a o r
    | fresh => cases e
  · refine RX.fx md' a o ⟨r, fun hp => (at_.new a hp).1 n, fun hz => at_.zin a hz n, at_.same.free n, s.free n⟩
theorem FinE.fin {fm : Fm} {W : Wx} {kp : RdR} {own : List Addr} {σ : L2.St} {H H1 : Hp} {fr : Bool} {md' : Md} {Q : VK} {m : M γ} (hm : MdOk fr md md') (s : Same H H1) (at_ : At fm kp L σ H1 own) (hne : ∀ c, m ≠ .ex c)
    (q : FinE fm W own σ H md' U Q m) : OpEnd U fr (RX fm own H H1 md) H1 Q m := by
  cases m with
  | ok u => exact fun v H' s' r => q v H' (s.trans s') (U.mono r (Nw.rx hm s at_ s'))
  | ex c => exact hne c rfl
  | no => exact q
end
end Hd
namespace Hd
open PySem PySem.Spec L2
/-- the program's fixed things -/
structure Pr where
  P : Program
  w : World
  K : PySem.W.Frag
  mg : Str → Option Value
  base : Heap
  C : Ec → Addr
  /-- where the table of the lambda's code object stands -/
  T : Option Addr
def okName (x : Str) : Bool := !(x == ("__debug__" : Str)) && !(x == ("__classdict__" : Str)) && !(x == ("__name__" : Str))
def seenB (sc : Scope) (x : Str) : Bool := okName x && (match sc.names.lookup x with | some .local => true | some .cell => true | some .free => true | _ => false)
def locB (sc : Scope) (x : Str) : Bool := match sc.names.lookup x with | some .local => true | some .cell => true | _ => false
def glB (sc : Scope) (x : Str) : Bool := okName x && (match sc.names.lookup x with | some .globalImplicit => true | _ => false)
theorem okName_d {x : Str} (h : okName x = true) : (x == ("__debug__" : Str)) = false ∧ (x == ("__classdict__" : Str)) = false ∧ x ≠ "__name__" := by
  simp only [okName, Bool.and_eq_true, Bool.not_eq_true'] at h
  refine ⟨h.1.1, h.1.2, fun e => ?_⟩
  have := h.2
  rw [e, beq_self_eq_true] at this
  cases this
theorem seenB_v {sc : Scope} {x : Str} (h : seenB sc x = true) : okName x = true ∧ Vis sc x := by
  simp only [seenB, Bool.and_eq_true] at h
  refine ⟨h.1, ?_⟩
  have q := h.2
  unfold Vis
  split at q <;> first | exact .inl (by assumption) | exact .inr (.inl (by assumption)) | exact .inr (.inr (by assumption)) | cases q
theorem locB_v {sc : Scope} {x : Str} (h : locB sc x = true) : L2.Loc sc x := by
  unfold locB at h
  unfold L2.Loc
  split at h <;> first | exact .inl (by assumption) | exact .inr (by assumption) | cases h
theorem glB_v {sc : Scope} {x : Str} (h : glB sc x = true) : okName x = true ∧ sc.names.lookup x = some .globalImplicit := by
  simp only [glB, Bool.and_eq_true] at h
  refine ⟨h.1, ?_⟩
  have q := h.2
  split at q <;> first | assumption | cases q
/-- where an expression stands: N the slots, V the names seen, Gs the global names used, k the room -/
structure Ok (p : Pr) (sc : Scope) (NN VV GG : List Str) (k : Nat) (g : G) : Prop where
  prog : g.X.prog = p.P
  w : g.X.w = p.w
  K : g.X.K = p.K
  mg : g.X.mg = p.mg
  base : g.X.base = p.base
  N : g.X.N = NN
  fmK : g.fm.K = p.K
  tab : ∀ P, p.T = some P → LamX.TabS g.fm.H0 P lamQ
  room : Room k g.X.A
  nd : NN.Nodup
  vis : ∀ {j : Nat} {x : Str}, VV[j]? = some x → Vis g.X.env.scope x ∧ okName x = true
  gl : ∀ {j : Nat} {x : Str}, GG[j]? = some x → Gl g.X x ∧ okName x = true
  tk : Takes g.X (fun cls d σ H => ∃ c, cls = .ref (p.C c) ∧ d = none ∧ g.W c σ H)
  calm : g.X.calm = true
  blk : ∀ {scope : Scope} {own : List (Str × Nat)}, blkC NN sc scope own = true → BlkOk NN g.X.env.scope scope own
section
variable {p : Pr} {sc : Scope} {NN VV GG : List Str} {k : Nat} {g : G} {L : List Slot} {a b c e e' : Expr} {es : List Expr} {md md' : Md} {α β γ δ : Type} {S : Ty α} {T : Ty β} {U : Ty γ} {A : Ar δ} {pos : Pos}
theorem RB.rx {fm : Fm} {own : List Addr} {H H' : Hp} {b : Bool} : ∀ a o, RB fm own H' b a o → RX fm own H H' (if b then .f0 else .sh) a o := fun a o r => by cases b <;> exact r
/-- a name whose slot holds d -/
theorem ev_var (ok : Ok p sc NN VV GG k g) {i j : Nat} {x : Str} {b : Bool} {d : α} (hN : NN[i]? = some x) (hV : VV[j]? = some x) (hL : L[i]? = some (sV b S d)) : EvE g L (.Name x pos) (if b then .f0 else .sh) S (.ok d) := by
  obtain ⟨hv, ho⟩ := ok.vis hV
  obtain ⟨h1, h2, _⟩ := okName_d ho
  refine PE.imp (pe_var (i := i) (by rw [ok.N]; exact hN) hv h1 h2) fun σ H Q ⟨kp, own, at_, q⟩ => ?_
  obtain ⟨Fs, hs, _⟩ := at_.sl
  obtain ⟨v, F, e1, _, _, y, rfl, r⟩ := hs.get hL
  exact ⟨y, e1, q y H (Same.refl H) (S.mono r RB.rx)⟩
theorem ev_vsh (ok : Ok p sc NN VV GG k g) {i j : Nat} {x : Str} {b : Bool} {d : α} (hN : NN[i]? = some x) (hV : VV[j]? = some x) (hL : L[i]? = some (sV b S d)) : EvE g L (.Name x pos) .sh S (.ok d) := by
  refine PE.imp (ev_var ok hN hV hL) fun σ H Q ⟨kp, own, at_, q⟩ => ⟨kp, own, at_, fun v H' s r => q v H' s (S.mono r RX.sh)⟩
/-- a kind of data without a heap -/
def Flat (S : Ty α) : Prop := ∀ {d v R R'}, S.rep d v R → S.rep d v R'
theorem Reps.flat {R R' : RdR} {ds : List α} {vs : List V} (hf : Flat S) (r : Reps S R ds vs) : Reps S R' ds vs := by
  induction r with
  | nil => exact .nil
  | cons r _ ih => exact .cons (hf r) ih
theorem flInt : Flat tInt := fun h => h
theorem flBool : Flat tBool := fun h => h
theorem flStr : Flat tStr := fun h => h
theorem ev_flat {m : M α} (hf : Flat S) (h : EvE g L e md S m) : EvE g L e md' S m :=
  PE.imp h fun σ H Q q => by
    obtain ⟨kp, own, at_, q⟩ := tE_iff.mp q
    refine tE_iff.mpr ⟨kp, own, at_, ?_⟩
    cases m with
    | ok d => exact fun v H' s r => q v H' s (hf r)
    | ex c => exact q
    | no => exact q
theorem ev_sh {m : M α} (h : EvE g L e md S m) : EvE g L e .sh S m :=
  PE.imp h fun σ H Q q => by
    obtain ⟨kp, own, at_, q⟩ := tE_iff.mp q
    refine tE_iff.mpr ⟨kp, own, at_, ?_⟩
    cases m with
    | ok d => exact fun v H' s r => q v H' s (S.mono r RX.sh)
    | ex c => exact q
    | no => exact q
theorem ev_asP {d : α} {d2 : β} (hr : ∀ v R, S.rep d v R → T.rep d2 v R) (h : EvE g L e md S (.ok d)) : EvE g L e md T (.ok d2) :=
  PE.imp h fun σ H Q ⟨kp, own, at_, q⟩ => ⟨kp, own, at_, fun v H' s r => q v H' s (hr _ _ r)⟩
theorem ev_int {i : Int} {j} : EvE g L (.Constant (.int i) j pos) md tInt (.ok i) := PE.imp pe_int fun σ H Q ⟨kp, own, at_, q⟩ => q _ H (Same.refl H) rfl
theorem ev_bool {i : Bool} {j} : EvE g L (.Constant (.bool i) j pos) md tBool (.ok i) := PE.imp pe_bl fun σ H Q ⟨kp, own, at_, q⟩ => q _ H (Same.refl H) rfl
/-- a written text's signs -/
def tx (s : String) : Tx := (Str.ofString s).cps.toList
theorem toS_tx (s : String) : toS (tx s) = Str.ofString s := by
  show (⟨((Str.ofString s).cps.toList).toArray⟩ : Str) = Str.ofString s
  rw [Array.toArray_toList]
theorem toS_inj {x y : Tx} (h : toS x = toS y) : x = y := by
  have := congrArg (fun z : Str => z.cps.toList) h
  simpa [toS] using this
theorem toS_len (x : Tx) : (toS x).length = x.length := by
  show x.toArray.size = x.length
  simp
def okTxB (x : Tx) : Bool := decide (x.length ≤ 1000) && x.all fun c => decide (c < 0x110000)
theorem okTx_of {x : Tx} (h : okTxB x = true) : OkTx x := by
  simp only [okTxB, Bool.and_eq_true, decide_eq_true_eq, List.all_eq_true] at h
  exact ⟨Nat.le_trans h.1 (by decide), h.2⟩
theorem ev_str {s : String} {j} (hl : okTxB (tx s) = true) : EvE g L (.Constant (.str (Str.ofString s)) j pos) md tStr (.ok (tx s)) := PE.imp pe_str fun σ H Q ⟨kp, own, at_, q⟩ => q _ H (Same.refl H) ⟨by show _ = V.str _; rw [toS_tx], okTx_of hl⟩
/-- a constant of the module: an int or a text -/
theorem ev_glob (ok : Ok p sc NN VV GG k g) {j : Nat} {x : Str} {v : V} {u : Value} {d : α} (hG : GG[j]? = some x) (hm : p.mg x = some u) (r : RelV v u) (hr : ∀ R, S.rep d v R) : EvE g L (.Name x pos) md S (.ok d) := by
  obtain ⟨hg, ho⟩ := ok.gl hG
  exact PE.imp (pe_glob hg (by rw [ok.mg]; exact hm) r (okName_d ho).1) fun σ H Q ⟨kp, own, at_, q⟩ => q _ H (Same.refl H) (hr _)
/-- .. -/
theorem ev_op2 {op : Operator} {r : R2} {f : α → β → M γ} {fr : Bool} {m1 : M α} {m2 : M β} (ok : Ok p sc NN VV GG k g) (ho : ∀ {X : Cx}, OpR X (binaryOp op) r) (F : Op2 p.K r S T U f fr) (hne : ∀ d e c, f d e ≠ .ex c) (hm : MdOk fr md md')
    (ha : EvE g L a md S m1) (hb : EvE g L b md T m2) : EvE g L (.BinOp a op b pos) md' U (m1.bind fun d => m2.bind fun e => f d e) := by
  refine PE.imp (pe_op ho ha hb) fun σ H Q q => ?_
  obtain ⟨kp, own, at_, q⟩ := tE_iff.mp q
  refine sub finE (Same.refl H) at_ q fun d x H1 s1 r1 at1 q1 => sub finE s1 at1 q1 fun e y H2 s2 r2 at2 q2 => ?_
  rw [← ok.fmK] at F
  exact F.run (R := RX g.fm own H H2 md) RX.rdb (S.mono r1 (RX.same s2)) r2 (q2.fin hm (s1.trans s2) at2 (hne d e))
theorem ev_un {op : UnaryOp} {r : V → Hp → VK → Prop} {f : α → M γ} {fr : Bool} {m1 : M α} (ok : Ok p sc NN VV GG k g) (ho : ∀ {X : Cx}, UnR X (unaryOp op) r) (F : Op1 p.K r S U f fr) (hne : ∀ d c, f d ≠ .ex c) (hm : MdOk fr md md')
    (ha : EvE g L a md S m1) : EvE g L (.UnaryOp op a pos) md' U (m1.bind f) := by
  refine PE.imp (pe_un ho ha) fun σ H Q q => ?_
  obtain ⟨kp, own, at_, q⟩ := tE_iff.mp q
  refine sub finE (Same.refl H) at_ q fun d x H1 s1 r1 at1 q1 => ?_
  rw [← ok.fmK] at F
  exact F.run (R := RX g.fm own H H1 md) RX.rdb r1 (q1.fin hm s1 at1 (hne d))
/-- a comparison's value -/
theorem ev_cmp {op : CmpOp} {r : R2} {f : α → β → M γ} {fr : Bool} {m1 : M α} {m2 : M β} (ok : Ok p sc NN VV GG k g) (ho : OpR g.X (compareOp op) r) (F : Op2 p.K r S T U f fr) (hne : ∀ d e c, f d e ≠ .ex c) (hm : MdOk fr md md')
    (ha : EvE g L a md S m1) (hb : EvE g L b md T m2) (hk : behindInMarks op b = false := by first | exact nomark _ (by decide) (by decide) | rfl) : EvE g L (.Compare a [op] [b] pos) md' U (m1.bind fun d => m2.bind fun e => f d e) := by
  refine PE.imp (pe_cmpR ho ha hb hk) fun σ H Q q => ?_
  obtain ⟨kp, own, at_, q⟩ := tE_iff.mp q
  refine sub finE (Same.refl H) at_ q fun d x H1 s1 r1 at1 q1 => sub finE s1 at1 q1 fun e y H2 s2 r2 at2 q2 => ?_
  rw [← ok.fmK] at F
  exact F.run (R := RX g.fm own H H2 md) RX.rdb (S.mono r1 (RX.same s2)) r2 (q2.fin hm (s1.trans s2) at2 (hne d e))
/-- a comparison as a test -/
theorem evt_cmp {op : CmpOp} {r : R2} {f : α → β → M Bool} {fr : Bool} {m1 : M α} {m2 : M β} (ok : Ok p sc NN VV GG k g) (ho : OpR g.X (compareOp op) r) (F : Op2 p.K r S T tBool f fr) (hne : ∀ d e c, f d e ≠ .ex c)
    (ha : EvE g L a md S m1) (hb : EvE g L b md T m2) (hk : behindInMarks op b = false := by first | exact nomark _ (by decide) (by decide) | rfl) : EvT g L (.Compare a [op] [b] pos) (m1.bind fun d => m2.bind fun e => f d e) := by
  refine PT.imp (pt_cmpR ho ha hb hk) fun σ H Q q => ?_
  obtain ⟨kp, own, at_, q⟩ := tT_iff.mp q
  refine sub finT (Same.refl H) at_ q fun d x H1 s1 r1 at1 q1 => sub finT s1 at1 q1 fun e y H2 s2 r2 at2 q2 => ?_
  rw [← ok.fmK] at F
  refine F.run (R := RX g.fm own H H2 md) RX.rdb (S.mono r1 (RX.same s2)) r2 ?_
  cases hf : f d e with
  | ok c => rw [hf] at q2; exact fun v H' s r => ⟨c, r, q2 H' ((s1.trans s2).trans s)⟩
  | ex c => exact absurd hf (hne d e c)
  | no => rw [hf] at q2; exact q2
/-- a < b < c, as a test -/
theorem evt_chain {op op' : CmpOp} {r r' : R2} {f : α → β → Bool} {f' : β → γ → Bool} {d1 : α} {d2 : β} {d3 : γ} (ok : Ok p sc NN VV GG k g) (ho : OpR g.X (compareOp op) r) (ho' : OpR g.X (compareOp op') r')
    (F : Op2 p.K r S T tBool (fun x y => .ok (f x y)) false) (F' : Op2 p.K r' T U tBool (fun x y => .ok (f' x y)) false)
    (ha : EvE g L a md S (.ok d1)) (hb : EvE g L b md T (.ok d2)) (hc : EvE g L c md U (.ok d3)) (hm : lastMarks [op, op'] [b, c] = false := by with_unfolding_all rfl) : EvT g L (.Compare a [op, op'] [b, c] pos) (.ok (f d1 d2 && f' d2 d3)) := by
  refine PT.imp (pt_chain ho ho' ha hb hc hm) fun σ H Q ⟨kp, own, at_, q⟩ => ?_
  refine ⟨kp, own, at_, fun x H1 s1 r1 => ⟨kp, own, at_.ext s1, fun y H2 s2 r2 => ?_⟩⟩
  rw [← ok.fmK] at F F'
  have at2 := (at_.ext s1).ext s2
  have r2' : T.rep d2 y (RX g.fm own H H2 md) := T.mono r2 (RX.later s1)
  refine F.run (R := RX g.fm own H H2 md) RX.rdb (S.mono r1 (RX.same s2)) r2' fun v H3 s3 r3 => ⟨f d1 d2, r3, ?_⟩
  cases hf : f d1 d2 with
  | true =>
    refine ⟨kp, own, at2.ext s3, fun z H4 s4 r4 => F'.run (R := RX g.fm own H H4 md) RX.rdb (T.mono r2' (RX.same (s3.trans s4))) (U.mono r4 (RX.later ((s1.trans s2).trans s3))) fun v' H5 s5 r5 => ⟨f' d2 d3, r5, ?_⟩⟩
    rw [hf, Bool.true_and] at q
    exact q H5 ((((s1.trans s2).trans s3).trans s4).trans s5)
  | false =>
    rw [hf, Bool.false_and] at q
    exact ⟨false, rfl, q H3 ((s1.trans s2).trans s3)⟩
/-- an expression that is a bool, as a test -/
theorem evt_of {m : M Bool} (h : EvE g L e md tBool m) (he : ∀ whole, isTrue e g.X.env whole = (do let v ← whole; standAt e.pos; holding [v] (truthy v)) := by intro _; rfl) : EvT g L e m := by
  refine PT.imp (pt_val h he) fun σ H Q q => ?_
  obtain ⟨kp, own, at_, q⟩ := tT_iff.mp q
  refine tE_iff.mpr ⟨kp, own, at_, ?_⟩
  cases m with
  | ok d => exact fun v H' s r => ⟨d, r, q H' s⟩
  | ex c => exact q
  | no => exact q
theorem evt_not {m : M Bool} (h : EvT g L a m) : EvT g L (.UnaryOp .Not a pos) (m.bind fun c => .ok (!c)) := by
  refine PT.imp (pt_not h) fun σ H Q q => ?_
  obtain ⟨kp, own, at_, q⟩ := tT_iff.mp q
  exact subT finT (Same.refl H) at_ q fun d H1 s at1 q1 => q1 H1 s
/-- and, or: chains of tests -/
def EvW (g : G) (L : List Slot) (e : Expr) (m : M Bool) : Prop := PW g.X e (tT g.fm g.W L m)
theorem EvW.t {m : M Bool} (h : EvW g L e m) : EvT g L e m := PW.pt h
theorem evw_and1 {m : M Bool} (h : EvT g L a m) : EvW g L (.BoolOp .And [a] pos) m := pw_and1 h
theorem evw_or1 {m : M Bool} (h : EvT g L a m) : EvW g L (.BoolOp .Or [a] pos) m := pw_or1 h
theorem evw_and {m1 m2 : M Bool} (h : EvT g L a m1) (h2 : EvW g L (.BoolOp .And (b :: es) pos) m2) : EvW g L (.BoolOp .And (a :: b :: es) pos) (m1.bind fun c => if c = true then m2 else .ok false) := by
  refine PW.imp (pw_and h h2) fun σ H Q q => ?_
  obtain ⟨kp, own, at_, q⟩ := tT_iff.mp q
  refine subT finT (Same.refl H) at_ q fun d H1 s at1 q1 => ?_
  cases d with
  | true =>
    show tT g.fm g.W L m2 σ H1 Q
    refine tT_iff.mpr ⟨kp, own, at1, ?_⟩
    have q1 : FinT g.W σ H Q m2 := q1
    cases m2 with
    | ok d => exact fun H' s' => q1 H' (s.trans s')
    | ex c => exact fun H' s' => q1 H' (s.trans s')
    | no => exact q1
  | false => exact q1 H1 s
theorem evw_or {m1 m2 : M Bool} (h : EvT g L a m1) (h2 : EvW g L (.BoolOp .Or (b :: es) pos) m2) : EvW g L (.BoolOp .Or (a :: b :: es) pos) (m1.bind fun c => if c = true then .ok true else m2) := by
  refine PW.imp (pw_or h h2) fun σ H Q q => ?_
  obtain ⟨kp, own, at_, q⟩ := tT_iff.mp q
  refine subT finT (Same.refl H) at_ q fun d H1 s at1 q1 => ?_
  cases d with
  | false =>
    show tT g.fm g.W L m2 σ H1 Q
    refine tT_iff.mpr ⟨kp, own, at1, ?_⟩
    have q1 : FinT g.W σ H Q m2 := q1
    cases m2 with
    | ok d => exact fun H' s' => q1 H' (s.trans s')
    | ex c => exact fun H' s' => q1 H' (s.trans s')
    | no => exact q1
  | true => exact q1 H1 s
theorem if_tf {c d : Bool} : (if c = true then (.ok d : M Bool) else .ok false) = .ok (c && d) := by cases c <;> rfl
theorem if_ft {c d : Bool} : (if c = true then (.ok true : M Bool) else .ok d) = .ok (c || d) := by cases c <;> rfl
theorem evw_andP {c d : Bool} (h : EvT g L a (.ok c)) (h2 : EvW g L (.BoolOp .And (b :: es) pos) (.ok d)) : EvW g L (.BoolOp .And (a :: b :: es) pos) (.ok (c && d)) := by
  have q := evw_and h h2
  rwa [M.bind_ok, if_tf] at q
theorem evw_orP {c d : Bool} (h : EvT g L a (.ok c)) (h2 : EvW g L (.BoolOp .Or (b :: es) pos) (.ok d)) : EvW g L (.BoolOp .Or (a :: b :: es) pos) (.ok (c || d)) := by
  have q := evw_or h h2
  rwa [M.bind_ok, if_ft] at q
/-- .. as values -/
theorem ev_one {op} {m : M Bool} (h : EvE g L a md tBool m) : EvE g L (.BoolOp op [a] pos) md tBool m := pe_one h
theorem ev_and {m1 m2 : M Bool} (h : EvE g L a md tBool m1) (h2 : EvE g L (.BoolOp .And (b :: es) pos) md tBool m2) : EvE g L (.BoolOp .And (a :: b :: es) pos) md tBool (m1.bind fun c => if c = true then m2 else .ok false) := by
  refine PE.imp (pe_and h h2) fun σ H Q q => ?_
  obtain ⟨kp, own, at_, q⟩ := tE_iff.mp q
  refine sub finE (Same.refl H) at_ q fun d x H1 s r at1 q1 => ⟨d, r, ?_⟩
  cases d with
  | true =>
    refine tE_iff.mpr ⟨kp, own, at1, ?_⟩
    have q1 : FinE g.fm g.W own σ H md tBool Q m2 := q1
    cases m2 with
    | ok d => exact fun v H' s' r' => q1 v H' (s.trans s') r'
    | ex c => exact fun H' s' => q1 H' (s.trans s')
    | no => exact q1
  | false => exact q1 _ H1 s rfl
theorem eva_nil : EvA g L [] md aNil (.ok ()) := PA.imp pa_nil fun σ H Q ⟨kp, own, at_, q⟩ => q [] H (Same.refl H) rfl
theorem eva_cons {m1 : M α} {m2 : M δ} (ha : EvE g L a md S m1) (hb : EvA g L es md A m2) (hs : starEach (a :: es) g.X.env = (false, eval a g.X.env) :: starEach es g.X.env := by rfl) : EvA g L (a :: es) md (aCons S A) (m1.bind fun d => m2.bind fun e => .ok (d, e)) := by
  refine PA.imp (pa_cons ha hb hs) fun σ H Q q => ?_
  obtain ⟨kp, own, at_, q⟩ := tA_iff.mp q
  exact sub finA (Same.refl H) at_ q fun d x H1 s1 r1 at1 q1 => subA finA s1 at1 q1 fun e xs H2 s2 r2 at2 q2 => q2 _ H2 (s1.trans s2) ⟨x, xs, rfl, S.mono r1 (RX.same s2), r2⟩
/-- items of one kind -/
theorem evs_nil : EvA g L [] md (aAll S) (.ok []) := PA.imp pa_nil fun σ H Q ⟨kp, own, at_, q⟩ => q [] H (Same.refl H) .nil
theorem evs_cons {m1 : M α} {m2 : M (List α)} (ha : EvE g L a md S m1) (hb : EvA g L es md (aAll S) m2) (hs : starEach (a :: es) g.X.env = (false, eval a g.X.env) :: starEach es g.X.env := by rfl) : EvA g L (a :: es) md (aAll S) (m1.bind fun d => m2.bind fun e => .ok (d :: e)) := by
  refine PA.imp (pa_cons ha hb hs) fun σ H Q q => ?_
  obtain ⟨kp, own, at_, q⟩ := tA_iff.mp q
  exact sub finA (Same.refl H) at_ q fun d x H1 s1 r1 at1 q1 => subA finA s1 at1 q1 fun e xs H2 s2 r2 at2 q2 => q2 _ H2 (s1.trans s2) (.cons (S.mono r1 (RX.same s2)) r2)
theorem newSame {H : Hp} {p : Addr} {o : HO} (h : H p = none) : Same H (upd H p o) := .of fun b u e => by rw [upd_ne (ne_of_none e h)]; exact e
theorem newRX {fm : Fm} {kp : RdR} {own : List Addr} {σ : L2.St} {H H1 : Hp} {p : Addr} {o : HO} (at_ : At fm kp L σ H1 own) (s : Same H H1) (h : H1 p = none) (n : nt o = true := by rfl) : RX fm own H (upd H1 p o) md p o :=
  RX.fx md _ _ ⟨cl_of upd_same n, fun hp => (at_.new p hp).1 h, fun hz => at_.zin p hz h, at_.same.free h, s.free h⟩
/-- a tuple of written items (few enough: by rfl) -/
theorem ev_tup {m : M δ} {x1} (hl : ∀ d vs R, A.rep d vs R → vs.length ≤ 1000) (ha : EvA g L es md A m) : EvE g L (.Tuple es x1 pos) md (tTup A) m := by
  refine PE.imp (pe_tup ha) fun σ H Q q => ?_
  obtain ⟨kp, own, at_, q⟩ := tE_iff.mp q
  refine tA_iff.mpr ⟨kp, own, at_, ?_⟩
  cases m with
  | ok d => exact fun vs H1 s1 r1 => ⟨Nat.le_trans (hl _ _ _ r1) (by decide), fun p hp => q _ _ (s1.trans (newSame hp)) ⟨p, vs, rfl, newRX (at_.ext s1) s1 hp, A.mono r1 (RX.same (newSame hp))⟩⟩
  | ex c => exact q
  | no => exact q
theorem tupL_le {ds : List α} {vs : List V} {R : RdR} (h : (aAll S).rep ds vs R) : ds.length = vs.length := Reps.length h
theorem ev_ix {r : R2} {f : α → β → M γ} {fr : Bool} {m1 : M α} {m2 : M β} (ok : Ok p sc NN VV GG k g) (ho : IxR g.X r) (F : Op2 p.K r S T U f fr) (hne : ∀ d e c, f d e ≠ .ex c) (hm : MdOk fr md md')
    (ha : EvE g L a md S m1) (hb : EvE g L b md T m2) (hs : PlainIx b := by exact fun _ _ => rfl) : EvE g L (.Subscript a b pos) md' U (m1.bind fun d => m2.bind fun e => f d e) := by
  refine PE.imp (pe_ix ho ha hb hs) fun σ H Q q => ?_
  obtain ⟨kp, own, at_, q⟩ := tE_iff.mp q
  refine sub finE (Same.refl H) at_ q fun d x H1 s1 r1 at1 q1 => sub finE s1 at1 q1 fun e y H2 s2 r2 at2 q2 => ?_
  rw [← ok.fmK] at F
  exact F.run (R := RX g.fm own H H2 md) RX.rdb (S.mono r1 (RX.same s2)) r2 (q2.fin hm (s1.trans s2) at2 (hne d e))
theorem ev_callB {x : Str} {j : Nat} {id : String} {r : List V → Hp → VK → Prop} {f : δ → M γ} {fr : Bool} {m : M δ} {pp : Pos} (ok : Ok p sc NN VV GG k g) (hc : CallR g.X (.builtin id) r) (F : OpC p.K r A U f fr) (hne : ∀ d c, f d ≠ .ex c) (hm : MdOk fr md md')
    (hG : GG[j]? = some x) (hmg : p.mg x = none) (hv : bootBuiltins x = some (.builtin id)) (ha : EvA g L (e :: es) md A m)
    (he : starEach (e :: es) g.X.env = (false, eval e g.X.env) :: starEach es g.X.env := by rfl) (hpl : (backTo pos (starEach es g.X.env)).any (·.1) = false := by rfl) : EvE g L (.Call (.Name x pp) (e :: es) [] pos) md' U (m.bind f) := by
  obtain ⟨hg, ho⟩ := ok.gl hG
  obtain ⟨h1, _, h3⟩ := okName_d ho
  refine PE.imp (pe_callB hc hg (by rw [ok.mg]; exact hmg) hv ha h3 h1 he hpl) fun σ H Q q => ?_
  obtain ⟨kp, own, at_, q⟩ := tE_iff.mp q
  refine subA finE (Same.refl H) at_ q fun d xs H1 s1 r1 at1 q1 => ?_
  rw [← ok.fmK] at F
  exact F.run (R := RX g.fm own H H1 md) RX.rdb r1 (q1.fin hm s1 at1 (hne d))
theorem ev_callTy {x : Str} {j : Nat} {id : String} {r : List V → Hp → VK → Prop} {f : δ → M γ} {fr : Bool} {m : M δ} {pp : Pos} (ok : Ok p sc NN VV GG k g) (hc : CallR g.X (.type id) r) (F : OpC p.K r A U f fr) (hne : ∀ d c, f d ≠ .ex c) (hm : MdOk fr md md')
    (hG : GG[j]? = some x) (hmg : p.mg x = none) (hv : bootBuiltins x = some (.type id)) (ha : EvA g L (e :: es) md A m)
    (he : starEach (e :: es) g.X.env = (false, eval e g.X.env) :: starEach es g.X.env := by rfl) (hpl : (backTo pos (starEach es g.X.env)).any (·.1) = false := by rfl) : EvE g L (.Call (.Name x pp) (e :: es) [] pos) md' U (m.bind f) := by
  obtain ⟨hg, ho⟩ := ok.gl hG
  obtain ⟨h1, _, h3⟩ := okName_d ho
  refine PE.imp (pe_callTy hc hg (by rw [ok.mg]; exact hmg) hv ha h3 h1 he hpl) fun σ H Q q => ?_
  obtain ⟨kp, own, at_, q⟩ := tE_iff.mp q
  refine subA finE (Same.refl H) at_ q fun d xs H1 s1 r1 at1 q1 => ?_
  rw [← ok.fmK] at F
  exact F.run (R := RX g.fm own H H1 md) RX.rdb r1 (q1.fin hm s1 at1 (hne d))
/-- a built-in type's method -/
theorem ev_bm {ty id : String} {name : Str} {r : V → List V → Hp → VK → Prop} {f : α → δ → M γ} {fr : Bool} {m1 : M α} {m2 : M δ} {apos : Pos} (ok : Ok p sc NN VV GG k g) (pa : PlainAttrs ty) (slot : PySem.Slot ty name id) (hty : typeOf (.builtin id) = pure (.type "method_descriptor"))
    (hmt : MtR g.X id r) (F : OpM p.K ty r S A U f fr) (hne : ∀ d e c, f d e ≠ .ex c) (hm : MdOk fr md md') (ho : EvE g L a md S m1) (ha : EvA g L (e :: es) md A m2)
    (hbase : attributeBase a name g.X.env (eval a g.X.env) = eval a g.X.env := by rfl)
    (hfew : ((backTo pos (starEach (e :: es) g.X.env)).all (fun x => !x.1) && (backToKw pos (keywordEach [] g.X.env)).all (fun x => x.1.isSome)
      && decide ((e :: es).length + ([] : List Keyword).length + (if ([] : List Keyword).isEmpty then 0 else 1) < 30)) = true := by rfl)
    (hs : starEach (e :: es) g.X.env = (false, eval e g.X.env) :: starEach es g.X.env := by rfl) (hline : (apos.endLine == pos.line) = true := by rfl) (hplain : (backTo pos (starEach es g.X.env)).any (·.1) = false := by rfl) :
    EvE g L (.Call (.Attribute a name apos) (e :: es) [] pos) md' U (m1.bind fun d => m2.bind fun e => f d e) := by
  refine PE.imp (pe_bm pa slot hty hmt ho ha (hbase := hbase) (hfew := hfew) (hline := hline) (hs := hs) (hplain := hplain)) fun σ H Q q => ?_
  obtain ⟨kp, own, at_, q⟩ := tE_iff.mp q
  rw [← ok.fmK] at F
  refine sub finE (Same.refl H) at_ q fun d x H1 s1 r1 at1 q1 => ⟨(ok.fmK.trans ok.K.symm) ▸ F.ty (R := RX g.fm own H H1 md) RX.rdb r1, subA finE s1 at1 q1 fun e xs H2 s2 r2 at2 q2 => ?_⟩
  exact F.run (R := RX g.fm own H H2 md) RX.rdb (S.mono r1 (RX.same s2)) r2 (q2.fin hm (s1.trans s2) at2 (hne d e))
end
end Hd
namespace Hd
open PySem PySem.Spec L2
section
variable {p : Pr} {sc : Scope} {NN VV GG : List Str} {k : Nat} {g : G} {L L' : List Slot} {a b c e e' : Expr} {es : List Expr} {md md' : Md} {α β γ δ : Type} {S : Ty α} {T : Ty β} {U : Ty γ} {A : Ar δ} {pos : Pos}
theorem RX.add {fm : Fm} {own : List Addr} {H H1 : Hp} {q : Addr} {o' : HO} (hn : H1 q = none) : ∀ a o, RX fm own H H1 md a o → RX fm (q :: own) H (upd H1 q o') md a o := fun a o r => by
  have ne : H1 a ≠ none → a ≠ q := fun h e => h (by rw [e]; exact hn)
  cases md with
  | sh =>
    rcases r with ⟨r, h1, h2⟩ | r
    · have n := ne (Rd.there r)
      refine .inl ⟨?_, fun z => ?_, h2⟩
      · unfold Rd
        rw [cl_upd_ne n]
        exact r
      · rcases List.mem_cons.mp z with z | z
        · exact n z
        · exact h1 z
    · exact .inr r
  | f0 =>
    have n := ne (by rw [cl_raw r.1]; exact fun z => by cases z)
    exact ⟨by rw [cl_upd_ne n]; exact r.1, fun z => (List.mem_cons.mp z).elim n r.2.1, r.2.2⟩
  | fx =>
    have n := ne (by rw [cl_raw r.1]; exact fun z => by cases z)
    exact ⟨by rw [cl_upd_ne n]; exact r.1, fun z => (List.mem_cons.mp z).elim n r.2.1, r.2.2⟩
theorem RX.drop1 {fm : Fm} {own : List Addr} {H H1 : Hp} {q : Addr} : ∀ a o, RX fm (q :: own) H H1 md a o → RX fm own H H1 md a o := RX.own fun p hp => List.mem_cons_of_mem _ hp
theorem newRX' {fm : Fm} {kp : RdR} {own : List Addr} {σ : L2.St} {H H' : Hp} {q : Addr} {o : HO} (at_ : At fm kp L σ H own) (h : H q = none) (h' : H' q = some o) (n : nt o = true := by rfl) : RX fm own H H' md q o :=
  RX.fx md _ _ ⟨cl_of h' n, fun hp => (at_.new q hp).1 h, fun hz => at_.zin q hz h, at_.same.free h, h⟩
/-- as a value -/
theorem ev_ofL {m : M (List α)} (h : EvL g L e md S m) : EvE g L e md (tList S) m :=
  PE.imp h fun σ H Q q => by
    obtain ⟨kp, own, at_, q⟩ := tE_iff.mp q
    refine tL_iff.mpr ⟨kp, own, at_, ?_⟩
    cases m with
    | ok d => exact fun p vs H' s n h' r => q _ H' s ⟨p, vs, rfl, newRX' at_ n h', r.mono RX.drop1⟩
    | ex c => exact q
    | no => exact q
theorem evl_lst {m : M (List α)} (hl : ∀ ds, m = .ok ds → ds.length ≤ 1000) (ha : EvA g L es md (aAll S) m) : EvL g L (.List es pos) md S m := by
  refine PE.imp (pe_lst ha) fun σ H Q q => ?_
  obtain ⟨kp, own, at_, q⟩ := tL_iff.mp q
  refine tA_iff.mpr ⟨kp, own, at_, ?_⟩
  cases m with
  | ok d => exact fun vs H1 s1 r1 => ⟨Nat.le_trans (by rw [← tupL_le r1]; exact hl _ rfl) (by decide), fun p hp => q p vs _ (s1.trans (newSame hp)) (s1.free hp) upd_same (Reps.mono r1 (RX.add hp))⟩
  | ex c => exact q
  | no => exact q
theorem evl_nil : EvL g L (.List [] pos) md S (.ok []) := evl_lst (fun ds h => by cases h; exact Nat.zero_le _) evs_nil
structure OkS (p : Pr) (sc : Scope) (NN VV GG : List Str) (k : Nat) (g : G) : Prop extends Ok p sc NN VV GG k g where
  loc : ∀ {i : Nat} {x : Str}, VV[i]? = some x → L2.Loc g.X.env.scope x
  fnT : ∀ x, g.X.fn x = true
  psO : PassesOwn (model g.X.prog g.X.w) g.X.A g.X.env g.X.xe
  scp : g.X.env.scope = sc
  stk : g.X.stack = g.X.env :: g.X.outer
  frm : g.X.env.frame = some g.X.env.locals
  exn : g.X.ex = []
theorem PSs.ex {X : Cx} {ι : Type} {st : List Stmt} {t : ι → TS} (h : ∀ d, PSs X st (t d)) : PSs X st (fun E σ H => ∃ d, t d E σ H) := ⟨fun pins s σ H D I ⟨d, q⟩ => (h d).run pins s σ H D I q⟩
variable {st : List Stmt} {s0 : Stmt} {D : δ → Out} {d : δ}
theorem evb_nx (h : D d = .nx L') (w : Wk L L') : EvB g L [] D (.ok d) := by
  refine PSs.imp pss_nil fun E σ H ⟨kp, own, at_, q⟩ => ?_
  have q : OutOk g.fm kp E (D d) := q
  rw [h] at q
  obtain ⟨own', a', _⟩ := at_.weak w
  exact q σ H own' a'
theorem evb_go (h : D d = .go L') (w : Wk L L') : EvB g L [] D (.ok d) := by
  refine PSs.imp pss_nil fun E σ H ⟨kp, own, at_, q⟩ => ?_
  have q : OutOk g.fm kp E (D d) := q
  rw [h] at q
  obtain ⟨own', a', _⟩ := at_.weak w
  exact (q σ H own' a').1
theorem PSs.head {X : Cx} {t : TS} (h : PS X s0 t) : PSs X (s0 :: st) (fun E σ H => t { E with nx := fun _ _ => False } σ H) := by
  refine PSs.imp (pss_cons h (pss_never (sts := st))) fun E σ H q => q
theorem BOk.exx {kp : RdR} {E : Ends} {c : Ec} {σ : L2.St} {H : Hp} {own : List Addr} (wk : Wk L g.LX) (at_ : At g.fm kp L σ H own) (q : BOk g kp E D (.ex c)) : ∀ H', Same H H' → g.W c σ H' := fun H' s => by
  obtain ⟨own', a', _⟩ := (at_.ext s).weak wk
  exact q σ H' own' a'
/-- return e -/
inductive RtMd : Md → Bool → Prop where
  | sh {x : Md} : RtMd x false
  | f0 : RtMd .f0 true
  | fx : RtMd .fx true
theorem RtMd.rt {fm : Fm} {own : List Addr} {H H' : Hp} {bm : Bool} (h : RtMd md bm) : ∀ a o, RX fm own H H' md a o → RT fm H' bm none a o := fun a o r => by
  have r' := RX.own (own' := []) (fun _ z => nomatch z) a o r
  cases h with
  | sh =>
    have q := RX.sh a o r'
    exact q
  | f0 => exact r'
  | fx => exact RX.f0 (H := H) a o r'
theorem evb_retF {bm : Bool} {m : M α} {mk : α → δ} (wk : Wk L g.LX) (hm : RtMd md bm) (hD : ∀ d, D (mk d) = .rt bm S d) (he : EvE g L e md S m) : EvB g L (.Return (some e) pos :: st) D (m.bind fun d => .ok (mk d)) := by
  refine PSs.imp (PSs.head (ps_ret he)) fun E σ H ⟨kp, own, at_, q⟩ => ?_
  refine tE_iff.mpr ⟨kp, own, at_, ?_⟩
  cases m with
  | ok d =>
    have q : OutOk g.fm kp E (D (mk d)) := q
    rw [hD] at q
    exact fun v H' s r => q v H' (at_.same.trans s) (S.mono r hm.rt)
  | ex c => exact BOk.exx wk at_ q
  | no => exact q
theorem M.bind_id {α : Type} (m : M α) : m.bind (fun d => .ok d) = m := by cases m <;> rfl
theorem evb_ret {bm : Bool} {m : M α} {D : α → Out} (wk : Wk L g.LX) (hm : RtMd md bm) (hD : ∀ d, D d = .rt bm S d) (he : EvE g L e md S m) : EvB g L (.Return (some e) pos :: st) D m := by
  have h := evb_retF (mk := id) (st := st) (pos := pos) wk hm hD he
  rwa [show (m.bind fun d => .ok (id d)) = m from M.bind_id m] at h
theorem RX.rtL {fm : Fm} {own : List Addr} {H H' : Hp} {bm : Bool} {p : Addr} (h : RtMd md bm) : ∀ a o, RX fm (p :: own) H H' md a o → RT fm H' bm (some p) a o := fun a o r => by
  have r' := RX.own (own' := [p]) (fun x z => by rw [List.mem_singleton.mp z]; exact List.mem_cons_self) a o r
  cases h with
  | sh =>
    have q := RX.sh a o r'
    exact q
  | f0 => exact r'
  | fx => exact RX.f0 (H := H) a o r'
/-- return of a list just made -/
theorem evb_retLF {bm : Bool} {m : M (List α)} {mk : List α → δ} (wk : Wk L g.LX) (hm : RtMd md bm) (hD : ∀ d, D (mk d) = .rtL bm S d) (he : EvL g L e md S m) : EvB g L (.Return (some e) pos :: st) D (m.bind fun d => .ok (mk d)) := by
  refine PSs.imp (PSs.head (ps_ret he)) fun E σ H ⟨kp, own, at_, q⟩ => ?_
  refine tL_iff.mpr ⟨kp, own, at_, ?_⟩
  cases m with
  | ok d =>
    have q : OutOk g.fm kp E (D (mk d)) := q
    rw [hD] at q
    exact fun p vs H' s n h' r => q p vs H' (at_.same.trans s) (fun hz => at_.zin p hz n) (at_.same.free n) h' (r.mono (RX.rtL hm))
  | ex c => exact BOk.exx wk at_ q
  | no => exact q
theorem evb_retL {bm : Bool} {m : M (List α)} {D : List α → Out} (wk : Wk L g.LX) (hm : RtMd md bm) (hD : ∀ d, D d = .rtL bm S d) (he : EvL g L e md S m) : EvB g L (.Return (some e) pos :: st) D m := by
  have h := evb_retLF (mk := id) (st := st) (pos := pos) wk hm hD he
  rwa [show (m.bind fun d => .ok (id d)) = m from M.bind_id m] at h
/-- return of a list that a slot owns -/
theorem evb_retOwn {bm b : Bool} {ds : List α} {i j : Nat} {x : Str} {D : δ → Out} {d' : δ} {npos : Pos} (ok : Ok p sc NN VV GG k g) (hN : NN[i]? = some x) (hV : VV[j]? = some x) (hL : L[i]? = some (sOwn b S ds)) (hb : b = bm ∨ Flat S ∨ bm = false) (hD : D d' = .rtL bm S ds) :
    EvB g L (.Return (some (.Name x npos)) pos :: st) D (.ok d') := by
  obtain ⟨hv, ho⟩ := ok.vis hV
  obtain ⟨h1, h2, _⟩ := okName_d ho
  refine PSs.imp (PSs.head (ps_ret (pe_var (i := i) (by rw [ok.N]; exact hN) hv h1 h2))) fun E σ H ⟨kp, own, at_, q⟩ => ?_
  obtain ⟨Fs, hs, rfl⟩ := at_.sl
  obtain ⟨v, F, e1, e2, p, vs, rfl, rfl, hp, r⟩ := hs.get hL
  have q : OutOk g.fm kp E (D d') := q
  rw [hD] at q
  have pin : p ∈ Fs.flatten := List.mem_flatten.mpr ⟨[p], List.mem_of_getElem? e2, by simp⟩
  obtain ⟨n1, n2, n3⟩ := at_.new p pin
  have rr : Reps S (RX g.fm [p] H H (if b then .f0 else .sh)) ds vs := r.mono (RX.own (own' := [p]) (fun x z => by rw [List.mem_singleton.mp z]; exact pin))
  refine ⟨_, e1, q p vs H at_.same n3 n2 hp ?_⟩
  unfold RT
  rcases hb with rfl | hf | rfl
  · exact rr
  · exact rr.flat hf
  · exact rr.mono RX.sh
inductive SlB : Md → Bool → Prop where
  | sh {x : Md} : SlB x false
  | f0 : SlB .f0 true
  | fx : SlB .fx true
theorem SlB.rb {fm : Fm} {own : List Addr} {H H' : Hp} {b : Bool} (h : SlB md b) : ∀ a o, RX fm own H H' md a o → RB fm own H' b a o := fun a o r => by
  cases h with
  | sh =>
    have q := RX.sh a o r
    exact q
  | f0 => exact r
  | fx => exact RX.f0 (H := H) a o r
variable {i j : Nat} {x : Str} {pos' : Pos}
theorem okS_fn (ok : OkS p sc NN VV GG k g) : g.X.fn x = true ∨ g.X.env.scope.names.lookup x = some .local := .inl (ok.fnT x)
theorem evb_set {b : Bool} {m : M α} {f : α → M δ} (ok : OkS p sc NN VV GG k g) (hN : NN[i]? = some x) (hV : VV[j]? = some x) (wk : Wk L g.LX) (hb : SlB md b) (he : EvE g L e md S m) (hr : ∀ d, EvB g (L.set i (sV b S d)) st D (f d))
    (hs : swapsWith e (some (.Name x pos')) pos.line g.X.env = pure false := by rfl) : EvB g L (.Assign [.Name x pos'] e pos :: st) D (m.bind f) := by
  refine PSs.imp (pss_cons (ps_set (i := i) (by rw [ok.N]; exact ok.nd) (by rw [ok.N]; exact hN) (ok.loc hV) he hs (okS_fn ok)) (PSs.ex hr)) fun E σ H ⟨kp, own, at_, q⟩ => ?_
  refine tE_iff.mpr ⟨kp, own, at_, ?_⟩
  cases m with
  | ok d =>
    intro v H' s r
    obtain ⟨own', a'⟩ := (at_.ext s).setV (i := i) (b := b) (S.mono r hb.rb)
    exact ⟨d, kp, own', a', q⟩
  | ex c => exact BOk.exx wk at_ q
  | no => exact q
theorem set_own {Fs : List (List Addr)} {q : Addr} : ∀ {i : Nat}, ∀ x ∈ (Fs.set i [q]).flatten, x = q ∨ x ∈ Fs.flatten := by
  induction Fs with
  | nil => intro i x h; exact .inr h
  | cons F Fs ih =>
    intro i x h
    cases i with
    | zero =>
      simp only [List.set_cons_zero, List.flatten_cons, List.mem_append, List.mem_singleton] at h
      rcases h with h | h
      · exact .inl h
      · exact .inr (by simp only [List.flatten_cons, List.mem_append]; exact .inr h)
    | succ i =>
      simp only [List.set_cons_succ, List.flatten_cons, List.mem_append] at h
      rcases h with h | h
      · exact .inr (by simp only [List.flatten_cons, List.mem_append]; exact .inl h)
      · rcases ih x h with h | h
        · exact .inl h
        · exact .inr (by simp only [List.flatten_cons, List.mem_append]; exact .inr h)
theorem set_own_nd {Fs : List (List Addr)} {q : Addr} (hq : q ∉ Fs.flatten) (hn : Fs.flatten.Nodup) : ∀ {i : Nat}, (Fs.set i [q]).flatten.Nodup := by
  induction Fs with
  | nil => intro i; exact hn
  | cons F Fs ih =>
    intro i
    simp only [List.flatten_cons, List.mem_append, not_or] at hq
    rw [List.flatten_cons, List.nodup_append] at hn
    cases i with
    | zero =>
      simp only [List.set_cons_zero, List.flatten_cons]
      rw [List.nodup_append]
      refine ⟨by simp, hn.2.1, fun a ha b hb => ?_⟩
      rw [List.mem_singleton.mp ha]
      rintro rfl
      exact hq.2 hb
    | succ i =>
      simp only [List.set_cons_succ, List.flatten_cons]
      rw [List.nodup_append]
      refine ⟨hn.1, ih hq.2 hn.2.1, fun a ha b hb => ?_⟩
      rcases set_own b hb with rfl | hb
      · rintro rfl; exact hq.1 ha
      · exact hn.2.2 a ha b hb
/-- a new list becomes a slot's own -/
theorem At.setOwn {fm : Fm} {kp : RdR} {σ : L2.St} {H H' : Hp} {own : List Addr} {b : Bool} {ds : List α} {vs : List V} {q : Addr} (h : At fm kp L σ H own) (s : Same H H') (hn : H q = none) (h' : H' q = some (.lst vs))
    (r : Reps S (RB fm (q :: own) H' b) ds vs) : ∃ own', At fm kp (L.set i (sOwn b S ds)) (σ.set i (some (.ref q))) H' own' := by
  obtain ⟨h1, h2, ⟨Fs, h3, rfl⟩, h4, h5, h6⟩ := h
  have hq : q ∉ Fs.flatten := fun z => (h5 q z).1 hn
  have sub : ∀ x ∈ (Fs.set i [q]).flatten, x ∈ q :: Fs.flatten := fun x hx => (set_own x hx).elim (fun e => by rw [e]; exact List.mem_cons_self) (List.mem_cons_of_mem _)
  have key : ∀ (md : Md) a o, RX fm Fs.flatten H H md a o → RX fm (Fs.set i [q]).flatten H H' md a o := fun md a o z => by
    refine RX.own sub a o ?_
    have z1 := RX.add (o' := .lst []) hn a o z
    have na : a ≠ q ∨ KObj fm.K a o := by
      rcases RX.sh a o z with z | z
      · exact .inl fun e => Rd.some z.1 (by rw [e]; exact cl_none hn)
      · exact .inr z
    cases md with
    | sh =>
      rcases z1 with z1 | z1
      · rcases z with z | z
        · exact .inl ⟨Rd.same s z.1, z1.2⟩
        · exact .inr z
      · exact .inr z1
    | f0 => exact ⟨s.cl _ _ z.1, z1.2⟩
    | fx => exact ⟨s.cl _ _ z.1, z1.2⟩
  have keyB : ∀ (b : Bool) a o, RB fm Fs.flatten H b a o → RB fm (Fs.set i [q]).flatten H' b a o := fun b a o z => by
    cases b with
    | false => exact key .sh a o z
    | true => exact key .f0 a o z
  refine ⟨_, h1.trans s, fun a z n => h2 a z (s.free n), ⟨Fs.set i [q], (h3.st (H' := H') keyB fun p hp => ?_).set (s := sOwn b S ds) ⟨q, vs, rfl, rfl, h', r.mono fun a o z => ?_⟩ i, rfl⟩, set_own_nd hq h4, fun p hp => ?_, fun a o z => key .sh a o (h6 a o z)⟩
  · cases e : cl H p with
    | none => exact absurd e (h3.tb p hp)
    | some u => rw [cl_raw e]; exact s.keep _ _ (cl_raw e) (cl_nt e)
  · cases b <;> exact RX.own sub a o z
  · rcases set_own p hp with rfl | hp
    · exact ⟨by rw [h']; exact (fun z => by cases z), h1.free hn, fun z => h2 _ z hn⟩
    · exact ⟨fun e => (h5 p hp).1 (s.free e), (h5 p hp).2⟩
theorem evb_own {b : Bool} {m : M (List α)} {f : List α → M δ} (ok : OkS p sc NN VV GG k g) (hN : NN[i]? = some x) (hV : VV[j]? = some x) (wk : Wk L g.LX) (hb : SlB md b) (he : EvL g L e md S m) (hr : ∀ d, EvB g (L.set i (sOwn b S d)) st D (f d))
    (hs : swapsWith e (some (.Name x pos')) pos.line g.X.env = pure false := by rfl) : EvB g L (.Assign [.Name x pos'] e pos :: st) D (m.bind f) := by
  refine PSs.imp (pss_cons (ps_set (i := i) (by rw [ok.N]; exact ok.nd) (by rw [ok.N]; exact hN) (ok.loc hV) he hs (okS_fn ok)) (PSs.ex hr)) fun E σ H ⟨kp, own, at_, q⟩ => ?_
  cases m with
  | ok d =>
    refine ⟨kp, own, at_, fun v vs H' s n h' r => ?_⟩
    obtain ⟨own', a'⟩ := at_.setOwn (i := i) (b := b) s n h' (r.mono hb.rb)
    exact ⟨d, kp, own', a', q⟩
  | ex c => exact ⟨kp, own, at_, BOk.exx wk at_ q⟩
  | no => exact q.elim
/-- a slot's own list may be shared from here on -/
theorem At.freeze {fm : Fm} {kp : RdR} {σ : L2.St} {H : Hp} {own : List Addr} {b : Bool} {ds : List α} (h : At fm kp L σ H own) (hL : L[i]? = some (sOwn b S ds)) : ∃ own', At fm kp (L.set i (sV false (tList S) ds)) σ H own' ∧ ∀ p ∈ own', p ∈ own := by
  obtain ⟨h1, h2, ⟨Fs, h3, rfl⟩, h4, h5, h6⟩ := h
  obtain ⟨v, F, e1, e2, q, vs, rfl, rfl, hp, r⟩ := h3.get hL
  have qin : q ∈ Fs.flatten := List.mem_flatten.mpr ⟨[q], List.mem_of_getElem? e2, by simp⟩
  have kk : ∀ p ∈ (Fs.set i []).flatten, p ∈ Fs.flatten := fun p hp => (set_sub (i := i)).subset hp
  have qn : q ∉ (Fs.set i []).flatten := by
    have nd := h4
    clear h3 h5 h6 qin kk r hp
    induction Fs generalizing i L σ with
    | nil => simp at e2
    | cons F Fs ih =>
      rw [List.flatten_cons, List.nodup_append] at nd
      cases i with
      | zero =>
        simp at e2
        subst e2
        simp only [List.set_cons_zero, List.flatten_cons, List.nil_append]
        exact fun z => nd.2.2 q (by simp) q z rfl
      | succ i =>
        simp only [List.set_cons_succ, List.flatten_cons, List.mem_append, not_or]
        have e2' : Fs[i]? = some [q] := by simpa using e2
        refine ⟨fun z => nd.2.2 q z q (List.mem_flatten.mpr ⟨[q], List.mem_of_getElem? e2', by simp⟩) rfl, ?_⟩
        cases σ with
        | nil => simp at e1
        | cons s σ =>
          cases L with
          | nil => simp at hL
          | cons l L => exact ih (i := i) (L := L) (σ := σ) (hL := by simpa using hL) (e1 := by simpa using e1) (e2 := e2') (h4 := nd.2.1) (nd := nd.2.1)
  have σe : σ.set i (some (V.ref q)) = σ := by
    apply List.ext_getElem?
    intro n
    by_cases hn : n = i
    · subst hn
      rw [e1]
      have := (List.getElem?_eq_some_iff.mp e1).1
      rw [List.getElem?_set_self this]
    · rw [List.getElem?_set_ne (Ne.symm hn)]
  refine ⟨_, ⟨h1, h2, ⟨Fs.set i [], ?_, rfl⟩, h4.sublist set_sub, fun p hp => h5 p (kk p hp), fun a o z => RX.own (md := .sh) (H := H) kk a o (h6 a o z)⟩, kk⟩
  rw [← σe]
  refine (h3.st (RB.own kk) fun _ _ => rfl).set (s := sV false (tList S) ds) ⟨rfl, .ref q, rfl, q, vs, rfl, ?_, ?_⟩ i
  · exact .inl ⟨.inl (cl_of hp), qn, (h5 q qin).2.2⟩
  · exact r.mono fun a o z => RX.sh (H := H) a o (RB.own kk b a o z)
/-- an expression may read a slot's own list -/
theorem ev_borrow {b : Bool} {ds : List α} {m : M β} (hf : Flat T ∨ md = .fx) (hL : L[i]? = some (sOwn b S ds)) (h : EvE g (L.set i (sV false (tList S) ds)) e md T m) : EvE g L e md T m := PE.imp h fun σ H Q q => by
  obtain ⟨kp, own, at_, q⟩ := tE_iff.mp q
  obtain ⟨own', a', sub⟩ := at_.freeze hL
  refine tE_iff.mpr ⟨kp, own', a', ?_⟩
  cases m with
  | ok d =>
    refine fun v H' s r => q v H' s ?_
    rcases hf with hf | rfl
    · exact hf r
    · exact T.mono r fun a o z => ⟨z.1, fun y => (at_.new a y).1 z.2.2.2.2, z.2.2⟩
  | ex c => exact q
  | no => exact q
theorem evt_borrow {b : Bool} {ds : List α} {m : M Bool} (hL : L[i]? = some (sOwn b S ds)) (h : EvT g (L.set i (sV false (tList S) ds)) e m) : EvT g L e m := PT.imp h fun σ H Q q => by
  obtain ⟨kp, own, at_, q⟩ := tT_iff.mp q
  obtain ⟨own', a', sub⟩ := at_.freeze hL
  refine tT_iff.mpr ⟨kp, own', a', ?_⟩
  cases m <;> exact q
/-- both ways go on to one state -/
theorem evb_if {mc : M Bool} {m1 m2 : M β} {f : β → M δ} {LJ : β → List Slot} {sa sb : List Stmt} (wk : Wk L g.LX) (hc : EvT g L c mc) (ha : EvB g L sa (fun s => .nx (LJ s)) m1) (hb : EvB g L sb (fun s => .nx (LJ s)) m2) (hr : ∀ s, EvB g (LJ s) st D (f s)) :
    EvB g L (.If c sa sb pos :: st) D (mc.bind fun c => (if c = true then m1 else m2).bind f) := by
  refine PSs.imp (pss_cons (ps_if hc ha hb) (PSs.ex hr)) fun E σ H ⟨kp, own, at_, q⟩ => ?_
  have key : ∀ {m : M β} {H1 : Hp}, Same H H1 → BOk g kp E D (m.bind f) → tB g L (fun s => .nx (LJ s)) m { E with nx := fun σ H => ∃ d, tB g (LJ d) D (f d) E σ H } σ H1 := fun {m H1} s q => by
    cases m with
    | ok d => exact ⟨kp, own, at_.ext s, fun σ' H' own' a' => ⟨d, kp, own', a', q⟩⟩
    | ex c => exact ⟨kp, own, at_.ext s, q⟩
    | no => exact q.elim
  cases mc with
  | ok c =>
    refine ⟨kp, own, at_, fun H1 s => ?_⟩
    cases c with
    | true => exact key s q
    | false => exact key s q
  | ex c => exact ⟨kp, own, at_, BOk.exx wk at_ q⟩
  | no => exact q.elim
def Out.isNx : Out → Bool
  | .nx _ => true
  | _ => false
theorem OutOk.cut {fm : Fm} {kp : RdR} {E E' : Ends} (hc : E'.ct = E.ct) (hr : E'.rt = E.rt) : ∀ {o : Out}, o.isNx = false → OutOk fm kp E o → OutOk fm kp E' o.cut := fun {o} hn q => by
  cases o with
  | nx L => cases hn
  | ct L => exact fun σ H own a => by rw [hc]; exact q σ H own a
  | go L => exact fun σ H own a => by rw [hc]; exact (q σ H own a).2
  | rt b T r => exact fun v H' s r => by rw [hr]; exact q v H' s r
  | rtL b T r => exact fun p vs H' s n1 n2 h r => by rw [hr]; exact q p vs H' s n1 n2 h r
  | gen f => show f fm E'.rt; rw [hr]; exact q
  | bad => exact q
/-- one way leaves (return, raise, continue), the other goes on -/
theorem evb_ifx {mc : M Bool} {m1 m2 : M δ} {sa : List Stmt} (wk : Wk L g.LX) (hc : EvT g L c mc) (ha : EvB g L sa (fun d => (D d).cut) m1) (hr : EvB g L st D m2) (hn : ∀ d, (D d).isNx = false := by intro d; first | rfl | (cases d <;> first | rfl | (rename_i z; cases z <;> rfl))) :
    EvB g L (.If c sa [] pos :: st) D (mc.bind fun c => if c = true then m1 else m2) := by
  refine PSs.imp (pss_cons (ps_if hc ha pss_nil) hr) fun E σ H ⟨kp, own, at_, q⟩ => ?_
  cases mc with
  | ok c =>
    refine ⟨kp, own, at_, fun H1 s => ?_⟩
    cases c with
    | true =>
      have q : BOk g kp E D m1 := q
      refine ⟨kp, own, at_.ext s, ?_⟩
      cases m1 with
      | ok d => exact OutOk.cut (E := E) (E' := { E with nx := tB g L D m2 E }) rfl rfl (hn d) q
      | ex c => exact q
      | no => exact q
    | false => exact ⟨kp, own, at_.ext s, q⟩
  | ex c => exact ⟨kp, own, at_, BOk.exx wk at_ q⟩
  | no => exact q.elim
/-- the last statement of a block: both ways end as the block does -/
theorem evb_ifl {mc : M Bool} {m1 m2 : M δ} {sa sb : List Stmt} (wk : Wk L g.LX) (hc : EvT g L c mc) (ha : EvB g L sa D m1) (hb : EvB g L sb D m2) : EvB g L [.If c sa sb pos] D (mc.bind fun c => if c = true then m1 else m2) := by
  refine PSs.imp (pss_one (ps_if hc ha hb)) fun E σ H ⟨kp, own, at_, q⟩ => ?_
  cases mc with
  | ok c =>
    refine ⟨kp, own, at_, fun H1 s => ?_⟩
    cases c with
    | true => exact ⟨kp, own, at_.ext s, q⟩
    | false => exact ⟨kp, own, at_.ext s, q⟩
  | ex c => exact ⟨kp, own, at_, BOk.exx wk at_ q⟩
  | no => exact q.elim
def forM {α β : Type} (f : β → α → M β) : β → List α → M β
  | s, [] => .ok s
  | s, x :: r => (f s x).bind fun s' => forM f s' r
/-- a turn's end: on, or out of the def -/
inductive Fl (β ρ : Type) where
  | nx (s : β)
  | rt (r : ρ)
universe u in
def Fl.el {β ρ : Type} {γ : Type u} (f : β → γ) (h : ρ → γ) : Fl β ρ → γ
  | .nx s => f s
  | .rt r => h r
def forF {α β ρ : Type} (f : β → α → M (Fl β ρ)) : β → List α → M (Fl β ρ)
  | s, [] => .ok (.nx s)
  | s, x :: r => (f s x).bind (Fl.el (fun s' => forF f s' r) fun r => .ok (.rt r))
def ItOk (K : PySem.W.Frag) (kp : RdR) (J : It) (T : Ty α) (xs : List α) : Prop :=
  ∀ H, Rdb K kp H → ∀ i, (∀ d, xs[i]? = some d → J.go i H ∧ ∀ x H', J.yld i H x H' → Same H H' ∧ T.rep d x (Nw false kp H H')) ∧ (xs[i]? = none → J.stop i H)
/-- what a for walks -/
def tI (fm : Fm) (W : Wx) (L : List Slot) (T : Ty α) (m : M (List α)) : TI := fun σ H R => ∃ kp own, At fm kp L σ H own ∧
  match m with
  | .ok xs => ∀ J H', Same H H' → ItOk fm.K (RD fm own H') J T xs → R J H'
  | .ex c => ∀ H', Same H H' → W c σ H'
  | .no => False
def EvI (g : G) (L : List Slot) (tg e : Expr) (T : Ty α) (m : M (List α)) : Prop := PI g.X tg e (tI g.fm g.W L T m)
theorem PI.imp {X : Cx} {tg e : Expr} {t t' : TI} (h : PI X tg e t) (k : ∀ σ H Q, t' σ H Q → t σ H Q) : PI X tg e t' := ⟨fun pins s σ H Q I q => h.run pins s σ H Q I (k _ _ _ q)⟩
/-- a target that is one name: its slot afterwards -/
def tG (fm : Fm) (T : Ty α) (L : List Slot) (Lt : α → List Slot) : TG := fun v σ H Q => ∃ kp own d, At fm kp L σ H own ∧ T.rep d v (RD fm own H) ∧ ∀ σ' own', At fm kp (Lt d) σ' H own' → (∀ p ∈ own', p ∈ own) → Q σ' H
def EvG (g : G) (tg : Expr) (T : Ty α) (L : List Slot) (Lt : α → List Slot) : Prop := PG g.X tg (tG g.fm T L Lt)
theorem PG.imp {X : Cx} {e : Expr} {t t' : TG} (h : PG X e t) (k : ∀ v σ H Q, t' v σ H Q → t v σ H Q) : PG X e t' := ⟨fun pins s σ H v u Q I r q => h.run pins s σ H v u Q I r (k _ _ _ _ q)⟩
theorem PG.ex {X : Cx} {ι : Type} {e : Expr} {t : ι → TG} (h : ∀ d, PG X e (t d)) : PG X e (fun v σ H Q => ∃ d, t d v σ H Q) := ⟨fun pins s σ H v u Q I r ⟨d, q⟩ => (h d).run pins s σ H v u Q I r q⟩
theorem evg_name (ok : OkS p sc NN VV GG k g) (hN : NN[i]? = some x) (hV : VV[j]? = some x) : EvG g (.Name x pos) T L (fun d => L.set i (sV false T d)) := by
  refine PG.imp (pg_name (i := i) (by rw [ok.N]; exact ok.nd) (by rw [ok.N]; exact hN) (ok.loc hV) (okS_fn ok)) fun v σ H Q ⟨kp, own, d, at_, r, q⟩ => ?_
  obtain ⟨h1, h2, ⟨Fs, h3, rfl⟩, h4, h5, h6⟩ := at_
  have kk : ∀ p ∈ (Fs.set i []).flatten, p ∈ Fs.flatten := fun p hp => (set_sub (i := i)).subset hp
  exact q _ _ ⟨h1, h2, ⟨Fs.set i [], (h3.st (RB.own kk) fun _ _ => rfl).set (s := sV false T d) ⟨rfl, v, rfl, T.mono r (RX.own (md := .sh) (H := H) kk)⟩ i, rfl⟩, h4.sublist set_sub, fun p hp => h5 p (kk p hp), fun a o q => RX.own (md := .sh) (H := H) kk a o (h6 a o q)⟩ kk
theorem Nw.rd {fm : Fm} {kp kp' : RdR} {own : List Addr} {σ : L2.St} {H H' : Hp} (at_ : At fm kp L σ H own) (k : ∀ a o, kp' a o → RD fm own H a o) (s : Same H H') : ∀ a o, Nw false kp' H H' a o → RD fm own H' a o := fun a o r => by
  rcases r with ⟨_, r⟩ | ⟨r, n⟩
  · exact RD.same s a o (k a o r)
  · exact .inl ⟨.inl r, fun hp => (at_.new a hp).1 n, fun hz => at_.zin a hz n⟩
theorem RD.rdb {fm : Fm} {own : List Addr} {H : Hp} : Rdb fm.K (RD fm own H) H := ⟨fun a o r n => r.imp (fun h => Rd.raw h.1 n) id⟩
theorem evb_for {m : M (List α)} {f : β → α → M β} {h : β → M δ} {LF : β → List Slot} {Lt : β → α → List Slot} {s0 : β} {tg it : Expr} {body : List Stmt} (ok : OkS p sc NN VV GG k g) (wk : Wk L g.LX) (hI : EvI g L tg it S m) (w0 : Wk L (LF s0))
    (hG : ∀ s, EvG g tg S (LF s) (Lt s)) (hb : ∀ s d, EvB g (Lt s d) body (fun s' => .go (LF s')) (f s d)) (hr : ∀ s, EvB g (LF s) st D (h s)) (hs : ∀ x, foldedSetIterable it g.X.env x = pure x := by intro _; rfl) :
    EvB g L (.For tg it body [] pos :: st) D (m.bind fun xs => (forM f s0 xs).bind h) := by
  refine PSs.imp (pss_cons (ps_for ok.psO ok.calm hI (PG.ex hG) (PSs.ex fun s => PSs.ex (hb s)) hs) (PSs.ex hr)) fun E σ H ⟨kp, own, at_, q⟩ => ?_
  cases m with
  | ex c => exact ⟨kp, own, at_, BOk.exx wk at_ q⟩
  | no => exact q.elim
  | ok xs =>
  refine ⟨kp, own, at_, fun J H1 s1 hJ => ?_⟩
  have at1 := at_.ext s1
  obtain ⟨own0, a0, sub0⟩ := at1.weak w0
  have q : BOk g kp E D ((forM f s0 xs).bind h) := q
  have kk : ∀ a o, kp a o → RD g.fm own H1 a o := at1.kept
  have a0' : At g.fm (RD g.fm own H1) (LF s0) σ H1 own0 := ⟨a0.same, a0.zin, a0.sl, a0.nd, a0.new, fun a o z => RX.own (md := .sh) (H := H1) sub0 a o z⟩
  refine ⟨fun i m σ H => m = xs.length - i ∧ i ≤ xs.length ∧ ∃ s own', At g.fm (RD g.fm own H1) (LF s) σ H own' ∧ BOk g kp E D ((forM f s (xs.drop i)).bind h), ⟨_, rfl, Nat.zero_le _, s0, own0, a0', q⟩, ?_⟩
  rintro i m σ H ⟨rfl, hi, s, own', a', q'⟩
  have rb : Rdb g.fm.K (RD g.fm own H1) H := ⟨fun a o z n => (a'.kept a o z).imp (fun h => Rd.raw h.1 n) id⟩
  obtain ⟨hgo, hst⟩ := hJ H rb i
  by_cases hlt : i < xs.length
  · have he : xs[i]? = some xs[i] := by simp [hlt]
    obtain ⟨go, yl⟩ := hgo _ he
    rw [List.drop_eq_getElem_cons hlt] at q'
    refine .inr ⟨go, fun σ' H' => ∃ s own', At g.fm (RD g.fm own H1) (LF s) σ' H' own' ∧ BOk g kp E D ((forM f s (xs.drop (i + 1))).bind h), fun σ' H' ⟨s', own'', a'', q''⟩ => ⟨xs.length - (i + 1), by omega, rfl, hlt, s', own'', a'', q''⟩, fun x H' y => ?_⟩
    obtain ⟨s2, r2⟩ := yl x H' y
    refine ⟨s, _, own', xs[i], a'.ext s2, S.mono r2 (Nw.rd a' a'.kept s2), fun σ' own'' a'' _ => ⟨s, xs[i], _, own'', a'', ?_⟩⟩
    have q2 : BOk g kp E D (((f s xs[i]).bind fun s' => forM f s' (xs.drop (i + 1))).bind h) := q'
    cases hf : f s xs[i] with
    | ok s' =>
      rw [hf] at q2
      exact fun σ3 H3 own3 a3 => ⟨⟨s', own3, a3, q2⟩, ⟨s', own3, a3, q2⟩⟩
    | ex c =>
      rw [hf] at q2
      exact fun σ3 H3 own3 a3 => q2 σ3 H3 own3 (a3.keep kk)
    | no => rw [hf] at q2; exact q2
  · have e : i = xs.length := by omega
    subst e
    rw [List.drop_length] at q'
    exact .inl ⟨hst (by simp), s, kp, own', a'.keep kk, q'⟩
def Out.isRt : Out → Bool
  | .rt _ _ _ => true
  | .rtL _ _ _ => true
  | .gen _ => true
  | _ => false
theorem OutOk.rt {fm : Fm} {kp kp' : RdR} {E E' : Ends} (hr : E'.rt = E.rt) : ∀ {o : Out}, o.isRt = true → OutOk fm kp E o → OutOk fm kp' E' o := fun {o} hn q => by
  cases o with
  | nx L => cases hn
  | ct L => cases hn
  | go L => cases hn
  | rt b T r => exact fun v H' s r => by rw [hr]; exact q v H' s r
  | rtL b T r => exact fun p vs H' s n1 n2 h r => by rw [hr]; exact q p vs H' s n1 n2 h r
  | gen f => show f fm E'.rt; rw [hr]; exact q
  | bad => cases hn
/-- .. that may leave the def -/
theorem evb_forF {ρ : Type} {m : M (List α)} {f : β → α → M (Fl β ρ)} {h : β → M δ} {dr : ρ → δ} {LF : β → List Slot} {Lt : β → α → List Slot} {s0 : β} {tg it : Expr} {body : List Stmt} (ok : OkS p sc NN VV GG k g) (wk : Wk L g.LX) (hI : EvI g L tg it S m) (w0 : Wk L (LF s0))
    (hG : ∀ s, EvG g tg S (LF s) (Lt s)) (hb : ∀ s d, EvB g (Lt s d) body (Fl.el (fun s' => Out.go (LF s')) fun r => D (dr r)) (f s d)) (hr : ∀ s, EvB g (LF s) st D (h s)) (hD : ∀ r, (D (dr r)).isRt = true := by intro d; first | rfl | (cases d <;> rfl)) (hs : ∀ x, foldedSetIterable it g.X.env x = pure x := by intro _; rfl) :
    EvB g L (.For tg it body [] pos :: st) D (m.bind fun xs => (forF f s0 xs).bind (Fl.el h fun r => .ok (dr r))) := by
  refine PSs.imp (pss_cons (ps_for ok.psO ok.calm hI (PG.ex hG) (PSs.ex fun s => PSs.ex (hb s)) hs) (PSs.ex hr)) fun E σ H ⟨kp, own, at_, q⟩ => ?_
  cases m with
  | ex c => exact ⟨kp, own, at_, BOk.exx wk at_ q⟩
  | no => exact q.elim
  | ok xs =>
  refine ⟨kp, own, at_, fun J H1 s1 hJ => ?_⟩
  have at1 := at_.ext s1
  obtain ⟨own0, a0, sub0⟩ := at1.weak w0
  have q : BOk g kp E D ((forF f s0 xs).bind (Fl.el h fun r => .ok (dr r))) := q
  have kk : ∀ a o, kp a o → RD g.fm own H1 a o := at1.kept
  have a0' : At g.fm (RD g.fm own H1) (LF s0) σ H1 own0 := ⟨a0.same, a0.zin, a0.sl, a0.nd, a0.new, fun a o z => RX.own (md := .sh) (H := H1) sub0 a o z⟩
  refine ⟨fun i m σ H => m = xs.length - i ∧ i ≤ xs.length ∧ ∃ s own', At g.fm (RD g.fm own H1) (LF s) σ H own' ∧ BOk g kp E D ((forF f s (xs.drop i)).bind (Fl.el h fun r => .ok (dr r))), ⟨_, rfl, Nat.zero_le _, s0, own0, a0', q⟩, ?_⟩
  rintro i m σ H ⟨rfl, hi, s, own', a', q'⟩
  have rb : Rdb g.fm.K (RD g.fm own H1) H := ⟨fun a o z n => (a'.kept a o z).imp (fun h => Rd.raw h.1 n) id⟩
  obtain ⟨hgo, hst⟩ := hJ H rb i
  by_cases hlt : i < xs.length
  · have he : xs[i]? = some xs[i] := by simp [hlt]
    obtain ⟨go, yl⟩ := hgo _ he
    rw [List.drop_eq_getElem_cons hlt] at q'
    refine .inr ⟨go, fun σ' H' => ∃ s own', At g.fm (RD g.fm own H1) (LF s) σ' H' own' ∧ BOk g kp E D ((forF f s (xs.drop (i + 1))).bind (Fl.el h fun r => .ok (dr r))), fun σ' H' ⟨s', own'', a'', q''⟩ => ⟨xs.length - (i + 1), by omega, rfl, hlt, s', own'', a'', q''⟩, fun x H' y => ?_⟩
    obtain ⟨s2, r2⟩ := yl x H' y
    refine ⟨s, _, own', xs[i], a'.ext s2, S.mono r2 (Nw.rd a' a'.kept s2), fun σ' own'' a'' _ => ⟨s, xs[i], _, own'', a'', ?_⟩⟩
    have q2 : BOk g kp E D (((f s xs[i]).bind (Fl.el (fun s' => forF f s' (xs.drop (i + 1))) fun r => .ok (.rt r))).bind (Fl.el h fun r => .ok (dr r))) := q'
    cases hf : f s xs[i] with
    | ok s' =>
      rw [hf] at q2
      cases s' with
      | nx s' => exact fun σ3 H3 own3 a3 => ⟨⟨s', own3, a3, q2⟩, ⟨s', own3, a3, q2⟩⟩
      | rt r =>
        have q2 : OutOk g.fm kp E (D (dr r)) := q2
        show OutOk g.fm _ _ (D (dr r))
        refine OutOk.rt (E := E) ?_ (hD r) q2
        rfl
    | ex c =>
      rw [hf] at q2
      exact fun σ3 H3 own3 a3 => q2 σ3 H3 own3 (a3.keep kk)
    | no => rw [hf] at q2; exact q2
  · have e : i = xs.length := by omega
    subst e
    rw [List.drop_length] at q'
    exact .inl ⟨hst (by simp), s, kp, own', a'.keep kk, q'⟩
theorem PT.ex {X : Cx} {ι : Type} {e : Expr} {t : ι → TT} (h : ∀ d, PT X e (t d)) : PT X e (fun σ H Q => ∃ d, t d σ H Q) := ⟨fun pins s σ H Q I ⟨d, q⟩ => (h d).run pins s σ H Q I q⟩
end
end Hd
namespace Hd
open PySem PySem.Spec L2
def RetOk (fm : Fm) (Q : VK) : Out → Prop
  | .rt md T r => ∀ v H', Same fm.H0 H' → T.rep r v (RT fm H' md) → Q v H'
  | .rtL md T r => ∀ p vs H', Same fm.H0 H' → ¬ fm.z p → fm.H0 p = none → H' p = some (.lst vs) → Reps T (RT fm H' md (some p)) r vs → Q (.ref p) H'
  | .gen f => f fm Q
  | _ => False
/-- what a def promises: it comes to F -/
def spM (p : Pr) {δ ρ : Type} (A : Ar δ) (D : ρ → Out) (F : δ → M ρ) : Sp := fun vs H Q E => ∃ d z, ((∀ a, z a → H a ≠ none) ∧ ∀ P, p.T = some P → LamX.TabS H P lamQ) ∧ A.rep d vs (RD ⟨p.K, H, z⟩ [] H) ∧
  match F d with
  | .ok r => RetOk ⟨p.K, H, z⟩ Q (D r)
  | .ex c => ∀ H', Same H H' → E (.ref (p.C c)) none H'
  | .no => False
/-- the slots of the arguments -/
inductive ArS : {δ : Type} → Ar δ → Nat → (δ → List Slot) → Prop where
  | nil : ArS aNil 0 (fun _ => [])
  | cons {α δ : Type} {T : Ty α} {A : Ar δ} {n : Nat} {f : δ → List Slot} : ArS A n f → ArS (aCons T A) (n + 1) (fun d => sV false T d.1 :: f d.2)
theorem ArS.all {H : Hp} {R : Bool → RdR} {δ : Type} {A : Ar δ} {n : Nat} {f : δ → List Slot} (s : ArS A n f) : ∀ {d : δ} {vs : List V}, A.rep d vs (R false) → vs.length = n ∧ AllS H R (f d) (vs.map some) (List.replicate n []) := by
  induction s with
  | nil => intro d vs h; cases (show vs = [] from h); exact ⟨rfl, .nil⟩
  | cons _ ih =>
    intro d vs h
    obtain ⟨v, r, rfl, h1, h2⟩ := h
    obtain ⟨e, h3⟩ := ih h2
    exact ⟨by simp [e], .cons ⟨rfl, v, rfl, h1⟩ h3⟩
theorem AllS.append {H : Hp} {R : Bool → RdR} {L L' : List Slot} {σ σ' : L2.St} {Fs Fs' : List (List Addr)} (h : AllS H R L σ Fs) (h' : AllS H R L' σ' Fs') : AllS H R (L ++ L') (σ ++ σ') (Fs ++ Fs') := by
  induction h with
  | nil => exact h'
  | cons r _ ih => exact .cons r ih
theorem AllS.anys {H : Hp} {R : Bool → RdR} : ∀ n, AllS H R (List.replicate n sAny) (List.replicate n none) (List.replicate n [])
  | 0 => .nil
  | n + 1 => .cons rfl (AllS.anys n)
theorem flat_rep (n : Nat) : (List.replicate n ([] : List Addr)).flatten = [] := by induction n with
  | zero => rfl
  | succ n ih => simp
structure Sc (st : Stmt) (NN VV ps GG : List Str) : Prop where
  S : FnScope NN ps (defScope st)
  vis : VV.all (seenB (defScope st)) = true
  loc : VV.all (locB (defScope st)) = true
  gl : GG.all (glB (defScope st)) = true
section
variable {p : Pr} {sc : Scope} {NN VV GG : List Str} {k : Nat} {g : G} {L L' : List Slot} {a b c e e' : Expr} {es : List Expr} {md md' : Md} {α β γ δ ρ : Type} {S : Ty α} {T : Ty β} {U : Ty γ} {A : Ar δ} {pos : Pos}
/-- a def's body, as a judgement for all its arguments -/
def Body (p : Pr) (st : Stmt) (NN VV GG : List Str) (k : Nat) (L0 : δ → List Slot) (D : ρ → Out) (F : δ → M ρ) : Prop :=
  ∀ g, OkS p (defScope st) NN VV GG k g → g.LX = List.replicate NN.length sAny → ∀ d, EvB g (L0 d) (defBody st) D (F d)
/-- how Ends take a block's end that the promise tells as D -/
theorem fn_gen {x qual : Str} {st : Stmt} {f : Addr} {fd : FuncData} {ps : List Str} {L0 : δ → List Slot} {n m : Nat} {D D' : ρ → Out} {F : δ → M ρ} (hF : FunD p.K x qual (defArgs st) (defBody st) (defScope st) [] [] f fd) (hS : Sc st NN VV ps GG) (ha : ArS A n L0) (hn : ps.length = n) (hm : n + m = NN.length)
    (hD : ∀ (r : ρ) (fm : Fm) (Q : VK), RetOk fm Q (D r) → OutOk fm (fun _ _ => False) { nx := fun _ H' => Q .non H', rt := Q } (D' r))
    (hb : Body p st NN VV GG k (fun d => L0 d ++ List.replicate m sAny) D' F) :
    FnOk p.P p.w p.K p.mg p.base (L2.CX p.P p.w) (k + 1) f fd ps (spM p A D F) := by
  refine hF.ok hS.S (fun vs H Q E h => ?_) (fun cdv A' outer s H vs Q E hr h => ?_)
  · obtain ⟨d, z, hz, hrep, _⟩ := h
    exact (ha.all (H := H) (R := fun _ => RD ⟨p.K, H, z⟩ [] H) hrep).1.trans hn.symm
  · obtain ⟨d, z, ⟨hz, htab⟩, hrep, q⟩ := h
    have hlen : vs.length = n := (ha.all (H := H) (R := fun _ => RD ⟨p.K, H, z⟩ [] H) hrep).1
    let X : Cx := cxOf (L2.CX p.P p.w) p.P p.w p.K p.mg p.base NN qual (defScope st) f cdv A' outer s H E
    let g : G := ⟨X, ⟨p.K, H, z⟩, fun c _ H' => E (.ref (p.C c)) none H', List.replicate NN.length sAny⟩
    have hN : ∀ {j : Nat} {y : Str}, VV[j]? = some y → y ∈ VV := fun e => List.mem_of_getElem? e
    have ok : OkS p (defScope st) NN VV GG k g :=
      { prog := rfl, w := rfl, K := rfl, mg := rfl, base := rfl, N := rfl, fmK := rfl, tab := htab, room := hr, nd := hS.S.nd
        vis := fun e => let h := seenB_v (List.all_eq_true.mp hS.vis _ (hN e)); ⟨h.2, h.1⟩
        gl := fun e => let h := glB_v (List.all_eq_true.mp hS.gl _ (List.mem_of_getElem? e)); ⟨h.2, h.1⟩
        tk := Takes.imp (takes_of (X := X) rfl rfl rfl (E := E) rfl) (fun cls d σ H ⟨c, e1, e2, h⟩ => by subst e1; subst e2; exact h)
        calm := rfl
        blk := fun h => blkOk_by h
        loc := fun e => locB_v (List.all_eq_true.mp hS.loc _ (hN e))
        fnT := fun _ => rfl
        psO := passes_of (X := X) rfl
        scp := rfl
        stk := rfl
        frm := rfl
        exn := rfl }
    refine ⟨_, hb g ok rfl d, (fun _ _ => False), [], ?_, ?_⟩
    · refine ⟨Same.refl H, hz, ⟨List.replicate n [] ++ List.replicate m [], ?_, by simp [flat_rep]⟩, List.nodup_nil, (fun _ h => nomatch h), fun _ _ h => h.elim⟩
      have h1 := (ha.all (H := H) (R := RB ⟨p.K, H, z⟩ [] H) hrep).2
      have e : L2.start NN vs = vs.map some ++ List.replicate m none := by
        unfold L2.start
        rw [show NN.length - vs.length = m by omega]
      rw [e]
      exact h1.append (AllS.anys m)
    · cases hF' : F d with
      | ok r =>
        rw [hF'] at q
        exact hD r _ _ q
      | ex c =>
        rw [hF'] at q
        exact fun σ' H' own a' => q H' a'.same
      | no => rw [hF'] at q; exact q
theorem fn_rt {x qual : Str} {st : Stmt} {f : Addr} {fd : FuncData} {ps : List Str} {L0 : δ → List Slot} {n m : Nat} {bm : Bool} {T : Ty ρ} {F : δ → M ρ} (hF : FunD p.K x qual (defArgs st) (defBody st) (defScope st) [] [] f fd) (hS : Sc st NN VV ps GG) (ha : ArS A n L0) (hn : ps.length = n) (hm : n + m = NN.length)
    (hb : Body p st NN VV GG k (fun d => L0 d ++ List.replicate m sAny) (fun r => .rt bm T r) F) : FnOk p.P p.w p.K p.mg p.base (L2.CX p.P p.w) (k + 1) f fd ps (spM p A (fun r => .rt bm T r) F) :=
  fn_gen (D' := fun r => .rt bm T r) hF hS ha hn hm (fun r fm Q h => h) hb
theorem fn_rtL {x qual : Str} {st : Stmt} {f : Addr} {fd : FuncData} {ps : List Str} {L0 : δ → List Slot} {n m : Nat} {bm : Bool} {F : δ → M (List α)} (hF : FunD p.K x qual (defArgs st) (defBody st) (defScope st) [] [] f fd) (hS : Sc st NN VV ps GG) (ha : ArS A n L0) (hn : ps.length = n) (hm : n + m = NN.length)
    (hb : Body p st NN VV GG k (fun d => L0 d ++ List.replicate m sAny) (fun r => .rtL bm S r) F) : FnOk p.P p.w p.K p.mg p.base (L2.CX p.P p.w) (k + 1) f fd ps (spM p A (fun r => .rtL bm S r) F) :=
  fn_gen (D' := fun r => .rtL bm S r) hF hS ha hn hm (fun r fm Q h => h) hb
/-- a def, as its callers know it -/
structure Fn (p : Pr) (k : Nat) (x : Str) (ps : List Str) (sp : Sp) : Prop where
  ex : ∃ (f : Addr) (fd : FuncData), FnOk p.P p.w p.K p.mg p.base (L2.CX p.P p.w) k f fd ps sp ∧ p.mg x = some (.ref f) ∧ PySem.W.keepIn p.K (.ref f) = true ∧ Binds p.K fd ps []
theorem tk_at (ok : Ok p sc NN VV GG k g) (σ : L2.St) : PassesAt (L2.CX g.X.prog g.X.w) g.X σ (fun cls d H => ∃ c, cls = .ref (p.C c) ∧ d = none ∧ g.W c σ H) := passAt ok.tk σ
theorem args_in {own : List Addr} {H H1 : Hp} {d : δ} {vs : List V} {fm : Fm} (r : A.rep d vs (RX fm own H H1 md)) : A.rep d vs (RD ⟨fm.K, H1, fun a => a ∈ own ∨ fm.z a⟩ [] H1) :=
  A.mono r fun a o z => by
    rcases RX.sh a o z with z | z
    · exact .inl ⟨z.1, (fun y => nomatch y), fun y => y.elim z.2.1 z.2.2⟩
    · exact .inr z
/-- how new a call's answer is -/
inductive CaMd : Bool → Md → Prop where
  | sh : CaMd false .sh
  | fx {x : Md} : CaMd true x
theorem CaMd.rx {fm : Fm} {own : List Addr} {H H1 H' : Hp} {bm : Bool} {q : Option Addr} (h : CaMd bm md) (s : Same H H1) (s0 : Same fm.H0 H) : ∀ a o, RT ⟨fm.K, H1, fun a => a ∈ own ∨ fm.z a⟩ H' bm q a o → RX fm (q.toList ++ own) H H' md a o := fun a o r => by
  cases h with
  | sh =>
    have r : RX ⟨fm.K, H1, fun a => a ∈ own ∨ fm.z a⟩ q.toList H' H' .sh a o := r
    rcases r with ⟨r1, r2, r3⟩ | r
    · exact .inl ⟨r1, fun y => (List.mem_append.mp y).elim r2 fun y => r3 (.inl y), fun y => r3 (.inr y)⟩
    · exact .inr r
  | fx =>
    have r : RX ⟨fm.K, H1, fun a => a ∈ own ∨ fm.z a⟩ q.toList H' H' .f0 a o := r
    obtain ⟨r1, r2, r3, r4⟩ := r
    exact RX.fx md a o ⟨r1, fun y => (List.mem_append.mp y).elim r2 fun y => r3 (.inl y), fun y => r3 (.inr y), s0.free (s.free r4), s.free r4⟩
theorem ev_call {x : Str} {j kf : Nat} {ps : List Str} {bm : Bool} {T : Ty ρ} {F : δ → M ρ} {m : M δ} {pp : Pos} (ok : Ok p sc NN VV GG k g) (hf : Fn p kf x ps (spM p A (fun r => .rt bm T r) F)) (hk : kf ≤ k) (hG : GG[j]? = some x) (hc : CaMd bm md')
    (ha : EvA g L (e :: es) md A m) (he : starEach (e :: es) g.X.env = (false, eval e g.X.env) :: starEach es g.X.env := by rfl) (hpl : (backTo pos (starEach es g.X.env)).any (·.1) = false := by rfl) :
    EvE g L (.Call (.Name x pp) (e :: es) [] pos) md' T (m.bind F) := by
  obtain ⟨f, fd, hF, hm, hkp, hbd⟩ := hf.ex
  obtain ⟨hg, ho⟩ := ok.gl hG
  rw [← ok.prog, ← ok.w, ← ok.base] at hF
  have hF' : FnOk g.X.prog g.X.w g.X.K g.X.mg g.X.base (L2.CX g.X.prog g.X.w) kf f fd ps (spM p A (fun r => .rt bm T r) F) := by rw [ok.K, ok.mg]; exact hF
  refine PE.imp (pe_callS hF' (ok.room.mono hk) hg (by rw [ok.mg]; exact hm) (by rw [ok.K]; exact hkp) (by rw [ok.K]; exact hbd) (tk_at ok) ha (okName_d ho).1 he hpl) fun σ H Q q => ?_
  obtain ⟨kp, own, at_, q⟩ := tE_iff.mp q
  refine subA finE (Same.refl H) at_ q fun d vs H1 s1 r1 at1 q1 => ⟨d, fun a => a ∈ own ∨ g.fm.z a, ⟨fun a z => ?_, fun P e => at1.same.tab P (ok.tab P e)⟩, ?_, ?_⟩
  · rcases z with z | z
    · exact (at1.new a z).1
    · exact at1.zin a z
  · rw [← ok.fmK]; exact args_in r1
  · rw [← ok.fmK]
    cases hd : F d with
    | ok r =>
      rw [hd] at q1
      exact fun v H' s r => q1 v H' (s1.trans s) (T.mono r (hc.rx s1 at_.same))
    | ex c =>
      rw [hd] at q1
      exact fun H' s => ⟨c, rfl, rfl, q1 H' (s1.trans s)⟩
    | no => rw [hd] at q1; exact q1
theorem evl_call {x : Str} {j kf : Nat} {ps : List Str} {bm : Bool} {F : δ → M (List α)} {m : M δ} {pp : Pos} (ok : Ok p sc NN VV GG k g) (hf : Fn p kf x ps (spM p A (fun r => .rtL bm S r) F)) (hk : kf ≤ k) (hG : GG[j]? = some x) (hc : CaMd bm md')
    (ha : EvA g L (e :: es) md A m) (he : starEach (e :: es) g.X.env = (false, eval e g.X.env) :: starEach es g.X.env := by rfl) (hpl : (backTo pos (starEach es g.X.env)).any (·.1) = false := by rfl) :
    EvL g L (.Call (.Name x pp) (e :: es) [] pos) md' S (m.bind F) := by
  obtain ⟨f, fd, hF, hm, hkp, hbd⟩ := hf.ex
  obtain ⟨hg, ho⟩ := ok.gl hG
  rw [← ok.prog, ← ok.w, ← ok.base] at hF
  have hF' : FnOk g.X.prog g.X.w g.X.K g.X.mg g.X.base (L2.CX g.X.prog g.X.w) kf f fd ps (spM p A (fun r => .rtL bm S r) F) := by rw [ok.K, ok.mg]; exact hF
  refine PE.imp (pe_callS hF' (ok.room.mono hk) hg (by rw [ok.mg]; exact hm) (by rw [ok.K]; exact hkp) (by rw [ok.K]; exact hbd) (tk_at ok) ha (okName_d ho).1 he hpl) fun σ H Q q => ?_
  obtain ⟨kp, own, at_, q⟩ := tL_iff.mp q
  refine subA finL (Same.refl H) at_ q fun d vs H1 s1 r1 at1 q1 => ⟨d, fun a => a ∈ own ∨ g.fm.z a, ⟨fun a z => ?_, fun P e => at1.same.tab P (ok.tab P e)⟩, ?_, ?_⟩
  · rcases z with z | z
    · exact (at1.new a z).1
    · exact at1.zin a z
  · rw [← ok.fmK]; exact args_in r1
  · rw [← ok.fmK]
    cases hd : F d with
    | ok r =>
      rw [hd] at q1
      exact fun p' vs' H' s n1 n2 h' r => q1 p' vs' H' (s1.trans s) (s1.free n2) h' (r.mono (hc.rx (q := some p') s1 at_.same))
    | ex c =>
      rw [hd] at q1
      exact fun H' s => ⟨c, rfl, rfl, q1 H' (s1.trans s)⟩
    | no => rw [hd] at q1; exact q1
/-- an own class of refusals -/
structure ExF (p : Pr) (x : Str) (c : Ec) : Prop where
  xP : PySem.W.excIn p.K (p.C c) [.type "ValueError", .type "Exception", .type "BaseException", .type "object"] "ValueError.__new__" = true
  gP : p.mg x = some (.ref (p.C c))
  kP : PySem.W.keepIn p.K (.ref (p.C c)) = true
  bP : PySem.W.subIn p.K (.ref (p.C c)) (.type "BaseException") = some true
  tP : PySem.W.typeIn p.K (.ref (p.C c)) = some (.type "type")
variable {st : List Stmt} {D : δ → Out} {d : δ}
theorem evb_raise {x : Str} {c : Ec} {j jj : Nat} {msg : Str} {pp p2 p3 : Pos} (ok : OkS p sc NN VV GG k g) (wk : Wk L g.LX) (X : ExF p x c) (hG : GG[j]? = some x) :
    EvB g L (.Raise (some (.Call (.Name x pp) [.Constant (.str msg) jj p2] [] p3)) none pos :: st) D (.ex c) := by
  obtain ⟨hg, ho⟩ := ok.gl hG
  refine PSs.imp (PSs.head (ps_raise ok.calm ok.tk (pmk_own PySem.F.excBase_ValueError (by rw [ok.K]; exact X.xP) (by rw [ok.mg]; exact X.gP) (by rw [ok.K]; exact X.kP) (raises_own (by rw [ok.K]; exact X.bP) (by rw [ok.K]; exact X.tP)) hg (okName_d ho).1))) fun E σ H ⟨kp, own, at_, q⟩ => ?_
  exact ⟨c, rfl, rfl, BOk.exx wk at_ q H (Same.refl H)⟩
end
end Hd
namespace Hd
open PySem PySem.Spec L2
section
variable {p : Pr} {sc : Scope} {NN VV GG : List Str} {k : Nat} {g : G} {L L' : List Slot} {a b c e e' : Expr} {es : List Expr} {md md' : Md} {α β γ δ ρ : Type} {S : Ty α} {T : Ty β} {U : Ty γ} {A : Ar δ} {pos : Pos} {K : PySem.W.Frag}
def mulM (x y : Int) : M Int := if x.natAbs < 2 ^ 10000 ∧ y.natAbs < 2 ^ 10000 then .ok (x * y) else .no
def modM (x y : Int) : M Int := if 0 < y then .ok (x % y) else .no
def divM (x y : Int) : M Int := if 0 < y ∧ y.natAbs < 2 ^ 1000 then .ok (x / y) else .no
theorem o_add : Op2 K (rI0 fun i j => .int (i + j)) tInt tInt tInt (fun x y => .ok (x + y)) true := ⟨fun rb rx ry q => ⟨_, _, rx, ry, q _ _ (Same.refl _) rfl⟩⟩
theorem o_sub : Op2 K (rI0 fun i j => .int (i - j)) tInt tInt tInt (fun x y => .ok (x - y)) true := ⟨fun rb rx ry q => ⟨_, _, rx, ry, q _ _ (Same.refl _) rfl⟩⟩
theorem o_mul : Op2 K (rI CMulW fun i j => .int (i * j)) tInt tInt tInt mulM true := ⟨fun {d e x y R H Q} rb rx ry q => by
  unfold mulM at q
  split at q
  · rename_i h
    exact ⟨_, _, rx, ry, wide_mul h.1 h.2 (by decide) (by decide) (by decide), q _ _ (Same.refl _) rfl⟩
  · exact q.elim⟩
theorem o_mod : Op2 K (rI (fun _ j => 0 < j) fun i j => .int (i % j)) tInt tInt tInt modM true := ⟨fun {d e x y R H Q} rb rx ry q => by
  unfold modM at q
  split at q
  · rename_i h
    exact ⟨_, _, rx, ry, h, q _ _ (Same.refl _) rfl⟩
  · exact q.elim⟩
theorem o_div : Op2 K (rI CDivW fun i j => .int (i / j)) tInt tInt tInt divM true := ⟨fun {d e x y R H Q} rb rx ry q => by
  unfold divM at q
  split at q
  · rename_i h
    exact ⟨_, _, rx, ry, wide_div h.1 h.2 (by decide) (by decide), q _ _ (Same.refl _) rfl⟩
  · exact q.elim⟩
theorem mulM_ne {x y : Int} {c : Ec} : mulM x y ≠ .ex c := by unfold mulM; split <;> exact fun h => nomatch h
theorem modM_ne {x y : Int} {c : Ec} : modM x y ≠ .ex c := by unfold modM; split <;> exact fun h => nomatch h
theorem divM_ne {x y : Int} {c : Ec} : divM x y ≠ .ex c := by unfold divM; split <;> exact fun h => nomatch h
variable {m1 m2 : M Int} {x y : Int}
theorem ev_add (ok : Ok p sc NN VV GG k g) (ha : EvE g L a md tInt m1) (hb : EvE g L b md tInt m2) : EvE g L (.BinOp a .Add b pos) md' tInt (m1.bind fun x => m2.bind fun y => .ok (x + y)) := ev_op2 ok op_add o_add (fun _ _ _ h => nomatch h) .fresh ha hb
theorem ev_subt (ok : Ok p sc NN VV GG k g) (ha : EvE g L a md tInt m1) (hb : EvE g L b md tInt m2) : EvE g L (.BinOp a .Sub b pos) md' tInt (m1.bind fun x => m2.bind fun y => .ok (x - y)) := ev_op2 ok op_sub o_sub (fun _ _ _ h => nomatch h) .fresh ha hb
theorem ev_mul (ok : Ok p sc NN VV GG k g) (ha : EvE g L a md tInt m1) (hb : EvE g L b md tInt m2) : EvE g L (.BinOp a .Mult b pos) md' tInt (m1.bind fun x => m2.bind fun y => mulM x y) := ev_op2 ok op_mulW o_mul (fun _ _ _ => mulM_ne) .fresh ha hb
theorem ev_mod (ok : Ok p sc NN VV GG k g) (ha : EvE g L a md tInt m1) (hb : EvE g L b md tInt m2) : EvE g L (.BinOp a .Mod b pos) md' tInt (m1.bind fun x => m2.bind fun y => modM x y) := ev_op2 ok op_mod o_mod (fun _ _ _ => modM_ne) .fresh ha hb
theorem ev_div (ok : Ok p sc NN VV GG k g) (ha : EvE g L a md tInt m1) (hb : EvE g L b md tInt m2) : EvE g L (.BinOp a .FloorDiv b pos) md' tInt (m1.bind fun x => m2.bind fun y => divM x y) := ev_op2 ok op_fdivW o_div (fun _ _ _ => divM_ne) .fresh ha hb
/-- the one number c -/
def tLit (c : Int) : Ty Unit := ⟨fun _ v _ => v = .int c, fun h _ => h⟩
theorem ev_lit (h : EvE g L e md tInt (.ok x)) : EvE g L e md (tLit x) (.ok ()) := ev_asP (fun v R r => r) h
theorem ev_mulC (ok : Ok p sc NN VV GG k g) (hc : y.natAbs < 2 ^ 64) (ha : EvE g L a md tInt m1) (hb : EvE g L b md tInt (.ok y)) : EvE g L (.BinOp a .Mult b pos) md' tInt (m1.bind fun x => .ok (x * y)) :=
  ev_op2 (f := fun x _ => .ok (x * y)) ok op_mul ⟨fun rb rx ry q => ⟨_, _, rx, ry, .inr ⟨by omega, by omega⟩, q _ _ (Same.refl _) rfl⟩⟩ (fun _ _ _ h => nomatch h) (.fresh : MdOk true md md') ha (ev_lit hb)
theorem ev_mulL (ok : Ok p sc NN VV GG k g) (hc : x.natAbs < 2 ^ 64) (ha : EvE g L a md tInt (.ok x)) (hb : EvE g L b md tInt m2) : EvE g L (.BinOp a .Mult b pos) md' tInt (m2.bind fun y => .ok (x * y)) :=
  ev_op2 (f := fun _ y => .ok (x * y)) (m1 := .ok ()) ok op_mul ⟨fun rb rx ry q => ⟨_, _, rx, ry, .inl ⟨by omega, by omega⟩, q _ _ (Same.refl _) rfl⟩⟩ (fun _ _ _ h => nomatch h) (.fresh : MdOk true md md') (ev_lit ha) hb
theorem ev_modC (ok : Ok p sc NN VV GG k g) (hc : 0 < y) (ha : EvE g L a md tInt m1) (hb : EvE g L b md tInt (.ok y)) : EvE g L (.BinOp a .Mod b pos) md' tInt (m1.bind fun x => .ok (x % y)) :=
  ev_op2 (f := fun x _ => .ok (x % y)) ok op_mod ⟨fun rb rx ry q => ⟨_, _, rx, ry, hc, q _ _ (Same.refl _) rfl⟩⟩ (fun _ _ _ h => nomatch h) (.fresh : MdOk true md md') ha (ev_lit hb)
theorem ev_divC (ok : Ok p sc NN VV GG k g) (hc : 0 < y) (hb' : y.natAbs < 2 ^ 1000) (ha : EvE g L a md tInt m1) (hb : EvE g L b md tInt (.ok y)) : EvE g L (.BinOp a .FloorDiv b pos) md' tInt (m1.bind fun x => .ok (x / y)) :=
  ev_op2 (f := fun x _ => .ok (x / y)) ok op_fdivW ⟨fun rb rx ry q => ⟨_, _, rx, ry, wide_div hc hb' (by decide) (by decide), q _ _ (Same.refl _) rfl⟩⟩ (fun _ _ _ h => nomatch h) (.fresh : MdOk true md md') ha (ev_lit hb)
theorem ev_neg (ok : Ok p sc NN VV GG k g) (ha : EvE g L a md tInt m1) : EvE g L (.UnaryOp .USub a pos) md' tInt (m1.bind fun x => .ok (-x)) :=
  ev_un ok un_neg (f := fun x => .ok (-x)) (fr := true) ⟨fun rb rx q => ⟨_, rx, q _ _ (Same.refl _) rfl⟩⟩ (fun _ _ h => nomatch h) .fresh ha
/-- a comparison that always tells -/
structure CmpOk (p : Pr) (X : Cx) (op : CmpOp) (S : Ty α) (T : Ty β) (f : α → β → Bool) : Prop where
  ex : ∃ r, OpR X (compareOp op) r ∧ Op2 p.K r S T tBool (fun x y => .ok (f x y)) true
section
variable {op : CmpOp} {f : α → β → Bool} {ma : M α} {mb : M β} {da : α} {db : β}
theorem ev_c (ok : Ok p sc NN VV GG k g) (F : CmpOk p g.X op S T f) (ha : EvE g L a md S ma) (hb : EvE g L b md T mb) (hk : behindInMarks op b = false := by first | exact nomark _ (by decide) (by decide) | rfl) : EvE g L (.Compare a [op] [b] pos) md' tBool (ma.bind fun x => mb.bind fun y => .ok (f x y)) := by
  obtain ⟨r, h1, h2⟩ := F.ex
  exact ev_cmp ok h1 h2 (fun _ _ _ h => nomatch h) .fresh ha hb hk
theorem evt_c (ok : Ok p sc NN VV GG k g) (F : CmpOk p g.X op S T f) (ha : EvE g L a md S ma) (hb : EvE g L b md T mb) (hk : behindInMarks op b = false := by first | exact nomark _ (by decide) (by decide) | rfl) : EvT g L (.Compare a [op] [b] pos) (ma.bind fun x => mb.bind fun y => .ok (f x y)) := by
  obtain ⟨r, h1, h2⟩ := F.ex
  exact evt_cmp ok h1 h2 (fun _ _ _ h => nomatch h) ha hb hk
end
variable {X : Cx}
theorem c_lt : CmpOk p X .Lt tInt tInt (fun x y => decide (x < y)) := ⟨_, op_lt, ⟨fun rb rx ry q => ⟨_, _, rx, ry, q _ _ (Same.refl _) rfl⟩⟩⟩
theorem c_gt : CmpOk p X .Gt tInt tInt (fun x y => decide (y < x)) := ⟨_, op_gt, ⟨fun rb rx ry q => ⟨_, _, rx, ry, q _ _ (Same.refl _) rfl⟩⟩⟩
theorem c_ge : CmpOk p X .GtE tInt tInt (fun x y => decide (y ≤ x)) := ⟨_, op_ge, ⟨fun rb rx ry q => ⟨_, _, rx, ry, q _ _ (Same.refl _) rfl⟩⟩⟩
/-- kinds that are told apart by value -/
structure Scal (S : Ty α) : Prop where
  sc : ∀ {d e v w R}, S.rep d v R → S.rep e w R → scal v w = true ∧ (v = w ↔ d = e)
theorem s_int : Scal tInt := ⟨fun {d e v w R} h1 h2 => by cases h1; cases h2; exact ⟨rfl, fun h => by injection h, fun h => by rw [h]⟩⟩
theorem s_bool : Scal tBool := ⟨fun {d e v w R} h1 h2 => by cases h1; cases h2; exact ⟨rfl, fun h => by injection h, fun h => by rw [h]⟩⟩
theorem s_str : Scal tStr := ⟨fun {d e v w R} h1 h2 => by cases h1.1; cases h2.1; exact ⟨rfl, fun h => toS_inj (by injection h), fun h => by rw [h]⟩⟩
theorem c_eq [DecidableEq α] (h : Scal S) : CmpOk p X .Eq S S (fun x y => decide (x = y)) := ⟨_, op_eq, ⟨fun {d e x y R H Q} rb rx ry q => by
  obtain ⟨h1, h2⟩ := h.sc rx ry
  refine ⟨h1, q _ _ (Same.refl _) ?_⟩
  show _ = V.bl _
  congr 1
  exact decide_eq_decide.mpr h2⟩⟩
theorem c_ne [DecidableEq α] (h : Scal S) : CmpOk p X .NotEq S S (fun x y => !decide (x = y)) := ⟨_, op_ne, ⟨fun {d e x y R H Q} rb rx ry q => by
  obtain ⟨h1, h2⟩ := h.sc rx ry
  refine ⟨h1, q _ _ (Same.refl _) ?_⟩
  show _ = V.bl _
  congr 2
  exact decide_eq_decide.mpr h2⟩⟩
/-- .. with a heap: lists, tuples -/
structure Deep (S : Ty α) where
  pd : α → PyData
  dp : Nat
  rep : ∀ {K d v R H}, Rdb K R H → S.rep d v R → Dp K H v (pd d) ∧ (pd d).canLay0 = true
  dep : ∀ d, (pd d).depth ≤ dp
  eqv : ∀ d e, PyData.eqv (pd d) (pd e) = true ↔ d = e
theorem Deep.sh {D : Deep S} (h : D.dp ≤ 64) {d : α} (hl : (D.pd d).canLay0 = true) : SeqAt.shaped (D.pd d) = true := by
  unfold SeqAt.shaped
  rw [hl, Bool.true_and]
  exact decide_eq_true (Nat.le_trans (D.dep d) h)
theorem Deep.bq [DecidableEq α] (D : Deep S) (d e : α) : PyData.eqv (D.pd d) (D.pd e) = decide (d = e) := by
  cases hh : PyData.eqv (D.pd d) (D.pd e) with
  | true => exact (decide_eq_true ((D.eqv d e).mp hh)).symm
  | false => exact (decide_eq_false fun z => by rw [(D.eqv d e).mpr z] at hh; cases hh).symm
theorem c_eqD [DecidableEq α] (ok : Ok p sc NN VV GG k g) (D : Deep S) (hd : D.dp ≤ 64) : CmpOk p g.X .Eq S S (fun x y => decide (x = y)) := ⟨rEqD p.K, by rw [← ok.K]; exact op_eqD ok.room.units, ⟨fun {d e x y R H Q} rb rx ry q => by
  obtain ⟨a1, a2⟩ := D.rep rb rx
  obtain ⟨b1, b2⟩ := D.rep rb ry
  exact ⟨_, _, a1, b1, D.sh hd a2, D.sh hd b2, q _ _ (Same.refl _) (by show _ = V.bl _; rw [D.bq])⟩⟩⟩
theorem c_neD [DecidableEq α] (ok : Ok p sc NN VV GG k g) (D : Deep S) (hd : D.dp ≤ 64) : CmpOk p g.X .NotEq S S (fun x y => !decide (x = y)) := ⟨rNeD p.K, by rw [← ok.K]; exact op_neD ok.room.units, ⟨fun {d e x y R H Q} rb rx ry q => by
  obtain ⟨a1, a2⟩ := D.rep rb rx
  obtain ⟨b1, b2⟩ := D.rep rb ry
  exact ⟨_, _, a1, b1, D.sh hd a2, D.sh hd b2, q _ _ (Same.refl _) (by show _ = V.bl _; rw [D.bq])⟩⟩⟩
def dInt : Deep tInt := ⟨.int, 0, fun rb h => by cases h; exact ⟨.int _, rfl⟩, fun _ => by simp [PyData.depth], fun d e => by simp [PyData.eqv]⟩
def dStr : Deep tStr := ⟨fun x => .str (toS x), 0, fun {K d v R H} rb h => by
    obtain ⟨rfl, h⟩ := h
    refine ⟨.str _, ?_⟩
    show PyData.strOk (toS d) = true
    simp only [PyData.strOk, toS, List.all_toArray, List.all_eq_true, decide_eq_true_eq]
    exact h.2, fun _ => by simp [PyData.depth], fun d e => by
    simp only [PyData.eqv, beq_iff_eq]
    exact ⟨toS_inj, fun h => by rw [h]⟩⟩
theorem eqvAll_map {pd : α → PyData} (h : ∀ d e, PyData.eqv (pd d) (pd e) = true ↔ d = e) : ∀ ds es : List α, PyData.eqvAll (ds.map pd) (es.map pd) = true ↔ ds = es
  | [], [] => by simp [PyData.eqvAll]
  | [], _ :: _ => by simp [PyData.eqvAll]
  | _ :: _, [] => by simp [PyData.eqvAll]
  | d :: ds, e :: es => by simp [PyData.eqvAll, h d e, eqvAll_map h ds es]
theorem depthAll_map {pd : α → PyData} {n : Nat} (h : ∀ d, (pd d).depth ≤ n) : ∀ ds : List α, PyData.depthAll (ds.map pd) ≤ n
  | [] => by simp [PyData.depthAll]
  | d :: ds => by simp only [List.map_cons, PyData.depthAll]; have := h d; have := depthAll_map h ds; omega
theorem Deep.all (D : Deep S) {R : RdR} {H : Hp} (rb : Rdb K R H) {ds : List α} {vs : List V} (r : Reps S R ds vs) : DpAll K H vs (ds.map D.pd) ∧ PyData.canLayAll0 (ds.map D.pd) = true := by
  induction r with
  | nil => exact ⟨.nil, rfl⟩
  | cons r _ ih =>
    obtain ⟨h1, h2⟩ := D.rep rb r
    exact ⟨.cons h1 ih.1, by simp only [List.map_cons, PyData.canLayAll0, h2, ih.2, Bool.and_self]⟩
def dList (D : Deep S) : Deep (tList S) := ⟨fun ds => .list (ds.map D.pd), D.dp + 1, fun {K ds v R H} rb ⟨a, vs, e, h, r⟩ => by
    subst e
    obtain ⟨h1, h2⟩ := D.all rb r
    exact ⟨.lst (.inl ((rb _ _ h rfl).resolve_right fun z => z)) h1, h2⟩, fun ds => by simp only [PyData.depth]; have := depthAll_map D.dep ds; omega, fun d e => by
    simp only [PyData.eqv]
    exact eqvAll_map D.eqv d e⟩
def getM {α : Type} (xs : List α) (i : Int) : M α := match L2.atI xs i with | some d => .ok d | none => .no
def getS (x : Tx) (i : Int) : M Tx := match L2.atI x i with | some c => .ok [c] | none => .no
theorem getM_ne {xs : List α} {i : Int} {c : Ec} : getM xs i ≠ .ex c := by unfold getM; split <;> exact fun h => nomatch h
theorem getS_ne {x : Tx} {i : Int} {c : Ec} : getS x i ≠ .ex c := by unfold getS; split <;> exact fun h => nomatch h
theorem Reps.at {R : RdR} {ds : List α} {vs : List V} (r : Reps S R ds vs) {i : Int} {d : α} (h : L2.atI ds i = some d) : ∃ v, L2.atI vs i = some v ∧ S.rep d v R := by
  unfold L2.atI at h ⊢
  rw [r.length] at h
  cases hj : L2.ixN vs.length i with
  | none => rw [hj] at h; cases h
  | some j => rw [hj] at h; exact r.get h
theorem sq_of {R : RdR} {H : Hp} {a : Addr} {vs : List V} (rb : Rdb K R H) (h : R a (.lst vs)) : SqL K H a vs := .inl ((rb _ _ h rfl).resolve_right fun z => z)
theorem rd_of {R : RdR} {H : Hp} {a : Addr} {vs : List V} (rb : Rdb K R H) (h : R a (.lst vs)) : L2.Rd H a (.lst vs) := (rb _ _ h rfl).resolve_right fun z => z
theorem st_of {R : RdR} {H : Hp} {a : Addr} {vs : List V} (rb : Rdb K R H) (h : R a (.tup vs)) : SqT K H a vs := (rb _ _ h rfl).imp id id
theorem Nw.old {fr : Bool} {R : RdR} {H : Hp} (h : fr = false) : ∀ a o, R a o → Nw fr R H H a o := fun _ _ r => .inl ⟨h, r⟩
theorem atI_mem {xs : List α} {i : Int} {d : α} (h : L2.atI xs i = some d) : d ∈ xs := by
  unfold L2.atI at h
  cases hj : L2.ixN xs.length i with
  | none => rw [hj] at h; cases h
  | some j => rw [hj] at h; exact List.mem_of_getElem? h
theorem o_ixS : Op2 K rIxS tStr tInt tStr getS true := ⟨fun {d e x y R H Q} rb rx ry q => by
  unfold getS at q
  cases hj : L2.atI d e with
  | none => rw [hj] at q; exact q.elim
  | some u =>
    rw [hj] at q
    refine ⟨toS d, e, u, rx.1, ry, by rw [toS_len]; exact rx.2.1, by rw [show (toS d).cps.toList = d from by simp [toS]]; exact hj, q _ _ (Same.refl _) ⟨rfl, (by show 1 ≤ sizeLine; decide), fun c hc => by rw [List.mem_singleton.mp hc]; exact rx.2.2 _ (atI_mem hj)⟩⟩⟩
section
variable {mx : M (List α)} {mi : M Int} {xs : List α} {i : Int} {mt : M Tx} {t : Tx}
theorem ev_ixS (ok : Ok p sc NN VV GG k g) (ha : EvE g L a md tStr mt) (hb : EvE g L b md tInt mi) (hs : PlainIx b := by exact fun _ _ => rfl) : EvE g L (.Subscript a b pos) md' tStr (mt.bind fun xs => mi.bind fun i => getS xs i) := ev_ix (r := rIxS) ok ix_str o_ixS (fun _ _ _ => getS_ne) .fresh ha hb hs
end
theorem ev_lenS {j : Nat} {mx : M Tx} {pp : Pos} (ok : Ok p sc NN VV GG k g) (hG : GG[j]? = some "len") (hmg : p.mg "len" = none) (ha : EvE g L e md tStr mx) (hs : starEach [e] g.X.env = (false, eval e g.X.env) :: starEach [] g.X.env := by rfl) : EvE g L (.Call (.Name "len" pp) [e] [] pos) md' tInt (mx.bind fun xs => .ok (xs.length : Int)) := by
  have h := ev_callB (md' := md') (U := tInt) (A := aCons tStr aNil) (f := fun d => .ok (d.1.length : Int)) (fr := true) (pos := pos) (pp := pp) ok call_len_str ⟨fun {d xs R H Q} rb ⟨v, r, e1, e2, e3⟩ q => by
    subst e1; cases (show r = [] from e3)
    exact ⟨toS d.1, by rw [e2.1], by rw [toS_len]; exact e2.2.1, q _ _ (Same.refl _) (by show _ = V.int _; rw [toS_len])⟩⟩ (fun _ _ h => nomatch h) .fresh hG hmg PySem.boot_len (eva_cons ha eva_nil hs) hs rfl
  have e : (mx.bind fun d => (M.ok ()).bind fun e => M.ok (d, e)).bind (fun d => M.ok (d.1.length : Int)) = mx.bind fun xs => .ok (xs.length : Int) := by cases mx <;> rfl
  rwa [e] at h
def catS (x y : Tx) : M Tx := if x.length + y.length ≤ sizeLine then .ok (x ++ y) else .no
theorem catS_ne {x y : Tx} {c : Ec} : catS x y ≠ .ex c := by unfold catS; split <;> exact fun h => nomatch h
theorem toS_app (x y : Tx) : toS (x ++ y) = toS x ++ toS y := by
  show (⟨(x ++ y).toArray⟩ : Str) = _
  rw [← List.append_toArray]
  rfl
theorem ev_catS {ma mb : M Tx} (ok : Ok p sc NN VV GG k g) (ha : EvE g L a md tStr ma) (hb : EvE g L b md tStr mb) : EvE g L (.BinOp a .Add b pos) md' tStr (ma.bind fun x => mb.bind fun y => catS x y) :=
  ev_op2 (fr := true) ok op_add_str ⟨fun {d e x y R H Q} rb rx ry q => by
    unfold catS at q
    split at q
    · rename_i h
      exact ⟨_, _, rx.1, ry.1, by rw [toS_len, toS_len]; exact h, q _ _ (Same.refl _) ⟨by rw [toS_app], by rw [List.length_append]; exact h, fun c hc => (List.mem_append.mp hc).elim (rx.2.2 c) (ry.2.2 c)⟩⟩
    · exact q.elim⟩ (fun _ _ _ => catS_ne) .fresh ha hb
structure IsT (S : Ty α) (ty : String) : Prop where
  t : ∀ {K d v R H}, Rdb K R H → S.rep d v R → TyX K H v (.type ty)
end
end Hd
namespace Hd
open PySem PySem.Spec L2
section
variable {p : Pr} {sc : Scope} {NN VV GG : List Str} {k : Nat} {g : G} {L L' : List Slot} {a b c e e' : Expr} {es : List Expr} {md md' : Md} {α β γ δ ρ : Type} {S : Ty α} {T : Ty β} {U : Ty γ} {A : Ar δ} {pos : Pos} {K : PySem.W.Frag} {tg : Expr}
theorem RX.tyx {R : RdR} {H : Hp} {a : Addr} {vs : List V} (rb : Rdb K R H) (h : R a (.lst vs)) : TyX K H (.ref a) (.type "list") := by
  rcases rb _ _ h rfl with (h | ⟨o, h⟩) | h
  · exact .base (.lst h)
  · exact .base (.frz h)
  · exact h.elim
theorem RX.tyt {R : RdR} {H : Hp} {a : Addr} {vs : List V} (rb : Rdb K R H) (h : R a (.tup vs)) : TyX K H (.ref a) (.type "tuple") := by
  rcases rb _ _ h rfl with (h | ⟨o, h⟩) | h
  · exact .base (.tup h)
  · exact .fTuple h
  · obtain ⟨o, its, n, h1, h2, _⟩ := (show ∃ (o : Obj) (its : Array Value) (n : Nat), K.lookup a = some o ∧ o.cls = .type "tuple" ∧ o.data = .seq its n ∧ its.size ≤ sizeLine ∧ Vals vs its.toList from h)
    exact .kTuple h1 h2
theorem i_int : IsT tInt "int" := ⟨fun rb h => by cases h; exact .base (.int _)⟩
theorem i_str : IsT tStr "str" := ⟨fun rb h => by cases h.1; exact .base (.str _)⟩
theorem i_list : IsT (tList S) "list" := ⟨fun rb ⟨a, vs, e, h, _⟩ => by subst e; exact RX.tyx rb h⟩
theorem i_tup : IsT (tTup A) "tuple" := ⟨fun rb ⟨a, vs, e, h, _⟩ => by subst e; exact RX.tyt rb h⟩
/-- a built-in class by its name -/
def tTy (n : String) : Ty Unit := ⟨fun _ v _ => v = .ty n, fun h _ => h⟩
theorem ev_ty {j : Nat} {x : Str} {n : String} (ok : Ok p sc NN VV GG k g) (hG : GG[j]? = some x) (hmg : p.mg x = none) (hv : bootBuiltins x = some (.type n)) : EvE g L (.Name x pos) md (tTy n) (.ok ()) := by
  obtain ⟨hg, ho⟩ := ok.gl hG
  obtain ⟨h1, _, h3⟩ := okName_d ho
  exact PE.imp (pe_bltn (v := .ty n) hg (by rw [ok.mg]; exact hmg) hv rfl h3 h1) fun σ H Q ⟨kp, own, at_, q⟩ => q _ H (Same.refl H) rfl
theorem ev_isi {j : Nat} {ty n : String} {r : Bool} {m : M α} {pp : Pos} (ok : Ok p sc NN VV GG k g) (hG : GG[j]? = some "isinstance") (hmg : p.mg "isinstance" = none) (hT : IsT S ty) (hr : kitB ty n = some r) (ha : EvE g L a md S m) (hb : EvE g L b md (tTy n) (.ok ()))
    (hs1 : starEach (a :: [b]) g.X.env = (false, eval a g.X.env) :: starEach [b] g.X.env := by rfl) (hs2 : starEach [b] g.X.env = (false, eval b g.X.env) :: starEach [] g.X.env := by rfl) (hpl : (backTo pos (starEach [b] g.X.env)).any (·.1) = false := by rfl) :
    EvE g L (.Call (.Name "isinstance" pp) [a, b] [] pos) md' tBool (m.bind fun _ => .ok r) := by
  have h := ev_callB (md' := md') (U := tBool) (A := aCons S (aCons (tTy n) aNil)) (f := fun _ => .ok r) (fr := true) (pos := pos) (pp := pp) ok (id := "isinstance") call_isi ⟨fun {d xs R H Q} rb ⟨v, w, e1, h1, v2, w2, e2, h2, e3⟩ q => by
    subst e1; subst e2; cases (show w2 = [] from e3); cases h2
    exact ⟨v, .ty n, .type ty, .type n, r, rfl, .ty n, hT.t (by rw [ok.K]; exact rb) h1, kit_ty hr, q _ _ (Same.refl _) rfl⟩⟩ (fun _ _ h => nomatch h) .fresh hG hmg (by decide +kernel) (eva_cons ha (eva_cons hb eva_nil hs2) hs1) hs1 hpl
  have e : (m.bind fun d => ((M.ok ()).bind fun d => (M.ok ()).bind fun e => M.ok (d, e)).bind fun e => M.ok (d, e)).bind (fun d => M.ok r) = m.bind fun _ => .ok r := by cases m <;> rfl
  rwa [e] at h
theorem evi_str {m : M Tx} (he : EvE g L e md tStr m) : EvI g L tg e tStr (m.bind fun x => .ok (x.map fun c => [c])) := by
  refine PI.imp (pi_str he) fun σ H R ⟨kp, own, at_, q⟩ => ?_
  refine tE_iff.mpr ⟨kp, own, at_, ?_⟩
  cases m with
  | ok xs =>
    rintro v H' s ⟨rfl, hok⟩
    refine ⟨toS xs, rfl, q (Its (toS xs)) H' s fun H2 rb i => ?_⟩
    refine ⟨fun d hd => ?_, fun hn => ?_⟩
    · rw [List.getElem?_map] at hd
      cases hi : xs[i]? with
      | none => rw [hi] at hd; cases hd
      | some c =>
        rw [hi] at hd
        cases hd
        have hlt := (List.getElem?_eq_some_iff.mp hi).1
        refine ⟨by show i < xs.toArray.size; simpa using hlt, fun x H3 ⟨e, c', h1, h2⟩ => ?_⟩
        subst e
        have : c' = c := by
          have h1' : xs.toArray[i]? = some c' := h1
          rw [List.getElem?_toArray, hi] at h1'
          exact (Option.some.inj h1').symm
        subst this
        exact ⟨Same.refl _, h2, by show 1 ≤ sizeLine; decide, fun c2 hc2 => by rw [List.mem_singleton.mp hc2]; exact hok.2 _ (List.mem_of_getElem? hi)⟩
    · rw [List.getElem?_eq_none_iff, List.length_map] at hn
      show xs.toArray.size ≤ i
      simpa using hn
  | ex c => exact q
  | no => exact q
/-- the whole numbers from lo on, n many -/
def upFrom (lo : Int) : Nat → List Int
  | 0 => []
  | n + 1 => lo :: upFrom (lo + 1) n
theorem upFrom_get (n : Nat) : ∀ (lo : Int) (i : Nat), (upFrom lo n)[i]? = if i < n then some (lo + i) else none := by
  induction n with
  | zero => intro lo i; simp [upFrom]
  | succ n ih =>
    intro lo i
    cases i with
    | zero => simp [upFrom]
    | succ i =>
      rw [upFrom, List.getElem?_cons_succ, ih]
      by_cases h : i < n
      · rw [if_pos h, if_pos (by omega)]
        congr 1
        push_cast
        omega
      · rw [if_neg h, if_neg (by omega)]
theorem upFrom_len (n : Nat) : ∀ lo : Int, (upFrom lo n).length = n := by
  induction n with
  | zero => intro lo; rfl
  | succ n ih => intro lo; simp [upFrom, ih]
/-- range(lo, hi) -/
def rangeM (lo hi : Int) : M (List Int) := if -(2 ^ 62) ≤ lo ∧ lo < 2 ^ 62 ∧ -(2 ^ 62) ≤ hi ∧ hi < 2 ^ 62 then .ok (upFrom lo (hi - lo).toNat) else .no
theorem itr_ok {kp : RdR} {lo : Int} {n : Nat} : ItOk K kp (Itr lo n) tInt (upFrom lo n) := fun H rb i => by
  rw [upFrom_get]
  refine ⟨fun d hd => ?_, fun hn => ?_⟩
  · by_cases h : i < n
    · rw [if_pos h] at hd
      cases hd
      exact ⟨h, fun x H' ⟨e, hx⟩ => by subst e; exact ⟨Same.refl _, hx⟩⟩
    · rw [if_neg h] at hd; cases hd
  · by_cases h : i < n
    · rw [if_pos h] at hn; cases hn
    · exact Nat.le_of_not_lt h
theorem evi_range1 {j : Nat} {m : M Int} {pp : Pos} (ok : Ok p sc NN VV GG k g) (hG : GG[j]? = some "range") (hmg : p.mg "range" = none) (ha : EvE g L a md tInt m) (hs : starEach [a] g.X.env = (false, eval a g.X.env) :: starEach [] g.X.env := by rfl) :
    EvI g L tg (.Call (.Name "range" pp) [a] [] pos) tInt (m.bind fun n => rangeM 0 n) := by
  obtain ⟨hg, ho⟩ := ok.gl hG
  refine PI.imp (pi_range1 hg (by rw [ok.mg]; exact hmg) (eva_cons ha eva_nil hs) hs) fun σ H R ⟨kp, own, at_, q⟩ => ?_
  refine tA_iff.mpr ⟨kp, own, at_, ?_⟩
  cases m with
  | ok n =>
    rintro vs H' s ⟨v, r, rfl, rfl, e3⟩
    cases (show r = [] from e3)
    simp only [M.bind_ok] at q
    unfold rangeM at q
    split at q
    · rename_i xs h1
      split at h1
      · rename_i h
        cases h1
        refine ⟨n, rfl, h.2.2.1, h.2.2.2, q _ H' s ?_⟩
        rw [Int.sub_zero]
        exact itr_ok
      · cases h1
    · rename_i h1; split at h1 <;> cases h1
    · exact q.elim
  | ex c => exact q
  | no => exact q
theorem At.mut {fm : Fm} {kp : RdR} {σ : L2.St} {H : Hp} {own : List Addr} {b : Bool} {ds : List α} {i : Nat} (h : At fm kp L σ H own) (hL : L[i]? = some (sOwn b S ds)) :
    ∃ p vs, σ[i]? = some (some (.ref p)) ∧ H p = some (.lst vs) ∧ Reps S (RB fm own H b) ds vs ∧ ∀ ds' vs', Reps S (RB fm own H b) ds' vs' → At fm kp (L.set i (sOwn b S ds')) σ (upd H p (.lst vs')) own := by
  obtain ⟨h1, h2, ⟨Fs, h3, rfl⟩, h4, h5, h6⟩ := h
  obtain ⟨v, F, e1, e2, q, vs, rfl, rfl, hp, r⟩ := h3.get hL
  have qin : q ∈ Fs.flatten := List.mem_flatten.mpr ⟨[q], List.mem_of_getElem? e2, by simp⟩
  refine ⟨q, vs, e1, hp, r, fun ds' vs' r' => ?_⟩
  have key : ∀ (md : Md) a o, RX fm Fs.flatten H H md a o → RX fm Fs.flatten (upd H q (.lst vs')) (upd H q (.lst vs')) md a o ∨ md = .fx := fun md a o z => by
    cases md with
    | sh =>
      rcases z with z | z
      · have n : a ≠ q := fun e => z.2.1 (by rw [e]; exact qin)
        refine .inl (.inl ⟨?_, z.2⟩)
        unfold Rd
        rw [cl_upd_ne n]
        exact z.1
      · exact .inl (.inr z)
    | f0 =>
      have n : a ≠ q := fun e => z.2.1 (by rw [e]; exact qin)
      exact .inl ⟨by rw [cl_upd_ne n]; exact z.1, z.2⟩
    | fx => exact .inr rfl
  have keyB : ∀ (b : Bool) a o, RB fm Fs.flatten H b a o → RB fm Fs.flatten (upd H q (.lst vs')) b a o := fun b a o z => by
    cases b with
    | false => exact (key .sh a o z).resolve_right (fun e => nomatch e)
    | true => exact (key .f0 a o z).resolve_right (fun e => nomatch e)
  have up : ∀ a, H a ≠ none → upd H q (.lst vs') a ≠ none := fun a n => by
    by_cases e : a = q
    · rw [e, upd_same]; exact fun z => by cases z
    · rw [upd_ne e]; exact n
  refine ⟨h1.wr (h5 q qin).2.1 hp (fun _ z => nomatch z) rfl, fun a z => up a (h2 a z), ⟨Fs, ?_, rfl⟩, h4, fun x hx => ⟨up x (h5 x hx).1, (h5 x hx).2⟩, fun a o z => (key .sh a o (h6 a o z)).resolve_right (fun e => nomatch e)⟩
  · -- the slots
    have gen : ∀ {L : List Slot} {σ : L2.St} {Fs' : List (List Addr)}, AllS H (RB fm Fs.flatten H) L σ Fs' → Fs'.flatten.Nodup → ∀ {i : Nat}, Fs'[i]? = some [q] → L[i]? = some (sOwn b S ds) → σ[i]? = some (some (V.ref q)) →
        AllS (upd H q (.lst vs')) (RB fm Fs.flatten (upd H q (.lst vs'))) (L.set i (sOwn b S ds')) σ Fs' := by
      intro L σ Fs' hA
      induction hA with
      | nil => intro _ i e _ _; simp at e
      | @cons sl L v σ F Fs' r t ih =>
        intro nd i e eL eσ
        rw [List.flatten_cons, List.nodup_append] at nd
        cases i with
        | zero =>
          simp at e eL eσ
          subst e; subst eL; subst eσ
          refine .cons ⟨q, vs', rfl, rfl, upd_same, r'.mono (keyB b)⟩ (t.st keyB fun x hx => ?_)
          exact upd_ne fun z => nd.2.2 q (by simp) x hx z.symm
        | succ i =>
          have e' : Fs'[i]? = some [q] := by simpa using e
          refine .cons (sl.st r keyB fun x hx => upd_ne fun z => nd.2.2 x hx q (List.mem_flatten.mpr ⟨[q], List.mem_of_getElem? e', by simp⟩) z) (ih nd.2.1 e' (by simpa using eL) (by simpa using eσ))
    exact gen h3 h4 e2 hL e1
def lim : Nat := sizeLine
def pushM {α : Type} (xs : List α) (d : α) : M (List α) := if xs.length < sizeLine then .ok (xs ++ [d]) else .no
def setM {α : Type} (xs : List α) (i : Int) (d : α) : M (List α) := match L2.ixN xs.length i with | some j => .ok (xs.set j d) | none => .no
variable {st : List Stmt} {D : δ → Out} {i j : Nat} {x : Str}
theorem evb_append {bb : Bool} {ds : List α} {m : M α} {f : List α → M δ} {p1 ap cp : Pos} (ok : OkS p sc NN VV GG k g) (wk : Wk L g.LX) (hN : NN[i]? = some x) (hV : VV[j]? = some x) (hL : L[i]? = some (sOwn bb S ds)) (hb : SlB md bb)
    (he : EvE g L e md S m) (hr : ∀ ds', EvB g (L.set i (sOwn bb S ds')) st D (f ds'))
    (hs : swapsWith (.Call (.Attribute (.Name x p1) "append" ap) [e] [] cp) none pos.line g.X.env = pure false := by rfl)
    (hbase : attributeBase (.Name x p1) "append" g.X.env (eval (.Name x p1) g.X.env) = eval (.Name x p1) g.X.env := by rfl)
    (hfew : ((backTo cp (starEach [e] g.X.env)).all (fun x => !x.1) && (backToKw cp (keywordEach [] g.X.env)).all (fun x => x.1.isSome)
      && decide (([e] : List Expr).length + ([] : List Keyword).length + (if ([] : List Keyword).isEmpty then 0 else 1) < 30)) = true := by rfl)
    (hline : (ap.endLine == cp.line) = true := by rfl) (hst : starEach [e] g.X.env = (false, eval e g.X.env) :: starEach [] g.X.env := by rfl) (hpl : (backTo cp (starEach [] g.X.env)).any (·.1) = false := by rfl) :
    EvB g L (.Expr (.Call (.Attribute (.Name x p1) "append" ap) [e] [] cp) pos :: st) D (m.bind fun d => (pushM ds d).bind f) := by
  obtain ⟨hv, ho⟩ := ok.vis hV
  obtain ⟨h1, h2, _⟩ := okName_d ho
  refine PSs.imp (pss_cons (ps_expr (pe_bm PySem.F.plainAttrs_list PySem.F.slot_list_append PySem.F.type_list_append mt_append (pe_var (i := i) (by rw [ok.N]; exact hN) hv h1 h2) (pa_cons he pa_nil hst) (hbase := hbase) (hfew := hfew) (hline := hline) (hs := hst) (hplain := hpl)) hs) (PSs.ex hr)) fun E σ H ⟨kp, own, at_, q⟩ => ?_
  obtain ⟨p', vs, e1, hp, r, mu⟩ := at_.mut hL
  refine ⟨_, e1, Or.inl ⟨rfl, _, SqL.of hp⟩, tE_iff.mpr ⟨kp, own, at_, ?_⟩⟩
  cases m with
  | ok d =>
    intro v H1 s1 r1
    have a1 := at_.ext s1
    obtain ⟨p2, vs2, e12, hp2, rr2, mu2⟩ := a1.mut hL
    rw [e1] at e12
    cases e12
    have q : BOk g kp E D ((pushM ds d).bind f) := q
    unfold pushM at q
    split at q
    · rename_i hlt
      refine ⟨_, vs2, v, rfl, rfl, hp2, by rw [← rr2.length]; exact hlt, ds ++ [d], kp, own, mu2 _ _ (rr2.append (.cons (S.mono r1 hb.rb) .nil)), q⟩
    · exact q.elim
  | ex c => exact BOk.exx wk at_ q
  | no => exact q
theorem evb_setitem {bb : Bool} {ds : List α} {m : M α} {mi : M Int} {f : List α → M δ} {ix : Expr} {p1 p2 : Pos} (ok : OkS p sc NN VV GG k g) (wk : Wk L g.LX) (hN : NN[i]? = some x) (hV : VV[j]? = some x) (hL : L[i]? = some (sOwn bb S ds)) (hb : SlB md bb)
    (he : EvE g L e md S m) (hi : EvE g L ix md' tInt mi) (hr : ∀ ds', EvB g (L.set i (sOwn bb S ds')) st D (f ds'))
    (hs : swapsWith e (some (.Subscript (.Name x p1) ix p2)) pos.line g.X.env = pure false := by rfl)
    (hsub : ∀ v, assign (.Subscript (.Name x p1) ix p2) g.X.env v = (do
      let ov ← holding [v] (eval (.Name x p1) g.X.env)
      let iv ← holding [v, ov] (eval ix g.X.env)
      standAt p2
      holding [v, ov, iv] (setItem ov iv v)
      release [v, ov, iv] []) := by intro _; rfl)
    (hs' : swapsWithSole [.Subscript (.Name x p1) ix p2] e pos.line g.X.env = pure false := by rfl) (hw : swappedStores [.Subscript (.Name x p1) ix p2] e g.X.env = pure none := by rfl) (ha1 : (assignEach [.Subscript (.Name x p1) ix p2] g.X.env).map (·.2) = [assign (.Subscript (.Name x p1) ix p2) g.X.env] := by rfl) :
    EvB g L (.Assign [.Subscript (.Name x p1) ix p2] e pos :: st) D (m.bind fun d => mi.bind fun i => (setM ds i d).bind f) := by
  obtain ⟨hv, ho⟩ := ok.vis hV
  obtain ⟨h1, h2, _⟩ := okName_d ho
  refine PSs.imp (pss_cons (ps_asg he (pg_sub (pe_var (i := i) (by rw [ok.N]; exact hN) hv h1 h2) hi set_list hsub) hs' hw ha1) (PSs.ex hr)) fun E σ H ⟨kp, own, at_, q⟩ => ?_
  refine tE_iff.mpr ⟨kp, own, at_, ?_⟩
  cases m with
  | ok d =>
    intro v H1 s1 r1
    have a1 := at_.ext s1
    obtain ⟨p', vs, e1, hp, r, mu⟩ := a1.mut hL
    refine ⟨_, e1, tE_iff.mpr ⟨kp, own, a1, ?_⟩⟩
    cases mi with
    | ok n =>
      intro v2 H2 s2 r2
      have a2 := a1.ext s2
      obtain ⟨p2, vs2, e12, hp2, rr2, mu2⟩ := a2.mut hL
      rw [e1] at e12
      cases e12
      have q : BOk g kp E D ((setM ds n d).bind f) := q
      unfold setM at q
      split at q
      · rename_i jj hj
        refine ⟨_, vs2, n, jj, rfl, r2, hp2, by rw [← rr2.length]; exact hj, ds.set jj d, kp, own, mu2 _ _ (rr2.set (S.mono r1 fun a o z => RB.same s2 bb a o (hb.rb a o z)) jj), q⟩
      · exact q.elim
    | ex c => exact BOk.exx wk a1 q
    | no => exact q
  | ex c => exact BOk.exx wk at_ q
  | no => exact q
end
end Hd
namespace Hd
open PySem PySem.Spec L2
section
variable {p : Pr} {sc : Scope} {NN VV GG VV' GG' : List Str} {k : Nat} {g : G} {L L' : List Slot} {a b c e e' : Expr} {es : List Expr} {md md' : Md} {α β γ δ ρ : Type} {S : Ty α} {T : Ty β} {U : Ty γ} {A : Ar δ} {pos : Pos} {K : PySem.W.Frag} {tg : Expr}
def tGs (fm : Fm) (A : Ar δ) (L : List Slot) (Lt : δ → List Slot) : TGs := fun vs σ H Q => ∃ kp own d, At fm kp L σ H own ∧ A.rep d vs (RD fm own H) ∧ ∀ σ' own', At fm kp (Lt d) σ' H own' → (∀ p ∈ own', p ∈ own) → Q σ' H
def EvGs (g : G) (es : List Expr) (A : Ar δ) (L : List Slot) (Lt : δ → List Slot) : Prop := PGs g.X es (tGs g.fm A L Lt)
theorem PGs.imp {X : Cx} {es : List Expr} {t t' : TGs} (h : PGs X es t) (k : ∀ v σ H Q, t' v σ H Q → t v σ H Q) : PGs X es t' := ⟨fun pins s σ H v u Q I r q => h.run pins s σ H v u Q I r (k _ _ _ _ q)⟩
theorem PGs.ex {X : Cx} {ι : Type} {es : List Expr} {t : ι → TGs} (h : ∀ d, PGs X es (t d)) : PGs X es (fun v σ H Q => ∃ d, t d v σ H Q) := ⟨fun pins s σ H v u Q I r ⟨d, q⟩ => (h d).run pins s σ H v u Q I r q⟩
theorem evgs_nil : EvGs g [] aNil L (fun _ => L) := by
  refine PGs.imp pgs_nil fun v σ H Q ⟨kp, own, d, at_, r, q⟩ => ⟨r, q σ own at_ fun _ h => h⟩
theorem evgs_cons {Lt1 : α → List Slot} {Lt2 : α → δ → List Slot} (h1 : EvG g e S L Lt1) (h2 : ∀ d, EvGs g es A (Lt1 d) (Lt2 d)) (hs : (assignEach (e :: es) g.X.env).map (·.2) = assign e g.X.env :: (assignEach es g.X.env).map (·.2) := by rfl) :
    EvGs g (e :: es) (aCons S A) L (fun d => Lt2 d.1 d.2) := by
  refine PGs.imp (pgs_cons h1 (PGs.ex h2) hs) fun vs σ H Q ⟨kp, own, d, at_, ⟨v, r, e1, r1, r2⟩, q⟩ => ?_
  refine ⟨v, r, e1, kp, own, d.1, at_, r1, fun σ' own' a' sub => ⟨d.1, kp, own', d.2, a', A.mono r2 (RX.own (md := .sh) (H := H) sub), fun σ2 own2 a2 sub2 => q σ2 own2 a2 fun p hp => sub p (sub2 p hp)⟩⟩
theorem evg_tup {Lt : δ → List Slot} {n k' : Nat} (ok : Ok p sc NN VV GG k g) (hl : ∀ {d vs R}, A.rep d vs R → vs.length = n) (h : EvGs g es A L Lt)
    (hn : (assignEach es g.X.env).length = n := by rfl) (hst : (assignEach es g.X.env).findIdx? (·.1) = none := by rfl) : EvG g (.Tuple es k' pos) (tTup A) L Lt := by
  refine PG.imp (pg_tup ok.calm h hn hst) fun v σ H Q ⟨kp, own, d, at_, ⟨a, vs, e, hr, rr⟩, q⟩ => ?_
  subst e
  exact ⟨a, vs, rfl, (ok.fmK.trans ok.K.symm) ▸ RX.tup (md := .sh) (H := H) hr, hl rr, kp, own, d, at_, rr, q⟩
theorem len0 {d : Unit} {vs : List V} {R : RdR} (h : aNil.rep d vs R) : vs.length = 0 := by cases (show vs = [] from h); rfl
theorem lenS {n : Nat} (h : ∀ {d vs R}, A.rep d vs R → vs.length = n) {d : α × δ} {vs : List V} {R : RdR} (q : (aCons S A).rep d vs R) : vs.length = n + 1 := by
  obtain ⟨v, r, e, _, h2⟩ := q
  rw [e, List.length_cons, h h2]
variable {st : List Stmt} {D : δ → Out} {i j : Nat} {x : Str}
/-- a, b = e -/
theorem evb_asg {m : M α} {Lt : α → List Slot} {f : α → M δ} (ok : OkS p sc NN VV GG k g) (wk : Wk L g.LX) (he : EvE g L e md S m) (hG : EvG g tg S L Lt) (hr : ∀ d, EvB g (Lt d) st D (f d))
    (hs : swapsWithSole [tg] e pos.line g.X.env = pure false := by rfl) (hw : swappedStores [tg] e g.X.env = pure none := by rfl) (h1 : (assignEach [tg] g.X.env).map (·.2) = [assign tg g.X.env] := by rfl) :
    EvB g L (.Assign [tg] e pos :: st) D (m.bind f) := by
  refine PSs.imp (pss_cons (ps_asg he hG hs hw h1) (PSs.ex hr)) fun E σ H ⟨kp, own, at_, q⟩ => ?_
  refine tE_iff.mpr ⟨kp, own, at_, ?_⟩
  cases m with
  | ok d => exact fun v H' s r => ⟨kp, own, d, at_.ext s, S.mono r RX.sh, fun σ' own' a' _ => ⟨d, kp, own', a', q⟩⟩
  | ex c => exact BOk.exx wk at_ q
  | no => exact q
def compG {α β : Type} (h : α → M (Option β)) : List α → M (List β)
  | [] => .ok []
  | x :: r => (h x).nox.bind fun o => (compG h r).bind fun l => .ok (o.toList ++ l)
def compM {α β : Type} (h : α → M (Option β)) (xs : List α) : M (List β) := if xs.length ≤ sizeLine then compG h xs else .no
theorem lookup_rl {env : Env} {x : Str} : ∀ {names : List (Str × NameKind)} {kd : NameKind}, names.lookup x = some kd →
    (names.map fun (n, k) => if (k == NameKind.free && env.scope.kind == .function && env.kindOf n == some .cell) then (n, NameKind.cell) else (n, k)).lookup x = some kd ∨
      (kd = .free ∧ (names.map fun (n, k) => if (k == NameKind.free && env.scope.kind == .function && env.kindOf n == some .cell) then (n, NameKind.cell) else (n, k)).lookup x = some .cell)
  | [], _, h => by simp at h
  | (n, k') :: r, kd, h => by
    rw [List.lookup_cons] at h
    rw [List.map_cons]
    by_cases e : x == n
    · rw [e] at h
      cases h
      dsimp only
      split
      · rename_i hh
        refine .inr ⟨?_, by rw [List.lookup_cons, e]⟩
        simp only [Bool.and_eq_true, beq_iff_eq] at hh
        exact hh.1.1
      · exact .inl (by rw [List.lookup_cons, e])
    · have e : (x == n) = false := by simpa using e
      rw [e] at h
      dsimp only
      have ih := lookup_rl (env := env) (x := x) (names := r) h
      split <;> (rw [List.lookup_cons, e]; exact ih)
theorem vis_rl {scope : Scope} {env : Env} {x : Str} (h : Vis scope x) : Vis (relabel scope env) x := by
  rcases h with h | h | h <;> rcases lookup_rl (env := env) h with q | ⟨q, q2⟩
  · exact .inl q
  · cases q
  · exact .inr (.inl q)
  · cases q
  · exact .inr (.inr q)
  · exact .inr (.inl q2)
theorem gl_rl {scope : Scope} {env : Env} {x : Str} (h : scope.names.lookup x = some .globalImplicit) : (relabel scope env).names.lookup x = some .globalImplicit := by
  rcases lookup_rl (env := env) h with q | ⟨q, q2⟩
  · exact q
  · cases q
theorem _root_.L2.BlkOk.relab {N : List Str} {sc scope : Scope} {env : Env} {own : List (Str × Nat)} (h : BlkOk N sc scope own) : BlkOk N (relabel sc env) scope own :=
  ⟨h.kind, h.uniq, h.ix, fun y hy e => by
    rcases h.free y hy e with q | q <;> rcases lookup_rl (env := env) q with z | ⟨z, z2⟩
    · exact .inl z
    · cases z
    · exact .inr z
    · exact .inl z2, h.own⟩
/-- where the inner part of a comprehension stands -/
theorem blk_ok (ok : Ok p sc NN VV GG k g) {scope : Scope} {s : Shared} {H : Hp} {C : Addr} {cl : List (Str × Addr)} {fp : List Addr} {fm : Fm} (hK : fm.K = p.K ∧ ∀ P, p.T = some P → LamX.TabS fm.H0 P lamQ) (hv : VV'.all (seenB scope) = true) (hg : GG'.all (glB scope) = true) :
    Ok p scope NN VV' GG' k ⟨g.X.blk s H scope (compEnvC scope cl C g.X.env) fp, fm, fun _ _ _ => False, []⟩ :=
  { prog := ok.prog, w := ok.w, K := ok.K, mg := ok.mg, base := ok.base, N := ok.N, fmK := hK.1, tab := hK.2, room := ok.room, nd := ok.nd
    vis := fun e => let h := seenB_v (List.all_eq_true.mp hv _ (List.mem_of_getElem? e)); ⟨vis_rl h.2, h.1⟩
    gl := fun e => let h := glB_v (List.all_eq_true.mp hg _ (List.mem_of_getElem? e)); ⟨gl_rl h.2, h.1⟩
    tk := Takes.imp takes0 (fun cls d σ H ⟨c, e1, e2, h⟩ => h)
    calm := ok.calm
    blk := fun h => (blkOk_by h).relab }
theorem wipe1 {σ : L2.St} {v : V} : wipe ((wipe σ [i]).set i (some v)) [i] = wipe σ [i] := by
  show ((σ.set i none).set i (some v)).set i none = σ.set i none
  rw [List.set_set, List.set_set]
def NoOwn (s : Slot) : Prop := ∀ {v H R F}, s.ok v H R F → F = []
theorem no_any : NoOwn sAny := fun h => h
theorem At.setN {fm : Fm} {kp : RdR} {σ : L2.St} {H : Hp} {own : List Addr} {s s' : Slot} {v : Option V} (h : At fm kp L σ H own) (hL : L[i]? = some s) (hs : NoOwn s) (r : s'.ok v H (RB fm own H) []) : At fm kp (L.set i s') (σ.set i v) H own := by
  obtain ⟨h1, h2, ⟨Fs, h3, rfl⟩, h4, h5, h6⟩ := h
  obtain ⟨v0, F, e1, e2, r0⟩ := h3.get hL
  have e : (Fs.set i []).flatten = Fs.flatten := set_same_nil (by rw [e2, hs r0])
  exact ⟨h1, h2, ⟨Fs.set i [], h3.set r i, e.symm⟩, h4, h5, h6⟩
theorem PTs.ex {X : Cx} {ι : Type} {ifs : List Expr} {t : ι → TT} (h : ∀ d, PTs X ifs (t d)) : PTs X ifs (fun σ H Q => ∃ d, t d σ H Q) := ⟨fun pins s σ H Q I ⟨d, q⟩ => (h d).run pins s σ H Q I q⟩
theorem PE.ex {X : Cx} {ι : Type} {e : Expr} {t : ι → TE} (h : ∀ d, PE X e (t d)) : PE X e (fun σ H Q => ∃ d, t d σ H Q) := ⟨fun pins s σ H Q I ⟨d, q⟩ => (h d).run pins s σ H Q I q⟩
theorem M.bind_assoc {α β γ : Type} (m : M α) (f : α → M β) (h : β → M γ) : (m.bind f).bind h = m.bind fun x => (f x).bind h := by cases m <;> rfl
theorem PS.imp {X : Cx} {e : Stmt} {t t' : TS} (h : PS X e t) (k : ∀ E σ H, t' E σ H → t E σ H) : PS X e t' := ⟨fun pins s σ H D I q => h.run pins s σ H D I (k _ _ _ q)⟩
/-- [elt for x in it if c] -/
theorem evl_lc2 {scope : Scope} {it elt : Expr} {m : M (List α)} {cm : α → M Bool} {f : α → M β} {tp : Pos} {ifs : List Expr} {s₀ : Slot} (ok : Ok p sc NN VV GG k g) (hI : EvI g L (.Name x tp) it S m) (hN : NN[i]? = some x) (hLi : L[i]? = some s₀) (hs₀ : NoOwn s₀) (hb : blkC NN sc scope [(x, i)] = true)
    (hv : VV'.all (seenB scope) = true) (hg : GG'.all (glB scope) = true) (hx : locB scope x = true)
    (hc : ∀ g', Ok p scope NN VV' GG' k g' → ∀ d, PTs g'.X ifs (tT g'.fm g'.W (L.set i (sV false S d)) (cm d)))
    (he : ∀ g', Ok p scope NN VV' GG' k g' → ∀ d, EvE g' (L.set i (sV false S d)) elt md T (f d)) (hs : ∀ x, foldedSetIterable it g.X.env x = pure x := by intro _; rfl) :
    (EvL g L (.ListComp elt [⟨.Name x tp, it, ifs, 0⟩] scope pos) md T (m.bind fun xs => compM (fun d => (cm d).bind fun c => if c = true then (f d).bind fun y => .ok (some y) else .ok none) xs)) ∧
    (∀ {y : Str} {i2 : Nat} {py spos : Pos}, NN[i2]? = some y → g.X.env.scope.names.lookup y = some .local → swapsWith (.ListComp elt [⟨.Name x tp, it, ifs, 0⟩] scope pos) (some (.Name y py)) spos.line g.X.env = pure true →
      PS g.X (.Assign [.Name y py] (.ListComp elt [⟨.Name x tp, it, ifs, 0⟩] scope pos) spos) (tAsg (tL g.fm g.W L md T (m.bind fun xs => compM (fun d => (cm d).bind fun c => if c = true then (f d).bind fun y => .ok (some y) else .ok none) xs)) (gName i2))) := by
  have loc : ∀ (s : Shared) (H : Hp) (C : Addr) (cl : List (Str × Addr)) (fp : List Addr), L2.Loc (g.X.blk s H scope (compEnvC scope cl C g.X.env) fp).env.scope x ∧ ((g.X.blk s H scope (compEnvC scope cl C g.X.env) fp).fn x = true ∨ (g.X.blk s H scope (compEnvC scope cl C g.X.env) fp).env.scope.names.lookup x = some .local) := by
    intro s H C cl fp
    rcases locB_v hx with h | h
    · have q : (relabel scope g.X.env).names.lookup x = some .local := by
        rcases lookup_rl (env := g.X.env) h with q | ⟨q, _⟩
        · exact q
        · cases q
      exact ⟨.inl q, .inr q⟩
    · have q : (relabel scope g.X.env).names.lookup x = some .cell := by
        rcases lookup_rl (env := g.X.env) h with q | ⟨q, _⟩
        · exact q
        · cases q
      refine ⟨.inr q, .inl ?_⟩
      show (scope.names.lookup x == some .cell) = true
      rw [h]; rfl
  have BODY : ∀ σ H Q, tL g.fm g.W L md T (m.bind fun xs => compM (fun d => (cm d).bind fun c => if c = true then (f d).bind fun y => .ok (some y) else .ok none) xs) σ H Q →
      tLc (tI g.fm g.W L S m) (gName i) (fun σ H Q => ∃ z : {fm' : Fm // fm'.K = p.K ∧ ∀ P, p.T = some P → LamX.TabS fm'.H0 P lamQ} × α, tT z.1.1 (fun _ _ _ => False) (L.set i (sV false S z.2)) (cm z.2) σ H Q)
        (fun σ H Q => ∃ z : {fm' : Fm // fm'.K = p.K ∧ ∀ P, p.T = some P → LamX.TabS fm'.H0 P lamQ} × α, tE z.1.1 (fun _ _ _ => False) (L.set i (sV false S z.2)) md T (f z.2) σ H Q) ([(x, i)].map (·.2)) σ H Q := by
    intro σ H Q q
    obtain ⟨kp, own, at_, q⟩ := tL_iff.mp q
    cases m with
    | ex c => exact ⟨kp, own, at_, q⟩
    | no => exact q.elim
    | ok xs =>
    refine ⟨kp, own, at_, fun J H1 s1 hJ D hD => ?_⟩
    have at1 := at_.ext s1
    have hHD : H D = none := s1.free hD
    -- the inner frame
    let fm' : Fm := ⟨g.fm.K, g.fm.H0, fun a => a = D ∨ g.fm.z a⟩
    let hh : α → M (Option β) := fun d => (cm d).bind fun c => if c = true then (f d).bind fun y => .ok (some y) else .ok none
    have q : FinL g.fm g.W own σ H md T Q (compM hh xs) := q
    unfold compM at q
    split at q
    case isFalse => exact q.elim
    rename_i hlen
    have aw : At g.fm kp (L.set i sAny) (σ.set i none) H1 own := at1.setN hLi hs₀ rfl
    have rdD : ∀ (md : Md) (H0 : Hp) a o, RX g.fm own H0 H1 md a o → RX fm' own H0 (upd H1 D (.lst [])) md a o := fun md H0 a o z => by
      have z2 := RX.add (o' := .lst []) hD a o z
      cases md with
      | sh => exact z2.imp (fun ⟨a1, a2, a3⟩ => ⟨a1, fun y => a2 (List.mem_cons_of_mem _ y), fun y => y.elim (fun e => a2 (by rw [e]; exact List.mem_cons_self)) a3⟩) id
      | f0 => exact ⟨z2.1, fun y => z2.2.1 (List.mem_cons_of_mem _ y), fun y => y.elim (fun e => z2.2.1 (by rw [e]; exact List.mem_cons_self)) z2.2.2.1, z2.2.2.2⟩
      | fx => exact ⟨z2.1, fun y => z2.2.1 (List.mem_cons_of_mem _ y), fun y => y.elim (fun e => z2.2.1 (by rw [e]; exact List.mem_cons_self)) z2.2.2.1, z2.2.2.2⟩
    have a0 : At fm' (RD g.fm own H1) (L.set i sAny) (wipe σ [i]) (upd H1 D (.lst [])) own := by
      obtain ⟨h1, h2, ⟨Fs, h3, e⟩, h4, h5, h6⟩ := aw
      refine ⟨h1.trans (newSame hD), fun a z => ?_, ⟨Fs, h3.st (fun b a o z => ?_) fun y hy => ?_, e⟩, h4, fun y hy => ⟨fun n => (h5 y hy).1 ((newSame hD).free n), (h5 y hy).2.1, fun z => z.elim (fun e => (h5 y hy).1 (by rw [e]; exact hD)) (h5 y hy).2.2⟩, fun a o z => rdD .sh H1 a o z⟩
      · rcases z with z | z
        · rw [z, upd_same]; exact fun n => by cases n
        · exact fun n => h2 a z ((newSame hD).free n)
      · cases b with
        | false => exact rdD .sh H1 a o z
        | true => exact rdD .f0 H1 a o z
      · exact upd_ne fun e' => (h5 y (by rw [e]; exact hy)).1 (by rw [e']; exact hD)
    have upR : ∀ (md : Md) {H5 : Hp} {vs' : List V}, ∀ a o, RX g.fm (D :: own) H H5 md a o → RX g.fm (D :: own) H (upd H5 D (.lst vs')) md a o := fun md {H5 vs'} a o z => by
      have ne : a ∉ D :: own → a ≠ D := fun h e => h (by rw [e]; exact List.mem_cons_self)
      cases md with
      | sh =>
        refine z.imp (fun ⟨a1, a2, a3⟩ => ⟨?_, a2, a3⟩) id
        unfold Rd
        rw [cl_upd_ne (ne a2)]
        exact a1
      | f0 => exact ⟨by rw [cl_upd_ne (ne z.2.1)]; exact z.1, z.2⟩
      | fx => exact ⟨by rw [cl_upd_ne (ne z.2.1)]; exact z.1, z.2⟩
    refine ⟨fun n mm H' => mm = xs.length - n ∧ n ≤ xs.length ∧ ∃ vs ds, H' D = some (.lst vs) ∧ vs.length ≤ n ∧ Same H H' ∧ Reps T (RX g.fm (D :: own) H H' md) ds vs ∧ At fm' (RD g.fm own H1) (L.set i sAny) (wipe σ [i]) H' own ∧
      FinL g.fm g.W own σ H md T Q ((compG hh (xs.drop n)).bind fun l => .ok (ds ++ l)), ⟨_, rfl, Nat.zero_le _, [], [], upd_same, Nat.zero_le _, s1.trans (newSame hD), .nil, a0, ?_⟩, ?_⟩
    · rw [List.drop_zero]
      have e : ((compG hh xs).bind fun l => M.ok ([] ++ l)) = compG hh xs := by cases compG hh xs <;> rfl
      rw [e]; exact q
    rintro n mm H' ⟨rfl, hn, vs, ds, hDv, hvl, sH, rr, a', q'⟩
    have rb : Rdb g.fm.K (RD g.fm own H1) H' := ⟨fun a o z n => (a'.kept a o z).imp (fun h => Rd.raw h.1 n) id⟩
    obtain ⟨hgo, hst⟩ := hJ H' rb n
    by_cases hlt : n < xs.length
    · have hx' : xs[n]? = some xs[n] := by simp [hlt]
      obtain ⟨go, yl⟩ := hgo _ hx'
      refine .inr ⟨go, fun H6 => ∃ vs ds, H6 D = some (.lst vs) ∧ vs.length ≤ n + 1 ∧ Same H H6 ∧ Reps T (RX g.fm (D :: own) H H6 md) ds vs ∧ At fm' (RD g.fm own H1) (L.set i sAny) (wipe σ [i]) H6 own ∧
        FinL g.fm g.W own σ H md T Q ((compG hh (xs.drop (n + 1))).bind fun l => .ok (ds ++ l)), fun H6 z => ⟨xs.length - (n + 1), by omega, rfl, hlt, z⟩, fun y H3 hy => ?_⟩
      obtain ⟨s3, r3⟩ := yl y H3 hy
      have a3 := a'.ext s3
      have ry : S.rep xs[n] y (RD fm' own H3) := S.mono r3 (Nw.rd a' a'.kept s3)
      have hLw : (L.set i sAny)[i]? = some sAny := by
        have hlt' := (List.getElem?_eq_some_iff.mp hLi).1
        rw [List.getElem?_set_self hlt']
      have a4 : At fm' (RD g.fm own H1) (L.set i (sV false S xs[n])) ((wipe σ [i]).set i (some y)) H3 own := by
        have := a3.setN (s' := sV false S xs[n]) (v := some y) hLw no_any ⟨rfl, y, rfl, ry⟩
        rwa [List.set_set] at this
      rw [List.drop_eq_getElem_cons hlt] at q'
      refine ⟨wipe1, ⟨⟨fm', ok.fmK, ok.tab⟩, xs[n]⟩, _, own, a4, ?_⟩
      have q2 : FinL g.fm g.W own σ H md T Q (((hh xs[n]).nox.bind fun o => (compG hh (xs.drop (n + 1))).bind fun l => .ok (o.toList ++ l)).bind fun l => .ok (ds ++ l)) := q'
      cases hcm : cm xs[n] with
      | ex c => rw [show hh xs[n] = .ex c from by show (cm xs[n]).bind _ = _; rw [hcm]; rfl] at q2; exact q2.elim
      | no => rw [show hh xs[n] = .no from by show (cm xs[n]).bind _ = _; rw [hcm]; rfl] at q2; exact q2.elim
      | ok c =>
        intro H4 s4
        cases c with
        | false =>
          rw [show hh xs[n] = .ok none from by show (cm xs[n]).bind _ = _; rw [hcm]; rfl] at q2
          refine (if_neg (by decide)).mpr ?_
          have a5 : At fm' (RD g.fm own H1) (L.set i sAny) (wipe σ [i]) H4 own := a3.ext s4
          refine ⟨vs, ds, s4.keep _ _ (s3.keep _ _ hDv rfl) rfl, Nat.le_succ_of_le hvl, (sH.trans s3).trans s4, rr.mono (RX.same (s3.trans s4)), a5, ?_⟩
          have e : (((M.ok (none : Option β)).nox.bind fun o => (compG hh (xs.drop (n + 1))).bind fun l => M.ok (o.toList ++ l)).bind fun l => M.ok (ds ++ l)) = (compG hh (xs.drop (n + 1))).bind fun l => M.ok (ds ++ l) := by
            cases compG hh (xs.drop (n + 1)) <;> rfl
          rw [e] at q2; exact q2
        | true =>
          refine (if_pos rfl).mpr ⟨⟨⟨fm', ok.fmK, ok.tab⟩, xs[n]⟩, _, own, a4.ext s4, ?_⟩
          cases hf : f xs[n] with
          | ex c => rw [show hh xs[n] = .ex c from by show (cm xs[n]).bind _ = _; rw [hcm]; show (f xs[n]).bind _ = _; rw [hf]; rfl] at q2; exact q2.elim
          | no => rw [show hh xs[n] = .no from by show (cm xs[n]).bind _ = _; rw [hcm]; show (f xs[n]).bind _ = _; rw [hf]; rfl] at q2; exact q2.elim
          | ok w =>
            rw [show hh xs[n] = .ok (some w) from by show (cm xs[n]).bind _ = _; rw [hcm]; show (f xs[n]).bind _ = _; rw [hf]; rfl] at q2
            intro v H5 s5 r5
            have s35 : Same H' H5 := (s3.trans s4).trans s5
            have sHH5 : Same H H5 := sH.trans s35
            have nw : ∀ a o, RX fm' own H4 H5 md a o → RX g.fm (D :: own) H H5 md a o := fun a o z => by
              have nd : ¬ fm'.z a → a ≠ D ∧ ¬ g.fm.z a := fun h => ⟨fun e => h (.inl e), fun e => h (.inr e)⟩
              cases md with
              | sh => exact z.imp (fun ⟨a1, a2, a3⟩ => ⟨a1, fun y => (List.mem_cons.mp y).elim (nd a3).1 a2, (nd a3).2⟩) id
              | f0 => exact ⟨z.1, fun y => (List.mem_cons.mp y).elim (nd z.2.2.1).1 z.2.1, (nd z.2.2.1).2, z.2.2.2⟩
              | fx => exact ⟨z.1, fun y => (List.mem_cons.mp y).elim (nd z.2.2.1).1 z.2.1, (nd z.2.2.1).2, z.2.2.2.1, ((sH.trans s3).trans s4).free z.2.2.2.2⟩
            refine ⟨vs, s35.keep _ _ hDv rfl, by omega, vs ++ [v], ds ++ [w], upd_same, by rw [List.length_append, List.length_singleton]; omega, sHH5.wr hHD (s35.keep _ _ hDv rfl) (fun _ z => nomatch z) rfl, ?_, ?_, ?_⟩
            · exact ((rr.mono (RX.same s35)).append (.cons (T.mono r5 nw) .nil)).mono (upR md)
            · -- the slots at the changed heap
              have a5 : At fm' (RD g.fm own H1) (L.set i sAny) (wipe σ [i]) H5 own := a'.ext s35
              obtain ⟨h1, h2, ⟨Fs, h3, e⟩, h4, h5, h6⟩ := a5
              have ne : ∀ {a : Addr}, ¬ fm'.z a → a ≠ D := fun h e => h (.inl e)
              have k0 : ∀ (md : Md) a o, RX fm' own H5 H5 md a o → md = .fx ∨ RX fm' own (upd H5 D (.lst (vs ++ [v]))) (upd H5 D (.lst (vs ++ [v]))) md a o := fun md a o z => by
                cases md with
                | sh =>
                  refine .inr (z.imp (fun ⟨a1, a2, a3⟩ => ⟨?_, a2, a3⟩) id)
                  unfold Rd
                  rw [cl_upd_ne (ne a3)]
                  exact a1
                | f0 => exact .inr ⟨by rw [cl_upd_ne (ne z.2.2.1)]; exact z.1, z.2⟩
                | fx => exact .inl rfl
              have up : ∀ a, H5 a ≠ none → upd H5 D (.lst (vs ++ [v])) a ≠ none := fun a hne => by
                by_cases e : a = D
                · rw [e, upd_same]; exact fun z => by cases z
                · rw [upd_ne e]; exact hne
              refine ⟨h1.wr (at_.same.free hHD) (s35.keep _ _ hDv rfl) (fun _ z => nomatch z) rfl, fun a z => up a (h2 a z), ⟨Fs, h3.st (fun b a o z => ?_) fun y hy => ?_, e⟩, h4, fun y hy => ⟨up y (h5 y hy).1, (h5 y hy).2⟩, fun a o z => (k0 .sh a o (h6 a o z)).resolve_left fun e => nomatch e⟩
              · cases b with
                | false => exact (k0 .sh a o z).resolve_left fun e => nomatch e
                | true => exact (k0 .f0 a o z).resolve_left fun e => nomatch e
              · exact upd_ne (ne (h5 y (by rw [e]; exact hy)).2.2)
            · have e : (((M.ok (some w)).nox.bind fun o => (compG hh (xs.drop (n + 1))).bind fun l => M.ok (o.toList ++ l)).bind fun l => M.ok (ds ++ l)) = (compG hh (xs.drop (n + 1))).bind fun l => M.ok ((ds ++ [w]) ++ l) := by
                cases compG hh (xs.drop (n + 1)) <;> simp [M.nox, M.bind]
              rw [e] at q2; exact q2
    · have e : n = xs.length := by omega
      subst e
      rw [List.drop_length] at q'
      refine .inl ⟨hst (by simp), ?_⟩
      have q2 : FinL g.fm g.W own σ H md T Q (.ok (ds ++ [])) := q'
      rw [List.append_nil] at q2
      exact q2 D vs H' sH hHD hDv rr
  refine ⟨PE.imp (pe_lc (own := [(x, i)]) ok.calm (by rw [ok.N]; exact ok.nd) hI (by rw [ok.N]; exact ok.blk hb) (fun s H C cl fp => pg_name (i := i) (by show g.X.N.Nodup; rw [ok.N]; exact ok.nd) (by show g.X.N[i]? = _; rw [ok.N]; exact hN) (loc s H C cl fp).1 (loc s H C cl fp).2)
    (fun s H C cl fp => PTs.ex (t := fun (z : {fm' : Fm // fm'.K = p.K ∧ ∀ P, p.T = some P → LamX.TabS fm'.H0 P lamQ} × α) => tT z.1.1 (fun _ _ _ => False) (L.set i (sV false S z.2)) (cm z.2)) fun z => hc ⟨g.X.blk s H scope (compEnvC scope cl C g.X.env) fp, z.1.1, fun _ _ _ => False, []⟩ (blk_ok ok z.1.2 hv hg) z.2) (fun s H C cl fp => PE.ex (t := fun (z : {fm' : Fm // fm'.K = p.K ∧ ∀ P, p.T = some P → LamX.TabS fm'.H0 P lamQ} × α) => tE z.1.1 (fun _ _ _ => False) (L.set i (sV false S z.2)) md T (f z.2)) fun z => he ⟨g.X.blk s H scope (compEnvC scope cl C g.X.env) fp, z.1.1, fun _ _ _ => False, []⟩ (blk_ok ok z.1.2 hv hg) z.2) hs) BODY, fun {y i2 py spos} hy hyl hsw => ?_⟩
  exact PS.imp (ps_setLc (own := [(x, i)]) ok.calm (by rw [ok.N]; exact ok.nd) (by rw [ok.N]; exact hy) hyl hsw hI (by rw [ok.N]; exact ok.blk hb) (fun s H C cl fp => pg_name (i := i) (by show g.X.N.Nodup; rw [ok.N]; exact ok.nd) (by show g.X.N[i]? = _; rw [ok.N]; exact hN) (loc s H C cl fp).1 (loc s H C cl fp).2)
    (fun s H C cl fp => PTs.ex (t := fun (z : {fm' : Fm // fm'.K = p.K ∧ ∀ P, p.T = some P → LamX.TabS fm'.H0 P lamQ} × α) => tT z.1.1 (fun _ _ _ => False) (L.set i (sV false S z.2)) (cm z.2)) fun z => hc ⟨g.X.blk s H scope (compEnvC scope cl C g.X.env) fp, z.1.1, fun _ _ _ => False, []⟩ (blk_ok ok z.1.2 hv hg) z.2) (fun s H C cl fp => PE.ex (t := fun (z : {fm' : Fm // fm'.K = p.K ∧ ∀ P, p.T = some P → LamX.TabS fm'.H0 P lamQ} × α) => tE z.1.1 (fun _ _ _ => False) (L.set i (sV false S z.2)) md T (f z.2)) fun z => he ⟨g.X.blk s H scope (compEnvC scope cl C g.X.env) fp, z.1.1, fun _ _ _ => False, []⟩ (blk_ok ok z.1.2 hv hg) z.2) hs) fun E σ H q => BODY σ H _ q
/-- [elt for x in it if c] -/
theorem evl_lc {scope : Scope} {it elt : Expr} {m : M (List α)} {cm : α → M Bool} {f : α → M β} {tp : Pos} {ifs : List Expr} {s₀ : Slot} (ok : Ok p sc NN VV GG k g) (hI : EvI g L (.Name x tp) it S m) (hN : NN[i]? = some x) (hLi : L[i]? = some s₀) (hs₀ : NoOwn s₀) (hb : blkC NN sc scope [(x, i)] = true)
    (hv : VV'.all (seenB scope) = true) (hg : GG'.all (glB scope) = true) (hx : locB scope x = true)
    (hc : ∀ g', Ok p scope NN VV' GG' k g' → ∀ d, PTs g'.X ifs (tT g'.fm g'.W (L.set i (sV false S d)) (cm d)))
    (he : ∀ g', Ok p scope NN VV' GG' k g' → ∀ d, EvE g' (L.set i (sV false S d)) elt md T (f d)) (hs : ∀ x, foldedSetIterable it g.X.env x = pure x := by intro _; rfl) :
    EvL g L (.ListComp elt [⟨.Name x tp, it, ifs, 0⟩] scope pos) md T (m.bind fun xs => compM (fun d => (cm d).bind fun c => if c = true then (f d).bind fun y => .ok (some y) else .ok none) xs) := (evl_lc2 ok hI hN hLi hs₀ hb hv hg hx hc he hs).1
end
end Hd
namespace Hd
open PySem PySem.Spec L2
section
variable {p : Pr} {sc : Scope} {NN VV GG VV' GG' : List Str} {k : Nat} {g : G} {L L' : List Slot} {a b c e e' : Expr} {es : List Expr} {md md' : Md} {α β γ δ ρ : Type} {S : Ty α} {T : Ty β} {U : Ty γ} {A : Ar δ} {pos : Pos} {K : PySem.W.Frag} {tg : Expr} {i j : Nat} {x : Str}
/-- all slots forgotten -/
theorem wkX {n : Nat} (h : g.LX = List.replicate n sAny) (e : L.length = n) : Wk L g.LX := h ▸ Wk.anys e
theorem ev_gint {i : Int} (ok : Ok p sc NN VV GG k g) (hG : GG[j]? = some x) (h : ∃ t, p.mg x = some (.int i t)) : EvE g L (.Name x pos) md tInt (.ok i) := by
  obtain ⟨t, h⟩ := h
  exact ev_glob (v := .int i) ok hG h ⟨t, rfl⟩ (fun _ => rfl)
theorem ev_b1 {id : String} {r : List V → Hp → VK → Prop} {f : α → M γ} {fr : Bool} {m : M α} {pp : Pos} (ok : Ok p sc NN VV GG k g) (hc : CallR g.X (.builtin id) r)
    (F : ∀ {d v R H Q}, Rdb p.K R H → S.rep d v R → OpEnd U fr R H Q (f d) → r [v] H Q) (hne : ∀ d c, f d ≠ .ex c) (hm : MdOk fr md md')
    (hG : GG[j]? = some x) (hmg : p.mg x = none) (hv : bootBuiltins x = some (.builtin id)) (ha : EvE g L e md S m) (hs : starEach [e] g.X.env = (false, eval e g.X.env) :: starEach [] g.X.env := by rfl) : EvE g L (.Call (.Name x pp) [e] [] pos) md' U (m.bind f) := by
  have h := ev_callB (md' := md') (U := U) (A := aCons S aNil) (f := fun d => f d.1) (fr := fr) (pos := pos) (pp := pp) ok hc ⟨fun {d xs R H Q} rb ⟨v, r, e1, h1, e3⟩ q => by
    subst e1; cases (show r = [] from e3); exact F rb h1 q⟩ (fun d c => hne d.1 c) hm hG hmg hv (eva_cons ha eva_nil hs) hs rfl
  have e : (m.bind fun d => (M.ok ()).bind fun e => M.ok (d, e)).bind (fun d => f d.1) = m.bind f := by cases m <;> rfl
  rwa [e] at h
theorem ev_t1 {id : String} {r : List V → Hp → VK → Prop} {f : α → M γ} {fr : Bool} {m : M α} {pp : Pos} (ok : Ok p sc NN VV GG k g) (hc : CallR g.X (.type id) r)
    (F : ∀ {d v R H Q}, Rdb p.K R H → S.rep d v R → OpEnd U fr R H Q (f d) → r [v] H Q) (hne : ∀ d c, f d ≠ .ex c) (hm : MdOk fr md md')
    (hG : GG[j]? = some x) (hmg : p.mg x = none) (hv : bootBuiltins x = some (.type id)) (ha : EvE g L e md S m) (hs : starEach [e] g.X.env = (false, eval e g.X.env) :: starEach [] g.X.env := by rfl) : EvE g L (.Call (.Name x pp) [e] [] pos) md' U (m.bind f) := by
  have h := ev_callTy (md' := md') (U := U) (A := aCons S aNil) (f := fun d => f d.1) (fr := fr) (pos := pos) (pp := pp) ok hc ⟨fun {d xs R H Q} rb ⟨v, r, e1, h1, e3⟩ q => by
    subst e1; cases (show r = [] from e3); exact F rb h1 q⟩ (fun d c => hne d.1 c) hm hG hmg hv (eva_cons ha eva_nil hs) hs rfl
  have e : (m.bind fun d => (M.ok ()).bind fun e => M.ok (d, e)).bind (fun d => f d.1) = m.bind f := by cases m <;> rfl
  rwa [e] at h
variable {m1 m2 : M Int} {pp : Pos}
def bInt (b : Bool) : Int := if b then 1 else 0
theorem ev_intB {m : M Bool} (ok : Ok p sc NN VV GG k g) (hG : GG[j]? = some "int") (hmg : p.mg "int" = none) (ha : EvE g L a md tBool m) (hs : starEach [a] g.X.env = (false, eval a g.X.env) :: starEach [] g.X.env := by rfl) : EvE g L (.Call (.Name "int" pp) [a] [] pos) md' tInt (m.bind fun x => .ok (bInt x)) :=
  ev_t1 (fr := true) ok call_int1 (fun {d v R H Q} rb h q => .inr ⟨d, by rw [h], q _ _ (Same.refl _) rfl⟩) (fun _ _ h => nomatch h) .fresh hG hmg (by decide +kernel) ha hs
theorem Reps.ints {R : RdR} {ds : List Int} {vs : List V} (r : Reps tInt R ds vs) : vs = ds.map V.int := by
  induction r with
  | nil => rfl
  | cons h _ ih => cases h; rw [ih]; rfl
theorem Reps.bools {R : RdR} {ds : List Bool} {vs : List V} (r : Reps tBool R ds vs) : vs = ds.map V.bl := by
  induction r with
  | nil => rfl
  | cons h _ ih => cases h; rw [ih]; rfl
theorem Reps.strs {R : RdR} {ds : List Tx} {vs : List V} (r : Reps tStr R ds vs) : vs = (ds.map toS).map V.str ∧ ∀ d ∈ ds, OkTx d := by
  induction r with
  | nil => exact ⟨rfl, fun _ h => nomatch h⟩
  | cons h _ ih =>
    obtain ⟨e, h⟩ := h
    subst e
    refine ⟨by rw [ih.1]; rfl, fun d hd => ?_⟩
    rcases List.mem_cons.mp hd with e | hd
    · rw [e]; exact h
    · exact ih.2 d hd
theorem ev_all {m : M (List Bool)} (ok : Ok p sc NN VV GG k g) (hG : GG[j]? = some "all") (hmg : p.mg "all" = none) (ha : EvE g L a md (tList tBool) m) (hs : starEach [a] g.X.env = (false, eval a g.X.env) :: starEach [] g.X.env := by rfl) : EvE g L (.Call (.Name "all" pp) [a] [] pos) md' tBool (m.bind fun x => .ok (x.all id)) :=
  ev_b1 (S := tList tBool) (fr := true) ok (cr_all ok.calm) (fun {d v R H Q} rb ⟨a, vs, e, h, r⟩ q => ⟨a, d, by rw [e], by rw [← r.bools, ok.K]; exact sq_of rb h, q _ _ (Same.refl _) rfl⟩) (fun _ _ h => nomatch h) .fresh hG hmg (by decide +kernel) ha hs
end
end Hd
namespace Hd
open PySem PySem.Spec L2
theorem lstR {X : Cx} {pins : List (Addr × Obj)} {σ : L2.St} {H : Hp} {s : Shared} {l : Addr} {xs : List V} (I : Inv X pins σ H s) (h : L2.Rd H l (.lst xs)) : xs.length ≤ sizeLine ∧ ∃ (its : List Value) (n : Nat), Vals xs its ∧ xs.length = its.length ∧ s.heap.get? l = some { cls := .type "list", data := .seq its.toArray n } := by
  obtain ⟨z, its, n, r, e⟩ := h.ok I.hok
  exact ⟨z, its, n, r, r.length, e⟩
def rCatR : R2 := fun x y H Q => ∃ l b xs zs, x = .ref l ∧ y = .ref b ∧ L2.Rd H l (.lst xs) ∧ L2.Rd H b (.lst zs) ∧ xs.length + zs.length ≤ sizeLine ∧ ∀ p, H p = none → Q (.ref p) (upd H p (.lst (xs ++ zs)))
theorem op_catR {X : Cx} : OpR X (binaryOp .Add) rCatR := by
  intro pins s σ H x y v u Q I rx ry h
  obtain ⟨l, b, xs, zs, rfl, rfl, hH, hB, hz, q⟩ := h
  cases rx
  cases ry
  obtain ⟨z, its, n, r, hl, e⟩ := lstR I hH
  obtain ⟨z2, its2, n2, r2, hl2, e2⟩ := lstR I hB
  refine PySem.P.add_list e e2 ?_ (by rw [List.size_toArray, List.size_toArray]; omega)
  have ea : its.toArray ++ its2.toArray = (its ++ its2).toArray := by simp
  rw [ea]
  exact ⟨.ref _, _, I.lnew (t' := s.toks) (r.append r2) (by rw [List.length_append]; omega), rfl, q _ I.fresh⟩
section
variable {p : Pr} {sc : Scope} {NN VV GG VV' GG' : List Str} {k : Nat} {g : G} {L L' : List Slot} {a b c e e' : Expr} {es : List Expr} {md md' : Md} {α β γ δ ρ : Type} {S : Ty α} {T : Ty β} {U : Ty γ} {A : Ar δ} {pos : Pos} {K : PySem.W.Frag} {tg : Expr} {i j : Nat} {x : Str}
theorem ev_sm1 {id : String} {name : Str} {r : V → List V → Hp → VK → Prop} {f : Tx → β → M γ} {m1 : M Tx} {m2 : M β} {apos : Pos} (ok : Ok p sc NN VV GG k g) (slot : PySem.Slot "str" name id) (hty : typeOf (.builtin id) = pure (.type "method_descriptor")) (hmt : MtR g.X id r)
    (F : ∀ {d e y R H Q}, Rdb p.K R H → OkTx d → T.rep e y R → OpEnd U true R H Q (f d e) → r (.str (toS d)) [y] H Q) (hne : ∀ d e c, f d e ≠ .ex c) (ha : EvE g L a md tStr m1) (hb : EvE g L b md T m2)
    (hs : starEach [b] g.X.env = [(false, eval b g.X.env)] := by rfl) (hbase : attributeBase a name g.X.env (eval a g.X.env) = eval a g.X.env := by rfl) (hline : (apos.endLine == pos.line) = true := by rfl) :
    EvE g L (.Call (.Attribute a name apos) [b] [] pos) md' U (m1.bind fun d => m2.bind fun e => f d e) := by
  refine PE.imp (pe_m1 slot hty hmt ha hb hs hbase hline) fun σ H Q q => ?_
  obtain ⟨kp, own, at_, q⟩ := tE_iff.mp q
  refine sub finE (Same.refl H) at_ q fun d x H1 s1 r1 at1 q1 => ⟨⟨_, r1.1⟩, sub finE s1 at1 q1 fun e y H2 s2 r2 at2 q2 => ?_⟩
  rw [r1.1]
  rw [← ok.fmK] at F
  exact F (R := RX g.fm own H H2 md) RX.rdb r1.2 r2 (q2.fin (MdOk.fresh : MdOk true md md') (s1.trans s2) at2 (hne d e))
/-- sep.join(xs) -/
def joinM (s : Tx) (xs : List Tx) : M Tx := if (xs.map List.length).sum + xs.length * s.length ≤ 16777216 then .ok (TL.joinL s xs) else .no
theorem joinM_ne {s : Tx} {xs : List Tx} {c : Ec} : joinM s xs ≠ .ex c := by unfold joinM; split <;> exact fun h => nomatch h
theorem joinL_len (s : Tx) : ∀ xs : List Tx, (TL.joinL s xs).length ≤ (xs.map List.length).sum + xs.length * s.length
  | [] => by simp [TL.joinL]
  | [x] => by simp [TL.joinL]
  | x :: y :: r => by
    have := joinL_len s (y :: r)
    simp only [TL.joinL, List.length_append, List.map_cons, List.sum_cons, List.length_cons] at this ⊢
    rw [Nat.add_mul, Nat.add_mul] at *
    omega
theorem joinL_mem (s : Tx) {c : Nat} : ∀ xs : List Tx, c ∈ TL.joinL s xs → c ∈ s ∨ ∃ x ∈ xs, c ∈ x
  | [], h => nomatch h
  | [x], h => .inr ⟨x, List.mem_cons_self, h⟩
  | x :: y :: r, h => by
    simp only [TL.joinL, List.mem_append] at h
    rcases h with h | h | h
    · exact .inr ⟨x, List.mem_cons_self, h⟩
    · exact .inl h
    · rcases joinL_mem s (y :: r) h with h | ⟨z, hz, h⟩
      · exact .inl h
      · exact .inr ⟨z, List.mem_cons_of_mem _ hz, h⟩
theorem tl_toS (x : Tx) : TL.tl (toS x) = x := by simp [TL.tl, toS]
theorem ev_join {m1 : M Tx} {m2 : M (List Tx)} {apos : Pos} (ok : Ok p sc NN VV GG k g) (ha : EvE g L a md tStr m1) (hb : EvE g L b md (tList tStr) m2)
    (hs : starEach [b] g.X.env = [(false, eval b g.X.env)] := by rfl) (hbase : attributeBase a "join" g.X.env (eval a g.X.env) = eval a g.X.env := by rfl) (hline : (apos.endLine == pos.line) = true := by rfl) :
    EvE g L (.Call (.Attribute a "join" apos) [b] [] pos) md' tStr (m1.bind fun s => m2.bind fun xs => joinM s xs) :=
  ev_sm1 (T := tList tStr) ok PySem.F.slot_str_join PySem.F.type_str_join mt_join (fun {d e y R H Q} rb hd ⟨a, vs, ey, h, r⟩ q => by
    obtain ⟨ev, ho⟩ := r.strs
    unfold joinM at q
    split at q
    · rename_i hz
      refine ⟨toS d, a, e.map toS, rfl, by rw [ey], .inl (by rw [← ev, ok.K]; exact sq_of rb h), ?_, ?_⟩
      · rw [List.map_map, show (fun x : Str => x.length) ∘ toS = List.length from funext toS_len, List.length_map, toS_len]; exact hz
      · refine q _ _ (Same.refl _) ⟨?_, Nat.le_trans (joinL_len d e) (Nat.le_trans hz (by decide)), fun c hc => ?_⟩
        · show V.str _ = V.str _
          congr 1
          rw [TL.join_eq]
          refine TL.ext_tl ?_
          rw [TL.tl_join, tl_toS, tl_toS, List.map_map, show TL.tl ∘ toS = id from funext tl_toS, List.map_id]
        · rcases joinL_mem d e hc with h | ⟨z, hz, h⟩
          · exact hd.2 c h
          · exact (ho z hz).2 c h
    · exact q.elim) (fun _ _ _ => joinM_ne) ha hb hs hbase hline
def tO (fm : Fm) (W : Wx) (L : List Slot) (m : M (Option Int)) : TO := fun σ H Q => ∃ kp own, At fm kp L σ H own ∧
  match m with
  | .ok d => ∀ H', Same H H' → Q d H'
  | .ex c => ∀ H', Same H H' → W c σ H'
  | .no => False
def EvO (g : G) (L : List Slot) (e : Option Expr) (m : M (Option Int)) : Prop := PO g.X e (tO g.fm g.W L m)
theorem PO.imp {X : Cx} {e : Option Expr} {t t' : TO} (h : PO X e t) (k : ∀ σ H Q, t' σ H Q → t σ H Q) : PO X e t' := ⟨fun pins s σ H Q I q => h.run pins s σ H Q I (k _ _ _ q)⟩
theorem evo_none : EvO g L none (.ok none) := PO.imp po_none fun σ H Q ⟨kp, own, at_, q⟩ => q H (Same.refl H)
theorem evo_some {m : M Int} (h : EvE g L e md tInt m) : EvO g L (some e) (m.bind fun i => .ok (some i)) := PO.imp (po_some h) fun σ H Q q => by
  cases m with
  | ok d => obtain ⟨kp, own, at_, q⟩ := q; exact ⟨kp, own, at_, fun v H' s r => ⟨d, r, q H' s⟩⟩
  | ex c => exact q
  | no => exact q
def FinO (W : Wx) (σ : L2.St) (H : Hp) (Q : Option Int → Hp → Prop) : M (Option Int) → Prop
  | .ok d => ∀ H', Same H H' → Q d H'
  | .ex c => ∀ H', Same H H' → W c σ H'
  | .no => False
theorem tO_iff {fm : Fm} {W : Wx} {m : M (Option Int)} {σ : L2.St} {H : Hp} {Q : Option Int → Hp → Prop} : tO fm W L m σ H Q ↔ ∃ kp own, At fm kp L σ H own ∧ FinO W σ H Q m := by
  cases m <;> exact Iff.rfl
theorem subO {fm : Fm} {W : Wx} {kp : RdR} {own : List Addr} {σ : L2.St} {H0 H : Hp} {F : M β → Prop} {m : M (Option Int)} {f : Option Int → M β} {K : Option Int → Hp → Prop} (hF : Fin W σ H0 F) (s0 : Same H0 H) (at_ : At fm kp L σ H own) (q : F (m.bind f))
    (h : ∀ d H1, Same H H1 → At fm kp L σ H1 own → F (f d) → K d H1) : tO fm W L m σ H K := by
  refine tO_iff.mpr ⟨kp, own, at_, ?_⟩
  cases m with
  | ok d => exact fun H1 s => h d H1 s (at_.ext s) q
  | ex c => exact fun H' s => hF.ex q H' (s0.trans s)
  | no => exact hF.no q
def cutL {α : Type} (xs : List α) (lo hi : Option Int) : List α := (xs.drop (HT.sIx xs.length 0 lo)).take (HT.sIx xs.length xs.length hi - HT.sIx xs.length 0 lo)
theorem Reps.cut {R : RdR} {ds : List α} {vs : List V} (h : Reps S R ds vs) (lo hi : Option Int) : Reps S R (cutL ds lo hi) (L2.cutV vs lo hi) := by
  unfold cutL L2.cutV
  rw [h.length]
  exact (h.drop _).take _
variable {lo hi : Option Expr} {ml mh : M (Option Int)} {p2 : Pos}
def repM {α : Type} (xs : List α) (n : Int) : M (List α) := if -(2 ^ 63) ≤ n ∧ n < 2 ^ 63 ∧ xs.length * n.toNat ≤ sizeLine then .ok (List.replicate n.toNat xs).flatten else .no
theorem Reps.rep {R : RdR} {ds : List α} {vs : List V} (h : Reps S R ds vs) : ∀ n : Nat, Reps S R (List.replicate n ds).flatten (List.replicate n vs).flatten
  | 0 => .nil
  | n + 1 => by rw [List.replicate_succ, List.flatten_cons, List.replicate_succ, List.flatten_cons]; exact h.append (Reps.rep h n)
/-- xs * n: xs just made -/
theorem evl_rep {m : M (List α)} {mn : M Int} (ok : Ok p sc NN VV GG k g) (ha : EvL g L a md S m) (hb : EvE g L b md tInt mn) : EvL g L (.BinOp a .Mult b pos) md S (m.bind fun x => mn.bind fun n => repM x n) := by
  refine PE.imp (pe_op op_rep ha hb) fun σ H Q q => ?_
  obtain ⟨kp, own, at_, q⟩ := tL_iff.mp q
  refine tL_iff.mpr ⟨kp, own, at_, ?_⟩
  cases m with
  | ex c => exact q
  | no => exact q.elim
  | ok xs =>
  intro q1 vs H1 s1 n1 h1 r1
  have at1 := at_.ext s1
  have q' : FinL g.fm g.W own σ H md S Q (mn.bind fun n => repM xs n) := q
  refine sub finL s1 at1 q' fun n y H2 s2 r2 at2 q2 => ?_
  have q2 : FinL g.fm g.W own σ H md S Q (repM xs n) := q2
  unfold repM at q2
  split at q2
  · rename_i hz
    refine ⟨q1, n, vs, rfl, r2, s2.keep _ _ h1 rfl, hz.1, hz.2.1, by rw [← r1.length]; exact hz.2.2, fun z hz => q2 z _ _ ((s1.trans s2).trans (newSame hz)) ((s1.trans s2).free hz) upd_same ?_⟩
    exact ((r1.mono fun a o w => RX.same s2 a o (RX.drop1 a o w)).rep _).mono (RX.add hz)
  · exact q2.elim
/-- xs + ys -/
def catL {α : Type} (xs ys : List α) : M (List α) := if xs.length + ys.length ≤ sizeLine then .ok (xs ++ ys) else .no
theorem evl_cat {m1 m2 : M (List α)} (ok : Ok p sc NN VV GG k g) (ha : EvE g L a md (tList S) m1) (hb : EvE g L b md (tList S) m2) : EvL g L (.BinOp a .Add b pos) md S (m1.bind fun x => m2.bind fun y => catL x y) := by
  refine PE.imp (pe_op op_catR ha hb) fun σ H Q q => ?_
  obtain ⟨kp, own, at_, q⟩ := tL_iff.mp q
  refine sub finL (Same.refl H) at_ q fun d x H1 s1 r1 at1 q1 => sub finL s1 at1 q1 fun e y H2 s2 r2 at2 q2 => ?_
  obtain ⟨a1, vs1, rfl, h1, rr1⟩ := r1
  obtain ⟨a2, vs2, rfl, h2, rr2⟩ := r2
  unfold catL at q2
  split at q2
  · rename_i hz
    have rb : Rdb g.fm.K (RX g.fm own H H2 md) H2 := RX.rdb
    refine ⟨a1, a2, vs1, vs2, rfl, rfl, rd_of rb (RX.same s2 _ _ h1), rd_of rb h2, by rw [← rr1.length, ← rr2.length]; exact hz, fun z hz => q2 z _ _ ((s1.trans s2).trans (newSame hz)) ((s1.trans s2).free hz) upd_same ?_⟩
    exact ((rr1.mono (RX.same s2)).append rr2).mono (RX.add hz)
  · exact q2.elim
structure FlatV (S : Ty α) : Prop where
  fl : ∀ {d v R}, S.rep d v R → flatV v = true
  eq : ∀ {d e v w R R'}, S.rep d v R → S.rep e w R' → (eqV v w = true ↔ d = e)
theorem f_int : FlatV tInt := ⟨fun h => by cases h; rfl, fun h1 h2 => by cases h1; cases h2; exact beq_iff_eq⟩
theorem Reps.allFlat {R : RdR} {ds : List α} {vs : List V} (hf : FlatV S) (h : Reps S R ds vs) : vs.all flatV = true := by
  induction h with
  | nil => rfl
  | cons r _ ih => rw [List.all_cons, hf.fl r, ih]; rfl
inductive ArAt : {δ α : Type} → Ar δ → Int → Ty α → (δ → α) → Prop where
  | z {α δ : Type} {T : Ty α} {A : Ar δ} : ArAt (aCons T A) 0 T (fun d => d.1)
  | s {α β δ : Type} {T : Ty α} {S : Ty β} {A : Ar δ} {n : Int} {f : δ → α} : ArAt A n T f → ArAt (aCons S A) (n + 1) T (fun d => f d.2)
theorem ArAt.nat {n : Int} {f : δ → α} (h : ArAt A n S f) : 0 ≤ n := by
  induction h with
  | z => omega
  | s _ ih => omega
theorem ArAt.get {n : Int} {f : δ → α} (h : ArAt A n S f) : ∀ {d : δ} {vs : List V} {R : RdR}, A.rep d vs R → ∃ v, vs[n.toNat]? = some v ∧ S.rep (f d) v R := by
  induction h with
  | z => intro d vs R ⟨v, r, e, h1, h2⟩; subst e; exact ⟨v, rfl, h1⟩
  | s h ih =>
    intro d vs R ⟨v, r, e, h1, h2⟩
    subst e
    obtain ⟨w, h3, h4⟩ := ih h2
    have := h.nat
    refine ⟨w, ?_, h4⟩
    rename_i n _
    rw [show (n + 1).toNat = n.toNat + 1 by omega, List.getElem?_cons_succ]
    exact h3
theorem ev_ixA {n : Int} {f : δ → α} {m : M δ} (ok : Ok p sc NN VV GG k g) (hA : ArAt A n S f) (ha : EvE g L a md (tTup A) m) (hb : EvE g L b md tInt (.ok n)) (hs : PlainIx b := by exact fun _ _ => rfl) : EvE g L (.Subscript a b pos) md S (m.bind fun t => .ok (f t)) :=
  ev_ix (S := tTup A) (r := rIxT p.K) (m2 := .ok ()) (f := fun t _ => .ok (f t)) (T := tLit n) (fr := false) ok (by rw [← ok.K]; exact ix_tup) ⟨fun {d e x y R H Q} rb ⟨a, vs, ex, h, r⟩ ry q => by
    obtain ⟨v, h1, h2⟩ := hA.get r
    refine ⟨a, vs, n, v, ex, ry, st_of rb h, ?_, q _ _ (Same.refl _) (S.mono h2 (Nw.old rfl))⟩
    have := atI_nat (xs := vs) (j := n.toNat) h1
    rwa [Int.toNat_of_nonneg hA.nat] at this⟩ (fun _ _ _ h => nomatch h) .same ha (ev_lit hb) hs
variable {st : List Stmt} {D : δ → Out} {d : δ}
/-- if c: raise X("..") -/
theorem evb_ifr {mc : M Bool} {m2 : M δ} {y : Str} {ec : Ec} {jj : Nat} {msg : Str} {q1 q2 q3 q4 : Pos} (ok : OkS p sc NN VV GG k g) (wk : Wk L g.LX) (X : ExF p y ec) (hG : GG[j]? = some y) (hc : EvT g L c mc) (hr : EvB g L st D m2) :
    EvB g L (.If c [.Raise (some (.Call (.Name y q1) [.Constant (.str msg) jj q2] [] q3)) none q4] [] pos :: st) D (mc.bind fun c => if c = true then .ex ec else m2) := by
  refine PSs.imp (pss_cons (ps_if hc (evb_raise (D := fun _ : Unit => Out.bad) (st := []) (pos := q4) (msg := msg) (jj := jj) (pp := q1) (p2 := q2) (p3 := q3) ok wk X hG) pss_nil) hr) fun E σ H ⟨kp, own, at_, q⟩ => ?_
  cases mc with
  | ok c =>
    refine ⟨kp, own, at_, fun H1 s => ?_⟩
    cases c with
    | true => exact ⟨kp, own, at_.ext s, q⟩
    | false => exact ⟨kp, own, at_.ext s, q⟩
  | ex c => exact ⟨kp, own, at_, BOk.exx wk at_ q⟩
  | no => exact q.elim
end
end Hd
namespace Hd
open PySem PySem.Spec L2
section
variable {p : Pr} {sc : Scope} {NN VV GG VV' GG' : List Str} {k : Nat} {g : G} {L L' : List Slot} {a b c e e' : Expr} {es : List Expr} {md md' : Md} {α β γ δ ρ : Type} {S : Ty α} {T : Ty β} {U : Ty γ} {A : Ar δ} {pos : Pos} {K : PySem.W.Frag} {tg : Expr} {i j : Nat} {x : Str}
/-- a list of the written part -/
def KList (K : PySem.W.Frag) (a : Addr) (xs : List V) : Prop := ∃ (o : Obj) (its : Array Value) (n : Nat), K.lookup a = some o ∧ o.cls = .type "list" ∧ o.dict = none ∧ o.data = .seq its n ∧ its.size ≤ sizeLine ∧ Vals xs its.toList
/-- a list that is but read -/
def tListK {α : Type} (K : PySem.W.Frag) (T : Ty α) : Ty (List α) := ⟨fun ds v R => ∃ a vs, v = .ref a ∧ (R a (.lst vs) ∨ KList K a vs) ∧ Reps T R ds vs, fun ⟨a, vs, e, r, h⟩ s => ⟨a, vs, e, r.imp (s _ _) id, h.mono s⟩⟩
structure IsSq (K : PySem.W.Frag) (Q : Ty (List α)) (S : Ty α) : Prop where
  sq : ∀ {d v R H}, Rdb K R H → Q.rep d v R → ∃ a vs, v = .ref a ∧ SqL K H a vs ∧ Reps S R d vs
theorem sq_l : IsSq K (tList S) S := ⟨fun rb ⟨a, vs, e, h, r⟩ => ⟨a, vs, e, sq_of rb h, r⟩⟩
theorem sq_k : IsSq K (tListK K S) S := ⟨fun rb ⟨a, vs, e, h, r⟩ => ⟨a, vs, e, h.elim (sq_of rb) .inr, r⟩⟩
variable {Q : Ty (List α)}
theorem ev_ixQ {mx : M (List α)} {mi : M Int} (ok : Ok p sc NN VV GG k g) (hq : IsSq p.K Q S) (ha : EvE g L a md Q mx) (hb : EvE g L b md tInt mi) (hs : PlainIx b := by exact fun _ _ => rfl) : EvE g L (.Subscript a b pos) md S (mx.bind fun xs => mi.bind fun i => getM xs i) :=
  ev_ix (S := Q) (r := rIxL p.K) (fr := false) ok (by rw [← ok.K]; exact ix_list) ⟨fun {d e x y R H W} rb rx ry q => by
    obtain ⟨a, vs, ex, h, r⟩ := hq.sq rb rx
    unfold getM at q
    cases hj : L2.atI d e with
    | none => rw [hj] at q; exact q.elim
    | some u =>
      rw [hj] at q
      obtain ⟨v, h1, h2⟩ := r.at hj
      exact ⟨a, vs, e, v, ex, ry, h, h1, q _ _ (Same.refl _) (S.mono h2 (Nw.old rfl))⟩⟩ (fun _ _ _ => getM_ne) .same ha hb hs
theorem ev_lenQ {mx : M (List α)} {pp : Pos} (ok : Ok p sc NN VV GG k g) (hq : IsSq p.K Q S) (hG : GG[j]? = some "len") (hmg : p.mg "len" = none) (ha : EvE g L e md Q mx) (hs : starEach [e] g.X.env = (false, eval e g.X.env) :: starEach [] g.X.env := by rfl) : EvE g L (.Call (.Name "len" pp) [e] [] pos) md' tInt (mx.bind fun xs => .ok (xs.length : Int)) :=
  ev_b1 (S := Q) (fr := true) ok call_len_seq (fun {d v R H W} rb h q => by
    obtain ⟨a, vs, e, hs, r⟩ := hq.sq rb h
    exact ⟨a, vs, by rw [e], .inl (by rw [ok.K]; exact hs), q _ _ (Same.refl _) (by show _ = V.int _; rw [r.length])⟩) (fun _ _ h => nomatch h) .fresh hG hmg PySem.boot_len ha hs
theorem evi_seq {m : M (List α)} (ok : Ok p sc NN VV GG k g) (hq : IsSq p.K Q S) (he : EvE g L e md Q m) : EvI g L tg e S m := by
  refine PI.imp (pi_list he) fun σ H R ⟨kp, own, at_, q⟩ => ?_
  refine tE_iff.mpr ⟨kp, own, at_, ?_⟩
  cases m with
  | ok xs =>
    intro v H' s rx
    have rx' : Q.rep xs v (RD g.fm own H') := Q.mono rx RX.sh
    have rb0 : Rdb p.K (RD g.fm own H') H' := by rw [← ok.fmK]; exact RD.rdb
    obtain ⟨a, vs, rfl, h, r⟩ := hq.sq rb0 rx'
    refine ⟨a, rfl, ⟨vs, by rw [ok.K]; exact h⟩, ?_⟩
    rw [show Itl g.X.K a = Itl g.fm.K a from by rw [ok.K, ok.fmK]]
    refine q (Itl g.fm.K a) H' s fun H2 rb i => ?_
    obtain ⟨a', vs', e', hs, r2⟩ := hq.sq (by rw [← ok.fmK]; exact rb) rx'
    cases e'
    rw [← ok.fmK] at hs
    refine ⟨fun d hd => ?_, fun hn => ⟨vs', hs, ?_⟩⟩
    · obtain ⟨v, h1, h2⟩ := r2.get hd
      refine ⟨⟨vs', v, hs, h1⟩, fun x H3 ⟨e, hx⟩ => ?_⟩
      subst e
      have := hx vs' hs
      rw [h1] at this
      cases this
      exact ⟨Same.refl _, S.mono h2 fun a o z => .inl ⟨rfl, z⟩⟩
    · rw [List.getElem?_eq_none_iff, r2.length] at hn
      exact hn
  | ex c => exact q
  | no => exact q
variable {lo hi : Option Expr} {ml mh : M (Option Int)} {p2 : Pos}
theorem evl_slQ {m : M (List α)} (ok : Ok p sc NN VV GG k g) (hq : IsSq p.K Q S) (ha : EvE g L a md Q m) (hl : EvO g L lo ml) (hh : EvO g L hi mh) : EvL g L (.Subscript a (.Slice lo hi none p2) pos) md S (m.bind fun x => ml.bind fun l => mh.bind fun h => .ok (cutL x l h)) := by
  refine PE.imp (pe_slice sl_list ha hl hh) fun σ H W q => ?_
  obtain ⟨kp, own, at_, q⟩ := tL_iff.mp q
  refine sub finL (Same.refl H) at_ q fun d x H1 s1 r1 at1 q1 => subO finL s1 at1 q1 fun l H2 s2 at2 q2 => subO finL (s1.trans s2) at2 q2 fun h H3 s3 at3 q3 => ?_
  have r3 : Q.rep d x (RX g.fm own H H3 md) := Q.mono r1 (RX.same (s2.trans s3))
  obtain ⟨ad, vs, e, h3, rr⟩ := hq.sq (by rw [← ok.fmK]; exact RX.rdb) r3
  refine ⟨ad, vs, e, by rw [ok.K]; exact h3, fun z hz => q3 z (L2.cutV vs l h) _ (((s1.trans s2).trans s3).trans (newSame hz)) (((s1.trans s2).trans s3).free hz) upd_same ?_⟩
  exact (rr.cut l h).mono (RX.add hz)
theorem evl_copyQ {mx : M (List α)} {pp : Pos} (ok : Ok p sc NN VV GG k g) (hq : IsSq p.K Q S) (hG : GG[j]? = some "list") (hmg : p.mg "list" = none) (ha : EvE g L e md Q mx) (hs : starEach [e] g.X.env = (false, eval e g.X.env) :: starEach [] g.X.env := by rfl) : EvL g L (.Call (.Name "list" pp) [e] [] pos) md S mx := by
  obtain ⟨hg, ho⟩ := ok.gl hG
  obtain ⟨h1, _, h3⟩ := okName_d ho
  refine PE.imp (pe_callTy call_list_of hg (by rw [ok.mg]; exact hmg) (by decide +kernel) (eva_cons ha eva_nil hs) h3 h1 hs rfl) fun σ H W q => ?_
  obtain ⟨kp, own, at_, q⟩ := tL_iff.mp q
  refine tA_iff.mpr ⟨kp, own, at_, ?_⟩
  cases mx with
  | ok d =>
    rintro vs H1 s1 ⟨v, r, rfl, rx, e3⟩
    cases (show r = [] from e3)
    obtain ⟨a, ws, rfl, h, rr⟩ := hq.sq (by rw [← ok.fmK]; exact RX.rdb) rx
    exact ⟨a, ws, rfl, .inl (by rw [ok.K]; exact h), fun l hl => q l ws _ (s1.trans (newSame hl)) (s1.free hl) upd_same (rr.mono (RX.add hl))⟩
  | ex c => exact q
  | no => exact q
theorem evpts_nil : PTs g.X [] (tT g.fm g.W L (.ok true)) := ⟨fun pins s σ H Q I ⟨kp, own, at_, q⟩ => pts_nil.run pins s σ H Q I (q H (Same.refl H))⟩
theorem evpts_one {m : M Bool} (h : EvT g L c m) : PTs g.X [c] (tT g.fm g.W L m) := pts_one h
variable {st : List Stmt} {D : δ → Out} {d : δ}
end
end Hd
namespace Hd
open PySem PySem.Spec L2
theorem M.bok {α β : Type} (a : α) (f : α → M β) : M.bind (.ok a) f = f a := by
  have h : ∀ m : M α, m = .ok a → M.bind m f = f a := fun m e => by rw [e]; rfl
  exact h _ rfl
section
variable {p : Pr} {sc : Scope} {NN VV GG VV' GG' : List Str} {k : Nat} {g : G} {L L' : List Slot} {a b c e e' : Expr} {es : List Expr} {md md' : Md} {α β γ δ ρ : Type} {S : Ty α} {T : Ty β} {U : Ty γ} {A : Ar δ} {pos : Pos} {K : PySem.W.Frag} {tg : Expr} {i j : Nat} {x : Str}
/-- how many items -/
def LenM (n : Nat) (m : M (List α)) : Prop := ∀ ds, m = .ok ds → ds.length = n
theorem ln0 : LenM 0 (.ok ([] : List α)) := fun ds h => by cases h; rfl
theorem lnS {n : Nat} {m1 : M α} {m2 : M (List α)} (h : LenM n m2) : LenM (n + 1) (m1.bind fun d => m2.bind fun e => .ok (d :: e)) := fun ds q => by
  cases m1 with
  | ok d =>
    cases m2 with
    | ok e => cases q; rw [List.length_cons, h e rfl]
    | ex c => cases q
    | no => cases q
  | ex c => cases q
  | no => cases q
theorem evl_lstN {n : Nat} {m : M (List α)} (h : LenM n m) (hn : n ≤ 1000) (ha : EvA g L es md (aAll S) m) : EvL g L (.List es pos) md S m := evl_lst (fun ds q => by rw [h ds q]; exact hn) ha
def isLoc (sc : Scope) (y : Str) : Bool := (match sc.kind with | .function => true | _ => false) && match sc.names.lookup y with | some .local => true | _ => false
theorem isLoc_k {sc : Scope} {y : Str} (h : isLoc sc y = true) : sc.kind = .function ∧ sc.names.lookup y = some .local := by
  unfold isLoc at h
  rw [Bool.and_eq_true] at h
  obtain ⟨h1, h2⟩ := h
  constructor
  · split at h1
    · assumption
    · cases h1
  · split at h2
    · assumption
    · cases h2
variable {st : List Stmt} {D : δ → Out} {y : Str} {py spos cpos : Pos} {elt it : Expr} {ifs : List Expr} {scope : Scope} {tp : Pos} {s₀ : Slot}
theorem sw_loc (ok : OkS p sc NN VV GG k g) {gs : List Comprehension} (hy : isLoc sc y = true) (hl : (py.line == cpos.line) = true) (ha : (scope.names.any fun (n, k) => n == y && (k == .local || k == .cell)) = false) :
    g.X.env.scope.names.lookup y = some .local ∧ swapsWith (.ListComp elt gs scope cpos) (some (.Name y py)) spos.line g.X.env = pure true := by
  obtain ⟨h1, h2⟩ := isLoc_k hy
  have e1 : g.X.env.scope.kind = .function := by rw [ok.scp]; exact h1
  have e2 : g.X.env.scope.names.lookup y = some .local := by rw [ok.scp]; exact h2
  exact ⟨e2, sw_true e1 e2 hl ha⟩
/-- y = [elt for x in it if c], y its owner -/
theorem evb_ownC {m : M (List α)} {cm : α → M Bool} {f : α → M β} {h : List β → M δ} {b : Bool} {i2 : Nat} (ok : OkS p sc NN VV GG k g) (hN2 : NN[i2]? = some y) (wk : Wk L g.LX) (hbb : SlB md b) (hy : isLoc sc y = true) (hl : (py.line == cpos.line) = true) (ha : (scope.names.any fun (n, k) => n == y && (k == .local || k == .cell)) = false)
    (hI : EvI g L (.Name x tp) it S m) (hN : NN[i]? = some x) (hLi : L[i]? = some s₀) (hs₀ : NoOwn s₀) (hb : blkC NN sc scope [(x, i)] = true) (hv : VV'.all (seenB scope) = true) (hg : GG'.all (glB scope) = true) (hx : locB scope x = true)
    (hc : ∀ g', Ok p scope NN VV' GG' k g' → ∀ d, PTs g'.X ifs (tT g'.fm g'.W (L.set i (sV false S d)) (cm d))) (he : ∀ g', Ok p scope NN VV' GG' k g' → ∀ d, EvE g' (L.set i (sV false S d)) elt md T (f d))
    (hr : ∀ d, EvB g (L.set i2 (sOwn b T d)) st D (h d)) (hs : ∀ x, foldedSetIterable it g.X.env x = pure x := by intro _; rfl) :
    EvB g L (.Assign [.Name y py] (.ListComp elt [⟨.Name x tp, it, ifs, 0⟩] scope cpos) spos :: st) D ((m.bind fun xs => compM (fun d => (cm d).bind fun c => if c = true then (f d).bind fun y => .ok (some y) else .ok none) xs).bind h) := by
  obtain ⟨e1, e2⟩ := sw_loc (elt := elt) (spos := spos) (gs := [⟨.Name x tp, it, ifs, 0⟩]) ok hy hl ha
  refine PSs.imp (pss_cons ((evl_lc2 ok.toOk hI hN hLi hs₀ hb hv hg hx hc he hs).2 hN2 e1 e2) (PSs.ex hr)) fun E σ H ⟨kp, own, at_, q⟩ => ?_
  unfold tSeq tAsg
  refine tL_iff.mpr ⟨kp, own, at_, ?_⟩
  generalize (m.bind fun xs => compM (fun d => (cm d).bind fun c => if c = true then (f d).bind fun y => .ok (some y) else .ok none) xs) = mm at q ⊢
  cases mm with
  | ok d =>
    intro v vs H' s n h' r
    obtain ⟨own', a'⟩ := at_.setOwn (i := i2) (b := b) s n h' (r.mono hbb.rb)
    exact ⟨d, kp, own', a', q⟩
  | ex c => exact BOk.exx wk at_ q
  | no => exact q
theorem evb_setC {m : M (List α)} {cm : α → M Bool} {f : α → M β} {h : List β → M δ} {i2 : Nat} (ok : OkS p sc NN VV GG k g) (hN2 : NN[i2]? = some y) (wk : Wk L g.LX) (hy : isLoc sc y = true) (hl : (py.line == cpos.line) = true) (ha : (scope.names.any fun (n, k) => n == y && (k == .local || k == .cell)) = false)
    (hI : EvI g L (.Name x tp) it S m) (hN : NN[i]? = some x) (hLi : L[i]? = some s₀) (hs₀ : NoOwn s₀) (hb : blkC NN sc scope [(x, i)] = true) (hv : VV'.all (seenB scope) = true) (hg : GG'.all (glB scope) = true) (hx : locB scope x = true)
    (hc : ∀ g', Ok p scope NN VV' GG' k g' → ∀ d, PTs g'.X ifs (tT g'.fm g'.W (L.set i (sV false S d)) (cm d))) (he : ∀ g', Ok p scope NN VV' GG' k g' → ∀ d, EvE g' (L.set i (sV false S d)) elt md T (f d))
    (hr : ∀ d, EvB g (L.set i2 (sV false (tList T) d)) st D (h d)) (hs : ∀ x, foldedSetIterable it g.X.env x = pure x := by intro _; rfl) :
    EvB g L (.Assign [.Name y py] (.ListComp elt [⟨.Name x tp, it, ifs, 0⟩] scope cpos) spos :: st) D ((m.bind fun xs => compM (fun d => (cm d).bind fun c => if c = true then (f d).bind fun y => .ok (some y) else .ok none) xs).bind h) := by
  obtain ⟨e1, e2⟩ := sw_loc (elt := elt) (spos := spos) (gs := [⟨.Name x tp, it, ifs, 0⟩]) ok hy hl ha
  refine PSs.imp (pss_cons ((evl_lc2 ok.toOk hI hN hLi hs₀ hb hv hg hx hc he hs).2 hN2 e1 e2) (PSs.ex hr)) fun E σ H ⟨kp, own, at_, q⟩ => ?_
  unfold tSeq tAsg
  refine tL_iff.mpr ⟨kp, own, at_, ?_⟩
  generalize (m.bind fun xs => compM (fun d => (cm d).bind fun c => if c = true then (f d).bind fun y => .ok (some y) else .ok none) xs) = mm at q ⊢
  cases mm with
  | ok d =>
    intro v vs H' s n h' r
    obtain ⟨own', a'⟩ := (at_.ext s).setV (i := i2) (b := false) (T := tList T) (d := d) (v := .ref v) ⟨v, vs, rfl, RX.sh (H := H) _ _ (newRX' (md := .sh) at_ n h'), r.mono fun a o z => RX.sh (H := H) a o (RX.drop1 a o z)⟩
    exact ⟨d, kp, own', a', q⟩
  | ex c => exact BOk.exx wk at_ q
  | no => exact q
theorem pureT {m : M Bool} {v : Bool} (h : EvT g L e m) (q : m = .ok v) : EvT g L e (.ok v) := q ▸ h
theorem pureW {m : M Bool} {v : Bool} (h : EvW g L e m) (q : m = .ok v) : EvW g L e (.ok v) := q ▸ h
end
end Hd
namespace Hd
open PySem PySem.Spec L2
def ecName : Ec → Str
  | .weave => "WeaveError"
  | .noRow => "NoRow"
  | .tooLarge => "TooLarge"
  | .noCloth => "NoCloth"
  | .noDraft => "NoDraft"
  | .noStrand => "NoStrand"
  | .noDeed => "NoDeed"
  | .noLaying => "NoLaying"
  | .noShuttle => "NoShuttle"
  | .noColour => "NoColour"
  | .noBlock => "NoBlock"
  | .noPattern => "NoPattern"
  | .unknown => "Unknown"
  | .twice => "Twice"
theorem reps_ints {R : RdR} : ∀ ns : List Int, Reps tInt R ns (ns.map V.int)
  | [] => .nil
  | n :: r => .cons rfl (reps_ints r)
theorem exF {K : PySem.W.Frag} {h : Heap} {mg : Str → Option Value} {P : Program} {w : World} {base : Heap} {T : Option Addr} (X : K.In h) (G : h.Ns mainGlobals mg) {x : Str} {c : Ec} (e : ecName c = x) (c1 : (He.Fa.glo x).ok K = true) (c2 : (He.Fa.exc x).ok K = true) : ExF ⟨P, w, K, mg, base, fun c => He.ga K (ecName c), T⟩ x c := by
  subst e
  obtain ⟨h1, h2, h3, h4⟩ := He.exc_ok c2
  exact ⟨h1, He.glo_ok X G c1, h2, h3, h4⟩
theorem L2_bindsA {K : PySem.W.Frag} {x qual : Str} {params : Arguments} {body : List Stmt} {scope : Scope} {f : Addr} {fd : FuncData} (F : FunD K x qual params body scope [] [] f fd) (s : Shared) (v : Value)
    (h : ∀ (kV doc pm : Value) (an : Option Addr) (cdv ct : Value) (us : List Value), us.length = (["script"] : List Str).length → bindArgs (PySem.W.fnOf x qual params body scope .none kV doc pm an cdv ct) ⟨us, []⟩ = pure ((["script"] : List Str).zip us) := by
      exact fun _ _ _ _ _ _ us hl => match us, hl with | [_], _ => rfl) : BindsTo s fd ⟨[v], []⟩ [("script", v)] := F.bindsA (ps := ["script"]) h s [v] rfl
end Hd
namespace Hd
open PySem PySem.Spec L2
section
variable {p : Pr} {sc : Scope} {NN VV GG VV' GG' : List Str} {k : Nat} {g : G} {L L' : List Slot} {a b c e e' : Expr} {es : List Expr} {md md' : Md} {α β γ δ ρ : Type} {S : Ty α} {T : Ty β} {U : Ty γ} {A : Ar δ} {pos : Pos} {K : PySem.W.Frag} {tg : Expr} {i j : Nat} {x : Str} {pp : Pos}
theorem cnt_count (c : Nat) : ∀ l : List Nat, PyProof.Rows.cnt c l = (l.count c : Int)
  | [] => rfl
  | n :: r => by
    rw [PyProof.Rows.cnt_cons, cnt_count c r, List.count_cons]
    by_cases h : n = c
    · subst h; simp; omega
    · simp [h]
def countS (x y : Tx) : M Int := match y with
  | [c] => .ok (x.count c : Int)
  | _ => .no
theorem countS_ne {x y : Tx} {c : Ec} : countS x y ≠ .ex c := by unfold countS; split <;> exact fun h => nomatch h
theorem ev_countS {m1 m2 : M Tx} {apos : Pos} (ok : Ok p sc NN VV GG k g) (ha : EvE g L a md tStr m1) (hb : EvE g L b md tStr m2)
    (hs : starEach [b] g.X.env = [(false, eval b g.X.env)] := by rfl) (hbase : attributeBase a "count" g.X.env (eval a g.X.env) = eval a g.X.env := by rfl) (hline : (apos.endLine == pos.line) = true := by rfl) :
    EvE g L (.Call (.Attribute a "count" apos) [b] [] pos) md' tInt (m1.bind fun s => m2.bind fun y => countS s y) :=
  ev_sm1 (T := tStr) ok PySem.F.slot_str_count PySem.F.type_str_count mt_count (fun {d e y R H Q} rb hd hy q => by
    unfold countS at q
    split at q
    · rename_i c
      refine ⟨toS d, toS [c], rfl, by rw [hy.1], q _ _ (Same.refl _) ?_⟩
      show V.int _ = V.int _
      congr 1
      rw [show toS [c] = (⟨#[c]⟩ : Str) from rfl, PyProof.Rows.count_cnt, cnt_count]
      rw [show (toS d).cps.toList = d from tl_toS d]
    · exact q.elim) (fun _ _ _ => countS_ne) ha hb hs hbase hline
theorem ev_countI {m1 : M (List Int)} {m2 : M Int} {apos : Pos} (ok : Ok p sc NN VV GG k g) (ha : EvE g L a md (tList tInt) m1) (hb : EvE g L b md tInt m2)
    (hbase : attributeBase a "count" g.X.env (eval a g.X.env) = eval a g.X.env := by rfl)
    (hfew : ((backTo pos (starEach [b] g.X.env)).all (fun x => !x.1) && (backToKw pos (keywordEach [] g.X.env)).all (fun x => x.1.isSome)
      && decide (([b] : List Expr).length + ([] : List Keyword).length + (if ([] : List Keyword).isEmpty then 0 else 1) < 30)) = true := by rfl)
    (hs : starEach [b] g.X.env = (false, eval b g.X.env) :: starEach [] g.X.env := by rfl) (hline : (apos.endLine == pos.line) = true := by rfl) (hplain : (backTo pos (starEach [] g.X.env)).any (·.1) = false := by rfl) :
    EvE g L (.Call (.Attribute a "count" apos) [b] [] pos) md' tInt (m1.bind fun s => m2.bind fun y => .ok (s.count y : Int)) := by
  have h := ev_bm (md' := md') (S := tList tInt) (A := aCons tInt aNil) (U := tInt) (f := fun s y => .ok (s.count y.1 : Int)) (fr := true) ok PySem.F.plainAttrs_list PySem.F.slot_list_count PySem.F.type_list_count mt_lcount
    ⟨fun {d x R H} rb ⟨ad, vs, ex, hh, r⟩ => by subst ex; exact .inl ⟨rfl, _, sq_of rb hh⟩, fun {d e x xs R H Q} rb ⟨ad, vs, ex, hh, r⟩ ⟨v, w, e1, e2, e3⟩ q => by
      subst e1; cases (show w = [] from e3)
      exact ⟨ad, d, e.1, by rw [ex], by rw [e2], by rw [← r.ints, ok.K]; exact sq_of rb hh, q _ _ (Same.refl _) rfl⟩⟩ (fun _ _ _ h => nomatch h) .fresh ha (eva_cons hb eva_nil hs) hbase hfew hs hline hplain
  have e : (m1.bind fun d => (m2.bind fun d => (M.ok ()).bind fun e => M.ok (d, e)).bind fun e => M.ok (d.count e.1 : Int)) = m1.bind fun s => m2.bind fun y => .ok (s.count y : Int) := by cases m1 <;> cases m2 <;> rfl
  rwa [e] at h
/-- xs.index(y): the first place -/
def indexM [DecidableEq α] (xs : List α) (y : α) : M Int := if y ∈ xs then .ok (xs.idxOf y : Int) else .no
theorem indexM_ne [DecidableEq α] {xs : List α} {y : α} {c : Ec} : indexM xs y ≠ .ex c := by unfold indexM; split <;> exact fun h => nomatch h
theorem ev_index [DecidableEq α] {m1 : M (List α)} {m2 : M α} {apos : Pos} (ok : Ok p sc NN VV GG k g) (hf : FlatV S) (ha : EvE g L a md (tList S) m1) (hb : EvE g L b md S m2)
    (hbase : attributeBase a "index" g.X.env (eval a g.X.env) = eval a g.X.env := by rfl)
    (hfew : ((backTo pos (starEach [b] g.X.env)).all (fun x => !x.1) && (backToKw pos (keywordEach [] g.X.env)).all (fun x => x.1.isSome)
      && decide (([b] : List Expr).length + ([] : List Keyword).length + (if ([] : List Keyword).isEmpty then 0 else 1) < 30)) = true := by rfl)
    (hs : starEach [b] g.X.env = (false, eval b g.X.env) :: starEach [] g.X.env := by rfl) (hline : (apos.endLine == pos.line) = true := by rfl) (hplain : (backTo pos (starEach [] g.X.env)).any (·.1) = false := by rfl) :
    EvE g L (.Call (.Attribute a "index" apos) [b] [] pos) md' tInt (m1.bind fun s => m2.bind fun y => indexM s y) := by
  have h := ev_bm (md' := md') (S := tList S) (A := aCons S aNil) (U := tInt) (f := fun s y => indexM s y.1) (fr := true) ok PySem.F.plainAttrs_list PySem.F.slot_list_index PySem.F.type_list_index mt_index
    ⟨fun {d x R H} rb ⟨ad, vs, ex, hh, r⟩ => by subst ex; exact .inl ⟨rfl, _, sq_of rb hh⟩, fun {d e x xs R H Q} rb ⟨ad, vs, ex, hh, r⟩ ⟨v, w, e1, e2, e3⟩ q => by
      subst e1; cases (show w = [] from e3)
      unfold indexM at q
      split at q
      · rename_i hm
        have hlt := List.idxOf_lt_length_of_mem hm
        have hget : d[d.idxOf e.1]? = some e.1 := by rw [List.getElem?_eq_getElem hlt]; congr 1; exact List.getElem_idxOf hlt
        obtain ⟨z, hz1, hz2⟩ := r.get hget
        refine ⟨ad, vs, v, d.idxOf e.1, z, ex, rfl, by rw [ok.K]; exact sq_of rb hh, hf.fl e2, r.allFlat hf, hz1, (hf.eq hz2 e2).mpr rfl, fun m z' hm' hz' => ?_, q _ _ (Same.refl _) rfl⟩
        obtain ⟨d', hd1, hd2⟩ := r.get' hz'
        cases hq : eqV z' v with
        | false => rfl
        | true =>
          have e5 := (hf.eq hd2 e2).mp hq
          subst e5
          have hlt' : m < d.length := (List.getElem?_eq_some_iff.mp hd1).1
          have := List.not_of_lt_findIdx (xs := d) (p := (· == e.1)) (i := m) (by exact hm')
          rw [List.getElem?_eq_getElem hlt'] at hd1
          have e6 : d[m] = e.1 := Option.some.inj hd1
          simp [e6] at this
      · exact q.elim⟩ (fun _ _ _ => indexM_ne) .fresh ha (eva_cons hb eva_nil hs) hbase hfew hs hline hplain
  have e : (m1.bind fun d => (m2.bind fun d => (M.ok ()).bind fun e => M.ok (d, e)).bind fun e => indexM d e.1) = m1.bind fun s => m2.bind fun y => indexM s y := by cases m1 <;> cases m2 <;> rfl
  rwa [e] at h
variable {Q : Ty (List α)}
variable {Q2 : Ty (List β)}
structure DeepA (A : Ar δ) where
  pd : δ → List PyData
  dp : Nat
  rep : ∀ {K d vs R H}, Rdb K R H → A.rep d vs R → DpAll K H vs (pd d) ∧ PyData.canLayAll0 (pd d) = true
  dep : ∀ d, PyData.depthAll (pd d) ≤ dp
  eqv : ∀ d e, PyData.eqvAll (pd d) (pd e) = true ↔ d = e
def dNil : DeepA aNil := ⟨fun _ => [], 0, fun rb h => by cases (show _ = [] from h); exact ⟨.nil, rfl⟩, fun _ => by simp [PyData.depthAll], fun d e => by simp [PyData.eqvAll]⟩
def dCons (D : Deep S) (E : DeepA A) : DeepA (aCons S A) := ⟨fun d => D.pd d.1 :: E.pd d.2, max D.dp E.dp, fun {K d vs R H} rb ⟨v, r, e, h1, h2⟩ => by
    subst e
    obtain ⟨a1, a2⟩ := D.rep rb h1
    obtain ⟨b1, b2⟩ := E.rep rb h2
    exact ⟨.cons a1 b1, by simp only [PyData.canLayAll0, a2, b2, Bool.and_self]⟩, fun d => by
    have h1 := D.dep d.1
    have h2 := E.dep d.2
    simp only [PyData.depthAll]
    omega, fun d e => by
    simp only [PyData.eqvAll, Bool.and_eq_true, D.eqv, E.eqv]
    exact ⟨fun h => Prod.ext h.1 h.2, fun h => by rw [h]; exact ⟨rfl, rfl⟩⟩⟩
def dTup (E : DeepA A) : Deep (tTup A) := ⟨fun d => .tuple (E.pd d), E.dp + 1, fun {K ds v R H} rb ⟨a, vs, e, h, r⟩ => by
    subst e
    obtain ⟨h1, h2⟩ := E.rep rb r
    exact ⟨.tup ((rb _ _ h rfl).imp id id) h1, h2⟩, fun ds => by simp only [PyData.depth]; have := E.dep ds; omega, fun d e => by
    simp only [PyData.eqv]
    exact E.eqv d e⟩
structure ChI (op : CmpOp) (f : Int → Int → Bool) : Prop where
  ex : ∀ {K : PySem.W.Frag} {X : Cx}, ∃ r, OpR X (compareOp op) r ∧ Op2 K r tInt tInt tBool (fun x y => .ok (f x y)) false
theorem ch_lt : ChI .Lt (fun x y => decide (x < y)) := ⟨⟨_, op_lt, ⟨fun rb rx ry q => ⟨_, _, rx, ry, q _ _ (Same.refl _) rfl⟩⟩⟩⟩
theorem ch_le : ChI .LtE (fun x y => decide (x ≤ y)) := ⟨⟨_, op_le, ⟨fun rb rx ry q => ⟨_, _, rx, ry, q _ _ (Same.refl _) rfl⟩⟩⟩⟩
theorem evt_chainI {op op' : CmpOp} {f f' : Int → Int → Bool} {m1 m2 m3 : M Int} {d1 d2 d3 : Int} (ok : Ok p sc NN VV GG k g) (F : ChI op f) (F' : ChI op' f') (ha : EvE g L a md tInt m1) (hb : EvE g L b md tInt m2) (hc : EvE g L c md tInt m3) (e1 : m1 = .ok d1) (e2 : m2 = .ok d2) (e3 : m3 = .ok d3)
    (hm : lastMarks [op, op'] [b, c] = false := by with_unfolding_all rfl) : EvT g L (.Compare a [op, op'] [b, c] pos) (.ok (f d1 d2 && f' d2 d3)) := by
  subst e1; subst e2; subst e3
  obtain ⟨r, h1, h2⟩ := F.ex (K := p.K) (X := g.X)
  obtain ⟨r', h1', h2'⟩ := F'.ex (K := p.K) (X := g.X)
  exact evt_chain ok h1 h1' h2 h2' ha hb hc hm
variable {st : List Stmt} {D : δ → Out} {d : δ}
end
end Hd
namespace Hd
open PySem PySem.Spec L2
section
end
section
end
end Hd
namespace Hd
open PySem PySem.Spec L2
section
end
end Hd
namespace Hd
open PySem PySem.Spec L2
section
variable {p : Pr} {sc : Scope} {NN VV GG VV' GG' : List Str} {k : Nat} {g : G} {L L' : List Slot} {a b c e e' : Expr} {es : List Expr} {md md' : Md} {α β γ δ ρ : Type} {S : Ty α} {T : Ty β} {U : Ty γ} {A : Ar δ} {pos : Pos} {K : PySem.W.Frag} {tg : Expr} {i j : Nat} {x : Str} {pp : Pos}
variable {st : List Stmt} {D : δ → Out} {d : δ}
def tAny : Ty Unit := ⟨fun _ _ _ => True, fun h _ => h⟩
end
end Hd
namespace Hd
open PySem PySem.Spec L2
end Hd
namespace Hd
open PySem PySem.Spec L2
section
end
end Hd
namespace Hd
open PySem PySem.Spec L2
section
end
end Hd
namespace Hd
open PySem PySem.Spec PyProof.Rows L2
section
variable {p : Pr} {sc : Scope} {NN VV GG : List Str} {k : Nat} {g : G} {L : List Slot} {a b e tg : Expr} {md md' : Md} {pos pp : Pos} {j : Nat} {α β δ : Type} {S : Ty α} {T : Ty β} {A : Ar δ}
theorem ev_lenT {n : Nat} {m : M δ} (ok : Ok p sc NN VV GG k g) (hA : ∀ {d vs R}, A.rep d vs R → vs.length = n) (hG : GG[j]? = some "len") (hmg : p.mg "len" = none) (ha : EvE g L e md (tTup A) m) (hs : starEach [e] g.X.env = (false, eval e g.X.env) :: starEach [] g.X.env := by rfl) : EvE g L (.Call (.Name "len" pp) [e] [] pos) md' tInt (m.bind fun _ => .ok (n : Int)) :=
  ev_b1 (S := tTup A) (fr := true) ok call_len_seq (fun {d v R H W} rb ⟨a, vs, e, h, r⟩ q => by
    exact ⟨a, vs, by rw [e], .inr (by rw [ok.K]; exact st_of rb h), q _ _ (Same.refl _) (by show _ = V.int _; rw [hA r])⟩) (fun _ _ h => nomatch h) .fresh hG hmg PySem.boot_len ha hs
end
end Hd
namespace Hd
open PySem PySem.Spec PyProof.Rows L2
section
end
end Hd
namespace Hd
open PySem PySem.Spec PyProof.Rows L2
section
end
end Hd
namespace Hd
open PySem PySem.Spec PyProof.Rows L2
section
end
end Hd
set_option maxHeartbeats 1000000
namespace Hd
open PySem PySem.Spec PyProof.Rows L2 RT
def IsRs (h : Heap) (a : Addr) (x : Str) (u : Tok) (i : Int) : Prop := ∃ o, h.get? a = some o ∧ o.cls = .type "reversed" ∧ o.data = .fields #[.str x u, rawInt i]
theorem IsRs.at {h h' : Heap} {a : Addr} {x : Str} {u : Tok} {i : Int} (y : IsRs h a x u i) (e : ∀ o, h.get? a = some o → h'.get? a = some o) : IsRs h' a x u i := let ⟨o, ho, r⟩ := y; ⟨o, e _ ho, r⟩
section
end
section
end
end Hd
namespace Hd
open PySem PySem.Spec PyProof.Rows L2
section
end
end Hd
namespace Hd
open PySem PySem.Spec PyProof.Rows L2
section
variable {p : Pr} {sc : Scope} {NN VV GG : List Str} {k : Nat} {g : G} {L : List Slot} {α β δ : Type} {S : Ty α} {T : Ty β} {md md' : Md} {pos : Pos} {st : List Stmt} {D : δ → Out} {i j : Nat} {x : Str} {a b c e : Expr}
inductive KReps {α : Type} (T : Ty α) (R : RdR) : List (Key × α) → List (Key × V) → Prop where
  | nil : KReps T R [] []
  | cons {k d v ds vs} : T.rep d v R → KReps T R ds vs → KReps T R ((k, d) :: ds) ((k, v) :: vs)
theorem KReps.mono {R R' : RdR} {ds : List (Key × α)} {vs : List (Key × V)} (h : KReps S R ds vs) (s : ∀ a o, R a o → R' a o) : KReps S R' ds vs := by
  induction h with
  | nil => exact .nil
  | cons r _ ih => exact .cons (S.mono r s) ih
theorem KReps.length {R : RdR} {ds : List (Key × α)} {vs : List (Key × V)} (h : KReps S R ds vs) : ds.length = vs.length := by
  induction h with
  | nil => rfl
  | cons r _ ih => simp [ih]
/-- what stands at a key -/
def dgetL {α : Type} (ds : List (Key × α)) (k : Key) : Option α := (ds.find? fun kv => decide (kv.1 = k)).map (·.2)
theorem KReps.get {R : RdR} {ds : List (Key × α)} {vs : List (Key × V)} (h : KReps S R ds vs) (k : Key) : (dgetL ds k = none ∧ valV vs k = none) ∨ ∃ d v, dgetL ds k = some d ∧ valV vs k = some v ∧ S.rep d v R := by
  induction h with
  | nil => exact .inl ⟨rfl, rfl⟩
  | @cons k' d v ds vs r _ ih =>
    by_cases e : k' = k
    · exact .inr ⟨d, v, by simp [dgetL, List.find?_cons, e], valV_pos e, r⟩
    · have e1 : dgetL ((k', d) :: ds) k = dgetL ds k := by simp [dgetL, List.find?_cons, e]
      rw [e1, valV_neg e]
      exact ih
theorem KReps.map {R : RdR} {ds : List (Key × α)} {vs : List (Key × V)} (h : KReps S R ds vs) (k : Key) {d : α} {v : V} (r : S.rep d v R) : KReps S R (ds.map (fun kv => if kv.1 = k then (kv.1, d) else kv)) (vs.map (fun kv => if kv.1 = k then (kv.1, v) else kv)) := by
  induction h with
  | nil => exact .nil
  | @cons k' d' v' ds vs r' _ ih =>
    rw [List.map_cons, List.map_cons]
    by_cases e : k' = k
    · simp only [if_pos e]; exact .cons r ih
    · simp only [if_neg e]; exact .cons r' ih
theorem KReps.any {R : RdR} {ds : List (Key × α)} {vs : List (Key × V)} (h : KReps S R ds vs) (k : Key) : (ds.any fun kv => decide (kv.1 = k)) = (vs.any fun kv => decide (kv.1 = k)) := by
  induction h with
  | nil => rfl
  | cons r _ ih => rw [List.any_cons, List.any_cons, ih]
end
end Hd
namespace Hd
open PySem PySem.Spec PyProof.Rows L2
section
variable {p : Pr} {sc : Scope} {NN VV GG : List Str} {k : Nat} {g : G} {L : List Slot} {α β δ : Type} {S : Ty α} {T : Ty β} {md md' : Md} {pos : Pos} {st : List Stmt} {D : δ → Out} {i j : Nat} {x : Str} {a b c e : Expr}
theorem KReps.some {R : RdR} {ds : List (Key × α)} {vs : List (Key × V)} (h : KReps S R ds vs) (k : Key) : (valV vs k).isSome = (dgetL ds k).isSome := by
  rcases h.get k with ⟨g1, g2⟩ | ⟨d, v, g1, g2, _⟩ <;> rw [g1, g2] <;> rfl
end
end Hd
namespace Hd
open PySem PySem.Spec PyProof.Rows L2
section
end
end Hd
namespace Hd
open PySem PySem.Spec PyProof.Rows L2
section
end
end Hd
namespace Hd
open PySem PySem.Spec PyProof.Rows L2
section
end
section
end
end Hd
namespace Hd
open PySem PySem.Spec PyProof.Rows L2
theorem eachIs_get {α β : Type} {R : α → β → Prop} : ∀ (as : List α) (bs : List β), as.length = bs.length → (∀ (i : Nat) a b, as[i]? = some a → bs[i]? = some b → R a b) → PySem.W.EachIs R as bs
  | [], [], _, _ => .nil
  | [], _ :: _, h, _ => by simp at h
  | _ :: _, [], h, _ => by simp at h
  | a :: as, b :: bs, h, f => .cons (f 0 a b rfl rfl) (eachIs_get as bs (by simpa using h) fun i x y e1 e2 => f (i + 1) x y (by simpa using e1) (by simpa using e2))
section
variable {prog : Program} {w : World} {A : Around} {E : Value → Shared → Prop} {s : Shared}
theorem sorted_key_range {r q : Addr} {lo hi : Int} {t u v : Tok} {Q : Value → Shared → Prop} (k : Int → PyData) (hh : A.handled = none) (hr : IsRange s.heap r lo hi 1 t u v) (ok : RgOk lo hi)
    (hal : PySem.W.AllAlike ((upFrom lo (hi - lo).toNat).map k)) (hk : PySem.W.Sortable ((upFrom lo (hi - lo).toNat).map k)) (hu : ∀ x, x ∈ upFrom lo (hi - lo).toNat → A.units + 2 + (k x).depth < cLine)
    (turn : ∀ (x : Int) (tx : Tok), x ∈ upFrom lo (hi - lo).toNat → ∀ (h : Heap) (tk : Nat), (∀ b o, s.heap.get? b = some o → h.get? b = some o) →
      wpAny (model prog w) A.in1.in1 (call (.ref q) [.int x tx]) (PySem.W.KeyPure (k x) { s with heap := h, toks := tk }) (fun _ _ => False) { s with heap := h, toks := tk })
    (h : ∀ (h1 : Heap) (tk1 : Nat), (∀ b o, s.heap.get? b = some o → h1.get? b = some o) → ∀ (out : List Value) (c : Nat) (h' : Heap) (tk : Nat), (∀ b o, h1.get? b = some o → h'.get? b = some o) → h'.get? h1.objs.size = some { cls := .type "list", data := .seq out.toArray c } → PySem.W.EachIs (fun v x => ∃ t, v = Value.int x t) out ((upFrom lo (hi - lo).toNat).mergeSort (PySem.W.dataLe false k)) →
      Q (.ref h1.objs.size) { s with heap := h', toks := tk }) :
    wpAny (model prog w) A (call (.builtin "sorted") [.ref r] [(Str.ofString "key", .ref q)]) Q E s := by
  obtain ⟨b1, b2, b3, b4, b5⟩ := ok
  have hline : (2 : Nat) ^ 24 ≤ sizeLine := by rw [sizeLine_eq]; decide
  refine PyProof.Rows.call_function_entry_kw kind_sorted plain_sorted entry_sorted (ksk_s1 _ _) ?_
  unfold Builtin.«sorted»
  refine wpAny_bind (m := checkCount "sorted" 1 1 _) (wpAny_pure ?_)
  refine wpAny_bind (collect_range (A := A.in1) hh hr (small_one b1 b2 b3 b4) (rangeSize_nat lo hi) b5 fun h1 tk1 acc hk1 hi1 => ?_)
  have hL : acc.toList.length ≤ sizeLine := by rw [Array.length_toList, hi1.1]; exact Nat.le_trans b5 hline
  refine wpAny_bind (wpAny_newList ?_ hL)
  have each : PySem.W.EachIs (fun v x => ∃ t, v = Value.int x t) acc.toList (upFrom lo (hi - lo).toNat) := by
    refine eachIs_get _ _ (by rw [Array.length_toList, hi1.1, upFrom_len]) fun i a b e1 e2 => ?_
    obtain ⟨t, e⟩ := hi1.2 i a (by rw [← Array.getElem?_toList]; exact e1)
    rw [upFrom_get] at e2
    split at e2
    · cases e2; exact ⟨t, by rw [e, Int.mul_one]⟩
    · cases e2
  have at1 : (h1.push { cls := .type "list", data := .seq acc.toList.toArray }).get? h1.objs.size = some { cls := .type "list", data := .seq acc.toList.toArray } := Heap.get?_push_size _ rfl
  have up1 : ∀ b o, h1.get? b = some o → b ≠ h1.objs.size ∧ (h1.push { cls := .type "list", data := .seq acc.toList.toArray }).get? b = some o := fun b o e =>
    ⟨Nat.ne_of_lt (Heap.lt_size e), Heap.get?_push_of_some _ e⟩
  refine wpAny_bind (wpAny_holding (PySem.W.list_sort_key_data (s := { s with heap := h1.push { cls := .type "list", data := .seq acc.toList.toArray }, toks := tk1 }) (R := fun v x => ∃ t, v = Value.int x t) (f := .ref q) (b := false) (n := 0) k at1 each hal hk (by rw [← each.length]; exact hL) (fun x hx => by have := hu x hx; simp only [Around.in1] at *; omega) (ksk_l1 _ _) (ksk_t1 _ _) (fun v x hR hx h tk kp => ?_) fun out c h' tk kp hD _ hE => ?_))
  · obtain ⟨tx, rfl⟩ := hR
    exact turn x tx hx h tk fun b o e => kp b o (up1 b o (hk1 b o e)).1 (up1 b o (hk1 b o e)).2
  · exact wpAny_pure ⟨_, rfl, h h1 tk1 hk1 out c h' tk (fun b o e => kp b o (up1 b o e).1 (up1 b o e).2) hD hE⟩
end
section
open LamX
variable {X : Cx} {pins : List (Addr × Obj)} {σ : L2.St} {H : Hp} {s : Shared}
/-- a table that has one more code object -/
theorem same_tab {P c' : Addr} {ps : Array Value} {pos : Pos} (hP : H P = some (.tbl ps)) (nC : H c' = none) : Same H (upd (upd H P (.tbl (ps ++ #[rawInt pos.line, rawInt pos.col, .ref c']))) c' (CodeO c' lamQ)) := by
  have nPc : P ≠ c' := ne_of_none hP nC
  refine ⟨fun a o e n => ?_, fun a e => ?_, fun P' ⟨ps', t1, t2, t3⟩ => ?_⟩
  · have n1 : a ≠ c' := ne_of_none e nC
    have n2 : a ≠ P := fun z => by rw [z, hP] at e; cases e; cases n
    rw [upd_ne n1, upd_ne n2]; exact e
  · by_cases z : a = c'
    · rw [z, upd_same] at e; cases e
    · rw [upd_ne z] at e
      by_cases z2 : a = P
      · rw [z2, upd_same] at e; cases e
      · rw [upd_ne z2] at e; exact e
  · have old : ∀ c2, H c2 = some (CodeO c2 lamQ) → upd (upd H P (.tbl (ps ++ #[rawInt pos.line, rawInt pos.col, .ref c']))) c' (CodeO c' lamQ) c2 = some (CodeO c2 lamQ) := fun c2 e => by
      have n1 : c2 ≠ c' := ne_of_none e nC
      have n2 : c2 ≠ P := fun z => by rw [z, hP] at e; exact codeO_ne ps (Option.some.inj e).symm
      rw [upd_ne n1, upd_ne n2]; exact e
    by_cases hb : P' = P
    · subst hb
      rw [hP] at t1
      cases t1
      have eL : (ps ++ #[rawInt pos.line, rawInt pos.col, .ref c']).toList = ps.toList ++ [rawInt pos.line, rawInt pos.col, .ref c'] := by simp
      refine ⟨_, by rw [upd_ne nPc, upd_same], by rw [eL]; exact PySem.TriplesOk_snoc _ _ _ _ t2, fun p' cv hcv => ?_⟩
      rw [eL] at hcv
      rcases among_app _ t2 hcv with z | z
      · obtain ⟨c0, e1, e2⟩ := t3 p' cv z
        exact ⟨c0, e1, old c0 e2⟩
      · exact ⟨c', z, upd_same⟩
    · refine ⟨ps', by rw [upd_ne (ne_of_none t1 nC), upd_ne hb]; exact t1, t2, fun p' cv hcv => ?_⟩
      obtain ⟨c0, e1, e2⟩ := t3 p' cv hcv
      exact ⟨c0, e1, old c0 e2⟩
theorem lam_mk {c P : Addr} {params : Arguments} {body : Expr} {scope : Scope} {pos : Pos} {E : Value → Shared → Prop} {Q : Value → Shared → Prop} (I : Inv X pins σ H s) (TB : TabB X.base X.mg c P) (hcode : X.env.code = .ref c)
    (hq : X.env.qual ++ "<lambda>" = lamQ) (hT : TabS H P lamQ) (hdef : defaultsOf params X.env = ([], [])) (hfree : ∀ y ∈ scope.names, y.2 = .free → ∃ c, X.env.cells.lookup y.1 = some c)
    (h : ∀ (f c' : Addr) (pm ctv : Value) (H1 : Hp) (s' : Shared), Inv X pins σ H1 s' → Same H H1 →
      s'.heap.get? f = some (PySem.W.kla_obj "<lambda>" lamQ params body scope (cloFrom X.env.cells scope.names []) pm c' ctv) → H1 c' = some (CodeO c' lamQ) → Q (.ref f) s') :
    wpAny (model X.prog X.w) X.A (eval (.Lambda params body scope pos) X.env) Q E s := by
  obtain ⟨ps, hP, ht, ha⟩ := hT
  have hP' : s.heap.get? P = some { cls := .none, data := .fields ps } := I.hok P _ hP
  have bP : s.heap.BuiltinsAt X.mg P := TB.bm.keeps I.bk
  rw [← hq] at ha h
  refine PySem.W.kla_eval hdef ?_
  cases hc : codeAmong pos ps.toList with
  | some cv =>
    obtain ⟨c', rfl, hco⟩ := ha pos cv hc
    refine PySem.W.kla_makeFunctionHit (c := c) (P := P) (ps := ps) (mg := X.mg) (closure_ok hfree) I.ok.glob (I.mod.glob.keeps I.bk) hcode (TB.code.keeps I.bk) hP' ht hc bP fun ctv h' tk hx hsz => ?_
    refine h h'.objs.size c' ((X.mg "__name__").getD .none) ctv H _ (I.kept (t' := tk) fun b o e => Heap.get?_push_of_some _ (hx b o e)) (Same.refl H) (Heap.get?_push_size _ rfl) hco
  | none =>
    refine PySem.W.kla_makeFunction (c := c) (P := P) (ps := ps) (mg := X.mg) (closure_ok hfree) I.ok.glob (I.mod.glob.keeps I.bk) hcode (TB.code.keeps I.bk) hP' ht hc TB.gP bP fun c' ctv h' tk hx hge hlt hrec htb => ?_
    obtain ⟨c2, oc, vs, t, e2, hoc, hd, hv⟩ := hrec
    cases e2
    have nC : H c' = none := I.hok.fresh hge
    refine h h'.objs.size c' ((X.mg "__name__").getD .none) ctv _ _ (inv_table (t' := tk) (more := #[rawInt pos.line, rawInt pos.col, .ref c']) (h' := h'.push _) I hP (fun b o hb e => Heap.get?_push_of_some _ (hx b o hb e)) (Heap.get?_push_of_some _ htb) hge ⟨oc, vs, t, Heap.get?_push_of_some _ hoc, hd, hv⟩) ?_ (Heap.get?_push_size _ rfl) upd_same
    rw [hq]
    exact same_tab hP nC
end
section
variable {prog : Program} {w : World} {A : Around} {s : Shared}
/-- the lambda's body -/
abbrev lamBody (y z : Str) (q1 q2 q3 q4 q5 q6 : Pos) (x1 : Nat) : Expr := .Tuple [.UnaryOp .USub (.Subscript (.Name y q1) (.Name z q2) q3) q4, .Name z q5] x1 q6
/-- .. at a number -/
theorem lam_key {f c' ca cc : Addr} {y z : Str} {q1 q2 q3 q4 q5 q6 : Pos} {x1 : Nat} {params : Arguments} {scope : Scope} {cl : List (Str × Addr)} {pm ctv : Value} {its : Array Value} {x n : Int} {tx tn : Tok} (room : A.depth < recursionLimit)
    (hf : s.heap.get? f = some (PySem.W.kla_obj "<lambda>" lamQ params (lamBody y z q1 q2 q3 q4 q5 q6 x1) scope cl pm c' ctv)) (hcr : s.heap.CodeRec (.ref c') lamQ) (lim : s.heap.NoLimit)
    (hcl : cl.lookup y = some cc) (hcell : s.heap.IsCell cc (some (.ref ca))) (hl : s.heap.IsList ca its) (hx0 : 0 ≤ x) (hx1 : x < 2 ^ 62) (hit : its[x.toNat]? = some (.int n tn))
    (kd : scope.kind = .function) (co : scope.isCoroutine = false) (gen : scope.isGenerator = false) (nc : ∀ a ∈ scope.names, a.2 ≠ .cell) (sy : scope.names.lookup y = some .free) (sz : scope.names.lookup z = some .local)
    (hy : (y == ("__debug__" : Str)) = false) (hy2 : (y == ("__classdict__" : Str)) = false) (hz : (z == ("__debug__" : Str)) = false)
    (hbind : bindArgs (PySem.W.kla_fn "<lambda>" lamQ params (lamBody y z q1 q2 q3 q4 q5 q6 x1) scope cl pm (.ref c') ctv) ⟨[.int x tx], []⟩ = pure [(z, .int x tx)])
    (hs1 : ∀ env, starEach [Expr.UnaryOp .USub (.Subscript (.Name y q1) (.Name z q2) q3) q4, .Name z q5] env = (false, eval (.UnaryOp .USub (.Subscript (.Name y q1) (.Name z q2) q3) q4) env) :: starEach [Expr.Name z q5] env := by intro _; rfl)
    (hs2 : ∀ env, starEach [Expr.Name z q5] env = (false, eval (.Name z q5) env) :: starEach [] env := by intro _; rfl) :
    wpAny (model prog w) A (call (.ref f) [.int x tx]) (PySem.W.KeyPure (.tuple [.int (-n), .int x]) s) (fun _ _ => False) s := by
  refine wpAny_call (PySem.W.kla_callFunE room hf rfl co gen rfl hcr ?_)
  rw [hbind]
  refine wpAny_pure (wpAny_newFunctionEnv nc (fun a ha => by rw [List.mem_singleton.mp ha]; exact sz) (fun h₁ hns hsb => ⟨lim.fresh _ hsb, ?_⟩) kd)
  have kp : ∀ b o, s.heap.get? b = some o → h₁.get? b = some o := fun b o e => hsb.extBut b o (Nat.ne_of_lt (Heap.lt_size e)) (Heap.get?_push_of_some _ e)
  show codeAny _ _ (.expr (lamBody y z q1 q2 q3 q4 q5 q6 x1) (PySem.W.envX lamQ scope s.heap.objs.size f (.ref c') cl)) _ _
  have cell1 : h₁.IsCell cc (some (.ref ca)) := by obtain ⟨o, ho, hd⟩ := hcell; exact ⟨o, kp _ _ ho, hd⟩
  have list1 : h₁.IsList ca its := by obtain ⟨o, ho, r⟩ := hl; exact ⟨o, kp _ _ ho, r⟩
  have lz : ([(z, Value.int x tx)] : List (Str × Value)).reverse.lookup z = some (.int x tx) := by simp [List.lookup]
  refine PySem.W.kla_codeExpr ?_
  refine wpAny_Tuple_spliced ?_
  rw [hs1]
  show wpAny _ _ (spliced ((false, _) :: backTo q6 (starEach [Expr.Name z q5] _))) _ _ _
  refine Calls.spliced_cons (UnaryOp_ (Subscript_ (wpAny_Name (wpAny_loadName_free kd sy hcl cell1 ?_ hy2) hy)))
  refine wpAny_Name (wpAny_loadName_local kd sz hns lz ?_) hz
  refine item_listR list1 hx0 (by omega) hit ?_
  refine neg_int ?_
  rw [hs2]
  show wpAny _ _ (spliced ((false, _) :: backTo q6 (starEach [] _))) _ _ _
  refine Calls.spliced_cons (wpAny_Name (wpAny_loadName_local kd sz hns lz ?_) hz)
  refine Calls.spliced_nil ⟨by show 2 ≤ sizeLine; rw [sizeLine_eq]; decide, ?_⟩
  show PySem.W.KeyPure _ _ _ _
  refine ⟨_, _, rfl, fun b o e => Heap.get?_push_of_some _ (kp b o e), ?_⟩
  exact .tuple (Heap.get?_push_size _ rfl) rfl rfl (.cons (.int _ _) (.cons (.int _ _) .nil))
end
def keyC (cs : List Int) (x : Int) : Int := -(cs[x.toNat]?.getD 0)
def sortKey (cs : List Int) (lo hi : Int) : List Int := (upFrom lo (hi - lo).toNat).mergeSort fun p q => decide (keyC cs p < keyC cs q ∨ (keyC cs p = keyC cs q ∧ p ≤ q))
def sortKeyM (cs : List Int) (lo hi : Int) : M (List Int) := if 0 ≤ lo ∧ lo ≤ 1000000 ∧ 0 ≤ hi ∧ hi ≤ 1000000 ∧ hi ≤ (cs.length : Int) then .ok (sortKey cs lo hi) else .no
/-- what is asked of the lambda's text -/
structure LamF (params : Arguments) (body : Expr) (scope : Scope) (y z : Str) : Prop where
  kd : scope.kind = .function
  co : scope.isCoroutine = false
  gen : scope.isGenerator = false
  nc : ∀ a ∈ scope.names, a.2 ≠ .cell
  sy : scope.names.lookup y = some .free
  sz : scope.names.lookup z = some .local
  fr : ∀ a ∈ scope.names, a.2 = .free → a.1 = y
  hy : (y == ("__debug__" : Str)) = false
  hy2 : (y == ("__classdict__" : Str)) = false
  hz : (z == ("__debug__" : Str)) = false
  bind : ∀ (cl : List (Str × Addr)) (pm cv ctv v : Value), bindArgs (PySem.W.kla_fn "<lambda>" lamQ params body scope cl pm cv ctv) ⟨[v], []⟩ = pure [(z, v)]
theorem upFrom_bd {lo x : Int} {n : Nat} (h : x ∈ upFrom lo n) : lo ≤ x ∧ x < lo + n := by
  induction n generalizing lo with
  | zero => simp [upFrom] at h
  | succ n ih =>
    rw [upFrom, List.mem_cons] at h
    rcases h with rfl | h
    · omega
    · have := ih h; omega
/-- behind the range -/
def SortRest (K : PySem.W.Frag) (P : Addr) (i : Nat) (σ : L2.St) (Q : VK) (vs : List V) (H1 : Hp) : Prop := ∃ r lo hi ca cs H2, vs = [V.ref r] ∧ H2 r = none ∧ H1 = upd H2 r (.rng lo hi) ∧ (0 ≤ lo ∧ lo ≤ 1000000 ∧ 0 ≤ hi ∧ hi ≤ 1000000 ∧ hi ≤ ((cs : List Int).length : Int)) ∧ σ[i]? = some (some (V.ref ca)) ∧ SqL K H2 ca (cs.map V.int) ∧ LamX.TabS H2 P lamQ ∧
  ∀ H3 D, Same H2 H3 → H2 D = none → H3 D = some (.lst ((sortKey cs lo hi).map V.int)) → Q (.ref D) H3
def tSortLam (K : PySem.W.Frag) (P : Addr) (i : Nat) (ta tb : TE) : TE := fun σ H Q => ta σ H fun va H1 => tb σ H1 fun vb H2 => ∃ lo hi, [va, vb] = [V.int lo, V.int hi] ∧ ∀ r, H2 r = none → SortRest K P i σ Q [V.ref r] (upd H2 r (.rng lo hi))
theorem vals_each : ∀ {out : List Value} {L : List Int}, PySem.W.EachIs (fun v x => ∃ t, v = Value.int x t) out L → Vals (L.map V.int) out
  | _, _, .nil => .nil
  | _, _, .cons ⟨t, e⟩ h => .cons ⟨t, e⟩ (vals_each h)
theorem sqL_same {K : PySem.W.Frag} {H H' : Hp} {a : Addr} {xs : List V} (s : Same H H') (h : SqL K H a xs) : SqL K H' a xs := h.imp (fun r => Rd.raw (Rd.same s (Rd.clo r))) id
section
open LamX
variable {X : Cx} {k i : Nat} {a b : Expr} {ta tb : TE} {c P : Addr} {params : Arguments} {scope : Scope} {y z : Str} {p1 p2 p3 p4 lpos kpos q1 q2 q3 q4 q5 q6 : Pos} {x1 : Nat}
theorem pe_sortLam (hroom : Room k X.A) (hc : X.calm = true) (hg : Gl X "sorted") (hm : X.mg "sorted" = none) (hg2 : Gl X "range") (hm2 : X.mg "range" = none) (ha : PE X a ta) (hb : PE X b tb) (TB : TabB X.base X.mg c P) (hcode : X.env.code = .ref c)
    (hq : X.env.qual ++ "<lambda>" = lamQ) (hdef : defaultsOf params X.env = ([], [])) (F : LamF params (lamBody y z q1 q2 q3 q4 q5 q6 x1) scope y z) (hcell : X.env.scope.names.lookup y = some .cell) (hN : X.N[i]? = some y)
    (na : starEach [a, b] X.env = (false, eval a X.env) :: starEach [b] X.env) (nb : starEach [b] X.env = (false, eval b X.env) :: starEach [] X.env)
    (nr : starEach [.Call (.Name "range" p2) [a, b] [] p3] X.env = (false, eval (.Call (.Name "range" p2) [a, b] [] p3) X.env) :: starEach [] X.env := by rfl) :
    PE X (.Call (.Name "sorted" p1) [.Call (.Name "range" p2) [a, b] [] p3] [⟨some "key", .Lambda params (lamBody y z q1 q2 q3 q4 q5 q6 x1) scope lpos, kpos⟩] p4) (tSortLam X.K P i ta tb) := by
  refine ⟨fun pins s σ H Q I h => ?_⟩
  have hfree : ∀ n ∈ scope.names, n.2 = .free → ∃ c, X.env.cells.lookup n.1 = some c := fun n hn e => by
    rw [F.fr n hn e]; exact I.ok.has y (.inl hcell)
  have pr : PE X (.Call (.Name "range" p2) [a, b] [] p3) _ := pe_callTy cr_range2 hg2 hm2 (by decide +kernel) (pa_cons ha (pa_cons hb pa_nil nb) na) (by decide) (by decide) na (by rw [nb]; rfl)
  refine wpAny_Call_Name_kw (ld_blt I hg hm (u := .builtin "sorted") (by decide +kernel) ?_ (by decide) (by decide))
  refine PyProof.Rows.callWith_kw (thn ((pa_cons pr pa_nil nr).run p4 pins s σ H (SortRest X.K P i σ Q) I h) fun us s1 ⟨vs, H1, I1, r1, q1⟩ => ?_) (by rw [nr]; rfl) (by rw [nr]; rfl) (by rfl) (by rfl)
  obtain ⟨r, lo, hi, ca, cs, H2, rfl, nr0, rfl, ⟨b1, b2, b3, b4, b5⟩, hσ, hS, hT, q⟩ := q1
  obtain ⟨u1, rfl, ru1⟩ := vals1 r1
  obtain rfl : u1 = Value.ref r := ru1
  have s0 : Same H2 (upd H2 r (.rng lo hi)) := newSame nr0
  show wpAny _ _ (evalAll ((do let v ← eval (.Lambda params (lamBody y z q1 q2 q3 q4 q5 q6 x1) scope lpos) X.env; standAt p4; pure v) :: [])) _ _ s1
  refine wpAny_evalAll_cons (wpAny_bind (lam_mk I1 TB hcode hq (s0.tab P hT) hdef hfree fun f c' pm ctv H3 s2 I2 sm hf hco => wpAny_bind (wpAny_standAt (wpAny_pure (wpAny_evalAll_nil ?_)))))
  show wpAny _ _ (call (.builtin "sorted") [.ref r] [(Str.ofString "key", .ref f)]) _ _ s2
  have hrng : H3 r = some (.rng lo hi) := sm.keep r _ upd_same rfl
  obtain ⟨t, u, v, hrg⟩ := (show ObjOk X.prog X.w H3 s2.heap r (.rng lo hi) from I2.hok r _ hrng)
  obtain ⟨its, rv, pl, hz⟩ := I2.list (sqL_same (s0.trans sm) hS)
  obtain ⟨oc, vs', tq, hoc, hdc, hvc⟩ := (show ObjOk X.prog X.w H3 s2.heap c' (CodeO c' lamQ) from I2.hok c' _ hco).1
  obtain ⟨cc, hcc⟩ := I2.ok.has y (.inl hcell)
  obtain ⟨m, hns, hlook⟩ := I2.loc
  obtain ⟨u', ru', lk⟩ := hlook i y (.ref ca) hN hσ (.inr (.inl hcell))
  obtain rfl : u' = Value.ref ca := ru'
  have hcl : s2.heap.IsCell cc (some (.ref ca)) := by
    rcases lk with ⟨z', _⟩ | ⟨_, c2, hc2, hcell2⟩
    · have z2 : X.env.scope.names.lookup y = some .local := z'
      rw [hcell] at z2; cases z2
    · rw [hcc] at hc2; cases hc2; exact hcell2
  have hmem : (y, NameKind.free) ∈ scope.names := PySem.mem_of_lookup F.sy
  have hclo := NdefX.clo_has hfree hmem hcc
  have hl : its.length = cs.length := by rw [← rv.length, List.length_map]
  refine sorted_key_range (fun x => .tuple [.int (keyC cs x), .int x]) (I2.ok.hd hc) hrg ⟨by omega, by omega, by omega, by omega, by omega⟩ (PySem.W.AllAlike.of fun _ _ => rfl) (PySem.W.Sortable.tuples fun _ => ⟨_, _, rfl⟩) (fun x _ => by have := hroom.un; show X.A.units + 2 + 1 < cLine; omega) (fun x tx hx h tk kp => ?_) fun h1 tk1 hk1 out c2 h' tk hk hD hE => ?_
  · have hx := upFrom_bd hx
    obtain ⟨w, ew, rw'⟩ := rv.get (i := x.toNat) (x := V.int (cs[x.toNat]?.getD 0)) (by
      rw [List.getElem?_map]
      have : x.toNat < cs.length := by omega
      rw [List.getElem?_eq_getElem this]; rfl)
    obtain ⟨tn, rfl⟩ := rw'
    refine lam_key (ca := ca) (s := { s2 with heap := h, toks := tk }) (its := its.toArray) (tn := tn) hroom.depth (kp _ _ hf) ⟨c', oc, vs', tq, rfl, kp _ _ hoc, hdc, hvc⟩ (I2.nolimit.keeps kp) hclo ?_ ?_ (by omega) (by omega) (by simpa using ew) F.kd F.co F.gen F.nc F.sy F.sz F.hy F.hy2 F.hz (F.bind _ _ _ _ _)
    · obtain ⟨o, ho, hd⟩ := hcl; exact ⟨o, kp _ _ ho, hd⟩
    · obtain ⟨o, ho, hr2⟩ := pl.isList; exact ⟨o, kp _ _ ho, hr2⟩
  · have I3 : Inv X pins σ H3 { s2 with heap := h1, toks := tk1 } := I2.kept (t' := tk1) hk1
    have nD : H3 h1.objs.size = none := I3.hok.fresh (Nat.le_refl _)
    rw [PySem.W.dataLe_ii] at hE
    have ev : Vals ((sortKey cs lo hi).map V.int) out := vals_each hE
    have hsz : ((sortKey cs lo hi).map V.int).length ≤ sizeLine := by
      rw [List.length_map, sortKey, List.length_mergeSort, upFrom_len, sizeLine_eq]
      omega
    refine ⟨.ref h1.objs.size, upd H3 h1.objs.size (.lst ((sortKey cs lo hi).map V.int)), I3.laid (t' := tk) hk (Nat.le_refl _) (show ObjOk X.prog X.w _ _ _ (.lst ((sortKey cs lo hi).map V.int)) from ⟨hsz, out, c2, ev, hD⟩), rfl, ?_⟩
    exact q _ _ ((s0.trans sm).trans (newSame nD)) ((s0.trans sm).free nD) upd_same
end
section
open LamX
variable {p : Pr} {sc : Scope} {NN VV GG : List Str} {k i j j2 : Nat} {g : G} {L : List Slot} {a b : Expr} {md md' : Md} {c P : Addr} {params : Arguments} {scope : Scope} {y z : Str} {p1 p2 p3 p4 lpos kpos q1 q2 q3 q4 q5 q6 : Pos} {x1 : Nat}
theorem evl_sortLam {bb : Bool} {m1 m2 : M Int} {cs : List Int} (ok : OkS p sc NN VV GG k g) (hG : GG[j]? = some "sorted") (hmg : p.mg "sorted" = none) (hG2 : GG[j2]? = some "range") (hmg2 : p.mg "range" = none) (hN : NN[i]? = some y) (hL : L[i]? = some (sV bb (tList tInt) cs)) (ha : EvE g L a md tInt m1) (hb : EvE g L b md tInt m2)
    (hT : p.T = some P) (TB : TabB p.base p.mg c P) (hcode : g.X.env.code = .ref c) (hq : g.X.env.qual ++ "<lambda>" = lamQ) (hdef : defaultsOf params g.X.env = ([], [])) (F : LamF params (lamBody y z q1 q2 q3 q4 q5 q6 x1) scope y z) (hcell : sc.names.lookup y = some .cell)
    (na : starEach [a, b] g.X.env = (false, eval a g.X.env) :: starEach [b] g.X.env := by rfl) (nb : starEach [b] g.X.env = (false, eval b g.X.env) :: starEach [] g.X.env := by rfl)
    (nr : starEach [.Call (.Name "range" p2) [a, b] [] p3] g.X.env = (false, eval (.Call (.Name "range" p2) [a, b] [] p3) g.X.env) :: starEach [] g.X.env := by rfl) :
    EvL g L (.Call (.Name "sorted" p1) [.Call (.Name "range" p2) [a, b] [] p3] [⟨some "key", .Lambda params (lamBody y z q1 q2 q3 q4 q5 q6 x1) scope lpos, kpos⟩] p4) md' tInt (m1.bind fun lo => m2.bind fun hi => sortKeyM cs lo hi) := by
  obtain ⟨hg, ho⟩ := ok.gl hG
  obtain ⟨hg2, ho2⟩ := ok.gl hG2
  refine PE.imp (pe_sortLam ok.room ok.calm hg (by rw [ok.mg]; exact hmg) hg2 (by rw [ok.mg]; exact hmg2) ha hb (by rw [ok.base, ok.mg]; exact TB) hcode hq hdef F (by rw [ok.scp]; exact hcell) (by rw [ok.N]; exact hN) na nb nr) fun σ H W q => ?_
  obtain ⟨kp, own, at_, q⟩ := tL_iff.mp q
  refine tE_iff.mpr ⟨kp, own, at_, ?_⟩
  cases m1 with
  | ok lo =>
    intro v H1 s1 rx
    cases (show v = .int lo from rx)
    refine tE_iff.mpr ⟨kp, own, at_.ext s1, ?_⟩
    cases m2 with
    | ok hi =>
      intro v H2 s2 rx
      cases (show v = .int hi from rx)
      have at2 := (at_.ext s1).ext s2
      obtain ⟨Fs, hA, rfl⟩ := at2.sl
      obtain ⟨v, F', e1, e2, rfl, x, rfl, ca, vs, rfl, hR, hr⟩ := hA.get hL
      have q : FinL g.fm g.W Fs.flatten σ H md' tInt W (sortKeyM cs lo hi) := q
      unfold sortKeyM at q
      split at q
      · rename_i hb'
        refine ⟨lo, hi, rfl, fun r hr0 => ⟨r, lo, hi, ca, cs, H2, rfl, hr0, rfl, hb', e1, ?_, ?_, fun H3 D s3 nD hD => ?_⟩⟩
        · rw [← hr.ints, ok.K, ← ok.fmK]
          have hR : RB g.fm Fs.flatten H2 bb ca (.lst vs) := hR
          exact RX.list (md := if bb then .f0 else .sh) (H := H2) (by unfold RB at hR; exact hR)
        · exact at2.same.tab P (ok.tab P hT)
        · exact q D _ H3 ((s1.trans s2).trans s3) ((s1.trans s2).free nD) hD (reps_ints _)
      · exact q.elim
    | ex c => exact fun H' s => q H' (s1.trans s)
    | no => exact q
  | ex c => exact q
  | no => exact q
/-- a def by its body, the code object known -/
theorem fn_genC {α δ : Type} {S : Ty α} {A : Ar δ} {x qual : Str} {st : Stmt} {f : Addr} {fd : FuncData} {ps : List Str} {L0 : δ → List Slot} {n m : Nat} {bm : Bool} {F : δ → M (List α)} (hF : FunD p.K x qual (defArgs st) (defBody st) (defScope st) [] [] f fd) (hS : Sc st NN VV ps GG) (ha : ArS A n L0) (hn : ps.length = n) (hm : n + m = NN.length)
    (hb : ∀ g, OkS p (defScope st) NN VV GG k g → g.LX = List.replicate NN.length sAny → g.X.env.code = fd.code → g.X.env.qual = qual ++ ".<locals>." → ∀ d, EvB g (L0 d ++ List.replicate m sAny) (defBody st) (fun r => .rtL bm S r) (F d)) :
    FnOk p.P p.w p.K p.mg p.base (L2.CX p.P p.w) (k + 1) f fd ps (spM p A (fun r => .rtL bm S r) F) := by
  obtain ⟨oc, od, dV, kV, doc, pm, an, cdv, ct, osl, rfl, lk, hcd, _, _⟩ := hF.ex
  refine fn_of lk hcd hS.S (fun vs H Q E h => ?_) (fun A' outer s H vs Q E hr h => ?_)
  · obtain ⟨d, z, hz, hrep, _⟩ := h
    exact (ha.all (H := H) (R := fun _ => RD ⟨p.K, H, z⟩ [] H) hrep).1.trans hn.symm
  · obtain ⟨d, z, ⟨hz, htab⟩, hrep, q⟩ := h
    have hlen : vs.length = n := (ha.all (H := H) (R := fun _ => RD ⟨p.K, H, z⟩ [] H) hrep).1
    let X : Cx := cxOf (L2.CX p.P p.w) p.P p.w p.K p.mg p.base NN qual (defScope st) f cdv A' outer s H E
    let g : G := ⟨X, ⟨p.K, H, z⟩, fun c _ H' => E (.ref (p.C c)) none H', List.replicate NN.length sAny⟩
    have hN : ∀ {j : Nat} {y : Str}, VV[j]? = some y → y ∈ VV := fun e => List.mem_of_getElem? e
    have ok : OkS p (defScope st) NN VV GG k g :=
      { prog := rfl, w := rfl, K := rfl, mg := rfl, base := rfl, N := rfl, fmK := rfl, tab := htab, room := hr, nd := hS.S.nd
        vis := fun e => let h := seenB_v (List.all_eq_true.mp hS.vis _ (hN e)); ⟨h.2, h.1⟩
        gl := fun e => let h := glB_v (List.all_eq_true.mp hS.gl _ (List.mem_of_getElem? e)); ⟨h.2, h.1⟩
        tk := Takes.imp (takes_of (X := X) rfl rfl rfl (E := E) rfl) (fun cls d σ H ⟨c, e1, e2, h⟩ => by subst e1; subst e2; exact h)
        calm := rfl
        blk := fun h => blkOk_by h
        loc := fun e => locB_v (List.all_eq_true.mp hS.loc _ (hN e))
        fnT := fun _ => rfl
        psO := passes_of (X := X) rfl
        scp := rfl
        stk := rfl
        frm := rfl
        exn := rfl }
    refine ⟨_, hb g ok rfl rfl rfl d, (fun _ _ => False), [], ?_, ?_⟩
    · refine ⟨Same.refl H, hz, ⟨List.replicate n [] ++ List.replicate m [], ?_, by simp [flat_rep]⟩, List.nodup_nil, (fun _ h => nomatch h), fun _ _ h => h.elim⟩
      have h1 := (ha.all (H := H) (R := RB ⟨p.K, H, z⟩ [] H) hrep).2
      have e : L2.start NN vs = vs.map some ++ List.replicate m none := by
        unfold L2.start
        rw [show NN.length - vs.length = m by omega]
      rw [e]
      exact h1.append (AllS.anys m)
    · cases hF' : F d with
      | ok r =>
        rw [hF'] at q
        exact q
      | ex c =>
        rw [hF'] at q
        exact fun σ' H' own a' => q H' a'.same
      | no => rw [hF'] at q; exact q
end
end Hd
namespace Hd
open PySem PySem.Spec L2
theorem code_of {K : PySem.W.Frag} {x qual : Str} {params : Arguments} {body : List Stmt} {scope : Scope} {fd : FuncData} {q : He.Defn} (F : FunD K x qual params body scope [] [] (He.fAd K q) fd) : fd.code = .ref (He.codeOf K q) := by
  obtain ⟨oc, od, dV, kV, doc, pm, an, cdv, ct, osl, rfl, lk, hcd, _, _⟩ := F.ex
  unfold He.codeOf
  rw [lk]
  show cdv = _
  unfold PySem.W.codeIn at hcd
  cases cdv with
  | ref c => rfl
  | _ => simp at hcd
theorem law_endT {l : PySem.W.OpenLaw} {k : Nat} {q : Program} {loose : List Str} {XP : (Str → Option Value) → Heap → Prop} {YP : World → Heap → Prop} {d : DefRec} {cl : List Int × Unit → M Bool}
    (hn : l.most = some 63) (hdf : d.params.defaults = []) (hr : Room k callerA)
    (F : ∀ (w : World) (mg : Str → Option Value) (fa : Addr) (h : Heap), YP w h → h.Ns mainGlobals mg → mg d.name = some (.ref fa) →
      ∃ (K : PySem.W.Frag) (fd : FuncData) (C : Ec → Addr) (c P : Addr), K.In h ∧ h.get? P = some { cls := .none, data := .fields #[] } ∧ K.lookup P = none ∧ PySem.W.CodeHd h c P ∧ (∀ (s : Shared) (u : Value), BindsTo s fd ⟨[u], []⟩ [("script", u)]) ∧
        ∀ base : Heap, LamX.TabB base mg c P → FnOk l.prog w K mg base (L2.CX l.prog w) k fa fd ["script"] (spM ⟨l.prog, w, K, mg, base, C, some P⟩ (aCons (tListK K tInt) aNil) (fun r => .rt false tBool r) cl))
    (math : ∀ ns : List Int, ns.length ≤ 63 → cl (ns, ()) = .ok true) : PySem.W.WalkO q loose XP YP l.row.toRowW d [] (fun f vs => PySem.call f vs) := by
  refine LamX.walk_ofTsE (CX := fun w => L2.CX l.prog w) (x := "script") (k := k) hn (by decide) hdf hr (fun w mg fa h Y G hm => ?_) (fun w H s e s' z => ?_)
  · obtain ⟨K, fd, C, c, P, KX, hP, nP, hC, hb, hF⟩ := F w mg fa h Y G hm
    refine ⟨K, KX, fd, [(c, P)], spM ⟨l.prog, w, K, mg, h, C, some P⟩ (aCons (tListK K tInt) aNil) (fun r => .rt false tBool r) cl, fun p hp => by rw [List.mem_singleton.mp hp]; exact hP, fun p hp => by rw [List.mem_singleton.mp hp]; exact nP, fun p hp => by rw [List.mem_singleton.mp hp]; exact hC, hb, fun H a ns hl _ hT hS => ?_, fun base _ _ hB => hF base (hB (c, P) (List.mem_singleton_self _))⟩
    refine ⟨(ns, ()), fun _ => False, ⟨fun _ z => z.elim, fun P' e => by cases e; exact LamX.TabS.nil (hT (c, P) (List.mem_singleton_self _))⟩, ⟨.ref a, [], rfl, ⟨a, ns.map V.int, rfl, hS.imp (fun r => .inl ⟨Rd.clo r, (fun z => nomatch z), fun z => z⟩) id, reps_ints ns⟩, rfl⟩, ?_⟩
    rw [math ns hl]
    exact fun v H' s r => r
  · obtain ⟨a, B, H', cls, d, _, _, _, _, _, _, _, z⟩ := z
    exact z
end Hd
namespace Hd
open PySem PySem.Spec PyProof.Rows L2
def sortI (xs : List Int) : List Int := xs.mergeSort fun a b => decide (a ≤ b)
def rSortI (K : PySem.W.Frag) : List V → Hp → VK → Prop := fun vs H Q => ∃ (a : Addr) (ns : List Int), vs = [V.ref a] ∧ SqL K H a (ns.map V.int) ∧ ∀ p, H p = none → Q (.ref p) (upd H p (.lst ((sortI ns).map V.int)))
theorem ints_each : ∀ {its : List Value} {ns : List Int}, IntsAre its ns → PySem.W.EachIs (fun v x => ∃ t, v = Value.int x t) its ns
  | _, _, .nil => .nil
  | _, _, .cons n t h => .cons ⟨t, rfl⟩ (ints_each h)
theorem cr_sortI {X : Cx} {k : Nat} (hr : Room k X.A) : CallR X (.builtin "sorted") (rSortI X.K) := by
  intro pins s σ H vs us Q I r h
  obtain ⟨a, ns, rfl, hs, q⟩ := h
  obtain ⟨its, rv, hl, hz⟩ := I.list hs
  obtain ⟨u, rfl, ru⟩ := vals1 r
  obtain rfl : u = Value.ref a := ru
  have hi := rv.ints
  have hlen := hi.length
  rw [List.length_map] at hz
  have e := ints_each hi
  have e' := (PySem.W.dataLe_int (β := Int) (fun x => x)).symm
  refine PySem.W.sorted_data (R := fun v x => ∃ t, v = Value.int x t) (enc := fun x => .int x) hl.isList e (e.mono fun v x ⟨t, ev⟩ => ⟨[], by rw [ev]; exact .int x t⟩) (PySem.W.AllAlike.of fun _ _ => rfl) (PySem.W.Sortable.others fun _ => ⟨(fun z => nomatch z), fun _ z => nomatch z⟩) (by rw [← e.length, hlen]; exact hz) (fun x _ => by have := hr.un; show X.A.units + 2 + 0 < cLine; omega) fun out ho hE => ?_
  obtain ⟨ep, he'⟩ := PyProof.Rows.sortedAll_at s.heap its out.toArray
  have hE : PySem.W.EachIs (fun v x => ∃ t, v = Value.int x t) out (sortI ns) := by
    have : (PySem.W.dataLe false fun x : Int => PyData.int x) = fun a b => decide (a ≤ b) := PySem.W.dataLe_int (fun x => x)
    rw [this] at hE; exact hE
  have hz2 : ((sortI ns).map V.int).length ≤ sizeLine := by rw [List.length_map, sortI, List.length_mergeSort]; exact hz
  exact ⟨.ref _, upd H (s.heap.objs.size + 1) (.lst ((sortI ns).map V.int)), I.laid (t' := s.toks) (fun _ _ => PyProof.Rows.sortedAll_old) (Nat.le_succ _) ⟨hz2, out, ep, vals_each hE, by simpa using he'⟩, rfl, q _ (I.hok.fresh (Nat.le_succ _))⟩
section
variable {p : Pr} {sc : Scope} {NN VV GG : List Str} {k : Nat} {g : G} {L : List Slot} {α β δ : Type} {S : Ty α} {md md' : Md} {pos pp : Pos} {st : List Stmt} {D : δ → Out} {i j : Nat} {x : Str} {a e : Expr}
theorem evl_sortI {m : M (List Int)} (ok : Ok p sc NN VV GG k g) (hG : GG[j]? = some "sorted") (hmg : p.mg "sorted" = none) (ha : EvE g L a md (tList tInt) m) (hs : starEach [a] g.X.env = (false, eval a g.X.env) :: starEach [] g.X.env := by rfl) :
    EvL g L (.Call (.Name "sorted" pp) [a] [] pos) md' tInt (m.bind fun xs => .ok (sortI xs)) := by
  obtain ⟨hg, ho⟩ := ok.gl hG
  obtain ⟨h1, _, h3⟩ := okName_d ho
  refine PE.imp (pe_callB (cr_sortI ok.room) hg (by rw [ok.mg]; exact hmg) (by decide +kernel) (eva_cons ha eva_nil hs) h3 h1 hs rfl) fun σ H W q => ?_
  obtain ⟨kp, own, at_, q⟩ := tL_iff.mp q
  refine tA_iff.mpr ⟨kp, own, at_, ?_⟩
  cases m with
  | ok d =>
    rintro vs H1 s1 ⟨v, r, rfl, ⟨a', ws, rfl, hR, rr⟩, e3⟩
    cases (show r = [] from e3)
    refine ⟨a', d, rfl, by rw [← rr.ints, ok.K, ← ok.fmK]; exact RX.list hR, fun l hl => q l _ _ (s1.trans (newSame hl)) (s1.free hl) upd_same (reps_ints _)⟩
  | ex c => exact q
  | no => exact q
end
end Hd
namespace Hd
open PySem PySem.Spec PyProof.Rows L2
section
end
end Hd
namespace Hd
open PySem PySem.Spec PyProof.Rows L2
section
end
section
end
end Hd
namespace Hd
open PySem PySem.Spec PyProof.Rows L2
section
end
end Hd
namespace Hd
open PySem PySem.Spec PyProof.Rows L2
section
end
end Hd
namespace Hd
open PySem PySem.Spec PyProof.Rows L2
end Hd
namespace Hd
open PySem PySem.Spec PyProof.Rows L2
section
end
end Hd
namespace Hd
open PySem PySem.Spec L2
section
end
end Hd
namespace Hd
open PySem PySem.Spec PyProof.Rows L2
section
end
section
end
end Hd
namespace Hd
open PySem PySem.Spec L2
/-- a field: its name, its kind, its worth -/
structure FldS : Type 1 where
  n : Str
  α : Type
  T : Ty α
  d : α
inductive FsR (R : RdR) : List FldS → List (Str × V) → Prop where
  | nil : FsR R [] []
  | cons {s : FldS} {l v fs} : s.T.rep s.d v R → FsR R l fs → FsR R (s :: l) ((s.n, v) :: fs)
section
variable {R R' : RdR} {l l' : List FldS} {fs fs' : List (Str × V)}
theorem FsR.mono (h : FsR R l fs) (s : ∀ a o, R a o → R' a o) : FsR R' l fs := by
  induction h with
  | nil => exact .nil
  | cons r _ ih => exact .cons (Ty.mono _ r s) ih
theorem FsR.length (h : FsR R l fs) : l.length = fs.length := by
  induction h with
  | nil => rfl
  | cons _ _ ih => simp [ih]
theorem FsR.none {f : Str} (h : FsR R l fs) (hn : l.all (fun s => !(f == s.n)) = true) : fs.lookup f = none := by
  induction h with
  | nil => rfl
  | @cons s l v fs _ _ ih =>
    rw [List.all_cons, Bool.and_eq_true] at hn
    rw [List.lookup_cons]
    have : (f == s.n) = false := by simpa using hn.1
    rw [this]
    exact ih hn.2
end
/-- the field f is there -/
inductive FAt {β : Type} (f : Str) (T : Ty β) (d : β) : List FldS → Prop where
  | here {l} : FAt f T d (⟨f, β, T, d⟩ :: l)
  | there {s l} {n : Str} : s.n = n → (f == n) = false → FAt f T d l → FAt f T d (s :: l)
theorem FAt.get {β : Type} {f : Str} {T : Ty β} {d : β} {R : RdR} {l : List FldS} (h : FAt f T d l) : ∀ {fs : List (Str × V)}, FsR R l fs → ∃ v, fs.lookup f = some v ∧ T.rep d v R := by
  induction h with
  | here =>
    intro fs r
    cases r with
    | cons q _ => exact ⟨_, by rw [List.lookup_cons]; simp, q⟩
  | there e0 e _ ih =>
    subst e0
    intro fs r
    cases r with
    | cons _ q =>
      obtain ⟨v, h1, h2⟩ := ih q
      exact ⟨v, by rw [List.lookup_cons, e]; exact h1, h2⟩
/-- the address of a class -/
abbrev cA (p : Pr) (c : Str) : Addr := He.ga p.K c
section
end
section
variable {p : Pr} {sc : Scope} {NN VV GG : List Str} {k : Nat} {g : G} {L : List Slot} {a b c e e' : Expr} {es : List Expr} {md md' : Md} {α β γ δ ρ : Type} {S : Ty α} {T : Ty β} {U : Ty γ} {A : Ar δ} {pos : Pos} {i j : Nat} {x f : Str} {pp : Pos} {C : Addr}
variable {st : List Stmt} {D : δ → Out} {d : δ}
/-- a method, as its callers know it -/
structure MeF (p : Pr) (k : Nat) (c m : Str) (ps : List Str) (sp : Sp) : Prop where
  ex : ∃ (f : Addr) (fd : FuncData), FnOk p.P p.w p.K p.mg p.base (L2.CX p.P p.w) k f fd ("self" :: ps) sp ∧ Cls p.K (cA p c) ∧ Meth p.K (cA p c) m f ∧ Binds p.K fd ("self" :: ps) []
end
end Hd
namespace Hd
open PySem PySem.Spec PyProof.Rows L2
section
end
end Hd
namespace Hd
open PySem PySem.Spec L2
section
end
end Hd
namespace Hd
open PySem PySem.Spec L2
/-- an object that may be owned -/
def gd : HO → Bool
  | .lst _ => true
  | .tup _ => true
  | .dK _ => true
  | .dT _ => true
  | .set _ _ => true
  | .ins _ _ _ => true
  | _ => false
theorem gd_nt {o : HO} (h : gd o = true) : nt o = true := by cases o <;> first | rfl | cases h
theorem gd_ext {o : HO} (h : gd o = true) : ∀ φ, o ≠ .ext φ := fun φ e => by subst e; cases h
/-- a kind of things of one's own: what is owned of one stands in F; T: as it looks when it is shared -/
structure WTy (α : Type) where
  T : Ty α
  rep : α → V → Hp → RdR → List Addr → Prop
  st : ∀ {d v H H' F} {R R' : RdR}, rep d v H R F → (∀ a o, R a o → R' a o) → (∀ p ∈ F, H' p = H p) → rep d v H' R' F
  tb : ∀ {d v H F} {R : RdR}, rep d v H R F → ∀ p ∈ F, ∃ o, H p = some o ∧ gd o = true
  fz : ∀ {d v H F} {R R' : RdR}, rep d v H R F → (∀ a o, R a o → R' a o) → (∀ p ∈ F, ∀ o, H p = some o → R' p o) → T.rep d v R'
/-- shared things -/
def wV {α : Type} (T : Ty α) : WTy α where
  T := T
  rep := fun d v _ R F => F = [] ∧ T.rep d v R
  st := fun ⟨e, r⟩ s _ => ⟨e, T.mono r s⟩
  tb := fun ⟨e, _⟩ p hp => by subst e; exact nomatch hp
  fz := fun ⟨_, r⟩ s _ => T.mono r s
inductive RepsO {α : Type} (O : WTy α) (H : Hp) (R : RdR) : List α → List V → List (List Addr) → Prop where
  | nil : RepsO O H R [] [] []
  | cons {d v F ds vs Fs} : O.rep d v H R F → RepsO O H R ds vs Fs → RepsO O H R (d :: ds) (v :: vs) (F :: Fs)
section
variable {α : Type} {O : WTy α} {H H' : Hp} {R R' : RdR} {ds es : List α} {vs ws : List V} {Fs Gs : List (List Addr)}
theorem RepsO.st (h : RepsO O H R ds vs Fs) (s : ∀ a o, R a o → R' a o) (k : ∀ p ∈ Fs.flatten, H' p = H p) : RepsO O H' R' ds vs Fs := by
  induction h with
  | nil => exact .nil
  | cons r _ ih => exact .cons (O.st r s fun p hp => k p (by simp [hp])) (ih fun p hp => k p (by simp only [List.flatten_cons, List.mem_append]; exact .inr hp))
theorem RepsO.tb (h : RepsO O H R ds vs Fs) : ∀ p ∈ Fs.flatten, ∃ o, H p = some o ∧ gd o = true := by
  induction h with
  | nil => intro p hp; simp at hp
  | cons r _ ih => intro p hp; rw [List.flatten_cons, List.mem_append] at hp; exact hp.elim (O.tb r p) (ih p)
theorem RepsO.fz (h : RepsO O H R ds vs Fs) (s : ∀ a o, R a o → R' a o) (k : ∀ p ∈ Fs.flatten, ∀ o, H p = some o → R' p o) : Reps O.T R' ds vs := by
  induction h with
  | nil => exact .nil
  | cons r _ ih => exact .cons (O.fz r s fun p hp => k p (by simp [hp])) (ih fun p hp => k p (by simp only [List.flatten_cons, List.mem_append]; exact .inr hp))
theorem RepsO.length (h : RepsO O H R ds vs Fs) : ds.length = vs.length := by
  induction h with
  | nil => rfl
  | cons _ _ ih => simp [ih]
theorem RepsO.get (h : RepsO O H R ds vs Fs) : ∀ {i : Nat} {d : α}, ds[i]? = some d → ∃ v F, vs[i]? = some v ∧ Fs[i]? = some F ∧ O.rep d v H R F := by
  induction h with
  | nil => intro i d e; simp at e
  | cons r _ ih =>
    intro i d e
    cases i with
    | zero => simp at e; subst e; exact ⟨_, _, rfl, rfl, r⟩
    | succ i => obtain ⟨v, F, e1, e2, r1⟩ := ih (i := i) (d := d) (by simpa using e); exact ⟨v, F, by simpa using e1, by simpa using e2, r1⟩
theorem RepsO.append (h : RepsO O H R ds vs Fs) (k : RepsO O H R es ws Gs) : RepsO O H R (ds ++ es) (vs ++ ws) (Fs ++ Gs) := by
  induction h with
  | nil => exact k
  | cons r _ ih => exact .cons r ih
theorem RepsO.set {d : α} {v : V} {F : List Addr} (h : RepsO O H R ds vs Fs) (r : O.rep d v H R F) : ∀ (i : Nat), RepsO O H R (ds.set i d) (vs.set i v) (Fs.set i F) := by
  induction h with
  | nil => intro i; exact .nil
  | cons q t ih =>
    intro i
    cases i with
    | zero => exact .cons r t
    | succ i => exact .cons q (ih i)
theorem RepsO.take (h : RepsO O H R ds vs Fs) : ∀ n, RepsO O H R (ds.take n) (vs.take n) (Fs.take n) := by
  induction h with
  | nil => intro n; simp; exact .nil
  | cons r _ ih => intro n; cases n with
    | zero => exact .nil
    | succ n => exact .cons r (ih n)
theorem RepsO.drop (h : RepsO O H R ds vs Fs) : ∀ n, RepsO O H R (ds.drop n) (vs.drop n) (Fs.drop n) := by
  induction h with
  | nil => intro n; simp; exact .nil
  | cons r t ih => intro n; cases n with
    | zero => exact .cons r t
    | succ n => exact ih n
/-- an item changes where it stands -/
theorem RepsO.chg {d' : α} {F F' : List Addr} {v : V} (h : RepsO O H R ds vs Fs) (s : ∀ a o, R a o → R' a o) : ∀ {i : Nat}, Fs.flatten.Nodup → Fs[i]? = some F → vs[i]? = some v → (∀ p ∈ Fs.flatten, p ∉ F → H' p = H p) → O.rep d' v H' R' F' → RepsO O H' R' (ds.set i d') vs (Fs.set i F') := by
  induction h with
  | nil => intro i _ e; simp at e
  | @cons d0 v0 F0 ds vs Fs q t ih =>
    intro i nd e1 e2 k r
    rw [List.flatten_cons, List.nodup_append] at nd
    cases i with
    | zero =>
      simp at e1 e2
      subst e1; subst e2
      exact .cons r (t.st s fun p hp => k p (by simp only [List.flatten_cons, List.mem_append]; exact .inr hp) fun hp' => nd.2.2 p hp' p hp rfl)
    | succ i =>
      have e1' : Fs[i]? = some F := by simpa using e1
      refine .cons (O.st q s fun p hp => k p (by simp [hp]) fun hp' => nd.2.2 p hp p (List.mem_flatten.mpr ⟨F, List.mem_of_getElem? e1', hp'⟩) rfl) ?_
      exact ih nd.2.1 e1' (by simpa using e2) (fun p hp => k p (by simp only [List.flatten_cons, List.mem_append]; exact .inr hp)) r
end
/-- the footprints' lists -/
theorem flat_set_mem {Fs : List (List Addr)} {F F' : List Addr} : ∀ {i : Nat}, Fs.flatten.Nodup → Fs[i]? = some F → ∀ x, x ∈ (Fs.set i F').flatten → x ∈ F' ∨ (x ∈ Fs.flatten ∧ x ∉ F) := by
  induction Fs with
  | nil => intro i _ e; simp at e
  | cons G Fs ih =>
    intro i nd e x hx
    rw [List.flatten_cons, List.nodup_append] at nd
    cases i with
    | zero =>
      simp at e; subst e
      rw [List.set_cons_zero, List.flatten_cons, List.mem_append] at hx
      rcases hx with h | h
      · exact .inl h
      · exact .inr ⟨by rw [List.flatten_cons, List.mem_append]; exact .inr h, fun h' => nd.2.2 x h' x h rfl⟩
    | succ i =>
      have e' : Fs[i]? = some F := by simpa using e
      rw [List.set_cons_succ, List.flatten_cons, List.mem_append] at hx
      rcases hx with h | h
      · exact .inr ⟨by rw [List.flatten_cons, List.mem_append]; exact .inl h, fun h' => nd.2.2 x h x (List.mem_flatten.mpr ⟨F, List.mem_of_getElem? e', h'⟩) rfl⟩
      · rcases ih nd.2.1 e' x h with h | ⟨h, h2⟩
        · exact .inl h
        · exact .inr ⟨by rw [List.flatten_cons, List.mem_append]; exact .inr h, h2⟩
theorem flat_set_nd {Fs : List (List Addr)} {F F' : List Addr} : ∀ {i : Nat}, Fs.flatten.Nodup → Fs[i]? = some F → F'.Nodup → (∀ x ∈ F', x ∈ F ∨ x ∉ Fs.flatten) → (Fs.set i F').flatten.Nodup := by
  induction Fs with
  | nil => intro i _ e; simp at e
  | cons G Fs ih =>
    intro i nd e n' k
    rw [List.flatten_cons, List.nodup_append] at nd
    cases i with
    | zero =>
      simp at e; subst e
      rw [List.set_cons_zero, List.flatten_cons, List.nodup_append]
      refine ⟨n', nd.2.1, fun a ha b hb e => ?_⟩
      subst e
      rcases k a ha with h | h
      · exact nd.2.2 a h a hb rfl
      · exact h (by rw [List.flatten_cons, List.mem_append]; exact .inr hb)
    | succ i =>
      have e' : Fs[i]? = some F := by simpa using e
      rw [List.set_cons_succ, List.flatten_cons, List.nodup_append]
      refine ⟨nd.1, ih nd.2.1 e' n' fun x hx => (k x hx).imp id (fun h h' => h (by rw [List.flatten_cons, List.mem_append]; exact .inr h')), fun a ha b hb e => ?_⟩
      subst e
      rcases flat_set_mem nd.2.1 e' a hb with h | ⟨h, _⟩
      · rcases k a h with h | h
        · exact nd.2.2 a ha a (List.mem_flatten.mpr ⟨F, List.mem_of_getElem? e', h⟩) rfl
        · exact h (by rw [List.flatten_cons, List.mem_append]; exact .inl ha)
      · exact nd.2.2 a ha a h rfl
theorem flat_mem {Fs : List (List Addr)} {F : List Addr} {i : Nat} (e : Fs[i]? = some F) : ∀ x ∈ F, x ∈ Fs.flatten := fun x hx => List.mem_flatten.mpr ⟨F, List.mem_of_getElem? e, hx⟩
theorem flat_nd {Fs : List (List Addr)} {F : List Addr} : ∀ {i : Nat}, Fs.flatten.Nodup → Fs[i]? = some F → F.Nodup := by
  induction Fs with
  | nil => intro i _ e; simp at e
  | cons G Fs ih =>
    intro i nd e
    rw [List.flatten_cons, List.nodup_append] at nd
    cases i with
    | zero => simp at e; subst e; exact nd.1
    | succ i => exact ih nd.2.1 (by simpa using e)
/-- a list of one's own -/
def wL {α : Type} (O : WTy α) : WTy (List α) where
  T := tList O.T
  rep := fun ds v H R F => ∃ p vs Fs, v = .ref p ∧ F = p :: Fs.flatten ∧ H p = some (.lst vs) ∧ RepsO O H R ds vs Fs
  st := by
    rintro d v H H' F R R' ⟨p, vs, Fs, e1, e2, h, r⟩ s k
    exact ⟨p, vs, Fs, e1, e2, by rw [k p (by rw [e2]; exact List.mem_cons_self)]; exact h, r.st s fun q hq => k q (by rw [e2]; exact List.mem_cons_of_mem _ hq)⟩
  tb := by
    rintro d v H F R ⟨p, vs, Fs, e1, e2, h, r⟩ q hq
    rw [e2] at hq
    rcases List.mem_cons.mp hq with e | hq
    · subst e; exact ⟨_, h, rfl⟩
    · exact r.tb q hq
  fz := by
    rintro d v H F R R' ⟨p, vs, Fs, e1, e2, h, r⟩ s k
    exact ⟨p, vs, e1, k p (by rw [e2]; exact List.mem_cons_self) _ h, r.fz s fun q hq => k q (by rw [e2]; exact List.mem_cons_of_mem _ hq)⟩
/-- written items of one's own -/
structure WAr (δ : Type) where
  A : Ar δ
  /-- as fields of an object with these names -/
  fl : List Str → δ → List FldS
  rep : δ → List V → Hp → RdR → List Addr → Prop
  st : ∀ {d vs H H' F} {R R' : RdR}, rep d vs H R F → (∀ a o, R a o → R' a o) → (∀ p ∈ F, H' p = H p) → rep d vs H' R' F
  tb : ∀ {d vs H F} {R : RdR}, rep d vs H R F → ∀ p ∈ F, ∃ o, H p = some o ∧ gd o = true
  fz : ∀ {d vs H F} {R R' : RdR}, rep d vs H R F → (∀ a o, R a o → R' a o) → (∀ p ∈ F, ∀ o, H p = some o → R' p o) → A.rep d vs R'
  fzF : ∀ {d vs H F} {R R' : RdR} {ns : List Str}, ns.length = vs.length → rep d vs H R F → (∀ a o, R a o → R' a o) → (∀ p ∈ F, ∀ o, H p = some o → R' p o) → FsR R' (fl ns d) (ns.zip vs)
def waNil : WAr Unit where
  A := aNil
  fl := fun _ _ => []
  rep := fun _ vs _ _ F => vs = [] ∧ F = []
  st := fun h _ _ => h
  tb := by
    rintro d vs H F R ⟨_, e⟩ p hp
    subst e; exact nomatch hp
  fz := fun h _ _ => h.1
  fzF := by
    rintro d vs H F R R' ns hl ⟨e, _⟩ _ _
    subst e
    cases ns with
    | nil => exact .nil
    | cons _ _ => cases hl
def waFl {α β : Type} (T : Ty α) (fl : List Str → β → List FldS) : List Str → α × β → List FldS
  | [], _ => []
  | n :: ns, d => ⟨n, α, T, d.1⟩ :: fl ns d.2
def waCons {α β : Type} (O : WTy α) (A : WAr β) : WAr (α × β) where
  A := aCons O.T A.A
  fl := waFl O.T A.fl
  rep := fun d vs H R F => ∃ v r F1 F2, vs = v :: r ∧ F = F1 ++ F2 ∧ O.rep d.1 v H R F1 ∧ A.rep d.2 r H R F2
  st := by
    rintro d vs H H' F R R' ⟨v, r, F1, F2, e1, e2, h1, h2⟩ s k
    exact ⟨v, r, F1, F2, e1, e2, O.st h1 s fun p hp => k p (by rw [e2]; exact List.mem_append_left _ hp), A.st h2 s fun p hp => k p (by rw [e2]; exact List.mem_append_right _ hp)⟩
  tb := by
    rintro d vs H F R ⟨v, r, F1, F2, e1, e2, h1, h2⟩ p hp
    rw [e2] at hp; exact (List.mem_append.mp hp).elim (O.tb h1 p) (A.tb h2 p)
  fz := by
    rintro d vs H F R R' ⟨v, r, F1, F2, e1, e2, h1, h2⟩ s k
    exact ⟨v, r, e1, O.fz h1 s fun p hp => k p (by rw [e2]; exact List.mem_append_left _ hp), A.fz h2 s fun p hp => k p (by rw [e2]; exact List.mem_append_right _ hp)⟩
  fzF := by
    rintro d vs H F R R' ns hl ⟨v, r, F1, F2, e1, e2, h1, h2⟩ s k
    subst e1
    cases ns with
    | nil => cases hl
    | cons n ns => exact .cons (O.fz h1 s fun p hp => k p (by rw [e2]; exact List.mem_append_left _ hp)) (A.fzF (by simpa using hl) h2 s fun p hp => k p (by rw [e2]; exact List.mem_append_right _ hp))
/-- a tuple of things of one's own -/
def wTup {δ : Type} (A : WAr δ) : WTy δ where
  T := tTup A.A
  rep := fun d v H R F => ∃ p vs G, v = .ref p ∧ F = p :: G ∧ H p = some (.tup vs) ∧ A.rep d vs H R G
  st := by
    rintro d v H H' F R R' ⟨p, vs, Fs, e1, e2, h, r⟩ s k
    exact ⟨p, vs, Fs, e1, e2, by rw [k p (by rw [e2]; exact List.mem_cons_self)]; exact h, A.st r s fun q hq => k q (by rw [e2]; exact List.mem_cons_of_mem _ hq)⟩
  tb := by
    rintro d v H F R ⟨p, vs, Fs, e1, e2, h, r⟩ q hq
    rw [e2] at hq
    rcases List.mem_cons.mp hq with e | hq
    · subst e; exact ⟨_, h, rfl⟩
    · exact A.tb r q hq
  fz := by
    rintro d v H F R R' ⟨p, vs, Fs, e1, e2, h, r⟩ s k
    exact ⟨p, vs, e1, k p (by rw [e2]; exact List.mem_cons_self) _ h, A.fz r s fun q hq => k q (by rw [e2]; exact List.mem_cons_of_mem _ hq)⟩
/-- what holds of all leaves however they are read -/
def FlatW {α : Type} (O : WTy α) : Prop := ∀ {d v H F} {R R' : RdR}, O.rep d v H R F → O.rep d v H R' F
def FlatWA {δ : Type} (A : WAr δ) : Prop := ∀ {d vs H F} {R R' : RdR}, A.rep d vs H R F → A.rep d vs H R' F
section
variable {α β δ : Type} {O : WTy α} {A : WAr δ} {T : Ty α} {C : Addr} {ns : List Str}
theorem fw_v (h : Flat T) : FlatW (wV T) := fun ⟨e, r⟩ => ⟨e, h r⟩
theorem fw_reps (h : FlatW O) {H : Hp} {R R' : RdR} {ds : List α} {vs : List V} {Fs : List (List Addr)} (r : RepsO O H R ds vs Fs) : RepsO O H R' ds vs Fs := by
  induction r with
  | nil => exact .nil
  | cons q _ ih => exact .cons (h q) ih
theorem fw_l (h : FlatW O) : FlatW (wL O) := fun ⟨p, vs, Fs, e1, e2, q, r⟩ => ⟨p, vs, Fs, e1, e2, q, fw_reps h r⟩
theorem fwa_nil : FlatWA waNil := fun h => h
theorem fwa_cons (h : FlatW O) (k : FlatWA A) : FlatWA (waCons O A) := fun ⟨v, r, F1, F2, e1, e2, h1, h2⟩ => ⟨v, r, F1, F2, e1, e2, h h1, k h2⟩
theorem fw_tup (k : FlatWA A) : FlatW (wTup A) := fun ⟨p, vs, G, e1, e2, h, r⟩ => ⟨p, vs, G, e1, e2, h, k r⟩
end
/-- a slot of things of one's own; px: which value it is -/
def sP {α : Type} (px : V → Prop) (O : WTy α) (d : α) : Slot := ⟨fun v H R F => ∃ x, v = some x ∧ px x ∧ O.rep d x H (R false) F, fun ⟨x, e, hx, r⟩ s k => ⟨x, e, hx, O.st r (s false) k⟩,
  fun ⟨x, e, hx, r⟩ p hp => by obtain ⟨o, h, g⟩ := O.tb r p hp; rw [cl_of h (gd_nt g)]; exact fun z => nomatch z⟩
abbrev sO {α : Type} (O : WTy α) (d : α) : Slot := sP (fun _ => True) O d
abbrev sA {α : Type} (x : V) (O : WTy α) (d : α) : Slot := sP (fun v => v = x) O d
def FinN {β : Type} (fm : Fm) (W : Wx) (own : List Addr) (σ : L2.St) (H : Hp) (O : WTy β) (Q : VK) : M β → Prop
  | .ok d => ∀ v F H', Same H H' → F.Nodup → (∀ p ∈ F, H p = none) → O.rep d v H' (RD fm (F ++ own) H') F → Q v H'
  | .ex c => ∀ H', Same H H' → W c σ H'
  | .no => False
theorem finN {β : Type} {O : WTy β} {fm : Fm} {W : Wx} {own : List Addr} {σ : L2.St} {H : Hp} {Q : VK} : Fin W σ H (FinN fm W own σ H O Q) := ⟨fun h => h, fun h => h⟩
def EvN (g : G) (L : List Slot) (e : Expr) {β : Type} (O : WTy β) (m : M β) : Prop := PE g.X e (fun σ H Q => ∃ kp own, At g.fm kp L σ H own ∧ FinN g.fm g.W own σ H O Q m)
theorem RD.drop {fm : Fm} {own own' : List Addr} {H : Hp} (k : ∀ p ∈ own', p ∈ own) : ∀ a o, RD fm own H a o → RD fm own' H a o := RX.own (md := .sh) (H := H) k
/-- read ahead: what was there is none of the new -/
theorem RD.newer {fm : Fm} {own F : List Addr} {H H' : Hp} (s : Same H H') (n : ∀ p ∈ F, H p = none) : ∀ a o, RD fm own H a o → RD fm (F ++ own) H' a o := fun a o r => by
  rcases r with ⟨r1, r2, r3⟩ | r
  · refine .inl ⟨Rd.same s r1, fun h => ?_, r3⟩
    rcases List.mem_append.mp h with h | h
    · have := n a h
      rcases r1 with r1 | ⟨_, r1⟩ <;> rw [cl_none this] at r1 <;> cases r1
    · exact r2 h
  · exact .inr r
section
variable {p : Pr} {sc : Scope} {NN VV GG : List Str} {k : Nat} {g : G} {L L' : List Slot} {a b c e e' : Expr} {es : List Expr} {md md' : Md} {α β γ δ ρ : Type} {S : Ty α} {T : Ty β} {U : Ty γ} {O : WTy α} {A : WAr δ} {pos pp : Pos} {i j : Nat} {x : Str}
/-- .. is shared at once -/
theorem ev_ofN {m : M α} (h : EvN g L e O m) : EvE g L e .sh O.T m := PE.imp h fun σ H Q q => by
  obtain ⟨kp, own, at_, q⟩ := tE_iff.mp q
  refine ⟨kp, own, at_, ?_⟩
  cases m with
  | ok d => exact fun v F H' s nd n r => q v H' s (O.fz r (RD.drop fun p hp => List.mem_append_right _ hp) fun p hp o ho => by
      obtain ⟨o', h', g'⟩ := O.tb r p hp
      rw [ho] at h'; cases h'
      exact .inl ⟨.inl (cl_of ho (gd_nt g')), fun hq => (at_.new p hq).1 (n p hp), fun hz => at_.zin p hz (n p hp)⟩)
  | ex c => exact q
  | no => exact q
theorem evn_v {m : M α} (h : EvE g L e md S m) : EvN g L e (wV S) m := PE.imp h fun σ H Q ⟨kp, own, at_, q⟩ => by
  refine tE_iff.mpr ⟨kp, own, at_, ?_⟩
  cases m with
  | ok d => exact fun v H' s r => q v [] H' s List.nodup_nil (fun _ hp => nomatch hp) ⟨rfl, S.mono r fun a o z => RX.sh a o z⟩
  | ex c => exact q
  | no => exact q
theorem evn_l {m : M (List α)} (h : EvL g L e md S m) : EvN g L e (wL (wV S)) m := PE.imp h fun σ H Q ⟨kp, own, at_, q⟩ => by
  refine tL_iff.mpr ⟨kp, own, at_, ?_⟩
  cases m with
  | ok ds =>
    intro p vs H' s n h' r
    have fl : ∀ {ds : List α} {vs : List V} {R : RdR}, Reps S R ds vs → ∃ Fs, RepsO (wV S) H' R ds vs Fs ∧ Fs.flatten = [] := fun {ds vs R} r => by
      induction r with
      | nil => exact ⟨[], .nil, rfl⟩
      | cons r _ ih => obtain ⟨Fs, h1, h2⟩ := ih; exact ⟨[] :: Fs, .cons ⟨rfl, r⟩ h1, by simpa using h2⟩
    obtain ⟨Fs, r1, e1⟩ := fl (r.mono fun a o z => RX.sh a o z)
    exact q (.ref p) [p] H' s (by simp) (fun q hq => by rw [List.mem_singleton.mp hq]; exact n) ⟨p, vs, Fs, rfl, by rw [e1], h', r1⟩
  | ex c => exact q
  | no => exact q
end
end Hd
namespace Hd
open PySem PySem.Spec L2
structure Plc (H : Hp) (R : RdR) {α : Type} (O : WTy α) (v : V) (F : List Addr) {β : Type} (O2 : WTy β) (d2 : β) (put : β → α) (v2 : V) (F2 : List Addr) : Prop where
  rep : O2.rep d2 v2 H R F2
  sub : ∀ p ∈ F2, p ∈ F
  nd : F2.Nodup
  up : ∀ {H' : Hp} {R' : RdR} {d2' : β} {F2' : List Addr}, (∀ a o, R a o → R' a o) → (∀ p ∈ F, p ∉ F2 → H' p = H p) → O2.rep d2' v2 H' R' F2' → F2'.Nodup → (∀ p ∈ F2', p ∈ F2 ∨ p ∉ F) →
    ∃ F', O.rep (put d2') v H' R' F' ∧ F'.Nodup ∧ ∀ p ∈ F', p ∈ F2' ∨ (p ∈ F ∧ p ∉ F2)
/-- the item k of written items -/
inductive WAt : {δ : Type} → WAr δ → Nat → {α : Type} → WTy α → (δ → α) → (δ → α → δ) → Prop where
  | z {α δ : Type} {O : WTy α} {A : WAr δ} : WAt (waCons O A) 0 O (fun d => d.1) (fun d y => (y, d.2))
  | s {α β δ : Type} {O : WTy α} {O' : WTy β} {A : WAr δ} {k : Nat} {pr : δ → α} {st : δ → α → δ} : WAt A k O pr st → WAt (waCons O' A) (k + 1) O (fun d => pr d.2) (fun d y => (d.1, st d.2 y))
section
variable {α β γ δ : Type} {O : WTy α} {O2 : WTy β} {O3 : WTy γ} {A : WAr δ} {H H' : Hp} {R R' : RdR} {v v2 : V} {F F2 G : List Addr} {d : α} {d2 : β} {put : β → α}
theorem Plc.root (r : O.rep d v H R F) (nd : F.Nodup) : Plc H R O v F O d (fun y => y) v F := ⟨r, fun _ h => h, nd, fun _ _ r' nd' _ => ⟨_, r', nd', fun _ hp => .inl hp⟩⟩
theorem Plc.ext (h : Plc H R O v F O2 d2 put v2 F2) (s : ∀ a o, R a o → R' a o) (k : ∀ p ∈ F, H' p = H p) : Plc H' R' O v F O2 d2 put v2 F2 :=
  ⟨O2.st h.rep s fun p hp => k p (h.sub p hp), h.sub, h.nd, fun s' k' r' nd' n' => h.up (fun a o z => s' a o (s a o z)) (fun p hp hn => (k' p hp hn).trans (k p hp)) r' nd' n'⟩
theorem WAt.get {k : Nat} {pr : δ → γ} {st : δ → γ → δ} (h : WAt A k O3 pr st) : ∀ {d : δ} {vs : List V} {G : List Addr}, A.rep d vs H R G → G.Nodup → ∃ v3 F3, vs[k]? = some v3 ∧ O3.rep (pr d) v3 H R F3 ∧ (∀ q ∈ F3, q ∈ G) ∧ F3.Nodup ∧
    ∀ {H' R' y F3'}, (∀ a o, R a o → R' a o) → (∀ q ∈ G, q ∉ F3 → H' q = H q) → O3.rep y v3 H' R' F3' → F3'.Nodup → (∀ q ∈ F3', q ∈ F3 ∨ q ∉ G) → ∃ G', A.rep (st d y) vs H' R' G' ∧ G'.Nodup ∧ ∀ q ∈ G', q ∈ F3' ∨ (q ∈ G ∧ q ∉ F3) := by
  induction h with
  | z =>
    rintro d vs G ⟨v, r, F1, F2, e1, e2, h1, h2⟩ nd
    subst e1; subst e2
    rw [List.nodup_append] at nd
    refine ⟨v, F1, rfl, h1, fun q hq => List.mem_append_left _ hq, nd.1, fun {H' R' y F3'} s k r' nd' n' => ?_⟩
    have dj : ∀ q ∈ F2, q ∉ F1 := fun q hq hq' => nd.2.2 q hq' q hq rfl
    refine ⟨F3' ++ F2, ⟨v, r, F3', F2, rfl, rfl, r', WAr.st _ h2 s fun q hq => k q (List.mem_append_right _ hq) (dj q hq)⟩, List.nodup_append.mpr ⟨nd', nd.2.1, fun a ha b hb e => ?_⟩, fun q hq => ?_⟩
    · subst e
      rcases n' a ha with hq | hq
      · exact dj a hb hq
      · exact hq (List.mem_append_right _ hb)
    · rcases List.mem_append.mp hq with hq | hq
      · exact .inl hq
      · exact .inr ⟨List.mem_append_right _ hq, dj q hq⟩
  | s _ ih =>
    rintro d vs G ⟨v, r, F1, F2, e1, e2, h1, h2⟩ nd
    subst e1; subst e2
    rw [List.nodup_append] at nd
    obtain ⟨v3, F3, e3, r3, s3, nd3, up3⟩ := ih h2 nd.2.1
    have dj : ∀ q ∈ F1, q ∉ F2 := fun q hq hq' => nd.2.2 q hq q hq' rfl
    refine ⟨v3, F3, by simpa using e3, r3, fun q hq => List.mem_append_right _ (s3 q hq), nd3, fun {H' R' y F3'} s k r' nd' n' => ?_⟩
    obtain ⟨G', r4, nd4, n4⟩ := up3 s (fun q hq hn => k q (List.mem_append_right _ hq) hn) r' nd' (fun q hq => (n' q hq).imp id fun hn hq' => hn (List.mem_append_right _ hq'))
    refine ⟨F1 ++ G', ⟨v, r, F1, G', rfl, rfl, WTy.st _ h1 s fun q hq => k q (List.mem_append_left _ hq) fun hq' => dj q hq (s3 q hq'), r4⟩, List.nodup_append.mpr ⟨nd.1, nd4, fun a ha b hb e => ?_⟩, fun q hq => ?_⟩
    · subst e
      rcases n4 a hb with hq | ⟨hq, _⟩
      · rcases n' a hq with hq | hq
        · exact dj a ha (s3 a hq)
        · exact hq (List.mem_append_left _ ha)
      · exact dj a ha hq
    · rcases List.mem_append.mp hq with hq | hq
      · exact .inr ⟨List.mem_append_left _ hq, fun hq' => dj q hq (s3 q hq')⟩
      · rcases n4 q hq with hq | ⟨hq, hn⟩
        · exact .inl hq
        · exact .inr ⟨List.mem_append_right _ hq, hn⟩
/-- a part of a thing that stands at one address and holds written items -/
theorem Plc.part {dd : δ} {put : δ → α} {B : WTy δ} {con : List V → HO} (h : Plc H R O v F B dd put v2 F2) {p : Addr} {vs : List V} {G : List Addr}
    (e1 : v2 = .ref p) (e2 : F2 = p :: G) (hp : H p = some (con vs)) (rr : A.rep dd vs H R G) (cl : ∀ H' R' d' G', H' p = some (con vs) → A.rep d' vs H' R' G' → B.rep d' v2 H' R' (p :: G'))
    {k : Nat} {pr : δ → γ} {st : δ → γ → δ} (hA : WAt A k O3 pr st) :
    ∃ v3 F3, vs[k]? = some v3 ∧ (∀ q ∈ F3, q ∈ F2) ∧ Plc H R O v F O3 (pr dd) (fun y => put (st dd y)) v3 F3 := by
  have nd := h.nd
  rw [e2, List.nodup_cons] at nd
  obtain ⟨v3, F3, e3, r3, s3, nd3, up3⟩ := hA.get rr nd.2
  have s32 : ∀ q ∈ F3, q ∈ F2 := fun q hq => by rw [e2]; exact List.mem_cons_of_mem _ (s3 q hq)
  have pF2 : p ∈ F2 := by rw [e2]; exact List.mem_cons_self
  have np3 : p ∉ F3 := fun hq => nd.1 (s3 p hq)
  refine ⟨v3, F3, e3, s32, r3, fun q hq => h.sub q (s32 q hq), nd3, fun {H' R' d3' F3'} s k r' nd' n' => ?_⟩
  obtain ⟨G', r4, nd4, n4⟩ := up3 s (fun q hq hn => k q (h.sub q (by rw [e2]; exact List.mem_cons_of_mem _ hq)) hn) r' nd' (fun q hq => (n' q hq).imp id fun hn hq' => hn (h.sub q (by rw [e2]; exact List.mem_cons_of_mem _ hq')))
  have np : p ∉ G' := fun hq => by
    rcases n4 p hq with hq | ⟨hq, _⟩
    · rcases n' p hq with hq | hq
      · exact np3 hq
      · exact hq (h.sub p pF2)
    · exact nd.1 hq
  obtain ⟨F', r5, nd5, n5⟩ := h.up (d2' := st dd d3') (F2' := p :: G') s (fun q hq hn => k q hq fun hq' => hn (s32 q hq')) (cl _ _ _ _ (by rw [k p (h.sub p pF2) np3]; exact hp) r4) (List.nodup_cons.mpr ⟨np, nd4⟩) (fun q hq => by
      rcases List.mem_cons.mp hq with hq | hq
      · subst hq; exact .inl pF2
      · rcases n4 q hq with hq | ⟨hq, _⟩
        · exact (n' q hq).imp (s32 q) id
        · exact .inl (by rw [e2]; exact List.mem_cons_of_mem _ hq))
  refine ⟨F', r5, nd5, fun q hq => ?_⟩
  rcases n5 q hq with hq | ⟨hq, hn⟩
  · rcases List.mem_cons.mp hq with hq | hq
    · subst hq; exact .inr ⟨h.sub _ pF2, np3⟩
    · rcases n4 q hq with hq | ⟨hq, hn⟩
      · exact .inl hq
      · exact .inr ⟨h.sub q (by rw [e2]; exact List.mem_cons_of_mem _ hq), hn⟩
  · exact .inr ⟨hq, fun hq' => hn (s32 q hq')⟩
end
/-- slot i holds a thing of one's own, of which d2 at v2 is a place -/
def AtP (fm : Fm) (L : List Slot) (σ : L2.St) (own : List Addr) (Fs : List (List Addr)) (i : Nat) (px : V → Prop) {α : Type} (O : WTy α) (d : α) (H : Hp) {β : Type} (O2 : WTy β) (d2 : β) (put : β → α) (v2 : V) (F2 : List Addr) : Prop :=
  ∃ v F, L[i]? = some (sP px O d) ∧ AllS H (RB fm own H) L σ Fs ∧ own = Fs.flatten ∧ σ[i]? = some (some v) ∧ px v ∧ Fs[i]? = some F ∧ Plc H (RD fm own H) O v F O2 d2 put v2 F2
section
variable {fm : Fm} {kp : RdR} {L : List Slot} {σ : L2.St} {H H' : Hp} {own : List Addr} {i : Nat} {px : V → Prop} {α β γ : Type} {O : WTy α} {O2 : WTy β} {d : α} {d2 : β} {put : β → α} {v2 : V} {F2 : List Addr} {Fs : List (List Addr)}
theorem At.gdo (h : At fm kp L σ H own) (hA : AtP fm L σ own Fs i px O d H O2 d2 put v2 F2) : ∀ p ∈ F2, p ∈ own := by
  obtain ⟨v, F, hL, hs, e, e1, hx, e2, pl⟩ := hA
  exact fun p hp => by rw [e]; exact flat_mem e2 p (pl.sub p hp)
theorem AtP.ext (hA : AtP fm L σ own Fs i px O d H O2 d2 put v2 F2) (s : Same H H') : AtP fm L σ own Fs i px O d H' O2 d2 put v2 F2 := by
  obtain ⟨v, F, hL, hs, e, e1, hx, e2, pl⟩ := hA
  have k : ∀ p ∈ Fs.flatten, H' p = H p := fun p hp => by
    cases r : cl H p with
    | none => exact absurd r (hs.tb p hp)
    | some o => rw [cl_raw r]; exact s.keep _ _ (cl_raw r) (cl_nt r)
  exact ⟨v, F, hL, hs.st (RB.same s) k, e, e1, hx, e2, pl.ext (RD.same s) fun p hp => k p (flat_mem e2 p hp)⟩
theorem At.toP (h : At fm kp L σ H own) (hs : AllS H (RB fm own H) L σ Fs) (e : own = Fs.flatten) (hL : L[i]? = some (sP px O d)) : ∃ v F, σ[i]? = some (some v) ∧ AtP fm L σ own Fs i px O d H O d (fun y => y) v F := by
  obtain ⟨v0, F, e1, e2, v, rfl, hx, r⟩ := hs.get hL
  have nd := h.nd
  rw [e] at nd
  exact ⟨v, F, e1, v, F, hL, hs, e, e1, hx, e2, Plc.root r (flat_nd nd e2)⟩
/-- one slot changes -/
theorem AllS.chg {R R' : Bool → RdR} {s' : Slot} : ∀ {L : List Slot} {σ : L2.St} {Fs : List (List Addr)} {i : Nat} {F F' : List Addr} {v : Option V}, AllS H R L σ Fs → Fs.flatten.Nodup → Fs[i]? = some F → σ[i]? = some v → (∀ b a o, R b a o → R' b a o) → (∀ p ∈ Fs.flatten, p ∉ F → H' p = H p) → s'.ok v H' R' F' → AllS H' R' (L.set i s') σ (Fs.set i F') := by
  intro L σ Fs i F F' v h
  induction h generalizing i with
  | nil => intro _ e; simp at e
  | @cons sl L v0 σ F0 Fs r t ih =>
    intro nd e1 e2 s k r'
    rw [List.flatten_cons, List.nodup_append] at nd
    cases i with
    | zero =>
      simp at e1 e2
      subst e1; subst e2
      exact .cons r' (t.st s fun p hp => k p (by simp only [List.flatten_cons, List.mem_append]; exact .inr hp) fun hp' => nd.2.2 p hp' p hp rfl)
    | succ i =>
      have e1' : Fs[i]? = some F := by simpa using e1
      refine .cons (sl.st r s fun p hp => k p (by simp [hp]) fun hp' => nd.2.2 p hp p (flat_mem e1' p hp') rfl) ?_
      exact ih nd.2.1 e1' (by simpa using e2) s (fun p hp => k p (by simp only [List.flatten_cons, List.mem_append]; exact .inr hp)) r'
/-- the heap without some things -/
def hm (H : Hp) (F : List Addr) : Hp := fun a => if a ∈ F then none else H a
theorem hm_in {H : Hp} {F : List Addr} {a : Addr} (h : a ∈ F) : hm H F a = none := by unfold hm; rw [if_pos h]
theorem hm_out {H : Hp} {F : List Addr} {a : Addr} (h : a ∉ F) : hm H F a = H a := by unfold hm; rw [if_neg h]
/-- the place changes, and nothing else that was there -/
theorem At.chg {d2' : β} {F2' : List Addr} (h : At fm kp L σ H own) (hA : AtP fm L σ own Fs i px O d H O2 d2 put v2 F2)
    (sm : Same (hm H F2) H') (nd' : F2'.Nodup) (n1 : ∀ p ∈ F2', p ∈ F2 ∨ H p = none) (n2 : ∀ p ∈ F2', H' p ≠ none)
    (r' : O2.rep d2' v2 H' (RD fm (F2' ++ own) H') F2') : ∃ own', At fm kp (L.set i (sP px O (put d2'))) σ H' own' ∧ ∀ p ∈ own', p ∈ F2' ∨ (p ∈ own ∧ p ∉ F2) := by
  have sub2 := h.gdo hA
  obtain ⟨v, F, hL, hs, e, e1, hx, e2, pl⟩ := hA
  obtain ⟨h1, h2, _, h4, h5, h6⟩ := h
  have nd := h4
  rw [e] at nd
  have keep : ∀ a o, H a = some o → nt o = true → a ∉ F2 → H' a = some o := fun a o ea na hn => sm.keep a o (by rw [hm_out hn]; exact ea) na
  have fr : ∀ a, H' a = none → a ∉ F2 → H a = none := fun a ea hn => by have := sm.fr a ea; rwa [hm_out hn] at this
  have tab : ∀ P, LamX.TabS H P lamQ → LamX.TabS H' P lamQ := fun P t => sm.tab P (by
    obtain ⟨ps, t1, t2, t3⟩ := t
    have ng : ∀ a o, H a = some o → gd o = false → a ∉ F2 := fun a o ea ga q => by
      obtain ⟨o', ho', go'⟩ := O2.tb pl.rep a q
      rw [ea] at ho'; cases ho'
      rw [ga] at go'; cases go'
    refine ⟨ps, by rw [hm_out (ng P _ t1 rfl)]; exact t1, t2, fun pos cv hc => ?_⟩
    obtain ⟨c, c1, c2⟩ := t3 pos cv hc
    exact ⟨c, c1, by rw [hm_out (ng c _ c2 rfl)]; exact c2⟩)
  have kcl : ∀ a o, cl H a = some o → a ∉ F2 → cl H' a = some o := fun a o ea hn => cl_of (keep a o (cl_raw ea) (cl_nt ea) hn) (cl_nt ea)
  have keq : ∀ a, cl H a ≠ none → a ∉ F2 → H' a = H a := fun a ha hn => by
    cases r : cl H a with
    | none => exact absurd r ha
    | some o => rw [cl_raw r]; exact keep a o (cl_raw r) (cl_nt r) hn
  have rdn : ∀ a o, RD fm own H a o → RD fm (F2' ++ own) H' a o := fun a o z => by
    rcases z with ⟨z1, z2, z3⟩ | z
    · have hne : H a ≠ none := fun q => by rcases z1 with z1 | ⟨_, z1⟩ <;> rw [cl_none q] at z1 <;> cases z1
      have n2 : a ∉ F2 := fun q => z2 (sub2 a q)
      refine .inl ⟨z1.imp (fun q => kcl a _ q n2) fun ⟨f, q⟩ => ⟨f, kcl a _ q n2⟩, fun hq => ?_, z3⟩
      rcases List.mem_append.mp hq with hq | hq
      · rcases n1 a hq with hq | hq
        · exact z2 (sub2 a hq)
        · exact hne hq
      · exact z2 hq
    · exact .inr z
  obtain ⟨F', r4, nd4, n4⟩ := pl.up rdn (fun p hp hn => keq p (hs.tb p (flat_mem e2 p hp)) hn) r' nd' (fun p hp => (n1 p hp).imp id fun q hq => (h5 p (by rw [e]; exact flat_mem e2 p hq)).1 q)
  have nF : ∀ p ∈ (Fs.set i F').flatten, p ∈ F2' ∨ (p ∈ own ∧ p ∉ F2) := fun p hp => by
    rcases flat_set_mem nd e2 p hp with hp | ⟨hp, hn⟩
    · rcases n4 p hp with hp | ⟨hp, hn⟩
      · exact .inl hp
      · exact .inr ⟨by rw [e]; exact flat_mem e2 p hp, hn⟩
    · exact .inr ⟨by rw [e]; exact hp, fun q => hn (pl.sub p q)⟩
  have dr : ∀ a o, RD fm (F2' ++ own) H' a o → RD fm (Fs.set i F').flatten H' a o := RD.drop fun p hp => List.mem_append.mpr ((nF p hp).imp id (·.1))
  have keyB : ∀ b a o, RB fm own H b a o → RB fm (Fs.set i F').flatten H' b a o := fun b a o z => by
    cases b with
    | false => exact dr a o (rdn a o z)
    | true =>
      obtain ⟨z1, z2, z3, z4⟩ := z
      have hne : H a ≠ none := fun q => by rw [cl_none q] at z1; cases z1
      refine ⟨kcl a _ z1 fun q => z2 (sub2 a q), fun hq => ?_, z3, z4⟩
      rcases nF a hq with hq | ⟨hq, _⟩
      · rcases n1 a hq with hq | hq
        · exact z2 (sub2 a hq)
        · exact hne hq
      · exact z2 hq
  have sH : Same fm.H0 H' := by
    refine ⟨fun a o ea na => keep a o (h1.keep a o ea na) na (fun q => by have := (h5 a (sub2 a q)).2.1; rw [this] at ea; cases ea), fun a ea => ?_, fun P t => tab P (h1.tab P t)⟩
    by_cases q2 : a ∈ F2
    · exact (h5 a (sub2 a q2)).2.1
    · exact h1.fr a (fr a ea q2)
  refine ⟨_, ⟨sH, fun a z ea => ?_, ⟨Fs.set i F', hs.chg nd e2 e1 keyB (fun p hp hn => keq p (hs.tb p hp) fun q => hn (pl.sub p q)) (s' := sP px O (put d2')) ⟨v, rfl, hx, O.st r4 dr fun _ _ => rfl⟩, rfl⟩, flat_set_nd nd e2 nd4 (fun p hp => ?_), fun p hp => ?_, fun a o z => dr a o (rdn a o (h6 a o z))⟩, nF⟩
  · exact h2 a z (fr a ea fun q => (h5 a (sub2 a q)).2.2 z)
  · rcases n4 p hp with hp | ⟨hp, _⟩
    · rcases n1 p hp with hp | hp
      · exact .inl (pl.sub p hp)
      · exact .inr fun q => (h5 p (by rw [e]; exact q)).1 hp
    · exact .inl hp
  · rcases nF p hp with hp | ⟨hp, hn⟩
    · refine ⟨n2 p hp, ?_, ?_⟩
      · rcases n1 p hp with hq | hq
        · exact (h5 p (sub2 p hq)).2.1
        · exact h1.free hq
      · rcases n1 p hp with hq | hq
        · exact (h5 p (sub2 p hq)).2.2
        · exact fun z => h2 p z hq
    · have q := h5 p hp
      exact ⟨fun z => q.1 (fr p z hn), q.2⟩
end
end Hd
namespace Hd
open PySem PySem.Spec L2
def FinP (fm : Fm) (W : Wx) (L : List Slot) (own : List Addr) (Fs : List (List Addr)) (σ : L2.St) (H : Hp) (i : Nat) (px : V → Prop) {α : Type} (O : WTy α) (d : α) {β : Type} (O2 : WTy β) (Q : VK) : M (β × (β → α)) → Prop
  | .ok q => ∀ v2 F2 H', Same H H' → AtP fm L σ own Fs i px O d H' O2 q.1 q.2 v2 F2 → Q v2 H'
  | .ex c => ∀ H', Same H H' → W c σ H'
  | .no => False
def EvP (g : G) (L : List Slot) (e : Expr) (i : Nat) (px : V → Prop) {α : Type} (O : WTy α) (d : α) {β : Type} (O2 : WTy β) (m : M (β × (β → α))) : Prop := PE g.X e (fun σ H Q => ∃ kp own Fs, At g.fm kp L σ H own ∧ AllS H (RB g.fm own H) L σ Fs ∧ own = Fs.flatten ∧ FinP g.fm g.W L own Fs σ H i px O d O2 Q m)
def NoEx {α : Type} (m : M α) : Prop := ∀ c, m ≠ .ex c
section
variable {p : Pr} {sc : Scope} {NN VV GG : List Str} {k : Nat} {g : G} {L L' : List Slot} {a b c e e' ix : Expr} {es : List Expr} {md md' : Md} {α β γ δ ρ : Type} {S : Ty α} {T : Ty β} {O : WTy α} {O2 : WTy β} {O3 : WTy γ} {A : WAr ρ} {pos pp : Pos} {i j : Nat} {x f : Str} {px : V → Prop} {d : α}
theorem evp_name (ok : Ok p sc NN VV GG k g) (hN : NN[i]? = some x) (hV : VV[j]? = some x) (hL : L[i]? = some (sP px O d)) : EvP g L (.Name x pos) i px O d O (.ok (d, fun y => y)) := by
  obtain ⟨hv, ho⟩ := ok.vis hV
  obtain ⟨h1, h2, _⟩ := okName_d ho
  refine PE.imp (pe_var (i := i) (by rw [ok.N]; exact hN) hv h1 h2) fun σ H Q ⟨kp, own, Fs, at_, hsl, heo, q⟩ => ?_
  obtain ⟨v, F, e1, hA⟩ := at_.toP hsl heo hL
  exact ⟨v, e1, q v F H (Same.refl H) hA⟩
theorem evp_tup {m : M (ρ × (ρ → α))} {kk : Nat} {pr : ρ → γ} {st : ρ → γ → ρ} (ok : Ok p sc NN VV GG k g) (hA : WAt A kk O3 pr st) (he : EvP g L e i px O d (wTup A) m) (hi : EvE g L ix md tInt (.ok (kk : Int))) (hs : PlainIx ix := by exact fun _ _ => rfl) : EvP g L (.Subscript e ix pos) i px O d O3 (m.bind fun q => .ok (pr q.1, fun y => q.2 (st q.1 y))) := by
  refine PE.imp (pe_ix (r := rIxT g.X.K) ix_tup he hi hs) fun σ H Q ⟨kp, own, Fs, at_, hsl, heo, q⟩ => ?_
  refine ⟨kp, own, Fs, at_, hsl, heo, ?_⟩
  cases m with
  | ok q0 =>
    intro v2 F2 H1 s1 A1
    refine tE_iff.mpr ⟨kp, own, at_.ext s1, ?_⟩
    intro y H2 s2 r2
    cases (show y = .int kk from r2)
    obtain ⟨v, F, hL, hs, e, e1, hx, e2, pl⟩ := A1.ext s2
    obtain ⟨p', vs, G, r1, r2, hp, rr⟩ := pl.rep
    obtain ⟨v3, F3, e4, _, pl3⟩ := pl.part (con := .tup) r1 r2 hp rr (fun H' R' d' G' h' r' => ⟨p', vs, G', r1, rfl, h', r'⟩) hA
    exact ⟨p', vs, kk, v3, r1, rfl, .inl (.inl hp), atI_nat e4, q v3 F3 H2 (s1.trans s2) ⟨v, F, hL, hs, e, e1, hx, e2, pl3⟩⟩
  | ex c => exact q
  | no => exact q
variable {st : List Stmt} {D : δ → Out}
/-- exceptions: the slots ahead of them are told, or there are none -/
def Wkx (g : G) (L : List Slot) (n : Prop) : Prop := Wk L g.LX ∨ n
theorem BOk.exx' {kp : RdR} {E : Ends} {c : Ec} {σ : L2.St} {H : Hp} {own : List Addr} {n : Prop} (wk : Wkx g L n) (hn : n → False) (at_ : At g.fm kp L σ H own) (q : BOk g kp E D (.ex c)) : ∀ H', Same H H' → g.W c σ H' := by
  rcases wk with wk | z
  · exact BOk.exx wk at_ q
  · exact (hn z).elim
/-- one own thing is written -/
theorem hm_wr {H H1 : Hp} {F : List Addr} {q : Addr} {u o : HO} (s : Same H H1) (hq : q ∈ F) (h1 : H1 q = some u) (gu : gd u = true) (hg : ∀ a ∈ F, ∃ o, H a = some o ∧ gd o = true) : Same (hm H F) (upd H1 q o) := by
  have s0 : Same (hm H F) H := by
    refine ⟨fun a o e n => ?_, fun a e => ?_, fun P t => ?_⟩
    · by_cases z : a ∈ F
      · rw [hm_in z] at e; cases e
      · rwa [hm_out z] at e
    · unfold hm; split
      · rfl
      · exact e
    · obtain ⟨ps, t1, t2, t3⟩ := t
      have up : ∀ {a : Addr} {o : HO}, hm H F a = some o → H a = some o := fun {a o} e => by
        by_cases z : a ∈ F
        · rw [hm_in z] at e; cases e
        · rwa [hm_out z] at e
      exact ⟨ps, up t1, t2, fun pos cv hc => let ⟨c, c1, c2⟩ := t3 pos cv hc; ⟨c, c1, up c2⟩⟩
  exact (s0.trans s).wr (hm_in hq) h1 (gd_ext gu) (gd_nt gu)
/-- a list at a place changes -/
theorem At.chgL {fm : Fm} {kp : RdR} {σ : L2.St} {H1 H2 : Hp} {own : List Addr} {ds : List γ} {put : List γ → α} {v2 : V} {F1 F2 : List Addr} {Fs : List (List Addr)} (at1 : At fm kp L σ H1 own) (A1 : AtP fm L σ own Fs i px O d H1 (wL O3) ds put v2 F2) (s2 : Same H1 H2) (nF1 : ∀ q ∈ F1, H1 q = none) (tF1 : ∀ q ∈ F1, H2 q ≠ none) :
    ∃ p vs Gs, v2 = .ref p ∧ p ∈ own ∧ H1 p = some (.lst vs) ∧ H2 p = some (.lst vs) ∧ RepsO O3 H2 (RD fm (F1 ++ own) H2) ds vs Gs ∧ Gs.flatten.Nodup ∧ (∀ q ∈ Gs.flatten, H1 q ≠ none) ∧ (∀ q ∈ F1, q ∉ Gs.flatten) ∧
      ∀ ds' vs' Gs', RepsO O3 H2 (RD fm (F1 ++ own) H2) ds' vs' Gs' → Gs'.flatten.Nodup → (∀ q ∈ Gs'.flatten, q ∈ Gs.flatten ∨ q ∈ F1) → ∃ own', At fm kp (L.set i (sP px O (put ds'))) σ (upd H2 p (.lst vs')) own' ∧ ∀ q ∈ own', q ∈ own ∨ q ∈ F1 := by
  have sub2 := at1.gdo A1
  have A1' := A1
  obtain ⟨v, F, hL, hs, eo, e1, hx, e2, pl⟩ := A1
  obtain ⟨p, vs, Gs, r1, r2, hp, rr⟩ := pl.rep
  have nd := pl.nd
  rw [r2, List.nodup_cons] at nd
  have gH : ∀ q ∈ Gs.flatten, H1 q ≠ none := fun q hq => by obtain ⟨o, ho, _⟩ := rr.tb q hq; rw [ho]; exact fun z => nomatch z
  have h2p : H2 p = some (.lst vs) := s2.keep _ _ hp rfl
  have pF2 : p ∈ F2 := by rw [r2]; exact List.mem_cons_self
  have pown : p ∈ own := sub2 p pF2
  have dj : ∀ q ∈ F1, q ∉ Gs.flatten := fun q h1 h2 => gH q h2 (nF1 q h1)
  have np1 : p ∉ F1 := fun q => by rw [nF1 p q] at hp; cases hp
  have k2 : ∀ q ∈ Gs.flatten, H2 q = H1 q := fun q hq => by obtain ⟨o, ho, go⟩ := rr.tb q hq; rw [ho]; exact s2.keep _ _ ho (gd_nt go)
  refine ⟨p, vs, Gs, r1, pown, hp, h2p, rr.st (RD.newer s2 nF1) k2, nd.2, gH, dj, fun ds' vs' Gs' rr' nd' n' => ?_⟩
  have np : p ∉ Gs'.flatten := fun q => (n' p q).elim nd.1 np1
  have gdF2 : ∀ a ∈ F2, ∃ o, H1 a = some o ∧ gd o = true := fun a ha => by
    rw [r2] at ha
    rcases List.mem_cons.mp ha with e | ha
    · subst e; exact ⟨_, hp, rfl⟩
    · exact rr.tb a ha
  have rd : ∀ a o, RD fm (F1 ++ own) H2 a o → RD fm ((p :: Gs'.flatten) ++ own) (upd H2 p (.lst vs')) a o := fun a o z => by
    rcases z with ⟨z1, z2, z3⟩ | z
    · have ne : a ≠ p := fun e => z2 (by rw [e]; exact List.mem_append_right _ pown)
      refine .inl ⟨?_, fun hq => z2 ?_, z3⟩
      · unfold Rd at z1 ⊢; rw [cl_upd_ne ne]; exact z1
      · rcases List.mem_append.mp hq with hq | hq
        · rcases List.mem_cons.mp hq with e | hq
          · exact absurd e ne
          · rcases n' a hq with h | h
            · exact List.mem_append_right _ (sub2 a (by rw [r2]; exact List.mem_cons_of_mem _ h))
            · exact List.mem_append_left _ h
        · exact List.mem_append_right _ hq
    · exact .inr z
  have n1' : ∀ q ∈ p :: Gs'.flatten, q ∈ F2 ∨ H1 q = none := fun q hq => by
    rcases List.mem_cons.mp hq with e | hq
    · subst e; exact .inl pF2
    · exact (n' q hq).imp (fun h => by rw [r2]; exact List.mem_cons_of_mem _ h) (nF1 q)
  have n2' : ∀ q ∈ p :: Gs'.flatten, upd H2 p (.lst vs') q ≠ none := fun q hq => by
    rcases List.mem_cons.mp hq with e | hq
    · subst e; rw [upd_same]; exact fun z => nomatch z
    · rw [upd_ne fun e => np (by rw [← e]; exact hq)]
      rcases n' q hq with h | h
      · rw [k2 q h]; exact gH q h
      · exact tF1 q h
  obtain ⟨own', a', n3⟩ := at1.chg (d2' := ds') (F2' := p :: Gs'.flatten) A1' (hm_wr (o := .lst vs') s2 pF2 h2p rfl gdF2) (List.nodup_cons.mpr ⟨np, nd'⟩) n1' n2' ⟨p, vs', Gs', r1, rfl, upd_same, rr'.st rd fun q hq => upd_ne fun e => np (by rw [← e]; exact hq)⟩
  refine ⟨own', a', fun q hq => ?_⟩
  rcases n3 q hq with h | h
  · rcases List.mem_cons.mp h with e | h
    · subst e; exact .inl pown
    · rcases n' q h with h | h
      · exact .inl (sub2 q (by rw [r2]; exact List.mem_cons_of_mem _ h))
      · exact .inr h
  · exact .inl h.1
theorem flat_snoc {Gs : List (List Addr)} {F : List Addr} : (Gs ++ [F]).flatten = Gs.flatten ++ F := by simp
/-- place.append(e) -/
theorem evb_pAppend {mp : M (List γ × (List γ → α))} {m : M γ} {h : α → M δ} {ap cp : Pos} (ok : OkS p sc NN VV GG k g) (wk : Wkx g L (NoEx mp ∧ NoEx m)) (hp : EvP g L a i px O d (wL O3) mp) (he : EvN g L e O3 m) (hr : ∀ d', EvB g (L.set i (sP px O d')) st D (h d'))
    (hs : swapsWith (.Call (.Attribute a "append" ap) [e] [] cp) none pos.line g.X.env = pure false := by rfl)
    (hbase : attributeBase a "append" g.X.env (eval a g.X.env) = eval a g.X.env := by rfl)
    (hfew : ((backTo cp (starEach [e] g.X.env)).all (fun x => !x.1) && (backToKw cp (keywordEach [] g.X.env)).all (fun x => x.1.isSome)
      && decide (([e] : List Expr).length + ([] : List Keyword).length + (if ([] : List Keyword).isEmpty then 0 else 1) < 30)) = true := by rfl)
    (hline : (ap.endLine == cp.line) = true := by rfl) (hst : starEach [e] g.X.env = (false, eval e g.X.env) :: starEach [] g.X.env := by rfl) (hpl : (backTo cp (starEach [] g.X.env)).any (·.1) = false := by rfl) :
    EvB g L (.Expr (.Call (.Attribute a "append" ap) [e] [] cp) pos :: st) D (mp.bind fun q => m.bind fun x => (pushM q.1 x).bind fun l => h (q.2 l)) := by
  refine PSs.imp (pss_cons (ps_expr (pe_bm PySem.F.plainAttrs_list PySem.F.slot_list_append PySem.F.type_list_append mt_append hp (pa_cons he pa_nil hst) (hbase := hbase) (hfew := hfew) (hline := hline) (hs := hst) (hplain := hpl)) hs) (PSs.ex hr)) fun E σ H ⟨kp, own, at_, q⟩ => ?_
  obtain ⟨Fs, hsl, heo⟩ := at_.sl
  refine ⟨kp, own, Fs, at_, hsl, heo, ?_⟩
  cases mp with
  | ok q0 =>
    intro v2 F2 H1 s1 A1
    have at1 := at_.ext s1
    obtain ⟨p', vs, Gs, r1, _, hp', _⟩ := at1.chgL (F1 := []) A1 (Same.refl H1) (fun _ h => nomatch h) (fun _ h => nomatch h)
    subst r1
    refine ⟨Or.inl ⟨rfl, _, SqL.of hp'⟩, kp, own, at1, ?_⟩
    cases m with
    | ok x =>
      intro w F1 H2 s2 nd1 n1 rw_
      have q : BOk g kp E D ((pushM q0.1 x).bind fun l => h (q0.2 l)) := q
      obtain ⟨p2, vs, Gs, r1, _, _, hp2, rr, nd, gH, dj, up⟩ := at1.chgL A1 s2 n1 (fun q hq => by obtain ⟨o, ho, _⟩ := O3.tb rw_ q hq; rw [ho]; exact fun z => nomatch z)
      cases r1
      unfold pushM at q
      split at q
      · rename_i hlt
        obtain ⟨own', a', _⟩ := up (q0.1 ++ [x]) (vs ++ [w]) (Gs ++ [F1]) (rr.append (.cons rw_ .nil)) (by rw [flat_snoc]; exact List.nodup_append.mpr ⟨nd, nd1, fun a ha b hb e => dj b hb (by rw [← e]; exact ha)⟩) (fun q hq => by rw [flat_snoc] at hq; exact (List.mem_append.mp hq))
        exact ⟨_, vs, w, rfl, rfl, hp2, by rw [← rr.length]; exact hlt, q0.2 (q0.1 ++ [x]), kp, own', a', q⟩
      · exact q.elim
    | ex c => exact BOk.exx' wk (fun n => n.2 c rfl) at1 q
    | no => exact q
  | ex c => exact BOk.exx' wk (fun n => n.1 c rfl) at_ q
  | no => exact q
end
end Hd
namespace Hd
open PySem PySem.Spec L2
/-- a thing of one's own is handed back -/
def oOut {ρ : Type} (O : WTy ρ) (r : ρ) : Out := .gen fun fm rt => ∀ v H' F, Same fm.H0 H' → F.Nodup → (∀ a ∈ F, fm.H0 a = none ∧ ¬ fm.z a) → O.rep r v H' (RD fm F H') F → rt v H'
section
variable {p : Pr} {sc : Scope} {NN VV GG : List Str} {k : Nat} {g : G} {L L' : List Slot} {a b c e e' ix : Expr} {es : List Expr} {md md' : Md} {α β γ δ ρ : Type} {S : Ty α} {T : Ty β} {O : WTy α} {O2 : WTy β} {O3 : WTy γ} {A : WAr ρ} {pos pp pos' : Pos} {i j : Nat} {x f : Str} {px : V → Prop} {d : α}
variable {st : List Stmt} {D : δ → Out}
theorem AllS.lenF {H : Hp} {R : Bool → RdR} {L : List Slot} {σ : L2.St} {Fs : List (List Addr)} (h : AllS H R L σ Fs) : Fs.length = L.length := by
  induction h with
  | nil => rfl
  | cons _ _ ih => rw [List.length_cons, List.length_cons, ih]
theorem At.setW {fm : Fm} {kp : RdR} {σ : L2.St} {H H' : Hp} {own F1 : List Addr} {v : V} (h : At fm kp L σ H own) (s : Same H H') (nd1 : F1.Nodup) (n1 : ∀ q ∈ F1, H q = none) (r : O.rep d v H' (RD fm (F1 ++ own) H') F1) : ∃ own', At fm kp (L.set i (sO O d)) (σ.set i (some v)) H' own' := by
  obtain ⟨h1, h2, ⟨Fs, h3, e⟩, h4, h5, h6⟩ := h
  have nd := h4
  rw [e] at nd
  have hk : ∀ q ∈ Fs.flatten, H' q = H q := fun q hq => by
    cases r : cl H q with
    | none => exact absurd r (h3.tb q hq)
    | some o => rw [cl_raw r]; exact s.keep _ _ (cl_raw r) (cl_nt r)
  by_cases hi : i < Fs.length
  · have ei : Fs[i]? = some Fs[i] := List.getElem?_eq_getElem hi
    have nF : ∀ q ∈ (Fs.set i F1).flatten, q ∈ F1 ∨ q ∈ own := fun q hq => by
      rcases flat_set_mem nd ei q hq with hq | ⟨hq, _⟩
      · exact .inl hq
      · exact .inr (by rw [e]; exact hq)
    have dr : ∀ a o, RD fm (F1 ++ own) H' a o → RD fm (Fs.set i F1).flatten H' a o := RD.drop fun q hq => List.mem_append.mpr (nF q hq)
    have keyB : ∀ b a o, RB fm own H b a o → RB fm (Fs.set i F1).flatten H' b a o := fun b a o z => by
      cases b with
      | false => exact dr a o (RD.newer s n1 a o z)
      | true =>
        obtain ⟨z1, z2, z3, z4⟩ := z
        refine ⟨s.cl _ _ z1, fun hq => ?_, z3, z4⟩
        rcases nF a hq with hq | hq
        · rw [cl_none (n1 a hq)] at z1; cases z1
        · exact z2 hq
    refine ⟨_, h1.trans s, fun a z ea => h2 a z (s.free ea), ⟨Fs.set i F1, (h3.st keyB hk).set (s := sO O d) ⟨v, rfl, trivial, O.st r dr fun _ _ => rfl⟩ i, rfl⟩, flat_set_nd nd ei nd1 fun q hq => .inr fun hq' => (h5 q (by rw [e]; exact hq')).1 (n1 q hq), fun q hq => ?_, fun a o z => dr a o (RD.newer s n1 a o (h6 a o z))⟩
    rcases nF q hq with hq | hq
    · exact ⟨(fun z => by obtain ⟨o, ho, _⟩ := O.tb r q hq; rw [ho] at z; cases z), h1.free (n1 q hq), fun z => h2 q z (n1 q hq)⟩
    · exact ⟨fun z => (h5 q hq).1 (s.free z), (h5 q hq).2⟩
  · have hl := h3.len
    have hl2 : Fs.length = L.length := h3.lenF
    have e1 : L.set i (sO O d) = L := List.set_eq_of_length_le (by omega)
    have e2 : σ.set i (some v) = σ := List.set_eq_of_length_le (by omega)
    rw [e1, e2]
    exact ⟨own, At.ext ⟨h1, h2, ⟨Fs, h3, e⟩, h4, h5, h6⟩ s⟩
/-- x = e -/
theorem evb_setN {m : M α} {h : α → M δ} (ok : OkS p sc NN VV GG k g) (hN : NN[i]? = some x) (hV : VV[j]? = some x) (wk : Wkx g L (NoEx m)) (he : EvN g L e O m) (hr : ∀ d, EvB g (L.set i (sO O d)) st D (h d))
    (hs : swapsWith e (some (.Name x pos')) pos.line g.X.env = pure false := by rfl) : EvB g L (.Assign [.Name x pos'] e pos :: st) D (m.bind h) := by
  refine PSs.imp (pss_cons (ps_set (i := i) (by rw [ok.N]; exact ok.nd) (by rw [ok.N]; exact hN) (ok.loc hV) he hs (okS_fn ok)) (PSs.ex hr)) fun E σ H ⟨kp, own, at_, q⟩ => ?_
  refine ⟨kp, own, at_, ?_⟩
  cases m with
  | ok d =>
    intro v F H' s nd n r
    obtain ⟨own', a'⟩ := at_.setW (i := i) s nd n r
    exact ⟨d, kp, own', a', q⟩
  | ex c => exact BOk.exx' wk (fun n => n c rfl) at_ q
  | no => exact q
/-- looked at, as if it were shared -/
theorem At.freezeP {fm : Fm} {kp : RdR} {σ : L2.St} {H : Hp} {own : List Addr} (h : At fm kp L σ H own) (hL : L[i]? = some (sP px O d)) : ∃ own', At fm kp (L.set i (sV false O.T d)) σ H own' ∧ ∀ p ∈ own', p ∈ own := by
  obtain ⟨h1, h2, ⟨Fs, h3, e⟩, h4, h5, h6⟩ := h
  obtain ⟨v0, F, e1, e2, v, rfl, hx, r⟩ := h3.get hL
  have nd := h4
  rw [e] at nd
  have nF : ∀ q ∈ (Fs.set i []).flatten, q ∈ Fs.flatten ∧ q ∉ F := fun q hq => by
    rcases flat_set_mem nd e2 q hq with hq | hq
    · exact nomatch hq
    · exact hq
  have kk : ∀ q ∈ (Fs.set i []).flatten, q ∈ own := fun q hq => by rw [e]; exact (nF q hq).1
  have hk : ∀ q ∈ Fs.flatten, q ∉ F → H q = H q := fun _ _ _ => rfl
  refine ⟨_, ⟨h1, h2, ⟨Fs.set i [], h3.chg nd e2 e1 (RB.own kk) hk (s' := sV false O.T d) ⟨rfl, v, rfl, O.fz r (RB.own kk false) fun q hq o ho => ?_⟩, rfl⟩, flat_set_nd nd e2 List.nodup_nil (fun _ h => nomatch h), fun q hq => h5 q (kk q hq), fun a o z => RX.own (md := .sh) (H := H) kk a o (h6 a o z)⟩, kk⟩
  obtain ⟨o', ho', go⟩ := O.tb r q hq
  rw [ho] at ho'; cases ho'
  exact .inl ⟨.inl (cl_of ho (gd_nt go)), fun hq' => (nF q hq').2 hq, (h5 q (by rw [e]; exact flat_mem e2 q hq)).2.2⟩
theorem evb_freezeP {m : M δ} (hL : L[i]? = some (sP px O d)) (hr : EvB g (L.set i (sV false O.T d)) st D m) : EvB g L st D m := PSs.imp hr fun E σ H ⟨kp, own, at_, q⟩ => by
  obtain ⟨own', a', _⟩ := at_.freezeP hL
  exact ⟨kp, own', a', q⟩
theorem ev_borrowP {m : M β} (hf : Flat T ∨ md = .fx) (hL : L[i]? = some (sP px O d)) (h : EvE g (L.set i (sV false O.T d)) e md T m) : EvE g L e md T m := PE.imp h fun σ H Q q => by
  obtain ⟨kp, own, at_, q⟩ := tE_iff.mp q
  obtain ⟨own', a', sub⟩ := at_.freezeP hL
  refine tE_iff.mpr ⟨kp, own', a', ?_⟩
  cases m with
  | ok d =>
    refine fun v H' s r => q v H' s ?_
    rcases hf with hf | rfl
    · exact hf r
    · exact T.mono r fun a o z => ⟨z.1, fun y => (at_.new a y).1 z.2.2.2.2, z.2.2⟩
  | ex c => exact q
  | no => exact q
theorem evt_borrowP {m : M Bool} (hL : L[i]? = some (sP px O d)) (h : EvT g (L.set i (sV false O.T d)) e m) : EvT g L e m := PT.imp h fun σ H Q q => by
  obtain ⟨kp, own, at_, q⟩ := tT_iff.mp q
  obtain ⟨own', a', sub⟩ := at_.freezeP hL
  refine tT_iff.mpr ⟨kp, own', a', ?_⟩
  cases m <;> exact q
theorem evn_borrowP {m : M β} (hf : FlatW O2) (hL : L[i]? = some (sP px O d)) (h : EvN g (L.set i (sV false O.T d)) e O2 m) : EvN g L e O2 m := PE.imp h fun σ H Q ⟨kp, own, at_, q⟩ => by
  obtain ⟨own', a', sub⟩ := at_.freezeP hL
  refine ⟨kp, own', a', ?_⟩
  cases m with
  | ok d => exact fun v F H' s nd n r => q v F H' s nd n (hf r)
  | ex c => exact q
  | no => exact q
theorem fn_rtN {x qual : Str} {st : Stmt} {f : Addr} {fd : FuncData} {ps : List Str} {δ ρ : Type} {A : Ar δ} {O : WTy ρ} {L0 : δ → List Slot} {n m : Nat} {F : δ → M ρ} (hF : FunD p.K x qual (defArgs st) (defBody st) (defScope st) [] [] f fd) (hS : Sc st NN VV ps GG) (ha : ArS A n L0) (hn : ps.length = n) (hm : n + m = NN.length)
    (hb : Body p st NN VV GG k (fun d => L0 d ++ List.replicate m sAny) (fun r => oOut O r) F) : FnOk p.P p.w p.K p.mg p.base (L2.CX p.P p.w) (k + 1) f fd ps (spM p A (fun r => oOut O r) F) :=
  fn_gen (D' := fun r => oOut O r) hF hS ha hn hm (fun r fm Q h => h) hb
theorem evn_call {x : Str} {j kf : Nat} {ps : List Str} {δ ρ : Type} {A : Ar δ} {O : WTy ρ} {F : δ → M ρ} {m : M δ} {pp : Pos} (ok : Ok p sc NN VV GG k g) (hf : Fn p kf x ps (spM p A (fun r => oOut O r) F)) (hk : kf ≤ k) (hG : GG[j]? = some x)
    (ha : EvA g L (e :: es) md A m) (he : starEach (e :: es) g.X.env = (false, eval e g.X.env) :: starEach es g.X.env := by rfl) (hpl : (backTo pos (starEach es g.X.env)).any (·.1) = false := by rfl) :
    EvN g L (.Call (.Name x pp) (e :: es) [] pos) O (m.bind F) := by
  obtain ⟨f, fd, hF, hm, hkp, hbd⟩ := hf.ex
  obtain ⟨hg, ho⟩ := ok.gl hG
  rw [← ok.prog, ← ok.w, ← ok.base] at hF
  have hF' : FnOk g.X.prog g.X.w g.X.K g.X.mg g.X.base (L2.CX g.X.prog g.X.w) kf f fd ps (spM p A (fun r => oOut O r) F) := by rw [ok.K, ok.mg]; exact hF
  refine PE.imp (pe_callS hF' (ok.room.mono hk) hg (by rw [ok.mg]; exact hm) (by rw [ok.K]; exact hkp) (by rw [ok.K]; exact hbd) (tk_at ok) ha (okName_d ho).1 he hpl) fun σ H Q ⟨kp, own, at_, q⟩ => ?_
  refine subA finN (Same.refl H) at_ q fun d vs H1 s1 r1 at1 q1 => ⟨d, fun a => a ∈ own ∨ g.fm.z a, ⟨fun a z => ?_, fun P e => at1.same.tab P (ok.tab P e)⟩, ?_, ?_⟩
  · rcases z with z | z
    · exact (at1.new a z).1
    · exact at1.zin a z
  · rw [← ok.fmK]; exact args_in r1
  · rw [← ok.fmK]
    cases hd : F d with
    | ok r =>
      rw [hd] at q1
      refine fun v H' F1 s nd n r => q1 v F1 H' (s1.trans s) nd (fun a ha => s1.free (n a ha).1) (O.st r (fun a o z => ?_) fun _ _ => rfl)
      exact z.imp (fun ⟨z1, z2, z3⟩ => ⟨z1, fun hq => (List.mem_append.mp hq).elim z2 fun hq => z3 (.inl hq), fun hq => z3 (.inr hq)⟩) id
    | ex c =>
      rw [hd] at q1
      exact fun H' s => ⟨c, rfl, rfl, q1 H' (s1.trans s)⟩
    | no => rw [hd] at q1; exact q1
end
end Hd
namespace Hd
open PySem PySem.Spec L2
/-- arguments: f: the slots they begin with; fo: the slots they end with; pj: what is owned of them; up: what they have become -/
inductive ArX : {δ ω : Type} → WAr δ → Nat → (δ → List V → List Slot) → (ω → List V → List Slot) → (δ → ω) → (δ → ω → δ) → Prop where
  | nil : ArX (ω := Unit) waNil 0 (fun _ _ => []) (fun _ _ => []) (fun _ => ()) (fun d _ => d)
  | sh {α δ ω : Type} {T : Ty α} {A : WAr δ} {n : Nat} {f : δ → List V → List Slot} {fo : ω → List V → List Slot} {pj : δ → ω} {up : δ → ω → δ} : ArX A n f fo pj up →
      ArX (ω := ω) (waCons (wV T) A) (n + 1) (fun d vs => sV false T d.1 :: f d.2 vs.tail) (fun w vs => sAny :: fo w vs.tail) (fun d => pj d.2) (fun d w => (d.1, up d.2 w))
  | ow {α δ ω : Type} {O : WTy α} {A : WAr δ} {n : Nat} {f : δ → List V → List Slot} {fo : ω → List V → List Slot} {pj : δ → ω} {up : δ → ω → δ} : ArX A n f fo pj up →
      ArX (ω := α × ω) (waCons O A) (n + 1) (fun d vs => sA (vs.headD .non) O d.1 :: f d.2 vs.tail) (fun w vs => sA (vs.headD .non) O w.1 :: fo w.2 vs.tail) (fun d => (d.1, pj d.2)) (fun d w => (w.1, up d.2 w.2))
section
variable {δ ω : Type} {A : WAr δ} {n : Nat} {f : δ → List V → List Slot} {fo : ω → List V → List Slot} {pj : δ → ω} {up : δ → ω → δ} {H H1 : Hp} {R : Bool → RdR} {R1 : RdR}
theorem ArX.all (h : ArX A n f fo pj up) : ∀ {d : δ} {vs : List V} {F : List Addr}, A.rep d vs H (R false) F → vs.length = n ∧ ∃ Fs, AllS H R (f d vs) (vs.map some) Fs ∧ Fs.flatten = F := by
  induction h with
  | nil => rintro d vs F ⟨e1, e2⟩; subst e1; subst e2; exact ⟨rfl, [], .nil, rfl⟩
  | sh _ ih =>
    rintro d vs F ⟨v, r, F1, F2, e1, e2, ⟨e3, h1⟩, h2⟩
    subst e1; subst e2; subst e3
    obtain ⟨hl, Fs, h3, h4⟩ := ih h2
    exact ⟨by simp [hl], [] :: Fs, .cons ⟨rfl, v, rfl, h1⟩ h3, by simp [h4]⟩
  | ow _ ih =>
    rintro d vs F ⟨v, r, F1, F2, e1, e2, h1, h2⟩
    subst e1; subst e2
    obtain ⟨hl, Fs, h3, h4⟩ := ih h2
    exact ⟨by simp [hl], F1 :: Fs, .cons ⟨v, rfl, rfl, h1⟩ h3, by simp [h4]⟩
theorem ArX.back (h : ArX A n f fo pj up) (s : ∀ a o, R1 a o → R false a o) {L : List Slot} (hL : ∀ {σ : L2.St} {Fs : List (List Addr)}, AllS H R L σ Fs → Fs.flatten = []) : ∀ {d : δ} {w : ω} {vs : List V} {F1 : List Addr} {σ : L2.St} {Fs : List (List Addr)}, A.rep d vs H1 R1 F1 → AllS H R (fo w vs ++ L) σ Fs → A.rep (up d w) vs H (R false) Fs.flatten := by
  induction h with
  | nil => rintro d w vs F1 σ Fs ⟨e1, e2⟩ ha; subst e1; exact ⟨rfl, hL ha⟩
  | sh _ ih =>
    rintro d w vs F1 σ Fs ⟨v, r, G1, G2, e1, e2, ⟨e3, h1⟩, h2⟩ ha
    subst e1
    cases ha with
    | @cons _ _ _ _ _ Fs' q t =>
      cases (show _ = [] from q)
      exact ⟨v, r, [], Fs'.flatten, rfl, by simp, ⟨rfl, Ty.mono _ h1 s⟩, ih h2 t⟩
  | ow _ ih =>
    rintro d w vs F1 σ Fs ⟨v, r, G1, G2, e1, e2, h1, h2⟩ ha
    subst e1
    cases ha with
    | @cons _ _ _ _ F0 Fs' q t =>
      obtain ⟨x, _, e6, r5⟩ := q
      have e6 : x = v := e6
      subst e6
      exact ⟨x, r, F0, Fs'.flatten, rfl, by simp, r5, ih h2 t⟩
theorem anys_flat : ∀ {m : Nat} {H : Hp} {R : Bool → RdR} {σ : L2.St} {Fs : List (List Addr)}, AllS H R (List.replicate m sAny) σ Fs → Fs.flatten = []
  | 0, _, _, _, _, h => by cases h; rfl
  | m + 1, _, _, _, _, h => by
    rw [List.replicate_succ] at h
    cases h with
    | cons q t => cases (show _ = [] from q); simpa using anys_flat t
theorem ArX.pu (h : ArX A n f fo pj up) : ∀ d, up d (pj d) = d := by
  induction h with
  | nil => exact fun _ => rfl
  | sh _ ih => intro d; show (d.1, _) = d; rw [ih]
  | ow _ ih => intro d; show (d.1, _) = d; rw [ih]
end
/-- what such a def promises: its answer, and what has become of what it may change -/
def spX (p : Pr) {δ ω ρ : Type} (A : WAr δ) (up : δ → ω → δ) (O : WTy ρ) (kx : Bool) (F : δ → M (ρ × ω)) : Sp := fun vs H Q E => ∃ d z Fa, ((∀ a, z a → H a ≠ none) ∧ ∀ P, p.T = some P → LamX.TabS H P lamQ) ∧ Fa.Nodup ∧ (∀ a ∈ Fa, ¬ z a) ∧ A.rep d vs H (RD ⟨p.K, hm H Fa, z⟩ Fa H) Fa ∧
  match F d with
  | .ok r => ∀ v H' Fr Fa', Same (hm H Fa) H' → (Fr ++ Fa').Nodup → (∀ a ∈ Fr ++ Fa', (a ∈ Fa ∨ H a = none) ∧ H' a ≠ none ∧ ¬ z a) → O.rep r.1 v H' (RD ⟨p.K, hm H Fa, z⟩ (Fr ++ Fa') H') Fr → A.rep (up d r.2) vs H' (RD ⟨p.K, hm H Fa, z⟩ (Fr ++ Fa') H') Fa' → Q v H'
  | .ex c => ∀ H', Same (hm H Fa) H' → (kx = true → ∃ Fa', Fa'.Nodup ∧ (∀ a ∈ Fa', (a ∈ Fa ∨ H a = none) ∧ H' a ≠ none ∧ ¬ z a) ∧ A.rep d vs H' (RD ⟨p.K, hm H Fa, z⟩ Fa' H') Fa') → E (.ref (p.C c)) none H'
  | .no => False
theorem hm_same {H : Hp} {F : List Addr} : Same (hm H F) H := by
  refine ⟨fun a o e n => ?_, fun a e => ?_, fun P t => ?_⟩
  · by_cases z : a ∈ F
    · rw [hm_in z] at e; cases e
    · rwa [hm_out z] at e
  · unfold hm; split
    · rfl
    · exact e
  · obtain ⟨ps, t1, t2, t3⟩ := t
    have up : ∀ {a : Addr} {o : HO}, hm H F a = some o → H a = some o := fun {a o} e => by
      by_cases z : a ∈ F
      · rw [hm_in z] at e; cases e
      · rwa [hm_out z] at e
    exact ⟨ps, up t1, t2, fun pos cv hc => let ⟨c, c1, c2⟩ := t3 pos cv hc; ⟨c, c1, up c2⟩⟩
theorem hm_tab {H : Hp} {F : List Addr} (hg : ∀ a ∈ F, ∃ o, H a = some o ∧ gd o = true) {P : Addr} {q : Str} (t : LamX.TabS H P q) : LamX.TabS (hm H F) P q := by
  obtain ⟨ps, t1, t2, t3⟩ := t
  have ng : ∀ a o, H a = some o → gd o = false → a ∉ F := fun a o ea ga q => by
    obtain ⟨o', ho', go'⟩ := hg a q
    rw [ea] at ho'; cases ho'
    rw [ga] at go'; cases go'
  refine ⟨ps, by rw [hm_out (ng P _ t1 rfl)]; exact t1, t2, fun pos cv hc => ?_⟩
  obtain ⟨c, c1, c2⟩ := t3 pos cv hc
  exact ⟨c, c1, by rw [hm_out (ng c _ c2 rfl)]; exact c2⟩
/-- how such a def's body ends -/
def xOut {ω ρ : Type} (fo : ω → List Slot) (O : WTy ρ) (r : ρ × ω) : Out := .gen fun fm rt => ∀ v σ H H' own Fr, At fm (fun _ _ => False) (fo r.2) σ H own → Same H H' → Fr.Nodup → (∀ a ∈ Fr, H a = none) → O.rep r.1 v H' (RD fm (Fr ++ own) H') Fr → rt v H'
section
variable {p : Pr} {sc : Scope} {NN VV GG : List Str} {k : Nat} {g : G} {L L' : List Slot} {a b c e e' ix : Expr} {es : List Expr} {md md' : Md} {α β γ δ ρ ω τ : Type} {S : Ty α} {T : Ty β} {O : WTy α} {O2 : WTy β} {O3 : WTy γ} {A : WAr δ} {pos pp pos' : Pos} {i j : Nat} {x : Str} {px : V → Prop} {d : α}
theorem fn_X {x qual : Str} {st : Stmt} {f : Addr} {fd : FuncData} {ps : List Str} {L0 : δ → List V → List Slot} {fo : ω → List V → List Slot} {pj : δ → ω} {up : δ → ω → δ} {n m : Nat} {O : WTy ρ} {F : δ → M (ρ × ω)} {kx : Bool} {D' : List V → ρ × ω → Out} (hF : FunD p.K x qual (defArgs st) (defBody st) (defScope st) [] [] f fd) (hS : Sc st NN VV ps GG) (ha : ArX A n L0 fo pj up) (hn : ps.length = n) (hm' : n + m = NN.length)
    (hD : ∀ (r : ρ × ω) (vs : List V) (fm : Fm) (Q : VK), OutOk fm (fun _ _ => False) { nx := fun _ H' => Q .non H', rt := Q } (xOut (fun w => fo w vs ++ List.replicate m sAny) O r) → OutOk fm (fun _ _ => False) { nx := fun _ H' => Q .non H', rt := Q } (D' vs r))
    (hb : ∀ vs g, OkS p (defScope st) NN VV GG k g → ∀ d, g.LX = (if kx = true then fo (pj d) vs ++ List.replicate m sAny else List.replicate NN.length sAny) → EvB g (L0 d vs ++ List.replicate m sAny) (defBody st) (D' vs) (F d)) :
    FnOk p.P p.w p.K p.mg p.base (L2.CX p.P p.w) (k + 1) f fd ps (spX p A up O kx F) := by
  refine hF.ok hS.S (fun vs H Q E h => ?_) (fun cdv A' outer s H vs Q E hr h => ?_)
  · obtain ⟨d, z, Fa, _, _, _, hrep, _⟩ := h
    exact (ha.all (R := fun _ => RD ⟨p.K, hm H Fa, z⟩ Fa H) hrep).1.trans hn.symm
  · obtain ⟨d, z, Fa, ⟨hz, htab⟩, hnd, hnz, hrep, q⟩ := h
    obtain ⟨hlen, Fs, hall, hfl⟩ := ha.all (R := RB ⟨p.K, hm H Fa, z⟩ Fa H) hrep
    have hg := A.tb hrep
    let X : Cx := cxOf (L2.CX p.P p.w) p.P p.w p.K p.mg p.base NN qual (defScope st) f cdv A' outer s H E
    let g : G := ⟨X, ⟨p.K, hm H Fa, z⟩, fun c _ H' => E (.ref (p.C c)) none H', if kx = true then fo (pj d) vs ++ List.replicate m sAny else List.replicate NN.length sAny⟩
    have hN : ∀ {j : Nat} {y : Str}, VV[j]? = some y → y ∈ VV := fun e => List.mem_of_getElem? e
    have ok : OkS p (defScope st) NN VV GG k g :=
      { prog := rfl, w := rfl, K := rfl, mg := rfl, base := rfl, N := rfl, fmK := rfl, tab := fun P e => hm_tab hg (htab P e), room := hr, nd := hS.S.nd
        vis := fun e => let h := seenB_v (List.all_eq_true.mp hS.vis _ (hN e)); ⟨h.2, h.1⟩
        gl := fun e => let h := glB_v (List.all_eq_true.mp hS.gl _ (List.mem_of_getElem? e)); ⟨h.2, h.1⟩
        tk := by
          refine Takes.imp (takes_of (X := X) rfl rfl rfl (E := E) rfl) ?_
          intro cls d' σ2 H2 h2
          obtain ⟨c, e1, e2, h3⟩ := h2
          rw [e1, e2]; exact h3
        calm := rfl
        blk := fun h => blkOk_by h
        loc := fun e => locB_v (List.all_eq_true.mp hS.loc _ (hN e))
        fnT := fun _ => rfl
        psO := passes_of (X := X) rfl
        scp := rfl
        stk := rfl
        frm := rfl
        exn := rfl }
    have fin : ∀ (w : ω) (σ' : L2.St) (H2 H' : Hp) (own : List Addr), At ⟨p.K, hm H Fa, z⟩ (fun _ _ => False) (fo w vs ++ List.replicate m sAny) σ' H2 own → Same H2 H' → ∀ Fr : List Addr, Fr.Nodup → (∀ a ∈ Fr, H2 a = none ∧ H' a ≠ none) → (Fr ++ own).Nodup ∧ (∀ a ∈ Fr ++ own, (a ∈ Fa ∨ H a = none) ∧ H' a ≠ none ∧ ¬ z a) ∧ A.rep (up d w) vs H' (RD ⟨p.K, hm H Fa, z⟩ (Fr ++ own) H') own := by
      intro w σ' H2 H' own at_ s2 Fr nd hFr
      obtain ⟨Fs', h3, e3⟩ := at_.sl
      have rd1 : ∀ a o, RD ⟨p.K, hm H Fa, z⟩ Fa H a o → RD ⟨p.K, hm H Fa, z⟩ own H2 a o := fun a o y => by
        rcases y with ⟨y1, y2, y3⟩ | y
        · have h1 : Rd (cl (hm H Fa)) a o := by
            have key : ∀ o', cl H a = some o' → cl (hm H Fa) a = some o' := fun o' ho => by
              unfold cl at ho ⊢; rw [hm_out y2]; exact ho
            exact y1.imp (key _) fun ⟨f, h⟩ => ⟨f, key _ h⟩
          have ne : hm H Fa a ≠ none := fun q => by rcases h1 with h1 | ⟨_, h1⟩ <;> rw [cl_none q] at h1 <;> cases h1
          exact .inl ⟨Rd.same at_.same h1, fun hq => ne (at_.new a hq).2.1, y3⟩
        · exact .inr y
      have r4 := ha.back (R := RB ⟨p.K, hm H Fa, z⟩ own H2) rd1 (fun h => anys_flat h) hrep h3
      rw [← e3] at r4
      have tb2 := A.tb r4
      refine ⟨List.nodup_append.mpr ⟨nd, at_.nd, fun a ha' b hb' e => ?_⟩, fun a ha' => ?_, A.st r4 (RD.newer s2 fun q hq => (hFr q hq).1) fun q hq => ?_⟩
      · subst e
        exact (at_.new a hb').1 (hFr a ha').1
      · have h0 : hm H Fa a = none ∧ H' a ≠ none ∧ ¬ z a := by
          rcases List.mem_append.mp ha' with ha' | ha'
          · exact ⟨at_.same.free (hFr a ha').1, (hFr a ha').2, fun y => at_.zin a y (hFr a ha').1⟩
          · exact ⟨(at_.new a ha').2.1, fun y => (at_.new a ha').1 (s2.free y), (at_.new a ha').2.2⟩
        refine ⟨?_, h0.2⟩
        by_cases y : a ∈ Fa
        · exact .inl y
        · exact .inr (by have := h0.1; rwa [hm_out y] at this)
      · obtain ⟨o, ho, go⟩ := tb2 q hq
        rw [ho]; exact s2.keep _ _ ho (gd_nt go)
    refine ⟨_, hb vs g ok d rfl, (fun _ _ => False), Fa, ?_, ?_⟩
    · refine ⟨hm_same, hz, ⟨Fs ++ List.replicate m [], ?_, by simp [flat_rep, hfl]⟩, hnd, fun a ha' => ⟨fun e => ?_, hm_in ha', hnz a ha'⟩, fun _ _ h => h.elim⟩
      · have e : L2.start NN vs = vs.map some ++ List.replicate m none := by
          unfold L2.start
          rw [show NN.length - vs.length = m by omega]
        rw [e]
        exact hall.append (AllS.anys m)
      · obtain ⟨o, ho, _⟩ := hg a ha'
        rw [ho] at e; cases e
    · cases hF' : F d with
      | ok r =>
        rw [hF'] at q
        refine hD r vs _ Q ?_
        intro v σ' H2 H' own Fr at_ s2 nd hFr r1
        obtain ⟨h1, h2, h3⟩ := fin r.2 σ' H2 H' own at_ s2 Fr nd (fun a ha' => ⟨hFr a ha', by obtain ⟨o, ho, _⟩ := O.tb r1 a ha'; rw [ho]; exact fun z => nomatch z⟩)
        exact q v H' Fr own (at_.same.trans s2) h1 h2 r1 h3
      | ex c =>
        rw [hF'] at q
        intro σ' H' own a'
        refine q H' a'.same fun hk => ?_
        have a2 : At ⟨p.K, hm H Fa, z⟩ (fun _ _ => False) (fo (pj d) vs ++ List.replicate m sAny) σ' H' own := by
          have : g.LX = fo (pj d) vs ++ List.replicate m sAny := if_pos hk
          rw [← this]; exact a'
        obtain ⟨h1, h2, h3⟩ := fin (pj d) σ' H' H' own a2 (Same.refl _) [] List.nodup_nil (fun _ h => nomatch h)
        rw [ha.pu] at h3
        exact ⟨own, h1, h2, h3⟩
      | no => rw [hF'] at q; exact q
end
end Hd
namespace Hd
open PySem PySem.Spec L2
/-- the slots, some of them set -/
def setAll (L : List Slot) : List (Nat × Slot) → List Slot
  | [] => L
  | c :: cs => (setAll L cs).set c.1 c.2
/-- pointwise, but for some places -/
structure Pw (H : Hp) (R : Bool → RdR) (L : List Slot) (σ : L2.St) (Fs : List (List Addr)) (out : Nat → Prop) : Prop where
  l1 : σ.length = L.length
  l2 : Fs.length = L.length
  ok : ∀ j, ¬ out j → ∀ s v F, L[j]? = some s → σ[j]? = some v → Fs[j]? = some F → s.ok v H R F
theorem AllS.pw {H : Hp} {R : Bool → RdR} {L : List Slot} {σ : L2.St} {Fs : List (List Addr)} (h : AllS H R L σ Fs) : Pw H R L σ Fs (fun _ => False) := by
  refine ⟨h.len, h.lenF, fun j _ s v F e1 e2 e3 => ?_⟩
  obtain ⟨v', F', e4, e5, r⟩ := h.get e1
  rw [e2] at e4; cases e4
  rw [e3] at e5; cases e5
  exact r
theorem Pw.all {H : Hp} {R : Bool → RdR} : ∀ {L : List Slot} {σ : L2.St} {Fs : List (List Addr)}, Pw H R L σ Fs (fun _ => False) → AllS H R L σ Fs
  | [], σ, Fs, h => by
    have e1 : σ = [] := List.length_eq_zero_iff.mp h.l1
    have e2 : Fs = [] := List.length_eq_zero_iff.mp h.l2
    subst e1; subst e2; exact .nil
  | s :: L, [], Fs, h => by have := h.l1; simp at this
  | s :: L, v :: σ, [], h => by have := h.l2; simp at this
  | s :: L, v :: σ, F :: Fs, h => .cons (h.ok 0 (fun z => z) s v F rfl rfl rfl) (Pw.all ⟨by have := h.l1; simpa using this, by have := h.l2; simpa using this, fun j _ s' v' F' e1 e2 e3 => h.ok (j + 1) (fun z => z) s' v' F' (by simpa using e1) (by simpa using e2) (by simpa using e3)⟩)
/-- arguments, some of them places in slots of their own -/
inductive ArgsAt (L : List Slot) (σ : L2.St) (Fs : List (List Addr)) (H : Hp) (R : RdR) : {δ ω τ : Type} → WAr δ → (δ → ω → δ) → δ → List V → List Addr → List Nat → (ω → τ) → (τ → List (Nat × Slot)) → Prop where
  | nil : ArgsAt L σ Fs H R (ω := Unit) (τ := Unit) waNil (fun d _ => d) () [] [] [] (fun _ => ()) (fun _ => [])
  | sh {α δ ω τ : Type} {T : Ty α} {A : WAr δ} {up : δ → ω → δ} {d : α} {ds : δ} {v : V} {vs : List V} {Fa : List Addr} {is : List Nat} {pu : ω → τ} {mk : τ → List (Nat × Slot)} : T.rep d v R → ArgsAt L σ Fs H R A up ds vs Fa is pu mk →
      ArgsAt L σ Fs H R (waCons (wV T) A) (fun d w => (d.1, up d.2 w)) (d, ds) (v :: vs) Fa is pu mk
  | ow {α β δ ω τ : Type} {O : WTy α} {O2 : WTy β} {A : WAr δ} {up : δ → ω → δ} {d : α} {d2 : β} {ds : δ} {v v2 : V} {vs : List V} {F F2 Fa : List Addr} {is : List Nat} {i : Nat} {put : β → α} {px : V → Prop} {pu : ω → τ} {mk : τ → List (Nat × Slot)} :
      L[i]? = some (sP px O d) → σ[i]? = some (some v) → px v → Fs[i]? = some F → Plc H R O v F O2 d2 put v2 F2 → i ∉ is → ArgsAt L σ Fs H R A up ds vs Fa is pu mk →
      ArgsAt L σ Fs H R (ω := β × ω) (τ := α × τ) (waCons O2 A) (fun d w => (w.1, up d.2 w.2)) (d2, ds) (v2 :: vs) (F2 ++ Fa) (i :: is) (fun w => (put w.1, pu w.2)) (fun t => (i, sP px O t.1) :: mk t.2)
section
variable {L : List Slot} {σ : L2.St} {Fs : List (List Addr)} {H H' : Hp} {R R' : RdR} {δ ω τ : Type} {A : WAr δ} {up : δ → ω → δ} {ds : δ} {vs : List V} {Fa : List Addr} {is : List Nat} {pu : ω → τ} {mk : τ → List (Nat × Slot)}
theorem ArgsAt.ext (h : ArgsAt L σ Fs H R A up ds vs Fa is pu mk) (s : ∀ a o, R a o → R' a o) (k : ∀ p ∈ Fs.flatten, H' p = H p) : ArgsAt L σ Fs H' R' A up ds vs Fa is pu mk := by
  induction h with
  | nil => exact .nil
  | sh r _ ih => exact .sh (Ty.mono _ r s) ih
  | ow h1 h2 h3 h4 pl hn _ ih => exact .ow h1 h2 h3 h4 (pl.ext s fun p hp => k p (flat_mem h4 p hp)) hn ih
/-- the roots: what they hold of the arguments -/
theorem ArgsAt.sub (h : ArgsAt L σ Fs H R A up ds vs Fa is pu mk) : ∀ q ∈ Fa, ∃ i ∈ is, ∃ F, Fs[i]? = some F ∧ q ∈ F := by
  induction h with
  | nil => exact fun q hq => nomatch hq
  | sh _ _ ih => exact ih
  | ow h1 h2 h3 h4 pl hn _ ih =>
    intro q hq
    rcases List.mem_append.mp hq with hq | hq
    · exact ⟨_, List.mem_cons_self, _, h4, pl.sub q hq⟩
    · obtain ⟨i, hi, F, e, hF⟩ := ih q hq
      exact ⟨i, List.mem_cons_of_mem _ hi, F, e, hF⟩
theorem ArgsAt.subF (h : ArgsAt L σ Fs H R A up ds vs Fa is pu mk) : ∀ q ∈ Fa, q ∈ Fs.flatten := fun q hq => by
  obtain ⟨i, _, F, e, hF⟩ := h.sub q hq
  exact flat_mem e q hF
theorem flat_two {i j : Nat} {F G : List Addr} (nd : Fs.flatten.Nodup) (h1 : Fs[i]? = some F) (h2 : Fs[j]? = some G) {q : Addr} (hF : q ∈ F) (hG : q ∈ G) : i = j := by
  induction Fs generalizing i j with
  | nil => simp at h1
  | cons E Fs ih =>
    rw [List.flatten_cons, List.nodup_append] at nd
    cases i with
    | zero =>
      cases j with
      | zero => rfl
      | succ j =>
        simp at h1; subst h1
        exact absurd rfl (nd.2.2 q hF q (flat_mem (by simpa using h2) q hG))
    | succ i =>
      cases j with
      | zero =>
        simp at h2; subst h2
        exact absurd rfl (nd.2.2 q hG q (flat_mem (by simpa using h1) q hF))
      | succ j =>
        have := ih nd.2.1 (i := i) (j := j) (by simpa using h1) (by simpa using h2)
        rw [this]
theorem ArgsAt.rep (h : ArgsAt L σ Fs H R A up ds vs Fa is pu mk) (nd : Fs.flatten.Nodup) : A.rep ds vs H R Fa ∧ Fa.Nodup := by
  induction h with
  | nil => exact ⟨⟨rfl, rfl⟩, List.nodup_nil⟩
  | sh r _ ih => exact ⟨⟨_, _, [], _, rfl, rfl, ⟨rfl, r⟩, ih.1⟩, ih.2⟩
  | ow h1 h2 h3 h4 pl hn t ih =>
    refine ⟨⟨_, _, _, _, rfl, rfl, pl.rep, ih.1⟩, List.nodup_append.mpr ⟨pl.nd, ih.2, fun a ha b hb e => ?_⟩⟩
    subst e
    obtain ⟨i', hi', F', e', hF'⟩ := t.sub a hb
    have := flat_two nd h4 e' (pl.sub a ha) hF'
    subst this
    exact hn hi'
/-- the roots hold again -/
theorem ArgsAt.done (h : ArgsAt L σ Fs H R A up ds vs Fa is pu mk) {FA : List Addr} {RR : Bool → RdR} (hFA : ∀ q ∈ Fa, q ∈ FA) (hR : ∀ a o, R a o → RR false a o) (hk : ∀ p ∈ Fs.flatten, p ∉ FA → H' p = H p) (nd : Fs.flatten.Nodup) {Gs : List (List Addr)} (eG : Gs = Fs.map (List.filter fun q => decide (q ∉ FA))) (ndG : Gs.flatten.Nodup)
    (hroot : ∀ i ∈ is, ∀ F, Fs[i]? = some F → ∀ q ∈ F, q ∈ FA → q ∈ Fa) {w : ω} : ∀ {Fa' : List Addr}, A.rep (up ds w) vs H' (RR false) Fa' → Fa'.Nodup → (∀ q ∈ Fa', q ∈ FA ∨ q ∉ Fs.flatten) →
    ∃ Fs' : List (List Addr), Fs'.length = Gs.length ∧ (∀ j, j ∉ is → Fs'[j]? = Gs[j]?) ∧ (∀ j ∈ is, ∀ s v F, (setAll L (mk (pu w)))[j]? = some s → σ[j]? = some v → Fs'[j]? = some F → s.ok v H' RR F) ∧ (∀ j, j ∉ is → (setAll L (mk (pu w)))[j]? = L[j]?) ∧ (setAll L (mk (pu w))).length = L.length ∧ Fs'.flatten.Nodup ∧ ∀ q ∈ Fs'.flatten, q ∈ Fa' ∨ q ∈ Gs.flatten := by
  have memG : ∀ {i : Nat} {F : List Addr}, Fs[i]? = some F → Gs[i]? = some (F.filter fun q => decide (q ∉ FA)) := fun {i F} e => by rw [eG, List.getElem?_map, e]; rfl
  have subG : ∀ q ∈ Gs.flatten, q ∈ Fs.flatten ∧ q ∉ FA := fun q hq => by
    rw [eG] at hq
    obtain ⟨G, hG, hq⟩ := List.mem_flatten.mp hq
    obtain ⟨F, hF, rfl⟩ := List.mem_map.mp hG
    rw [List.mem_filter, decide_eq_true_eq] at hq
    exact ⟨List.mem_flatten.mpr ⟨F, hF, hq.1⟩, hq.2⟩
  induction h with
  | nil => intro Fa' _ _ _; exact ⟨Gs, rfl, fun _ _ => rfl, (fun _ h => nomatch h), fun _ _ => rfl, rfl, ndG, fun q hq => .inr hq⟩
  | sh r t ih =>
    rintro Fa' ⟨v', r', G1, G2, e1, e2, ⟨e3, h1⟩, h2⟩ ndF nF
    cases e1
    subst e3; subst e2
    exact ih hFA hroot h2 ndF nF
  | @ow α β δ ω τ O O2 A up d d2 ds v v2 vs F F2 Fa is i put px pu mk h1 h2 h3 h4 pl hn t ih =>
    rintro Fa' ⟨v', r', G1, G2, e1, e2, r1, r2⟩ ndF nF
    cases e1
    subst e2
    rw [List.nodup_append] at ndF
    have hroot2 : ∀ i ∈ is, ∀ F, Fs[i]? = some F → ∀ q ∈ F, q ∈ FA → q ∈ Fa := fun j hj F' e' q hq hA => by
      rcases List.mem_append.mp (hroot j (List.mem_cons_of_mem _ hj) F' e' q hq hA) with z | z
      · have := flat_two nd h4 e' (pl.sub q z) hq
        subst this
        exact absurd hj hn
      · exact z
    obtain ⟨Fs1, l1, n1, k1, m1, ml, nd1, q1⟩ := ih (fun q hq => hFA q (List.mem_append_right _ hq)) hroot2 r2 ndF.2.1 (fun q hq => nF q (List.mem_append_right _ hq))
    have hF2 : ∀ q ∈ F, q ∈ FA → q ∈ F2 := fun q hq hA => by
      rcases List.mem_append.mp (hroot i List.mem_cons_self F h4 q hq hA) with z | z
      · exact z
      · obtain ⟨j, hj, F', e', hq'⟩ := t.sub q z
        have := flat_two nd h4 e' hq hq'
        subst this
        exact absurd hj hn
    obtain ⟨F', r3, nd3, n3⟩ := pl.up hR (fun p hp hpn => hk p (flat_mem h4 p hp) fun hA => hpn (hF2 p hp hA)) r1 ndF.1 (fun q hq => (nF q (List.mem_append_left _ hq)).elim (fun z => by
      by_cases y : q ∈ F
      · exact .inl (hF2 q y z)
      · exact .inr y) fun z => .inr fun y => z (flat_mem h4 q y))
    have ei : Fs1[i]? = some (F.filter fun q => decide (q ∉ FA)) := by rw [n1 i hn]; exact memG h4
    have hi : i < Fs1.length := (List.getElem?_eq_some_iff.mp ei).1
    have nF' : ∀ x ∈ F', x ∈ F.filter (fun q => decide (q ∉ FA)) ∨ x ∉ Fs1.flatten := fun x hx => by
      rcases n3 x hx with hx | ⟨hx, hx2⟩
      · refine .inr fun y => ?_
        rcases q1 x y with y | y
        · exact ndF.2.2 x hx x y rfl
        · obtain ⟨y1, y2⟩ := subG x y
          exact (nF x (List.mem_append_left _ hx)).elim y2 fun z => z y1
      · exact .inl (by rw [List.mem_filter, decide_eq_true_eq]; exact ⟨hx, fun hA => hx2 (hF2 x hx hA)⟩)
    refine ⟨Fs1.set i F', by rw [List.length_set, l1], fun j hj => ?_, fun j hj s v' F'' e1 e2 e3 => ?_, fun j hj => ?_, by show ((setAll L (mk (pu w.2))).set i _).length = _; rw [List.length_set, ml], flat_set_nd nd1 ei nd3 nF', fun q hq => ?_⟩
    · rw [List.getElem?_set_ne fun e => hj (by rw [e]; exact List.mem_cons_self)]
      exact n1 j fun z => hj (List.mem_cons_of_mem _ z)
    · have e1 : ((setAll L (mk (pu w.2))).set i (sP px O (put w.1)))[j]? = some s := e1
      by_cases hij : j = i
      · subst hij
        rw [List.getElem?_set_self hi] at e3
        have hj' : j < (setAll L (mk (pu w.2))).length := by rw [ml]; exact (List.getElem?_eq_some_iff.mp h1).1
        rw [List.getElem?_set_self hj'] at e1
        rw [h2] at e2
        cases e1; cases e2; cases e3
        exact ⟨v, rfl, h3, r3⟩
      · rw [List.getElem?_set_ne fun e => hij e.symm] at e1 e3
        exact k1 j ((List.mem_cons.mp hj).resolve_left hij) s v' F'' e1 e2 e3
    · show ((setAll L (mk (pu w.2))).set i _)[j]? = _
      rw [List.getElem?_set_ne fun e => hj (by rw [e]; exact List.mem_cons_self)]
      exact m1 j fun z => hj (List.mem_cons_of_mem _ z)
    · rcases flat_set_mem nd1 ei q hq with hq | ⟨hq, _⟩
      · rcases n3 q hq with hq | ⟨hq, hq2⟩
        · exact .inl (List.mem_append_left _ hq)
        · refine .inr (flat_mem (memG h4) q ?_)
          rw [List.mem_filter, decide_eq_true_eq]
          exact ⟨hq, fun hA => hq2 (hF2 q hq hA)⟩
      · exact (q1 q hq).imp (List.mem_append_right _) id
theorem flat_filter {f : Addr → Bool} : ∀ {Fs : List (List Addr)}, (Fs.map (List.filter f)).flatten.Sublist Fs.flatten
  | [] => List.Sublist.refl _
  | F :: Fs => by rw [List.map_cons, List.flatten_cons, List.flatten_cons]; exact List.Sublist.append List.filter_sublist flat_filter
/-- behind the call -/
theorem At.chgX {fm : Fm} {kp : RdR} {own Fr Fa' : List Addr} {w : ω} (h : At fm kp L σ H own) (hs : AllS H (RB fm own H) L σ Fs) (eo : own = Fs.flatten) (hA : ArgsAt L σ Fs H (RD fm own H) A up ds vs Fa is pu mk) (sm : Same (hm H Fa) H')
    (nd' : (Fr ++ Fa').Nodup) (n1 : ∀ a ∈ Fr ++ Fa', (a ∈ Fa ∨ H a = none) ∧ H' a ≠ none) (r : A.rep (up ds w) vs H' (RD fm (Fr ++ Fa' ++ own.filter fun q => decide (q ∉ Fa)) H') Fa') :
    ∃ own', At fm kp (setAll L (mk (pu w))) σ H' own' ∧ (∀ q ∈ own', q ∈ Fa' ∨ (q ∈ own ∧ q ∉ Fa)) ∧ (∀ a o, kp a o → RD fm (Fr ++ Fa' ++ own.filter fun q => decide (q ∉ Fa)) H' a o) ∧ ∃ Fs', AllS H' (RB fm (Fr ++ Fa' ++ own.filter fun q => decide (q ∉ Fa)) H') (setAll L (mk (pu w))) σ Fs' ∧ own' = Fs'.flatten := by
  obtain ⟨h1, h2, _, h4, h5, h6⟩ := h
  have nd := h4
  rw [eo] at nd
  have sub : ∀ q ∈ Fa, q ∈ own := fun q hq => by rw [eo]; exact hA.subF q hq
  obtain ⟨hrep, hFnd⟩ := hA.rep nd
  have hg := A.tb hrep
  have keep : ∀ a o, H a = some o → nt o = true → a ∉ Fa → H' a = some o := fun a o ea na hn => sm.keep a o (by rw [hm_out hn]; exact ea) na
  have fr : ∀ a, H' a = none → a ∉ Fa → H a = none := fun a ea hn => by have := sm.fr a ea; rwa [hm_out hn] at this
  have tab : ∀ P, LamX.TabS H P lamQ → LamX.TabS H' P lamQ := fun P t => sm.tab P (hm_tab hg t)
  have kcl : ∀ a o, cl H a = some o → a ∉ Fa → cl H' a = some o := fun a o ea hn => cl_of (keep a o (cl_raw ea) (cl_nt ea) hn) (cl_nt ea)
  have keq : ∀ a, cl H a ≠ none → a ∉ Fa → H' a = H a := fun a ha hn => by
    cases r : cl H a with
    | none => exact absurd r ha
    | some o => rw [cl_raw r]; exact keep a o (cl_raw r) (cl_nt r) hn
  have nA : ∀ a ∈ Fr ++ Fa', H a ≠ none → a ∈ Fa := fun a ha hne => (n1 a ha).1.resolve_right hne
  have rdB : ∀ b a o, RB fm own H b a o → RB fm (Fr ++ Fa' ++ own.filter fun q => decide (q ∉ Fa)) H' b a o := fun b a o z => by
    have out : cl H a ≠ none → a ∉ own → a ∉ Fr ++ Fa' ++ own.filter fun q => decide (q ∉ Fa) := fun hc hn hq => by
      rcases List.mem_append.mp hq with hq | hq
      · exact hn (sub a (nA a hq fun e => hc (cl_none e)))
      · exact hn (List.mem_filter.mp hq).1
    cases b with
    | false =>
      rcases z with ⟨z1, z2, z3⟩ | z
      · have hne : cl H a ≠ none := fun q => by rcases z1 with z1 | ⟨_, z1⟩ <;> rw [q] at z1 <;> cases z1
        have n2 : a ∉ Fa := fun q => z2 (sub a q)
        exact .inl ⟨z1.imp (fun q => kcl a _ q n2) fun ⟨f, q⟩ => ⟨f, kcl a _ q n2⟩, out hne z2, z3⟩
      · exact .inr z
    | true =>
      obtain ⟨z1, z2, z3, z4⟩ := z
      exact ⟨kcl a _ z1 fun q => z2 (sub a q), out (by rw [z1]; exact fun q => nomatch q) z2, z3, z4⟩
  have memF : ∀ {i : Nat} {F : List Addr}, Fs[i]? = some F → (Fs.map (List.filter fun q => decide (q ∉ Fa)))[i]? = some (F.filter fun q => decide (q ∉ Fa)) := fun {i F} e => by rw [List.getElem?_map, e]; rfl
  have flG : (Fs.map (List.filter fun q => decide (q ∉ Fa))).flatten.Sublist Fs.flatten := flat_filter
  have nG : ∀ q ∈ (Fs.map (List.filter fun q => decide (q ∉ Fa))).flatten, q ∉ Fa := fun q hq => by
    obtain ⟨G, hG, hq⟩ := List.mem_flatten.mp hq
    obtain ⟨F, hF, rfl⟩ := List.mem_map.mp hG
    rw [List.mem_filter, decide_eq_true_eq] at hq
    exact hq.2
  obtain ⟨Fs', l1, k0, k1, m1, ml, ndF, q1⟩ := hA.done (FA := Fa) (RR := RB fm (Fr ++ Fa' ++ own.filter fun q => decide (q ∉ Fa)) H') (H' := H') (w := w) (fun _ h => h) (fun a o z => rdB false a o z) (fun q hq hn => keq q (hs.tb q hq) hn) nd rfl (nd.sublist flG) (fun i hi F e q hq hF => hF) r (List.nodup_append.mp nd').2.1
    (fun q hq => by
      by_cases y : q ∈ Fs.flatten
      · exact .inl (nA q (List.mem_append_right _ hq) (h5 q (by rw [eo]; exact y)).1)
      · exact .inr y)
  have nF : ∀ q ∈ Fs'.flatten, q ∈ Fa' ∨ (q ∈ own ∧ q ∉ Fa) := fun q hq => (q1 q hq).imp id fun z => ⟨by rw [eo]; exact flG.subset z, nG q z⟩
  have dr : ∀ b a o, RB fm (Fr ++ Fa' ++ own.filter fun q => decide (q ∉ Fa)) H' b a o → RB fm Fs'.flatten H' b a o := RB.own fun q hq => by
    rcases nF q hq with hq | hq
    · exact List.mem_append_left _ (List.mem_append_right _ hq)
    · exact List.mem_append_right _ (List.mem_filter.mpr ⟨hq.1, by rw [decide_eq_true_eq]; exact hq.2⟩)
  have hpw := hs.pw
  have sl : AllS H' (RB fm (Fr ++ Fa' ++ own.filter fun q => decide (q ∉ Fa)) H') (setAll L (mk (pu w))) σ Fs' := by
    refine Pw.all ⟨by rw [ml]; exact hpw.l1, by rw [ml, l1, List.length_map]; exact hpw.l2, fun j _ s v F e1 e2 e3 => ?_⟩
    by_cases hj : j ∈ is
    · exact k1 j hj s v F e1 e2 e3
    · rw [m1 j hj] at e1
      have hlt : j < Fs.length := by rw [hpw.l2]; exact (List.getElem?_eq_some_iff.mp e1).1
      have e4 : Fs[j]? = some Fs[j] := List.getElem?_eq_getElem hlt
      have e5 : Fs[j].filter (fun q => decide (q ∉ Fa)) = Fs[j] := List.filter_eq_self.mpr fun q hq => by
        rw [decide_eq_true_eq]
        intro hF
        obtain ⟨i, hi, F0, e6, hF0⟩ := hA.sub q hF
        have := flat_two nd e4 e6 hq hF0
        subst this
        exact hj hi
      rw [k0 j hj, memF e4, e5] at e3
      cases e3
      refine s.st (hpw.ok j (fun z => z) s v _ e1 e2 e4) rdB fun q hq => keq q (hs.tb q (flat_mem e4 q hq)) fun hF => ?_
      rw [← e5, List.mem_filter, decide_eq_true_eq] at hq
      exact hq.2 hF
  have sH : Same fm.H0 H' := by
    refine ⟨fun a o ea na => keep a o (h1.keep a o ea na) na (fun q => by have := (h5 a (sub a q)).2.1; rw [this] at ea; cases ea), fun a ea => ?_, fun P t => tab P (h1.tab P t)⟩
    by_cases q2 : a ∈ Fa
    · exact (h5 a (sub a q2)).2.1
    · exact h1.fr a (fr a ea q2)
  refine ⟨Fs'.flatten, ⟨sH, fun a z ea => h2 a z (fr a ea fun q => (h5 a (sub a q)).2.2 z), ⟨Fs', sl.st dr fun _ _ => rfl, rfl⟩, ndF, fun q hq => ?_, fun a o z => dr false a o (rdB false a o (h6 a o z))⟩, nF, fun a o z => rdB false a o (h6 a o z), Fs', sl, rfl⟩
  rcases nF q hq with hq | ⟨hq, hn⟩
  · have hq' := n1 q (List.mem_append_right _ hq)
    refine ⟨hq'.2, ?_, ?_⟩
    · rcases hq'.1 with z | z
      · exact (h5 q (sub q z)).2.1
      · exact h1.free z
    · rcases hq'.1 with z | z
      · exact (h5 q (sub q z)).2.2
      · exact fun y => h2 q y z
  · have z := h5 q hq
    exact ⟨fun y => z.1 (fr q y hn), z.2⟩
end
end Hd
namespace Hd
open PySem PySem.Spec L2
def FinXA {δ ω τ : Type} (fm : Fm) (W : Wx) (L : List Slot) (own : List Addr) (Fs : List (List Addr)) (σ : L2.St) (H : Hp) (A : WAr δ) (up : δ → ω → δ) (is : List Nat) (mk : τ → List (Nat × Slot)) (Q : List V → Hp → Prop) : M (δ × (ω → τ)) → Prop
  | .ok q => ∀ vs Fa H', Same H H' → ArgsAt L σ Fs H' (RD fm own H') A up q.1 vs Fa is q.2 mk → Q vs H'
  | .ex c => ∀ H', Same H H' → W c σ H'
  | .no => False
def EvXA (g : G) (L : List Slot) (es : List Expr) {δ ω τ : Type} (A : WAr δ) (up : δ → ω → δ) (is : List Nat) (mk : τ → List (Nat × Slot)) (m : M (δ × (ω → τ))) : Prop :=
  PA g.X es (fun σ H Q => ∃ kp own Fs, At g.fm kp L σ H own ∧ AllS H (RB g.fm own H) L σ Fs ∧ own = Fs.flatten ∧ FinXA g.fm g.W L own Fs σ H A up is mk Q m)
/-- the end of an expression that changes the slots -/
def FinX {β τ : Type} (fm : Fm) (W : Wx) (kp : RdR) (σ : L2.St) (LX : List Slot) (L' : τ → List Slot) (O : WTy β) (Q : VK) : M (β × τ) → Prop
  | .ok r => ∀ v F H' own', At fm kp (L' r.2) σ H' own' → (F ++ own').Nodup → (∀ q ∈ F, H' q ≠ none ∧ fm.H0 q = none ∧ ¬ fm.z q) → (∀ a o, kp a o → RD fm (F ++ own') H' a o) → (∃ Fs, AllS H' (RB fm (F ++ own') H') (L' r.2) σ Fs ∧ own' = Fs.flatten) → O.rep r.1 v H' (RD fm (F ++ own') H') F → Q v H'
  | .ex c => ∀ H' own', At fm kp LX σ H' own' → W c σ H'
  | .no => False
def EvX (g : G) (L : List Slot) (e : Expr) {β τ : Type} (O : WTy β) (L' : τ → List Slot) (m : M (β × τ)) : Prop :=
  PE g.X e (fun σ H Q => ∃ kp own, At g.fm kp L σ H own ∧ FinX g.fm g.W kp σ g.LX L' O Q m)
section
variable {p : Pr} {sc : Scope} {NN VV GG : List Str} {k : Nat} {g : G} {L L' : List Slot} {a b c e e' ix : Expr} {es : List Expr} {md md' : Md} {α β γ δ ρ ω τ : Type} {S : Ty α} {T : Ty β} {O : WTy α} {O2 : WTy β} {O3 : WTy γ} {A : WAr δ} {pos pp pos' : Pos} {i j : Nat} {x f : Str} {px : V → Prop} {d : α}
theorem AllS.hk {fm : Fm} {own : List Addr} {L : List Slot} {σ : L2.St} {H H' : Hp} {Fs : List (List Addr)} {R : Bool → RdR} (hs : AllS H R L σ Fs) (s : Same H H') : ∀ q ∈ Fs.flatten, H' q = H q := fun q hq => by
  cases r : cl H q with
  | none => exact absurd r (hs.tb q hq)
  | some o => rw [cl_raw r]; exact s.keep _ _ (cl_raw r) (cl_nt r)
theorem evxa_nil : EvXA g L [] (ω := Unit) (τ := Unit) waNil (fun d _ => d) [] (fun _ => []) (.ok ((), fun _ => ())) :=
  PA.imp pa_nil fun σ H Q ⟨kp, own, Fs, at_, hsl, heo, q⟩ => q [] [] H (Same.refl H) .nil
theorem evxa_sh {up : δ → ω → δ} {is : List Nat} {mk : τ → List (Nat × Slot)} {m1 : M β} {m2 : M (δ × (ω → τ))} (ha : EvE g L a md T m1) (hb : EvXA g L es A up is mk m2) (hs : starEach (a :: es) g.X.env = (false, eval a g.X.env) :: starEach es g.X.env := by rfl) :
    EvXA g L (a :: es) (waCons (wV T) A) (fun d w => (d.1, up d.2 w)) is mk (m1.bind fun d => m2.bind fun r => .ok ((d, r.1), r.2)) := by
  refine PA.imp (pa_cons ha hb hs) fun σ H Q ⟨kp, own, Fs, at_, hsl, heo, q⟩ => ?_
  refine tE_iff.mpr ⟨kp, own, at_, ?_⟩
  cases m1 with
  | ok d =>
    intro v H1 s1 r1
    refine ⟨kp, own, Fs, at_.ext s1, hsl.st (RB.same s1) (hsl.hk (fm := g.fm) (own := own) s1), heo, ?_⟩
    cases m2 with
    | ok r =>
      intro vs Fa H2 s2 hA
      exact q (v :: vs) Fa H2 (s1.trans s2) (.sh (T.mono r1 fun a o z => RD.same s2 a o (RX.sh a o z)) hA)
    | ex c => exact fun H' s => q H' (s1.trans s)
    | no => exact q
  | ex c => exact q
  | no => exact q
theorem evxa_ow {up : δ → ω → δ} {is : List Nat} {mk : τ → List (Nat × Slot)} {m1 : M (β × (β → α))} {m2 : M (δ × (ω → τ))} (ha : EvP g L a i px O d O2 m1) (hb : EvXA g L es A up is mk m2) (hi : i ∉ is) (hs : starEach (a :: es) g.X.env = (false, eval a g.X.env) :: starEach es g.X.env := by rfl) :
    EvXA g L (a :: es) (ω := β × ω) (τ := α × τ) (waCons O2 A) (fun d w => (w.1, up d.2 w.2)) (i :: is) (fun t => (i, sP px O t.1) :: mk t.2) (m1.bind fun q => m2.bind fun r => .ok ((q.1, r.1), fun w => (q.2 w.1, r.2 w.2))) := by
  refine PA.imp (pa_cons ha hb hs) fun σ H Q ⟨kp, own, Fs, at_, hsl, heo, q⟩ => ?_
  refine ⟨kp, own, Fs, at_, hsl, heo, ?_⟩
  cases m1 with
  | ok q0 =>
    intro v2 F2 H1 s1 A1
    refine ⟨kp, own, Fs, at_.ext s1, hsl.st (RB.same s1) (hsl.hk (fm := g.fm) (own := own) s1), heo, ?_⟩
    cases m2 with
    | ok r =>
      intro vs Fa H2 s2 hA
      obtain ⟨v, F, hL, hs2, eo, e1, hx, e2, pl⟩ := A1.ext s2
      exact q (v2 :: vs) (F2 ++ Fa) H2 (s1.trans s2) (.ow hL e1 hx e2 pl hi hA)
    | ex c => exact fun H' s => q H' (s1.trans s)
    | no => exact q
  | ex c => exact q
  | no => exact q
/-- what is known where such a call refuses -/
inductive WkC {δ ω τ ρ : Type} (g : G) (L : List Slot) (up : δ → ω → δ) (mk : τ → List (Nat × Slot)) (m : M (δ × (ω → τ))) (F : δ → M (ρ × ω)) (kx : Bool) : Prop where
  | any : g.LX = List.replicate L.length sAny → WkC g L up mk m F kx
  | keep {pj : δ → ω} : kx = true → Wk L g.LX → (∀ d, up d (pj d) = d) → (∀ q, m = .ok q → setAll L (mk (q.2 (pj q.1))) = L) → WkC g L up mk m F kx
  | nx : NoEx m → (∀ q, m = .ok q → NoEx (F q.1)) → WkC g L up mk m F kx
theorem At.anys {fm : Fm} {kp : RdR} {σ : L2.St} {H H' : Hp} {own Fa : List Addr} {n : Nat} (h : At fm kp L σ H own) (sub : ∀ q ∈ Fa, q ∈ own) (sm : Same (hm H Fa) H') (hg : ∀ a ∈ Fa, ∃ o, H a = some o ∧ gd o = true) (hn : n = L.length) : At fm kp (List.replicate n sAny) σ H' [] := by
  have hl := h.len
  obtain ⟨h1, h2, ⟨Fs, h3, e⟩, h4, h5, h6⟩ := h
  have keep : ∀ a o, H a = some o → nt o = true → a ∉ Fa → H' a = some o := fun a o ea na hn => sm.keep a o (by rw [hm_out hn]; exact ea) na
  have fr : ∀ a, H' a = none → a ∉ Fa → H a = none := fun a ea hn => by have := sm.fr a ea; rwa [hm_out hn] at this
  have kcl : ∀ a o, cl H a = some o → a ∉ Fa → cl H' a = some o := fun a o ea hn => cl_of (keep a o (cl_raw ea) (cl_nt ea) hn) (cl_nt ea)
  refine ⟨⟨fun a o ea na => keep a o (h1.keep a o ea na) na (fun q => by have := (h5 a (sub a q)).2.1; rw [this] at ea; cases ea), fun a ea => ?_, fun P t => sm.tab P (hm_tab hg (h1.tab P t))⟩, fun a z ea => h2 a z (fr a ea fun q => (h5 a (sub a q)).2.2 z), ⟨List.replicate n [], ?_, by rw [flat_rep]⟩, List.nodup_nil, (fun _ h => nomatch h), fun a o z => ?_⟩
  · by_cases q2 : a ∈ Fa
    · exact (h5 a (sub a q2)).2.1
    · exact h1.fr a (fr a ea q2)
  · have : ∀ {H : Hp} {R : Bool → RdR} (n : Nat) (σ : L2.St), σ.length = n → AllS H R (List.replicate n sAny) σ (List.replicate n []) := by
      intro H R n
      induction n with
      | zero => intro σ hl; rw [List.length_eq_zero_iff.mp hl]; exact .nil
      | succ n ih =>
        intro σ hl
        cases σ with
        | nil => simp at hl
        | cons v σ => exact .cons rfl (ih σ (by simpa using hl))
    exact this n σ (by rw [hl, hn])
  · rcases h6 a o z with ⟨z1, z2, z3⟩ | z
    · have n2 : a ∉ Fa := fun q => z2 (sub a q)
      exact .inl ⟨z1.imp (fun q => kcl a _ q n2) fun ⟨f, q⟩ => ⟨f, kcl a _ q n2⟩, (fun q => nomatch q), z3⟩
    · exact .inr z
/-- exceptions ahead of the call -/
theorem WkC.pre {up : δ → ω → δ} {mk : τ → List (Nat × Slot)} {m : M (δ × (ω → τ))} {F : δ → M (ρ × ω)} {kx : Bool} {kp : RdR} {σ : L2.St} {H H' : Hp} {own : List Addr} {c : Ec} (wk : WkC g L up mk m F kx) (hn : m = .ex c) (at_ : At g.fm kp L σ H own) (s : Same H H') (q : ∀ H' own', At g.fm kp g.LX σ H' own' → g.W c σ H') : g.W c σ H' := by
  cases wk with
  | any h =>
    refine q H' [] (h ▸ At.anys (Fa := []) at_ (fun _ h => nomatch h) ?_ (fun _ h => nomatch h) rfl)
    have : hm H [] = H := funext fun a => hm_out (fun h => nomatch h)
    rw [this]; exact s
  | keep h1 h2 _ _ =>
    obtain ⟨own', a', _⟩ := (at_.ext s).weak h2
    exact q H' own' a'
  | nx h _ => exact absurd hn (h c)
theorem spX_of {up : δ → ω → δ} {is : List Nat} {mk : τ → List (Nat × Slot)} {m : M (δ × (ω → τ))} {q0 : δ × (ω → τ)} {F : δ → M (ρ × ω)} {O : WTy ρ} {kx : Bool} {kp : RdR} {σ : L2.St} {H : Hp} {own : List Addr} {Fs : List (List Addr)} {vs : List V} {Fa : List Addr} {Q : VK} (ok : Ok p sc NN VV GG k g) (wk : WkC g L up mk m F kx) (hm0 : m = .ok q0)
    (at_ : At g.fm kp L σ H own) (hs : AllS H (RB g.fm own H) L σ Fs) (eo : own = Fs.flatten) (hA : ArgsAt L σ Fs H (RD g.fm own H) A up q0.1 vs Fa is q0.2 mk)
    (q : FinX g.fm g.W kp σ g.LX (fun t => setAll L (mk t)) O Q ((F q0.1).bind fun r => .ok (r.1, q0.2 r.2))) :
    spX p A up O kx F vs H Q (fun cls d H => ∃ c, cls = .ref (p.C c) ∧ d = none ∧ g.W c σ H) := by
  have nd := at_.nd
  rw [eo] at nd
  obtain ⟨hrep, hFnd⟩ := hA.rep nd
  have hg := A.tb hrep
  have sub : ∀ q ∈ Fa, q ∈ own := fun q hq => by rw [eo]; exact hA.subF q hq
  let z : Addr → Prop := fun a => (a ∈ own ∧ a ∉ Fa) ∨ g.fm.z a
  -- what the callee may read at the end
  have rdO : ∀ {F1 Fa' : List Addr} {H' : Hp} {X : List Addr}, (∀ q ∈ X, q ∈ F1 ++ Fa' ∨ (q ∈ own ∧ q ∉ Fa)) → ∀ a o, RD ⟨p.K, hm H Fa, z⟩ (F1 ++ Fa') H' a o → RD g.fm X H' a o := fun {F1 Fa' H' X} hX a o y => by
    rcases y with ⟨y1, y2, y3⟩ | y
    · exact .inl ⟨y1, fun hq => (hX a hq).elim y2 fun h => y3 (.inl h), fun h => y3 (.inr h)⟩
    · rw [← ok.fmK] at y; exact .inr y
  refine ⟨q0.1, z, Fa, ⟨fun a y => ?_, fun P e => at_.same.tab P (ok.tab P e)⟩, hFnd, fun a ha y => ?_, A.st hrep (fun a o y => ?_) fun _ _ => rfl, ?_⟩
  · rcases y with y | y
    · exact (at_.new a y.1).1
    · exact at_.zin a y
  · rcases y with y | y
    · exact y.2 ha
    · exact (at_.new a (sub a ha)).2.2 y
  · rcases y with ⟨y1, y2, y3⟩ | y
    · exact .inl ⟨y1, fun h => y2 (sub a h), fun h => h.elim (fun h => y2 h.1) y3⟩
    · rw [ok.fmK] at y; exact .inr y
  cases hF : F q0.1 with
  | ok r =>
    rw [hF] at q
    intro v H' Fr Fa' sm ndf n1 rO rA
    obtain ⟨own', a', sub', kpt, Fs2, al2, eo2⟩ := at_.chgX (Fr := Fr) (w := r.2) hs eo hA sm ndf (fun a ha => ⟨(n1 a ha).1, (n1 a ha).2.1⟩) (A.st rA (rdO fun q hq => by
      rcases List.mem_append.mp hq with hq | hq
      · exact .inl hq
      · rw [List.mem_filter, decide_eq_true_eq] at hq; exact .inr hq) fun _ _ => rfl)
    have ndf2 := List.nodup_append.mp ndf
    have inc : ∀ q ∈ Fr ++ own', q ∈ Fr ++ Fa' ++ own.filter fun q => decide (q ∉ Fa) := fun q hq => by
      rcases List.mem_append.mp hq with hq | hq
      · exact List.mem_append_left _ (List.mem_append_left _ hq)
      · rcases sub' q hq with z | z
        · exact List.mem_append_left _ (List.mem_append_right _ z)
        · exact List.mem_append_right _ (List.mem_filter.mpr ⟨z.1, by rw [decide_eq_true_eq]; exact z.2⟩)
    refine q v Fr H' own' a' (List.nodup_append.mpr ⟨ndf2.1, a'.nd, fun a ha b hb e => ?_⟩) (fun a ha => ?_) (fun a o z => RD.drop (inc) a o (kpt a o z)) ⟨Fs2, al2.st (RB.own inc) (fun _ _ => rfl), eo2⟩ (O.st rO (rdO fun q hq => ?_) fun _ _ => rfl)
    · subst e
      rcases sub' a hb with h | h
      · exact ndf2.2.2 a ha a h rfl
      · rcases (n1 a (List.mem_append_left _ ha)).1 with y | y
        · exact h.2 y
        · exact (at_.new a h.1).1 y
    · have h := n1 a (List.mem_append_left _ ha)
      refine ⟨h.2.1, ?_, fun y => h.2.2 (.inr y)⟩
      rcases h.1 with y | y
      · exact (at_.new a (sub a y)).2.1
      · exact at_.same.free y
    · rcases List.mem_append.mp hq with hq | hq
      · exact .inl (List.mem_append_left _ hq)
      · exact (sub' q hq).imp (List.mem_append_right _) id
  | ex c =>
    rw [hF] at q
    intro H' sm hk
    refine ⟨c, rfl, rfl, ?_⟩
    cases wk with
    | any h => exact q H' [] (h ▸ At.anys at_ sub sm hg rfl)
    | nx _ h => exact absurd hF (h q0 hm0 c)
    | keep h1 h2 h3 h4 =>
      obtain ⟨Fa', nd', n1, rA⟩ := hk h1
      obtain ⟨own', a', _, _, _⟩ := at_.chgX (Fr := []) (Fa' := Fa') (H' := H') hs eo hA sm (by simpa using nd') (fun a ha => ⟨(n1 a (by simpa using ha)).1, (n1 a (by simpa using ha)).2.1⟩) (w := _) (by
        rw [h3]
        refine A.st rA (fun a o y => ?_) fun _ _ => rfl
        have := rdO (F1 := []) (Fa' := Fa') (H' := H') (X := [] ++ Fa' ++ own.filter fun q => decide (q ∉ Fa)) (fun q hq => by
          rcases List.mem_append.mp hq with hq | hq
          · exact .inl hq
          · rw [List.mem_filter, decide_eq_true_eq] at hq; exact .inr hq) a o
        exact this y)
      rw [h4 q0 hm0] at a'
      obtain ⟨own2, a2, _⟩ := a'.weak h2
      exact q H' own2 a2
  | no => rw [hF] at q; exact q
/-- a call of a def -/
theorem ex_call {up : δ → ω → δ} {is : List Nat} {mk : τ → List (Nat × Slot)} {m : M (δ × (ω → τ))} {F : δ → M (ρ × ω)} {O : WTy ρ} {kx : Bool} {kf : Nat} {ps : List Str} (ok : Ok p sc NN VV GG k g) (hf : Fn p kf x ps (spX p A up O kx F)) (hk : kf ≤ k) (hG : GG[j]? = some x) (wk : WkC g L up mk m F kx)
    (ha : EvXA g L (e :: es) A up is mk m) (he : starEach (e :: es) g.X.env = (false, eval e g.X.env) :: starEach es g.X.env := by rfl) (hpl : (backTo pos (starEach es g.X.env)).any (·.1) = false := by rfl) :
    EvX g L (.Call (.Name x pp) (e :: es) [] pos) O (fun t => setAll L (mk t)) (m.bind fun q => (F q.1).bind fun r => .ok (r.1, q.2 r.2)) := by
  obtain ⟨f, fd, hF, hm, hkp, hbd⟩ := hf.ex
  obtain ⟨hg, ho⟩ := ok.gl hG
  rw [← ok.prog, ← ok.w, ← ok.base] at hF
  have hF' : FnOk g.X.prog g.X.w g.X.K g.X.mg g.X.base (L2.CX g.X.prog g.X.w) kf f fd ps (spX p A up O kx F) := by rw [ok.K, ok.mg]; exact hF
  refine PE.imp (pe_callS hF' (ok.room.mono hk) hg (by rw [ok.mg]; exact hm) (by rw [ok.K]; exact hkp) (by rw [ok.K]; exact hbd) (tk_at ok) ha (okName_d ho).1 he hpl) fun σ H Q ⟨kp, own, at_, q⟩ => ?_
  obtain ⟨Fs, hsl, heo⟩ := at_.sl
  refine ⟨kp, own, Fs, at_, hsl, heo, ?_⟩
  cases hm0 : m with
  | ok q0 =>
    rw [hm0] at q
    intro vs Fa H1 s1 hA
    exact spX_of ok wk hm0 (at_.ext s1) (hsl.st (RB.same s1) (hsl.hk (fm := g.fm) (own := own) s1)) heo hA q
  | ex c =>
    rw [hm0] at q
    exact fun H' s => wk.pre hm0 at_ s q
  | no => rw [hm0] at q; exact q
end
section
end
section
end
end Hd
namespace Hd
open PySem PySem.Spec L2
section
variable {p : Pr} {sc : Scope} {NN VV GG VV' GG' : List Str} {k : Nat} {g : G} {L L' : List Slot} {a b c e e' : Expr} {es : List Expr} {md md' : Md} {α β γ δ ρ : Type} {S : Ty α} {O : WTy β} {U : Ty γ} {A : Ar δ} {pos : Pos} {K : PySem.W.Frag} {tg : Expr} {st : List Stmt} {D : δ → Out} {i j : Nat} {x : Str}
def tN (fm : Fm) (W : Wx) (L : List Slot) {β : Type} (O : WTy β) (m : M β) : TE := fun σ H Q => ∃ kp own, At fm kp L σ H own ∧ FinN fm W own σ H O Q m
/-- [elt for x in it if c] -/
theorem evn_lc2 {scope : Scope} {it elt : Expr} {m : M (List α)} {cm : α → M Bool} {f : α → M β} {tp : Pos} {ifs : List Expr} {s₀ : Slot} (ok : Ok p sc NN VV GG k g) (hI : EvI g L (.Name x tp) it S m) (hN : NN[i]? = some x) (hLi : L[i]? = some s₀) (hs₀ : NoOwn s₀) (hb : blkC NN sc scope [(x, i)] = true)
    (hv : VV'.all (seenB scope) = true) (hg : GG'.all (glB scope) = true) (hx : locB scope x = true)
    (hc : ∀ g', Ok p scope NN VV' GG' k g' → ∀ d, PTs g'.X ifs (tT g'.fm g'.W (L.set i (sV false S d)) (cm d)))
    (hO : FlatW O) (he : ∀ g', Ok p scope NN VV' GG' k g' → ∀ d, EvN g' (L.set i (sV false S d)) elt O (f d)) (hs : ∀ x, foldedSetIterable it g.X.env x = pure x := by intro _; rfl) :
    (EvN g L (.ListComp elt [⟨.Name x tp, it, ifs, 0⟩] scope pos) (wL O) (m.bind fun xs => compM (fun d => (cm d).bind fun c => if c = true then (f d).bind fun y => .ok (some y) else .ok none) xs)) ∧
    (∀ {y : Str} {i2 : Nat} {py spos : Pos}, NN[i2]? = some y → g.X.env.scope.names.lookup y = some .local → swapsWith (.ListComp elt [⟨.Name x tp, it, ifs, 0⟩] scope pos) (some (.Name y py)) spos.line g.X.env = pure true →
      PS g.X (.Assign [.Name y py] (.ListComp elt [⟨.Name x tp, it, ifs, 0⟩] scope pos) spos) (tAsg (tN g.fm g.W L (wL O) (m.bind fun xs => compM (fun d => (cm d).bind fun c => if c = true then (f d).bind fun y => .ok (some y) else .ok none) xs)) (gName i2))) := by
  have loc : ∀ (s : Shared) (H : Hp) (C : Addr) (cl : List (Str × Addr)) (fp : List Addr), L2.Loc (g.X.blk s H scope (compEnvC scope cl C g.X.env) fp).env.scope x ∧ ((g.X.blk s H scope (compEnvC scope cl C g.X.env) fp).fn x = true ∨ (g.X.blk s H scope (compEnvC scope cl C g.X.env) fp).env.scope.names.lookup x = some .local) := by
    intro s H C cl fp
    rcases locB_v hx with h | h
    · have q : (relabel scope g.X.env).names.lookup x = some .local := by
        rcases lookup_rl (env := g.X.env) h with q | ⟨q, _⟩
        · exact q
        · cases q
      exact ⟨.inl q, .inr q⟩
    · have q : (relabel scope g.X.env).names.lookup x = some .cell := by
        rcases lookup_rl (env := g.X.env) h with q | ⟨q, _⟩
        · exact q
        · cases q
      refine ⟨.inr q, .inl ?_⟩
      show (scope.names.lookup x == some .cell) = true
      rw [h]; rfl
  have BODY : ∀ σ H Q, tN g.fm g.W L (wL O) (m.bind fun xs => compM (fun d => (cm d).bind fun c => if c = true then (f d).bind fun y => .ok (some y) else .ok none) xs) σ H Q →
      tLc (tI g.fm g.W L S m) (gName i) (fun σ H Q => ∃ z : {fm' : Fm // fm'.K = p.K ∧ ∀ P, p.T = some P → LamX.TabS fm'.H0 P lamQ} × α, tT z.1.1 (fun _ _ _ => False) (L.set i (sV false S z.2)) (cm z.2) σ H Q)
        (fun σ H Q => ∃ z : {fm' : Fm // fm'.K = p.K ∧ ∀ P, p.T = some P → LamX.TabS fm'.H0 P lamQ} × α, tN z.1.1 (fun _ _ _ => False) (L.set i (sV false S z.2)) O (f z.2) σ H Q) ([(x, i)].map (·.2)) σ H Q := by
    intro σ H Q q
    obtain ⟨kp, own, at_, q⟩ := q
    cases m with
    | ex c => exact ⟨kp, own, at_, q⟩
    | no => exact q.elim
    | ok xs =>
    refine ⟨kp, own, at_, fun J H1 s1 hJ D hD => ?_⟩
    have at1 := at_.ext s1
    have hHD : H D = none := s1.free hD
    -- the inner frame
    let fm' : Fm := ⟨g.fm.K, g.fm.H0, fun a => a = D ∨ g.fm.z a⟩
    let hh : α → M (Option β) := fun d => (cm d).bind fun c => if c = true then (f d).bind fun y => .ok (some y) else .ok none
    have q : FinN g.fm g.W own σ H (wL O) Q (compM hh xs) := q
    unfold compM at q
    split at q
    case isFalse => exact q.elim
    rename_i hlen
    have aw : At g.fm kp (L.set i sAny) (σ.set i none) H1 own := at1.setN hLi hs₀ rfl
    have rdD : ∀ (md : Md) (H0 : Hp) a o, RX g.fm own H0 H1 md a o → RX fm' own H0 (upd H1 D (.lst [])) md a o := fun md H0 a o z => by
      have z2 := RX.add (o' := .lst []) hD a o z
      cases md with
      | sh => exact z2.imp (fun ⟨a1, a2, a3⟩ => ⟨a1, fun y => a2 (List.mem_cons_of_mem _ y), fun y => y.elim (fun e => a2 (by rw [e]; exact List.mem_cons_self)) a3⟩) id
      | f0 => exact ⟨z2.1, fun y => z2.2.1 (List.mem_cons_of_mem _ y), fun y => y.elim (fun e => z2.2.1 (by rw [e]; exact List.mem_cons_self)) z2.2.2.1, z2.2.2.2⟩
      | fx => exact ⟨z2.1, fun y => z2.2.1 (List.mem_cons_of_mem _ y), fun y => y.elim (fun e => z2.2.1 (by rw [e]; exact List.mem_cons_self)) z2.2.2.1, z2.2.2.2⟩
    have a0 : At fm' (RD g.fm own H1) (L.set i sAny) (wipe σ [i]) (upd H1 D (.lst [])) own := by
      obtain ⟨h1, h2, ⟨Fs, h3, e⟩, h4, h5, h6⟩ := aw
      refine ⟨h1.trans (newSame hD), fun a z => ?_, ⟨Fs, h3.st (fun b a o z => ?_) fun y hy => ?_, e⟩, h4, fun y hy => ⟨fun n => (h5 y hy).1 ((newSame hD).free n), (h5 y hy).2.1, fun z => z.elim (fun e => (h5 y hy).1 (by rw [e]; exact hD)) (h5 y hy).2.2⟩, fun a o z => rdD .sh H1 a o z⟩
      · rcases z with z | z
        · rw [z, upd_same]; exact fun n => by cases n
        · exact fun n => h2 a z ((newSame hD).free n)
      · cases b with
        | false => exact rdD .sh H1 a o z
        | true => exact rdD .f0 H1 a o z
      · exact upd_ne fun e' => (h5 y (by rw [e]; exact hy)).1 (by rw [e']; exact hD)
    refine ⟨fun n mm H' => mm = xs.length - n ∧ n ≤ xs.length ∧ ∃ vs ds Gs, H' D = some (.lst vs) ∧ vs.length ≤ n ∧ Same H H' ∧ RepsO O H' (fun _ _ => False) ds vs Gs ∧ Gs.flatten.Nodup ∧ (∀ q ∈ Gs.flatten, H q = none ∧ q ≠ D) ∧ At fm' (RD g.fm own H1) (L.set i sAny) (wipe σ [i]) H' own ∧
      FinN g.fm g.W own σ H (wL O) Q ((compG hh (xs.drop n)).bind fun l => .ok (ds ++ l)), ⟨_, rfl, Nat.zero_le _, [], [], [], upd_same, Nat.zero_le _, s1.trans (newSame hD), .nil, List.nodup_nil, (fun _ h => nomatch h), a0, ?_⟩, ?_⟩
    · rw [List.drop_zero]
      have e : ((compG hh xs).bind fun l => M.ok ([] ++ l)) = compG hh xs := by cases compG hh xs <;> rfl
      rw [e]; exact q
    rintro n mm H' ⟨rfl, hn, vs, ds, Gs, hDv, hvl, sH, rr, gnd, gn, a', q'⟩
    have rb : Rdb g.fm.K (RD g.fm own H1) H' := ⟨fun a o z n => (a'.kept a o z).imp (fun h => Rd.raw h.1 n) id⟩
    obtain ⟨hgo, hst⟩ := hJ H' rb n
    have rk : ∀ {H5 : Hp}, Same H' H5 → ∀ q ∈ Gs.flatten, H5 q = H' q := fun {H5} s q hq => by obtain ⟨o, ho, go⟩ := rr.tb q hq; rw [ho]; exact s.keep _ _ ho (gd_nt go)
    by_cases hlt : n < xs.length
    · have hx' : xs[n]? = some xs[n] := by simp [hlt]
      obtain ⟨go, yl⟩ := hgo _ hx'
      refine .inr ⟨go, fun H6 => ∃ vs ds Gs, H6 D = some (.lst vs) ∧ vs.length ≤ n + 1 ∧ Same H H6 ∧ RepsO O H6 (fun _ _ => False) ds vs Gs ∧ Gs.flatten.Nodup ∧ (∀ q ∈ Gs.flatten, H q = none ∧ q ≠ D) ∧ At fm' (RD g.fm own H1) (L.set i sAny) (wipe σ [i]) H6 own ∧
        FinN g.fm g.W own σ H (wL O) Q ((compG hh (xs.drop (n + 1))).bind fun l => .ok (ds ++ l)), fun H6 z => ⟨xs.length - (n + 1), by omega, rfl, hlt, z⟩, fun y H3 hy => ?_⟩
      obtain ⟨s3, r3⟩ := yl y H3 hy
      have a3 := a'.ext s3
      have ry : S.rep xs[n] y (RD fm' own H3) := S.mono r3 (Nw.rd a' a'.kept s3)
      have hLw : (L.set i sAny)[i]? = some sAny := by
        have hlt' := (List.getElem?_eq_some_iff.mp hLi).1
        rw [List.getElem?_set_self hlt']
      have a4 : At fm' (RD g.fm own H1) (L.set i (sV false S xs[n])) ((wipe σ [i]).set i (some y)) H3 own := by
        have := a3.setN (s' := sV false S xs[n]) (v := some y) hLw no_any ⟨rfl, y, rfl, ry⟩
        rwa [List.set_set] at this
      rw [List.drop_eq_getElem_cons hlt] at q'
      refine ⟨wipe1, ⟨⟨fm', ok.fmK, ok.tab⟩, xs[n]⟩, _, own, a4, ?_⟩
      have q2 : FinN g.fm g.W own σ H (wL O) Q (((hh xs[n]).nox.bind fun o => (compG hh (xs.drop (n + 1))).bind fun l => .ok (o.toList ++ l)).bind fun l => .ok (ds ++ l)) := q'
      cases hcm : cm xs[n] with
      | ex c => rw [show hh xs[n] = .ex c from by show (cm xs[n]).bind _ = _; rw [hcm]; rfl] at q2; exact q2.elim
      | no => rw [show hh xs[n] = .no from by show (cm xs[n]).bind _ = _; rw [hcm]; rfl] at q2; exact q2.elim
      | ok c =>
        intro H4 s4
        cases c with
        | false =>
          rw [show hh xs[n] = .ok none from by show (cm xs[n]).bind _ = _; rw [hcm]; rfl] at q2
          refine (if_neg (by decide)).mpr ?_
          have a5 : At fm' (RD g.fm own H1) (L.set i sAny) (wipe σ [i]) H4 own := a3.ext s4
          refine ⟨vs, ds, Gs, s4.keep _ _ (s3.keep _ _ hDv rfl) rfl, Nat.le_succ_of_le hvl, (sH.trans s3).trans s4, rr.st (fun _ _ h => h) (rk (s3.trans s4)), gnd, gn, a5, ?_⟩
          have e : (((M.ok (none : Option β)).nox.bind fun o => (compG hh (xs.drop (n + 1))).bind fun l => M.ok (o.toList ++ l)).bind fun l => M.ok (ds ++ l)) = (compG hh (xs.drop (n + 1))).bind fun l => M.ok (ds ++ l) := by
            cases compG hh (xs.drop (n + 1)) <;> rfl
          rw [e] at q2; exact q2
        | true =>
          refine (if_pos rfl).mpr ⟨⟨⟨fm', ok.fmK, ok.tab⟩, xs[n]⟩, _, own, a4.ext s4, ?_⟩
          cases hf : f xs[n] with
          | ex c => rw [show hh xs[n] = .ex c from by show (cm xs[n]).bind _ = _; rw [hcm]; show (f xs[n]).bind _ = _; rw [hf]; rfl] at q2; exact q2.elim
          | no => rw [show hh xs[n] = .no from by show (cm xs[n]).bind _ = _; rw [hcm]; show (f xs[n]).bind _ = _; rw [hf]; rfl] at q2; exact q2.elim
          | ok w =>
            rw [show hh xs[n] = .ok (some w) from by show (cm xs[n]).bind _ = _; rw [hcm]; show (f xs[n]).bind _ = _; rw [hf]; rfl] at q2
            intro v F5 H5 s5 nd5 n5 r5
            have s35 : Same H' H5 := (s3.trans s4).trans s5
            have sHH5 : Same H H5 := sH.trans s35
            have r6 := hO (R' := fun _ _ => False) r5
            have tb5 := O.tb r5
            have n5H' : ∀ q ∈ F5, H' q = none := fun q hq => (s3.trans s4).free (n5 q hq)
            have n5D : ∀ q ∈ F5, q ≠ D := fun q hq e => by have := n5H' q hq; rw [e, hDv] at this; cases this
            have dj : ∀ q ∈ Gs.flatten, q ∉ F5 := fun q h1 h2 => by obtain ⟨o, ho, _⟩ := rr.tb q h1; rw [n5H' q h2] at ho; cases ho
            have gn' : ∀ q ∈ (Gs ++ [F5]).flatten, H q = none ∧ q ≠ D := fun q hq => by
              rw [flat_snoc] at hq
              rcases List.mem_append.mp hq with hq | hq
              · exact gn q hq
              · exact ⟨sH.free (n5H' q hq), n5D q hq⟩
            refine ⟨vs, s35.keep _ _ hDv rfl, by omega, vs ++ [v], ds ++ [w], Gs ++ [F5], upd_same, by rw [List.length_append, List.length_singleton]; omega, sHH5.wr hHD (s35.keep _ _ hDv rfl) (fun _ z => nomatch z) rfl, ?_, ?_, gn', ?_, ?_⟩
            · exact ((rr.st (fun _ _ h => h) (rk s35)).append (.cons r6 .nil)).st (fun _ _ h => h) fun q hq => upd_ne (gn' q hq).2
            · rw [flat_snoc]; exact List.nodup_append.mpr ⟨gnd, nd5, fun a ha b hb e => dj a ha (by rw [e]; exact hb)⟩
            · -- the slots at the changed heap
              have a5 : At fm' (RD g.fm own H1) (L.set i sAny) (wipe σ [i]) H5 own := a'.ext s35
              obtain ⟨h1, h2, ⟨Fs, h3, e⟩, h4, h5, h6⟩ := a5
              have ne : ∀ {a : Addr}, ¬ fm'.z a → a ≠ D := fun h e => h (.inl e)
              have k0 : ∀ (md : Md) a o, RX fm' own H5 H5 md a o → md = .fx ∨ RX fm' own (upd H5 D (.lst (vs ++ [v]))) (upd H5 D (.lst (vs ++ [v]))) md a o := fun md a o z => by
                cases md with
                | sh =>
                  refine .inr (z.imp (fun ⟨a1, a2, a3⟩ => ⟨?_, a2, a3⟩) id)
                  unfold Rd
                  rw [cl_upd_ne (ne a3)]
                  exact a1
                | f0 => exact .inr ⟨by rw [cl_upd_ne (ne z.2.2.1)]; exact z.1, z.2⟩
                | fx => exact .inl rfl
              have up : ∀ a, H5 a ≠ none → upd H5 D (.lst (vs ++ [v])) a ≠ none := fun a hne => by
                by_cases e : a = D
                · rw [e, upd_same]; exact fun z => by cases z
                · rw [upd_ne e]; exact hne
              refine ⟨h1.wr (at_.same.free hHD) (s35.keep _ _ hDv rfl) (fun _ z => nomatch z) rfl, fun a z => up a (h2 a z), ⟨Fs, h3.st (fun b a o z => ?_) fun y hy => ?_, e⟩, h4, fun y hy => ⟨up y (h5 y hy).1, (h5 y hy).2⟩, fun a o z => (k0 .sh a o (h6 a o z)).resolve_left fun e => nomatch e⟩
              · cases b with
                | false => exact (k0 .sh a o z).resolve_left fun e => nomatch e
                | true => exact (k0 .f0 a o z).resolve_left fun e => nomatch e
              · exact upd_ne (ne (h5 y (by rw [e]; exact hy)).2.2)
            · have e : (((M.ok (some w)).nox.bind fun o => (compG hh (xs.drop (n + 1))).bind fun l => M.ok (o.toList ++ l)).bind fun l => M.ok (ds ++ l)) = (compG hh (xs.drop (n + 1))).bind fun l => M.ok ((ds ++ [w]) ++ l) := by
                cases compG hh (xs.drop (n + 1)) <;> simp [M.nox, M.bind]
              rw [e] at q2; exact q2
    · have e : n = xs.length := by omega
      subst e
      rw [List.drop_length] at q'
      refine .inl ⟨hst (by simp), ?_⟩
      have q2 : FinN g.fm g.W own σ H (wL O) Q (.ok (ds ++ [])) := q'
      rw [List.append_nil] at q2
      exact q2 (.ref D) (D :: Gs.flatten) H' sH (List.nodup_cons.mpr ⟨fun h => (gn D h).2 rfl, gnd⟩) (fun q hq => by
        rcases List.mem_cons.mp hq with e | hq
        · rw [e]; exact hHD
        · exact (gn q hq).1) ⟨D, vs, Gs, rfl, rfl, hDv, fw_reps hO rr⟩
  refine ⟨PE.imp (pe_lc (own := [(x, i)]) ok.calm (by rw [ok.N]; exact ok.nd) hI (by rw [ok.N]; exact ok.blk hb) (fun s H C cl fp => pg_name (i := i) (by show g.X.N.Nodup; rw [ok.N]; exact ok.nd) (by show g.X.N[i]? = _; rw [ok.N]; exact hN) (loc s H C cl fp).1 (loc s H C cl fp).2)
    (fun s H C cl fp => PTs.ex (t := fun (z : {fm' : Fm // fm'.K = p.K ∧ ∀ P, p.T = some P → LamX.TabS fm'.H0 P lamQ} × α) => tT z.1.1 (fun _ _ _ => False) (L.set i (sV false S z.2)) (cm z.2)) fun z => hc ⟨g.X.blk s H scope (compEnvC scope cl C g.X.env) fp, z.1.1, fun _ _ _ => False, []⟩ (blk_ok ok z.1.2 hv hg) z.2) (fun s H C cl fp => PE.ex (t := fun (z : {fm' : Fm // fm'.K = p.K ∧ ∀ P, p.T = some P → LamX.TabS fm'.H0 P lamQ} × α) => tN z.1.1 (fun _ _ _ => False) (L.set i (sV false S z.2)) O (f z.2)) fun z => he ⟨g.X.blk s H scope (compEnvC scope cl C g.X.env) fp, z.1.1, fun _ _ _ => False, []⟩ (blk_ok ok z.1.2 hv hg) z.2) hs) BODY, fun {y i2 py spos} hy hyl hsw => ?_⟩
  exact PS.imp (ps_setLc (own := [(x, i)]) ok.calm (by rw [ok.N]; exact ok.nd) (by rw [ok.N]; exact hy) hyl hsw hI (by rw [ok.N]; exact ok.blk hb) (fun s H C cl fp => pg_name (i := i) (by show g.X.N.Nodup; rw [ok.N]; exact ok.nd) (by show g.X.N[i]? = _; rw [ok.N]; exact hN) (loc s H C cl fp).1 (loc s H C cl fp).2)
    (fun s H C cl fp => PTs.ex (t := fun (z : {fm' : Fm // fm'.K = p.K ∧ ∀ P, p.T = some P → LamX.TabS fm'.H0 P lamQ} × α) => tT z.1.1 (fun _ _ _ => False) (L.set i (sV false S z.2)) (cm z.2)) fun z => hc ⟨g.X.blk s H scope (compEnvC scope cl C g.X.env) fp, z.1.1, fun _ _ _ => False, []⟩ (blk_ok ok z.1.2 hv hg) z.2) (fun s H C cl fp => PE.ex (t := fun (z : {fm' : Fm // fm'.K = p.K ∧ ∀ P, p.T = some P → LamX.TabS fm'.H0 P lamQ} × α) => tN z.1.1 (fun _ _ _ => False) (L.set i (sV false S z.2)) O (f z.2)) fun z => he ⟨g.X.blk s H scope (compEnvC scope cl C g.X.env) fp, z.1.1, fun _ _ _ => False, []⟩ (blk_ok ok z.1.2 hv hg) z.2) hs) fun E σ H q => BODY σ H _ q
end
end Hd
namespace Hd
open PySem PySem.Spec L2
inductive It where
  | path (ns : List Int)
  | times (n : Int) (l : List It)
def itP : V := .str (Str.ofString "path")
def itT : V := .str (Str.ofString "times")
inductive ItR (R : RdR) : It → V → Prop where
  | path {ns : List Int} {a b : Addr} : R a (.tup [itP, .ref b]) → R b (.lst (ns.map V.int)) → ItR R (.path ns) (.ref a)
  | times {n : Int} {l : List It} {a b : Addr} {vs : List V} : R a (.tup [itT, .int n, .ref b]) → R b (.lst vs) → l.length = vs.length → (∀ (i : Nat) x v, l[i]? = some x → vs[i]? = some v → ItR R x v) → ItR R (.times n l) (.ref a)
theorem ItR.mono {R R' : RdR} (s : ∀ a o, R a o → R' a o) {x : It} {v : V} (h : ItR R x v) : ItR R' x v := by
  induction h with
  | path h1 h2 => exact .path (s _ _ h1) (s _ _ h2)
  | times h1 h2 h3 _ ih => exact .times (s _ _ h1) (s _ _ h2) h3 ih
section
end
end Hd
namespace Hd
open PySem PySem.Spec L2
section
end
end Hd
namespace Hd
open PySem PySem.Spec L2
section
end
end Hd
namespace Hd
open PySem PySem.Spec L2
section
end
end Hd
namespace Hd
open PySem PySem.Spec L2
section
end
end Hd
namespace Hd
open PySem PySem.Spec L2
section
variable {p : Pr} {sc : Scope} {NN VV GG : List Str} {k : Nat} {g : G} {L : List Slot} {e : Expr} {α β γ δ ω ρ τ : Type} {S : Ty α} {T : Ty β} {O : WTy α} {pos pos' : Pos} {i j : Nat} {x : Str} {d : α} {st : List Stmt} {D : δ → Out}
theorem At.conv {fm : Fm} {kp : RdR} {σ : L2.St} {H : Hp} {own : List Addr} {s s' : Slot} (hL : L[i]? = some s) (c : ∀ v H R F, s.ok v H R F → s'.ok v H R F) (h : At fm kp L σ H own) : At fm kp (L.set i s') σ H own := by
  obtain ⟨h1, h2, ⟨Fs, h3, e⟩, h4, h5, h6⟩ := h
  refine ⟨h1, h2, ⟨Fs, ?_, e⟩, h4, h5, h6⟩
  have hpw := h3.pw
  refine Pw.all ⟨by rw [List.length_set]; exact hpw.l1, by rw [List.length_set]; exact hpw.l2, fun j _ s2 v F e1 e2 e3 => ?_⟩
  by_cases hij : i = j
  · subst hij
    rw [List.getElem?_set_self (List.getElem?_eq_some_iff.mp hL).1] at e1
    cases e1
    exact c _ _ _ _ (hpw.ok i (fun z => z) _ v F hL e2 e3)
  · rw [List.getElem?_set_ne hij] at e1
    exact hpw.ok j (fun z => z) s2 v F e1 e2 e3
theorem evb_conv {m : M δ} {s s' : Slot} (hL : L[i]? = some s) (c : ∀ v H R F, s.ok v H R F → s'.ok v H R F) (hr : EvB g (L.set i s') st D m) : EvB g L st D m := PSs.imp hr fun E σ H ⟨kp, own, at_, q⟩ => ⟨kp, own, at_.conv hL c, q⟩
theorem repsV_to {H : Hp} {R : RdR} {ds : List α} {vs : List V} (h : Reps S R ds vs) : ∃ Fs, RepsO (wV S) H R ds vs Fs ∧ Fs.flatten = [] := by
  induction h with
  | nil => exact ⟨[], .nil, rfl⟩
  | cons r _ ih =>
    obtain ⟨Fs, h1, h2⟩ := ih
    exact ⟨[] :: Fs, .cons ⟨rfl, r⟩ h1, by rw [List.flatten_cons, h2]; rfl⟩
theorem own_to {ds : List α} (v : Option V) (H : Hp) (R : Bool → RdR) (F : List Addr) (h : (sOwn false S ds).ok v H R F) : (sO (wL (wV S)) ds).ok v H R F := by
  obtain ⟨q, xs, e1, e2, h1, h2⟩ := h
  obtain ⟨Fs, h3, h4⟩ := repsV_to (H := H) h2
  exact ⟨.ref q, e1, trivial, q, xs, Fs, rfl, by rw [h4, e2], h1, h3⟩
/-- a list of one's own, as a tree; and back -/
theorem evb_asO {m : M δ} {ds : List α} (hL : L[i]? = some (sOwn false S ds)) (hr : EvB g (L.set i (sO (wL (wV S)) ds)) st D m) : EvB g L st D m := evb_conv hL own_to hr
/-- return e -/
theorem evb_retXo {fo : ω → List Slot} {w : ω} {m : M α} {mk : α → δ} (wk : Wkx g L (NoEx m)) (hD : ∀ d, D (mk d) = xOut fo O (d, w)) (hw : Wk L (fo w)) (he : EvN g L e O m) : EvB g L (.Return (some e) pos :: st) D (m.bind fun d => .ok (mk d)) := by
  refine PSs.imp (PSs.head (ps_ret he)) fun E σ H ⟨kp, own, at_, q⟩ => ?_
  refine ⟨kp, own, at_, ?_⟩
  cases m with
  | ok d =>
    have q : OutOk g.fm kp E (D (mk d)) := q
    rw [hD] at q
    obtain ⟨own2, a2, sub⟩ := at_.weak hw
    obtain ⟨b1, b2, b3, b4, b5, _⟩ := a2
    refine fun v F H' s nd n r => q v σ H H' own2 F ⟨b1, b2, b3, b4, b5, fun _ _ z => z.elim⟩ s nd n (O.st r (RD.drop fun y hy => ?_) fun _ _ => rfl)
    rcases List.mem_append.mp hy with z | z
    · exact List.mem_append_left _ z
    · exact List.mem_append_right _ (sub y z)
  | ex c => exact BOk.exx' wk (fun n => n c rfl) at_ q
  | no => exact q
end
end Hd
namespace Hd
open PySem PySem.Spec L2
section
variable {p : Pr} {sc : Scope} {NN VV GG : List Str} {k : Nat} {g : G} {L : List Slot} {e : Expr} {α β γ δ : Type} {O3 : WTy γ} {pos pos' np : Pos} {i j : Nat} {x : Str} {px : V → Prop} {ds : List γ} {st : List Stmt} {D : δ → Out}
theorem evb_nAppend {m : M γ} {h : List γ → M δ} {ap cp : Pos} (ok : OkS p sc NN VV GG k g) (hN : NN[i]? = some x) (hV : VV[j]? = some x) (hL : L[i]? = some (sP px (wL O3) ds)) (wk : Wk L g.LX) (he : EvN g L e O3 m) (hr : ∀ d', EvB g (L.set i (sP px (wL O3) d')) st D (h d'))
    (hs : swapsWith (.Call (.Attribute (.Name x np) "append" ap) [e] [] cp) none pos.line g.X.env = pure false := by rfl)
    (hbase : attributeBase (.Name x np) "append" g.X.env (eval (.Name x np) g.X.env) = eval (.Name x np) g.X.env := by rfl)
    (hfew : ((backTo cp (starEach [e] g.X.env)).all (fun x => !x.1) && (backToKw cp (keywordEach [] g.X.env)).all (fun x => x.1.isSome)
      && decide (([e] : List Expr).length + ([] : List Keyword).length + (if ([] : List Keyword).isEmpty then 0 else 1) < 30)) = true := by rfl)
    (hline : (ap.endLine == cp.line) = true := by rfl) (hst : starEach [e] g.X.env = (false, eval e g.X.env) :: starEach [] g.X.env := by rfl) (hpl : (backTo cp (starEach [] g.X.env)).any (·.1) = false := by rfl) :
    EvB g L (.Expr (.Call (.Attribute (.Name x np) "append" ap) [e] [] cp) pos :: st) D (m.bind fun y => (pushM ds y).bind h) :=
  evb_pAppend (mp := .ok (ds, fun y => y)) ok (.inl wk) (evp_name ok.toOk hN hV hL) he hr hs hbase hfew hline hst hpl
end
end Hd
namespace Hd
open PySem PySem.Spec L2
section
end
end Hd
namespace Hd
open PySem PySem.Spec L2
theorem WAt.set {δ : Type} {A : WAr δ} {kk : Nat} {α : Type} {O : WTy α} {pr : δ → α} {stt : δ → α → δ} (hA : WAt A kk O pr stt) : ∀ {d : δ} {vs : List V} {H : Hp} {R : RdR} {G F1 : List Addr} {x : α} {w : V}, A.rep d vs H R G → G.Nodup → O.rep x w H R F1 → F1.Nodup → (∀ q ∈ F1, q ∉ G) → ∃ G', A.rep (stt d x) (vs.set kk w) H R G' ∧ G'.Nodup ∧ (∀ q ∈ G', q ∈ F1 ∨ q ∈ G) ∧ kk < vs.length := by
  induction hA with
  | z =>
    rintro d vs H R G F1 x w ⟨v, r, Fa, Fb, e1, e2, h1, h2⟩ nd rx nd1 dis
    subst e1; subst e2
    have nd' := List.nodup_append.mp nd
    refine ⟨F1 ++ Fb, ⟨w, r, F1, Fb, rfl, rfl, rx, h2⟩, List.nodup_append.mpr ⟨nd1, nd'.2.1, fun q hq z hz e => dis q hq (by rw [e]; exact List.mem_append_right _ hz)⟩, fun q hq => ?_, by simp⟩
    rcases List.mem_append.mp hq with h | h
    · exact .inl h
    · exact .inr (List.mem_append_right _ h)
  | s _ ih =>
    rintro d vs H R G F1 x w ⟨v, r, Fa, Fb, e1, e2, h1, h2⟩ nd rx nd1 dis
    subst e1; subst e2
    have nd' := List.nodup_append.mp nd
    obtain ⟨G', g1, g2, g3, g4⟩ := ih h2 nd'.2.1 rx nd1 fun q hq hz => dis q hq (List.mem_append_right _ hz)
    refine ⟨Fa ++ G', ⟨v, _, Fa, G', rfl, rfl, h1, g1⟩, List.nodup_append.mpr ⟨nd'.1, g2, fun q hq z hz e => ?_⟩, fun q hq => ?_, by simp; omega⟩
    · subst e
      rcases g3 q hz with h | h
      · exact dis q h (List.mem_append_left _ hq)
      · exact nd'.2.2 q hq q h rfl
    · rcases List.mem_append.mp hq with h | h
      · exact .inr (List.mem_append_left _ h)
      · exact (g3 q h).imp id (List.mem_append_right _)
section
end
end Hd
namespace Hd
open PySem PySem.Spec PyProof.Rows L2
section
variable {p : Pr} {sc : Scope} {NN VV GG VV' GG' : List Str} {k : Nat} {g : G} {L L' : List Slot} {a b c e e' ix : Expr} {es : List Expr} {md md' : Md} {α β γ δ ρ : Type} {S : Ty α} {T : Ty β} {O : WTy α} {O2 : WTy β} {O3 : WTy γ} {A : WAr ρ} {pos pp pos' : Pos} {i j i2 : Nat} {x y f : Str} {px : V → Prop} {d : α} {st : List Stmt} {D : δ → Out} {py spos cpos tp : Pos} {elt it : Expr} {ifs : List Expr} {scope : Scope} {s₀ : Slot}
/-- y = [elt for x in it if c], items of one's own -/
theorem evn_lc {m : M (List α)} {cm : α → M Bool} {f : α → M β} (ok : Ok p sc NN VV GG k g) (hI : EvI g L (.Name x tp) it S m) (hN : NN[i]? = some x) (hLi : L[i]? = some s₀) (hs₀ : NoOwn s₀) (hb : blkC NN sc scope [(x, i)] = true)
    (hv : VV'.all (seenB scope) = true) (hg : GG'.all (glB scope) = true) (hx : locB scope x = true)
    (hc : ∀ g', Ok p scope NN VV' GG' k g' → ∀ d, PTs g'.X ifs (tT g'.fm g'.W (L.set i (sV false S d)) (cm d)))
    (hO : FlatW O2) (he : ∀ g', Ok p scope NN VV' GG' k g' → ∀ d, EvN g' (L.set i (sV false S d)) elt O2 (f d)) (hs : ∀ x, foldedSetIterable it g.X.env x = pure x := by intro _; rfl) :
    EvN g L (.ListComp elt [⟨.Name x tp, it, ifs, 0⟩] scope pos) (wL O2) (m.bind fun xs => compM (fun d => (cm d).bind fun c => if c = true then (f d).bind fun y => .ok (some y) else .ok none) xs) := (evn_lc2 ok hI hN hLi hs₀ hb hv hg hx hc hO he hs).1
/-- the statements over places, the rest behind a bind -/
theorem evb_qAppend {mp : M (List γ × (List γ → α))} {m : M γ} {h : α → M δ} {ap cp : Pos} (ok : OkS p sc NN VV GG k g) (wk : Wk L g.LX) (hp : EvP g L a i px O d (wL O3) mp) (he : EvN g L e O3 m) (hr : ∀ d', EvB g (L.set i (sP px O d')) st D (h d'))
    (hs : swapsWith (.Call (.Attribute a "append" ap) [e] [] cp) none pos.line g.X.env = pure false := by rfl)
    (hbase : attributeBase a "append" g.X.env (eval a g.X.env) = eval a g.X.env := by rfl)
    (hfew : ((backTo cp (starEach [e] g.X.env)).all (fun x => !x.1) && (backToKw cp (keywordEach [] g.X.env)).all (fun x => x.1.isSome)
      && decide (([e] : List Expr).length + ([] : List Keyword).length + (if ([] : List Keyword).isEmpty then 0 else 1) < 30)) = true := by rfl)
    (hline : (ap.endLine == cp.line) = true := by rfl) (hst : starEach [e] g.X.env = (false, eval e g.X.env) :: starEach [] g.X.env := by rfl) (hpl : (backTo cp (starEach [] g.X.env)).any (·.1) = false := by rfl) :
    EvB g L (.Expr (.Call (.Attribute a "append" ap) [e] [] cp) pos :: st) D (mp.bind fun q => m.bind fun x => (pushM q.1 x).bind fun l => M.bind (.ok (q.2 l)) h) :=
  evb_pAppend ok (.inl wk) hp he hr hs hbase hfew hline hst hpl
end
end Hd
namespace Hd
open PySem PySem.Spec PyProof.Rows L2
section
end
end Hd
namespace Hd
open PySem PySem.Spec PyProof.Rows L2
section
variable {p : Pr} {sc : Scope} {NN VV GG : List Str} {k : Nat} {g : G} {L : List Slot} {a b e tg : Expr} {md md' : Md} {pos pp : Pos} {j : Nat} {α β γ δ : Type} {S : Ty α} {T : Ty β} {U : Ty γ} {A : Ar δ} {K : PySem.W.Frag} {O : WTy α}
/-- an own list of nothing -/
theorem evn_lnil : EvN g L (.List [] pos) (wL O) (.ok []) := PE.imp (evl_nil (S := tNone) (md := .sh)) fun σ H Q ⟨kp, own, at_, q⟩ => by
  refine tL_iff.mpr ⟨kp, own, at_, ?_⟩
  intro p vs H' s n h' r
  have e : vs = [] := by cases r; rfl
  subst e
  exact q (.ref p) [p] H' s (by simp) (fun q hq => by rw [List.mem_singleton.mp hq]; exact n) ⟨p, [], [], rfl, rfl, h', .nil⟩
end
end Hd
namespace Hd
open PySem PySem.Spec L2
section
end
section
end
end Hd
namespace Hd
open PySem PySem.Spec L2
/-- the addresses of the slots is -/
def Mv (Fs : List (List Addr)) (is : List Nat) (a : Addr) : Prop := ∃ i ∈ is, ∃ F, Fs[i]? = some F ∧ a ∈ F
def FinMR {β : Type} (fm : Fm) (W : Wx) (own : List Addr) (Fs : List (List Addr)) (is : List Nat) (σ : L2.St) (H : Hp) (O : WTy β) (Q : VK) : M β → Prop
  | .ok d => ∀ v F H', Same H H' → F.Nodup → (∀ p ∈ F, H p = none ∨ Mv Fs is p) → O.rep d v H' (RD fm (F ++ own) H') F → Q v H'
  | .ex c => ∀ H', Same H H' → W c σ H'
  | .no => False
/-- an expression that makes a thing of one's own, of which the slots is are parts -/
def EvR (g : G) (L : List Slot) (is : List Nat) (e : Expr) {β : Type} (O : WTy β) (m : M β) : Prop := PE g.X e (fun σ H Q => ∃ kp own Fs, At g.fm kp L σ H own ∧ AllS H (RB g.fm own H) L σ Fs ∧ own = Fs.flatten ∧ FinMR g.fm g.W own Fs is σ H O Q m)
def FinMA {δ : Type} (fm : Fm) (W : Wx) (own : List Addr) (Fs : List (List Addr)) (is : List Nat) (σ : L2.St) (H : Hp) (A : WAr δ) (Q : List V → Hp → Prop) : M δ → Prop
  | .ok d => ∀ vs F H', Same H H' → F.Nodup → (∀ p ∈ F, H p = none ∨ Mv Fs is p) → A.rep d vs H' (RD fm (F ++ own) H') F → Q vs H'
  | .ex c => ∀ H', Same H H' → W c σ H'
  | .no => False
def EvRA (g : G) (L : List Slot) (is : List Nat) (es : List Expr) {δ : Type} (A : WAr δ) (m : M δ) : Prop := PA g.X es (fun σ H Q => ∃ kp own Fs, At g.fm kp L σ H own ∧ AllS H (RB g.fm own H) L σ Fs ∧ own = Fs.flatten ∧ FinMA g.fm g.W own Fs is σ H A Q m)
theorem RD.more {fm : Fm} {own own' : List Addr} {H H' : Hp} (s : Same H H') (k : ∀ p ∈ own', p ∈ own ∨ H p = none) : ∀ a o, RD fm own H a o → RD fm own' H' a o := fun a o r => by
  rcases r with ⟨r1, r2, r3⟩ | r
  · refine .inl ⟨Rd.same s r1, fun h => ?_, r3⟩
    rcases k a h with h | h
    · exact r2 h
    · rcases r1 with r1 | ⟨_, r1⟩ <;> rw [cl_none h] at r1 <;> cases r1
  · exact .inr r
theorem flat_ij {Fs : List (List Addr)} : ∀ {i j : Nat} {F G : List Addr} {x : Addr}, Fs.flatten.Nodup → Fs[i]? = some F → Fs[j]? = some G → x ∈ F → x ∈ G → i = j := by
  induction Fs with
  | nil => intro i j F G x _ e; simp at e
  | cons K Fs ih =>
    intro i j F G x nd e1 e2 h1 h2
    rw [List.flatten_cons, List.nodup_append] at nd
    cases i with
    | zero =>
      cases j with
      | zero => rfl
      | succ j =>
        simp at e1 e2
        subst e1
        exact absurd rfl (nd.2.2 x h1 x (flat_mem e2 x h2))
    | succ i =>
      cases j with
      | zero =>
        simp at e1 e2
        subst e2
        exact absurd rfl (nd.2.2 x h2 x (flat_mem e1 x h1))
      | succ j => exact congrArg (· + 1) (ih nd.2.1 (by simpa using e1) (by simpa using e2) h1 h2)
section
variable {p : Pr} {sc : Scope} {NN VV GG : List Str} {k : Nat} {g : G} {L L' : List Slot} {a b c e e' ix : Expr} {es : List Expr} {md md' : Md} {α β γ δ ρ : Type} {S : Ty α} {T : Ty β} {O : WTy α} {O2 : WTy β} {O3 : WTy γ} {A : WAr δ} {pos pp pos' : Pos} {i j : Nat} {x : Str} {px : V → Prop} {d : α} {is is2 : List Nat}
theorem evr_n {m : M α} (h : EvN g L e O m) : EvR g L [] e O m := PE.imp h fun σ H Q ⟨kp, own, Fs, at_, hsl, heo, q⟩ => by
  refine ⟨kp, own, at_, ?_⟩
  cases m with
  | ok d => exact fun v F H' s nd n r => q v F H' s nd (fun p hp => .inl (n p hp)) r
  | ex c => exact q
  | no => exact q
/-- a name, the slot of which is moved -/
theorem evr_mv (ok : Ok p sc NN VV GG k g) (hN : NN[i]? = some x) (hV : VV[j]? = some x) (hL : L[i]? = some (sP px O d)) : EvR g L [i] (.Name x pos) O (.ok d) := by
  obtain ⟨hv, ho⟩ := ok.vis hV
  obtain ⟨h1, h2, _⟩ := okName_d ho
  refine PE.imp (pe_var (i := i) (by rw [ok.N]; exact hN) hv h1 h2) fun σ H Q ⟨kp, own, Fs, at_, hsl, heo, q⟩ => ?_
  obtain ⟨v0, F, e1, e2, v, rfl, hx, r⟩ := hsl.get hL
  have nd := at_.nd
  rw [heo] at nd
  have sub : ∀ q ∈ F, q ∈ own := fun q hq => by rw [heo]; exact flat_mem e2 q hq
  exact ⟨v, e1, q v F H (Same.refl H) (flat_nd nd e2) (fun p hp => .inr ⟨i, by simp, F, e2, hp⟩) (O.st r (RD.drop fun q hq => (List.mem_append.mp hq).elim (sub q) id) fun _ _ => rfl)⟩
theorem evra_nil : EvRA g L [] [] waNil (.ok ()) := PA.imp pa_nil fun σ H Q ⟨kp, own, Fs, at_, hsl, heo, q⟩ => q [] [] H (Same.refl H) List.nodup_nil (fun _ z => nomatch z) ⟨rfl, rfl⟩
theorem evra_cons {m1 : M α} {m2 : M δ} (ok : Ok p sc NN VV GG k g) (ha : EvR g L is a O m1) (hb : ∀ g', Ok p sc NN VV GG k g' → EvRA g' L is2 es A m2) (hd : ∀ i ∈ is, i ∉ is2)
    (hs : starEach (a :: es) g.X.env = (false, eval a g.X.env) :: starEach es g.X.env := by rfl) : EvRA g L (is ++ is2) (a :: es) (waCons O A) (m1.bind fun d => m2.bind fun e => .ok (d, e)) := by
  refine ⟨fun po pins s σ H Q I ⟨kp, own, Fs, at_, hsl, heo, q⟩ => ?_⟩
  refine (pa_cons (t := fun σ' H1 Q' => ∃ (g' : G) (hg' : g'.X = g.X) (_ : Ok p sc NN VV GG k g') (kp' : RdR) (own' : List Addr) (Fs' : List (List Addr)), At g'.fm kp' L σ' H1 own' ∧ AllS H1 (RB g'.fm own' H1) L σ' Fs' ∧ own' = Fs'.flatten ∧ FinMA g'.fm g'.W own' Fs' is2 σ' H1 A Q' m2) ha ?_ hs).run po pins s σ H Q I ?_
  · refine ⟨fun po pins s σ H Q I ⟨g', hg', ok', z⟩ => ?_⟩
    have h := (hb g' ok').run
    rw [hg'] at h
    exact h po pins s σ H Q I z
  · refine ⟨kp, own, Fs, at_, hsl, heo, ?_⟩
    have nd := at_.nd
    rw [heo] at nd
    cases m1 with
    | ok d =>
      intro v F1 H1 s1 nd1 n1 r1
      have F1n : ∀ y ∈ F1, H1 y ≠ none := fun y hy => by
        obtain ⟨o, ho, _⟩ := O.tb r1 y hy
        rw [ho]; exact fun z => nomatch z
      -- the fresh of the first are hidden from the rest
      let Fr : Addr → Prop := fun y => y ∈ F1 ∧ H y = none
      let fm' : Fm := ⟨g.fm.K, g.fm.H0, fun y => Fr y ∨ g.fm.z y⟩
      let g' : G := ⟨g.X, fm', g.W, g.LX⟩
      have ok' : Ok p sc NN VV GG k g' := { prog := ok.prog, w := ok.w, K := ok.K, mg := ok.mg, base := ok.base, N := ok.N, fmK := ok.fmK, tab := ok.tab, room := ok.room, nd := ok.nd, vis := ok.vis, gl := ok.gl, tk := ok.tk, calm := ok.calm, blk := ok.blk }
      have rdo : ∀ a o, RD g.fm own H a o → RD fm' own H1 a o := fun a o r => by
        rcases r with ⟨r1, r2, r3⟩ | r
        · refine .inl ⟨Rd.same s1 r1, r2, fun z => z.elim (fun z => ?_) r3⟩
          rcases r1 with r1 | ⟨_, r1⟩ <;> rw [cl_none z.2] at r1 <;> cases r1
        · exact .inr r
      have hk : ∀ y ∈ Fs.flatten, H1 y = H y := hsl.hk (fm := g.fm) (own := own) s1
      have sl1 : AllS H1 (RB fm' own H1) L σ Fs := hsl.st (fun b a o z => by
        cases b with
        | false => exact rdo a o z
        | true =>
          obtain ⟨z1, z2, z3, z4⟩ := z
          exact ⟨s1.cl _ _ z1, z2, fun y => y.elim (fun y => by rw [cl_none y.2] at z1; cases z1) z3, z4⟩) hk
      have at1 : At fm' kp L σ H1 own := ⟨at_.same.trans s1, fun y hy => hy.elim (fun hy => F1n y hy.1) fun hy ea => at_.zin y hy (s1.free ea), ⟨Fs, sl1, heo⟩, at_.nd, fun y hy => ⟨fun z => (at_.new y hy).1 (s1.free z), (at_.new y hy).2.1, fun z => z.elim (fun z => (at_.new y hy).1 z.2) (at_.new y hy).2.2⟩, fun a o z => rdo a o (at_.kept a o z)⟩
      refine ⟨g', rfl, ok', kp, own, Fs, at1, sl1, heo, ?_⟩
      cases m2 with
      | ok e =>
        intro vs F2 H2 s2 nd2 n2 r2
        have dj : ∀ y ∈ F1, y ∉ F2 := fun y h1 h2 => by
          rcases n2 y h2 with h | ⟨i2, hi2, G2, eG2, hG2⟩
          · exact F1n y h1 h
          · rcases n1 y h1 with h | ⟨i1, hi1, G1, eG1, hG1⟩
            · exact (at_.new y (by rw [heo]; exact flat_mem eG2 y hG2)).1 h
            · have := flat_ij nd eG1 eG2 hG1 hG2
              subst this
              exact hd i1 hi1 hi2
        refine q (v :: vs) (F1 ++ F2) H2 (s1.trans s2) (List.nodup_append.mpr ⟨nd1, nd2, fun y h1 z h2 e => dj y h1 (by rw [e]; exact h2)⟩) (fun y hy => ?_) ⟨v, vs, F1, F2, rfl, rfl, O.st r1 (RD.more s2 fun y hy => ?_) fun y hy => ?_, A.st r2 (fun a o z => ?_) fun _ _ => rfl⟩
        · rcases List.mem_append.mp hy with hy | hy
          · exact (n1 y hy).imp id fun ⟨i1, h1, z⟩ => ⟨i1, List.mem_append_left _ h1, z⟩
          · exact (n2 y hy).imp s1.free fun ⟨i1, h1, z⟩ => ⟨i1, List.mem_append_right _ h1, z⟩
        · rcases List.mem_append.mp hy with hy | hy
          · rcases List.mem_append.mp hy with hy | hy
            · exact .inl (List.mem_append_left _ hy)
            · rcases n2 y hy with h | ⟨i2, hi2, G2, eG2, hG2⟩
              · exact .inr h
              · exact .inl (List.mem_append_right _ (by rw [heo]; exact flat_mem eG2 y hG2))
          · exact .inl (List.mem_append_right _ hy)
        · obtain ⟨o, ho, go⟩ := O.tb r1 y hy
          rw [ho]; exact s2.keep _ _ ho (gd_nt go)
        · rcases z with ⟨z1, z2, z3⟩ | z
          · refine .inl ⟨z1, fun hq => ?_, fun y => z3 (.inr y)⟩
            rcases List.mem_append.mp hq with hq | hq
            · rcases List.mem_append.mp hq with hq | hq
              · rcases n1 a hq with h | ⟨i1, hi1, G1, eG1, hG1⟩
                · exact z3 (.inl ⟨hq, h⟩)
                · exact z2 (List.mem_append_right _ (by rw [heo]; exact flat_mem eG1 a hG1))
              · exact z2 (List.mem_append_left _ hq)
            · exact z2 (List.mem_append_right _ hq)
          · exact .inr z
      | ex c => exact fun H' s => q H' (s1.trans s)
      | no => exact q
    | ex c => exact q
    | no => exact q
theorem evr_tup {m : M δ} {x1} (hl : ∀ d vs H R F, A.rep d vs H R F → vs.length ≤ 1000) (ha : EvRA g L is es A m) : EvR g L is (.Tuple es x1 pos) (wTup A) m := by
  refine PE.imp (pe_tup ha) fun σ H Q ⟨kp, own, Fs, at_, hsl, heo, q⟩ => ⟨kp, own, Fs, at_, hsl, heo, ?_⟩
  cases m with
  | ok d =>
    refine fun vs F H1 s1 nd n r1 => ⟨Nat.le_trans (hl _ _ _ _ _ r1) (by decide), fun p hp => q _ (p :: F) _ (s1.trans (newSame hp)) (List.nodup_cons.mpr ⟨fun h => ?_, nd⟩) (fun y hy => ?_) ⟨p, vs, F, rfl, rfl, upd_same, A.st r1 (RD.more (newSame hp) fun y hy => ?_) fun y hy => ?_⟩⟩
    · obtain ⟨o, ho, _⟩ := A.tb r1 p h
      rw [hp] at ho; cases ho
    · rcases List.mem_cons.mp hy with e | hy
      · rw [e]; exact .inl (s1.free hp)
      · exact n y hy
    · rcases List.mem_cons.mp hy with e | hy
      · rw [e]; exact .inr hp
      · exact .inl hy
    · obtain ⟨o, ho, _⟩ := A.tb r1 y hy
      exact upd_ne (ne_of_none ho hp)
  | ex c => exact q
  | no => exact q
theorem lenW0 {d : Unit} {vs : List V} {H : Hp} {R : RdR} {F : List Addr} (h : waNil.rep d vs H R F) : vs.length = 0 := by rw [h.1]; rfl
theorem lenWS {n : Nat} (h : ∀ d vs H R F, A.rep d vs H R F → vs.length = n) (d : α × δ) (vs : List V) (H : Hp) (R : RdR) (F : List Addr) (q : (waCons O A).rep d vs H R F) : vs.length = n + 1 := by
  obtain ⟨v, r, _, _, e, _, _, h2⟩ := q
  rw [e, List.length_cons, h _ _ _ _ _ h2]
theorem lenWl {n : Nat} (hn : n ≤ 1000) (h : ∀ d vs H R F, A.rep d vs H R F → vs.length = n) (d : δ) (vs : List V) (H : Hp) (R : RdR) (F : List Addr) (q : A.rep d vs H R F) : vs.length ≤ 1000 := by rw [h _ _ _ _ _ q]; exact hn
theorem evn_r {m : M α} (h : EvR g L [] e O m) : EvN g L e O m := PE.imp h fun σ H Q ⟨kp, own, at_, q⟩ => by
  obtain ⟨Fs, hsl, heo⟩ := at_.sl
  refine ⟨kp, own, Fs, at_, hsl, heo, ?_⟩
  cases m with
  | ok d => exact fun v F H' s nd n r => q v F H' s nd (fun p hp => (n p hp).resolve_right fun ⟨_, z, _⟩ => nomatch z) r
  | ex c => exact q
  | no => exact q
variable {st : List Stmt} {D : δ → Out}
/-- return e, of which slots are parts -/
theorem evb_retR {m : M α} {mk : α → δ} (wk : Wkx g L (NoEx m)) (hD : ∀ d, D (mk d) = oOut O d) (he : EvR g L is e O m) : EvB g L (.Return (some e) pos :: st) D (m.bind fun d => .ok (mk d)) := by
  refine PSs.imp (PSs.head (ps_ret he)) fun E σ H ⟨kp, own, at_, q⟩ => ?_
  obtain ⟨Fs, hsl, heo⟩ := at_.sl
  refine ⟨kp, own, Fs, at_, hsl, heo, ?_⟩
  cases m with
  | ok d =>
    have q : OutOk g.fm kp E (D (mk d)) := q
    rw [hD] at q
    refine fun v F H' s nd n r => q v H' F (at_.same.trans s) nd (fun a ha => ?_) (O.st r (RD.drop fun p hp => List.mem_append_left _ hp) fun _ _ => rfl)
    rcases n a ha with h | ⟨i, _, F', e, h⟩
    · exact ⟨at_.same.free h, fun z => at_.zin a z h⟩
    · exact (at_.new a (by rw [heo]; exact flat_mem e a h)).2
  | ex c => exact BOk.exx' wk (fun n => n c rfl) at_ q
  | no => exact q
end
end Hd
namespace Hd
open PySem PySem.Spec L2
section
end
end Hd
namespace Hd
open PySem PySem.Spec L2
/-- a list of one's own, its place and its values known -/
def wLv {α : Type} (a : Addr) (ws : List V) (O : WTy α) : WTy (List α) where
  T := tList O.T
  rep := fun ds v H R F => ∃ Fs, v = .ref a ∧ F = a :: Fs.flatten ∧ H a = some (.lst ws) ∧ RepsO O H R ds ws Fs
  st := by
    rintro d v H H' F R R' ⟨Fs, e1, e2, h, r⟩ s k
    exact ⟨Fs, e1, e2, by rw [k a (by rw [e2]; exact List.mem_cons_self)]; exact h, r.st s fun q hq => k q (by rw [e2]; exact List.mem_cons_of_mem _ hq)⟩
  tb := by
    rintro d v H F R ⟨Fs, e1, e2, h, r⟩ q hq
    rw [e2] at hq
    rcases List.mem_cons.mp hq with e | hq
    · subst e; exact ⟨_, h, rfl⟩
    · exact r.tb q hq
  fz := by
    rintro d v H F R R' ⟨Fs, e1, e2, h, r⟩ s k
    exact ⟨a, ws, e1, k a (by rw [e2]; exact List.mem_cons_self) _ h, r.fz s fun q hq => k q (by rw [e2]; exact List.mem_cons_of_mem _ hq)⟩
inductive WPin {γ : Type} (O3 : WTy γ) : {δ : Type} → WAr δ → Nat → (Addr → List V → WAr δ) → (δ → List γ) → (δ → List γ → δ) → Prop where
  | z {δ : Type} {A : WAr δ} : WPin O3 (waCons (wL O3) A) 0 (fun a ws => waCons (wLv a ws O3) A) (fun d => d.1) (fun d y => (y, d.2))
  | s {β δ : Type} {O' : WTy β} {A : WAr δ} {k : Nat} {A' : Addr → List V → WAr δ} {pr : δ → List γ} {stt : δ → List γ → δ} : WPin O3 A k A' pr stt → WPin O3 (waCons O' A) (k + 1) (fun a ws => waCons O' (A' a ws)) (fun d => pr d.2) (fun d y => (d.1, stt d.2 y))
section
variable {γ δ : Type} {O3 : WTy γ} {A : WAr δ} {kk : Nat} {A' : Addr → List V → WAr δ} {pr : δ → List γ} {stt : δ → List γ → δ} {H : Hp} {R : RdR}
theorem WPin.of (h : WPin O3 A kk A' pr stt) : ∀ {d vs G a ws}, (A' a ws).rep d vs H R G → A.rep d vs H R G := by
  induction h with
  | z =>
    rintro d vs G a ws ⟨v, r, F1, F2, e1, e2, ⟨Fs, e3, e4, h3, h4⟩, h2⟩
    exact ⟨v, r, F1, F2, e1, e2, ⟨a, ws, Fs, e3, e4, h3, h4⟩, h2⟩
  | s _ ih =>
    rintro d vs G a ws ⟨v, r, F1, F2, e1, e2, h1, h2⟩
    exact ⟨v, r, F1, F2, e1, e2, h1, ih h2⟩
end
theorem Plc.itemV {α γ : Type} {O : WTy α} {O3 : WTy γ} {H : Hp} {R : RdR} {v v2 : V} {F F2 : List Addr} {p : Addr} {vs : List V} {ds : List γ} {put : List γ → α} (h : Plc H R O v F (wLv p vs O3) ds put v2 F2) {i : Nat} {x : γ} (e : ds[i]? = some x) :
    ∃ v3 F3, vs[i]? = some v3 ∧ H p = some (.lst vs) ∧ Plc H R O v F O3 x (fun y => put (ds.set i y)) v3 F3 := by
  obtain ⟨Fs, e1, e2, hp, rr⟩ := h.rep
  obtain ⟨v3, F3, e3, e4, r3⟩ := rr.get e
  have nd := h.nd
  rw [e2, List.nodup_cons] at nd
  have s3 : ∀ q ∈ F3, q ∈ Fs.flatten := flat_mem e4
  have s32 : ∀ q ∈ F3, q ∈ F2 := fun q hq => by rw [e2]; exact List.mem_cons_of_mem _ (s3 q hq)
  have pF2 : p ∈ F2 := by rw [e2]; exact List.mem_cons_self
  refine ⟨v3, F3, e3, hp, r3, fun q hq => h.sub q (s32 q hq), flat_nd nd.2 e4, fun {H' R' d3' F3'} s k r' nd' n' => ?_⟩
  have np3 : p ∉ F3 := fun hq => nd.1 (s3 p hq)
  have n3' : ∀ q ∈ F3', q ∈ F3 ∨ q ∉ Fs.flatten := fun q hq => (n' q hq).imp id fun hn hq' => hn (h.sub q (by rw [e2]; exact List.mem_cons_of_mem _ hq'))
  have np : p ∉ (Fs.set i F3').flatten := fun hq => by
    rcases flat_set_mem nd.2 e4 p hq with hq | ⟨hq, _⟩
    · rcases n' p hq with hq | hq
      · exact np3 hq
      · exact hq (h.sub p pF2)
    · exact nd.1 hq
  obtain ⟨F', r4, nd4, n4⟩ := h.up (d2' := ds.set i d3') (F2' := p :: (Fs.set i F3').flatten) s (fun q hq hn => k q hq fun hq' => hn (s32 q hq'))
    ⟨Fs.set i F3', e1, rfl, by rw [k p (h.sub p pF2) np3]; exact hp, rr.chg s nd.2 e4 e3 (fun q hq hn => k q (h.sub q (by rw [e2]; exact List.mem_cons_of_mem _ hq)) hn) r'⟩
    (List.nodup_cons.mpr ⟨np, flat_set_nd nd.2 e4 nd' n3'⟩) (fun q hq => by
      rcases List.mem_cons.mp hq with hq | hq
      · subst hq; exact .inl pF2
      · rcases flat_set_mem nd.2 e4 q hq with hq | ⟨hq, _⟩
        · exact (n' q hq).imp (s32 q) id
        · exact .inl (by rw [e2]; exact List.mem_cons_of_mem _ hq))
  refine ⟨F', r4, nd4, fun q hq => ?_⟩
  rcases n4 q hq with hq | ⟨hq, hn⟩
  · rcases List.mem_cons.mp hq with hq | hq
    · subst hq; exact .inr ⟨h.sub _ pF2, np3⟩
    · rcases flat_set_mem nd.2 e4 q hq with hq | ⟨hq, hn⟩
      · exact .inl hq
      · exact .inr ⟨h.sub q (by rw [e2]; exact List.mem_cons_of_mem _ hq), hn⟩
  · exact .inr ⟨hq, fun hq' => hn (s32 q hq')⟩
theorem wk_set : ∀ (L : List Slot) (i : Nat), Wk L (L.set i sAny)
  | [], _ => .n
  | _ :: L, 0 => .a (Wk.refl L)
  | _ :: L, i + 1 => .s (wk_set L i)
section
end
end Hd
namespace Hd
open PySem PySem.Spec L2
section
end
end Hd
namespace Hd
open PySem PySem.Spec L2
section
end
end Hd
namespace Hd
open PySem PySem.Spec L2
section
end
end Hd
namespace Hd
open PySem PySem.Spec L2
theorem NoEx.bind {α β : Type} {m : M α} {f : α → M β} (h : NoEx m) (k : ∀ a, NoEx (f a)) : NoEx (m.bind f) := fun c e => by
  cases m with
  | ok a => exact k a c e
  | ex c' => exact h c' rfl
  | no => cases e
section
end
end Hd
namespace Hd
open PySem PySem.Spec L2
section
end
end Hd
namespace Hd
open PySem PySem.Spec L2
section
end
section
end
/-- a part taken out of written items -/
inductive WTk : {δ δ' : Type} → WAr δ → Nat → {α : Type} → WTy α → (δ → α) → WAr δ' → (δ → δ') → Prop where
  | z {α δ : Type} {O : WTy α} {A : WAr δ} : WTk (waCons O A) 0 O (fun d => d.1) (waCons (wV tAny) A) (fun d => ((), d.2))
  | s {α β δ δ' : Type} {O : WTy α} {O' : WTy β} {A : WAr δ} {A' : WAr δ'} {k : Nat} {pr : δ → α} {f : δ → δ'} : WTk A k O pr A' f → WTk (waCons O' A) (k + 1) O (fun d => pr d.2) (waCons O' A') (fun d => (d.1, f d.2))
theorem WTk.take {δ δ' γ : Type} {A : WAr δ} {A' : WAr δ'} {k : Nat} {O : WTy γ} {pr : δ → γ} {f : δ → δ'} (h : WTk A k O pr A' f) : ∀ {d : δ} {vs : List V} {H : Hp} {R : RdR} {G : List Addr}, A.rep d vs H R G → G.Nodup → ∃ v3 F3 G', vs[k]? = some v3 ∧ O.rep (pr d) v3 H R F3 ∧ A'.rep (f d) vs H R G' ∧ (∀ q ∈ G', q ∈ G ∧ q ∉ F3) ∧ (∀ q ∈ F3, q ∈ G) ∧ F3.Nodup ∧ G'.Nodup := by
  induction h with
  | z =>
    rintro d vs H R G ⟨v, r, F1, F2, e1, e2, h1, h2⟩ nd
    subst e1; subst e2
    rw [List.nodup_append] at nd
    exact ⟨v, F1, F2, rfl, h1, ⟨v, r, [], F2, rfl, rfl, ⟨rfl, trivial⟩, h2⟩, fun q hq => ⟨List.mem_append_right _ hq, fun hq' => nd.2.2 q hq' q hq rfl⟩, fun q hq => List.mem_append_left _ hq, nd.1, nd.2.1⟩
  | s _ ih =>
    rintro d vs H R G ⟨v, r, F1, F2, e1, e2, h1, h2⟩ nd
    subst e1; subst e2
    rw [List.nodup_append] at nd
    obtain ⟨v3, F3, G', e3, r3, rr, g1, g2, g3, g4⟩ := ih h2 nd.2.1
    refine ⟨v3, F3, F1 ++ G', by simpa using e3, r3, ⟨v, r, F1, G', rfl, rfl, h1, rr⟩, fun q hq => ?_, fun q hq => List.mem_append_right _ (g2 q hq), g3, List.nodup_append.mpr ⟨nd.1, g4, fun a ha b hb e => nd.2.2 a ha b (g1 b hb).1 e⟩⟩
    rcases List.mem_append.mp hq with hq | hq
    · exact ⟨List.mem_append_left _ hq, fun hq' => nd.2.2 q hq q (g2 q hq') rfl⟩
    · exact ⟨List.mem_append_right _ (g1 q hq).1, (g1 q hq).2⟩
section
end
section
end
section
end
section
end
section
end
def Fl.mg {α : Type} : Fl α α → α
  | .nx a => a
  | .rt a => a
section
end
section
end
section
end
end Hd
namespace Hd
open PySem PySem.Spec PyProof.Rows L2
section
end
section
end
end Hd
namespace Hd
open PySem PySem.Spec PyProof.Rows L2
section
end
end Hd
namespace Hd
open PySem PySem.Spec PyProof.Rows L2
section
end
end Hd
namespace Hd
open PySem PySem.Spec PyProof.Rows L2
section
end
end Hd
namespace Hd
open PySem PySem.Spec PyProof.Rows L2
def RN : RdR := fun _ _ => False
structure KyA {κ : Type} (A : Ar κ) (f : κ → List Key) : Prop where
  inj : ∀ {a b}, f a = f b → a = b
  to : ∀ {d vs R}, A.rep d vs R → vs = (f d).map kV
  flat : ∀ {d vs} {R R' : RdR}, A.rep d vs R → A.rep d vs R'
section
variable {p : Pr} {sc : Scope} {NN VV GG : List Str} {k : Nat} {g : G} {L : List Slot} {α β δ κ : Type} {S : Ty α} {T : Ty β} {md md' : Md} {pos : Pos} {st : List Stmt} {D : δ → Out} {i j : Nat} {x : Str} {a b c e : Expr} {es : List Expr} {A : Ar κ} {f : κ → List Key}
inductive TReps {κ α : Type} (A : Ar κ) (f : κ → List Key) (T : Ty α) (R : RdR) : List (κ × α) → List (List Key × V) → Prop where
  | nil : TReps A f T R [] []
  | cons {k d v ds vs} : A.rep k ((f k).map kV) RN → T.rep d v R → TReps A f T R ds vs → TReps A f T R ((k, d) :: ds) ((f k, v) :: vs)
theorem TReps.mono {R R' : RdR} {ds : List (κ × α)} {vs : List (List Key × V)} (h : TReps A f S R ds vs) (s : ∀ a o, R a o → R' a o) : TReps A f S R' ds vs := by
  induction h with
  | nil => exact .nil
  | cons a r _ ih => exact .cons a (S.mono r s) ih
theorem TReps.length {R : RdR} {ds : List (κ × α)} {vs : List (List Key × V)} (h : TReps A f S R ds vs) : ds.length = vs.length := by
  induction h with
  | nil => rfl
  | cons a r _ ih => simp [ih]
section
variable [DecidableEq κ]
def dgetT {κ α : Type} [DecidableEq κ] (ds : List (κ × α)) (k : κ) : Option α := (ds.find? fun kv => decide (kv.1 = k)).map (·.2)
theorem TReps.get {R : RdR} {ds : List (κ × α)} {vs : List (List Key × V)} (hk : KyA A f) (h : TReps A f S R ds vs) (k : κ) : (dgetT ds k = none ∧ valV vs (f k) = none) ∨ ∃ d v, dgetT ds k = some d ∧ valV vs (f k) = some v ∧ S.rep d v R := by
  induction h with
  | nil => exact .inl ⟨rfl, rfl⟩
  | @cons k' d v ds vs a r _ ih =>
    by_cases e : k' = k
    · exact .inr ⟨d, v, by simp [dgetT, List.find?_cons, e], valV_pos (by rw [e]), r⟩
    · have e1 : dgetT ((k', d) :: ds) k = dgetT ds k := by simp [dgetT, List.find?_cons, e]
      rw [e1, valV_neg (fun z => e (hk.inj z))]
      exact ih
theorem TReps.some {R : RdR} {ds : List (κ × α)} {vs : List (List Key × V)} (hk : KyA A f) (h : TReps A f S R ds vs) (k : κ) : (valV vs (f k)).isSome = (dgetT ds k).isSome := by
  rcases h.get hk k with ⟨g1, g2⟩ | ⟨d, v, g1, g2, _⟩ <;> rw [g1, g2] <;> rfl
theorem TReps.map {R : RdR} {ds : List (κ × α)} {vs : List (List Key × V)} (hk : KyA A f) (h : TReps A f S R ds vs) (k : κ) {d : α} {v : V} (r : S.rep d v R) : TReps A f S R (ds.map (fun kv => if kv.1 = k then (kv.1, d) else kv)) (vs.map (fun kv => if kv.1 = f k then (kv.1, v) else kv)) := by
  induction h with
  | nil => exact .nil
  | @cons k' d' v' ds vs a r' _ ih =>
    rw [List.map_cons, List.map_cons]
    by_cases e : k' = k
    · have e' : f k' = f k := by rw [e]
      simp only [if_pos e, if_pos e']; exact .cons a r ih
    · have e' : ¬ f k' = f k := fun z => e (hk.inj z)
      simp only [if_neg e, if_neg e']; exact .cons a r' ih
theorem TReps.any {R : RdR} {ds : List (κ × α)} {vs : List (List Key × V)} (hk : KyA A f) (h : TReps A f S R ds vs) (k : κ) : (ds.any fun kv => decide (kv.1 = k)) = (vs.any fun kv => decide (kv.1 = f k)) := by
  induction h with
  | nil => rfl
  | @cons k' d' v' ds vs a r' _ ih =>
    rw [List.any_cons, List.any_cons, ih]
    congr 1
    by_cases e : k' = k
    · rw [decide_eq_true e, decide_eq_true (show f k' = f k by rw [e])]
    · rw [decide_eq_false e, decide_eq_false (fun z : f k' = f k => e (hk.inj z))]
end
section
end
end
end Hd
namespace Hd
open PySem PySem.Spec PyProof.Rows L2
section
end
end Hd
namespace Hd
open PySem PySem.Spec PyProof.Rows L2
section
end
end Hd
namespace Hd
open PySem PySem.Spec PyProof.Rows L2
section
end
/-- the slots told anew -/
theorem evb_lit {δ : Type} {g : G} {L L' : List Slot} {st : List Stmt} {D : δ → Out} {m : M δ} (e : L = L') (h : EvB g L' st D m) : EvB g L st D m := e ▸ h
section
end
end Hd
namespace Hd
open PySem PySem.Spec PyProof.Rows L2
section
end
section
end
end Hd
namespace Hd
open PySem PySem.Spec L2
inductive Pc where
  | Given (ends picks : Int) (texts : List Tx)
  | Named (ends picks : Int) (texts : List Tx) (name : Tx)
  | Twill (ends picks : Int) (many : Int) (more : Int)
  | Satin (ends picks : Int) (step : Int)
  | Beside (ends picks : Int) (left : Pc) (right : Pc)
  | Above (ends picks : Int) (first : Pc) (later : Pc)
  | Mirrored (ends picks : Int) (inner : Pc)
  | Backed (ends picks : Int) (inner : Pc)
  | Upended (ends picks : Int) (inner : Pc)
  | Quartered (ends picks : Int) (inner : Pc)
  | Repeated (ends picks : Int) (inner : Pc) (across : Int) (along : Int)
  | Blocked (ends picks : Int) (profile : Pc) (unit : Pc) (other : Pc)
  | Covered (ends picks : Int) (upper_one : Pc) (lower_one : Pc)
inductive PK where
  | Given | Named | Twill | Satin | Beside | Above | Mirrored | Backed | Upended | Quartered | Repeated | Blocked | Covered
  deriving DecidableEq
def PK.nm : PK → Str
  | .Given => "Given"
  | .Named => "Named"
  | .Twill => "Twill"
  | .Satin => "Satin"
  | .Beside => "Beside"
  | .Above => "Above"
  | .Mirrored => "Mirrored"
  | .Backed => "Backed"
  | .Upended => "Upended"
  | .Quartered => "Quartered"
  | .Repeated => "Repeated"
  | .Blocked => "Blocked"
  | .Covered => "Covered"
def PK.all : List PK := [.Given, .Named, .Twill, .Satin, .Beside, .Above, .Mirrored, .Backed, .Upended, .Quartered, .Repeated, .Blocked, .Covered]
theorem PK.mem (c : PK) : c ∈ PK.all := by cases c <;> decide
def Pc.k : Pc → PK
  | .Given _ _ _ => .Given
  | .Named _ _ _ _ => .Named
  | .Twill _ _ _ _ => .Twill
  | .Satin _ _ _ => .Satin
  | .Beside _ _ _ _ => .Beside
  | .Above _ _ _ _ => .Above
  | .Mirrored _ _ _ => .Mirrored
  | .Backed _ _ _ => .Backed
  | .Upended _ _ _ => .Upended
  | .Quartered _ _ _ => .Quartered
  | .Repeated _ _ _ _ _ => .Repeated
  | .Blocked _ _ _ _ _ => .Blocked
  | .Covered _ _ _ _ => .Covered
def pcRep (p : Pr) (R : RdR) : Pc → V → Prop
  | .Given e q d0, v => ∃ (a dx : Addr) (w0 : V), v = .ref a ∧ R a (.ins (cA p "Given") dx [("ends", .int e), ("picks", .int q), ("texts", w0)]) ∧ (tList tStr).rep d0 w0 R
  | .Named e q d0 d1, v => ∃ (a dx : Addr) (w0 : V), v = .ref a ∧ R a (.ins (cA p "Named") dx [("ends", .int e), ("picks", .int q), ("texts", w0), ("name", .str (toS d1))]) ∧ (tList tStr).rep d0 w0 R ∧ OkTx d1
  | .Twill e q d0 d1, v => ∃ (a dx : Addr), v = .ref a ∧ R a (.ins (cA p "Twill") dx [("ends", .int e), ("picks", .int q), ("many", .int d0), ("more", .int d1)])
  | .Satin e q d0, v => ∃ (a dx : Addr), v = .ref a ∧ R a (.ins (cA p "Satin") dx [("ends", .int e), ("picks", .int q), ("step", .int d0)])
  | .Beside e q d0 d1, v => ∃ (a dx : Addr) (w0 : V) (w1 : V), v = .ref a ∧ R a (.ins (cA p "Beside") dx [("ends", .int e), ("picks", .int q), ("left", w0), ("right", w1)]) ∧ pcRep p R d0 w0 ∧ pcRep p R d1 w1
  | .Above e q d0 d1, v => ∃ (a dx : Addr) (w0 : V) (w1 : V), v = .ref a ∧ R a (.ins (cA p "Above") dx [("ends", .int e), ("picks", .int q), ("first", w0), ("later", w1)]) ∧ pcRep p R d0 w0 ∧ pcRep p R d1 w1
  | .Mirrored e q d0, v => ∃ (a dx : Addr) (w0 : V), v = .ref a ∧ R a (.ins (cA p "Mirrored") dx [("ends", .int e), ("picks", .int q), ("inner", w0)]) ∧ pcRep p R d0 w0
  | .Backed e q d0, v => ∃ (a dx : Addr) (w0 : V), v = .ref a ∧ R a (.ins (cA p "Backed") dx [("ends", .int e), ("picks", .int q), ("inner", w0)]) ∧ pcRep p R d0 w0
  | .Upended e q d0, v => ∃ (a dx : Addr) (w0 : V), v = .ref a ∧ R a (.ins (cA p "Upended") dx [("ends", .int e), ("picks", .int q), ("inner", w0)]) ∧ pcRep p R d0 w0
  | .Quartered e q d0, v => ∃ (a dx : Addr) (w0 : V), v = .ref a ∧ R a (.ins (cA p "Quartered") dx [("ends", .int e), ("picks", .int q), ("inner", w0)]) ∧ pcRep p R d0 w0
  | .Repeated e q d0 d1 d2, v => ∃ (a dx : Addr) (w0 : V), v = .ref a ∧ R a (.ins (cA p "Repeated") dx [("ends", .int e), ("picks", .int q), ("inner", w0), ("across", .int d1), ("along", .int d2)]) ∧ pcRep p R d0 w0
  | .Blocked e q d0 d1 d2, v => ∃ (a dx : Addr) (w0 : V) (w1 : V) (w2 : V), v = .ref a ∧ R a (.ins (cA p "Blocked") dx [("ends", .int e), ("picks", .int q), ("profile", w0), ("unit", w1), ("other", w2)]) ∧ pcRep p R d0 w0 ∧ pcRep p R d1 w1 ∧ pcRep p R d2 w2
  | .Covered e q d0 d1, v => ∃ (a dx : Addr) (w0 : V) (w1 : V), v = .ref a ∧ R a (.ins (cA p "Covered") dx [("ends", .int e), ("picks", .int q), ("upper_one", w0), ("lower_one", w1)]) ∧ pcRep p R d0 w0 ∧ pcRep p R d1 w1
theorem pcRep_mono {p : Pr} {R R' : RdR} (s : ∀ a o, R a o → R' a o) : ∀ (d : Pc) {v : V}, pcRep p R d v → pcRep p R' d v
  | .Given e q d0, v, ⟨a, dx, w0, e1, h, r0⟩ => ⟨a, dx, w0,  e1, s _ _ h, (tList tStr).mono r0 s⟩
  | .Named e q d0 d1, v, ⟨a, dx, w0, e1, h, r0, r1⟩ => ⟨a, dx, w0,  e1, s _ _ h, (tList tStr).mono r0 s, r1⟩
  | .Twill e q d0 d1, v, ⟨a, dx, e1, h⟩ => ⟨a, dx,  e1, s _ _ h⟩
  | .Satin e q d0, v, ⟨a, dx, e1, h⟩ => ⟨a, dx,  e1, s _ _ h⟩
  | .Beside e q d0 d1, v, ⟨a, dx, w0, w1, e1, h, r0, r1⟩ => ⟨a, dx, w0, w1,  e1, s _ _ h, pcRep_mono s d0 r0, pcRep_mono s d1 r1⟩
  | .Above e q d0 d1, v, ⟨a, dx, w0, w1, e1, h, r0, r1⟩ => ⟨a, dx, w0, w1,  e1, s _ _ h, pcRep_mono s d0 r0, pcRep_mono s d1 r1⟩
  | .Mirrored e q d0, v, ⟨a, dx, w0, e1, h, r0⟩ => ⟨a, dx, w0,  e1, s _ _ h, pcRep_mono s d0 r0⟩
  | .Backed e q d0, v, ⟨a, dx, w0, e1, h, r0⟩ => ⟨a, dx, w0,  e1, s _ _ h, pcRep_mono s d0 r0⟩
  | .Upended e q d0, v, ⟨a, dx, w0, e1, h, r0⟩ => ⟨a, dx, w0,  e1, s _ _ h, pcRep_mono s d0 r0⟩
  | .Quartered e q d0, v, ⟨a, dx, w0, e1, h, r0⟩ => ⟨a, dx, w0,  e1, s _ _ h, pcRep_mono s d0 r0⟩
  | .Repeated e q d0 d1 d2, v, ⟨a, dx, w0, e1, h, r0⟩ => ⟨a, dx, w0,  e1, s _ _ h, pcRep_mono s d0 r0⟩
  | .Blocked e q d0 d1 d2, v, ⟨a, dx, w0, w1, w2, e1, h, r0, r1, r2⟩ => ⟨a, dx, w0, w1, w2,  e1, s _ _ h, pcRep_mono s d0 r0, pcRep_mono s d1 r1, pcRep_mono s d2 r2⟩
  | .Covered e q d0 d1, v, ⟨a, dx, w0, w1, e1, h, r0, r1⟩ => ⟨a, dx, w0, w1,  e1, s _ _ h, pcRep_mono s d0 r0, pcRep_mono s d1 r1⟩
def tPc (p : Pr) : Ty Pc := ⟨fun d v R => pcRep p R d v, fun {d v R R'} h s => pcRep_mono s d h⟩
/-- just this one -/
def tOnly (p : Pr) (d : Pc) : Ty Unit := ⟨fun _ v R => pcRep p R d v, fun h s => pcRep_mono s d h⟩
section
end
section
variable {p : Pr} {δ δ' ρ : Type} {A : Ar δ} {A' : Ar δ'} {D : ρ → Out} {F : δ → M ρ} {φ : δ' → δ} {k k' : Nat} {c m : Str} {ps : List Str}
theorem spM_as (h : ∀ d vs R, A'.rep d vs R → A.rep (φ d) vs R) {vs : List V} {H : Hp} {Q : VK} {E : XK} : spM p A' D (fun d => F (φ d)) vs H Q E → spM p A D F vs H Q E := fun ⟨d, z, h1, h2, h3⟩ => ⟨φ d, z, h1, h _ _ _ h2, h3⟩
/-- a method that no class of pieces has of its own -/
structure MuF (p : Pr) (k : Nat) (m : Str) (ps : List Str) (sp : Sp) : Prop where
  ex : ∃ (f : Addr) (fd : FuncData), FnOk p.P p.w p.K p.mg p.base (L2.CX p.P p.w) k f fd ("self" :: ps) sp ∧ (∀ c : PK, Cls p.K (cA p c.nm) ∧ Meth p.K (cA p c.nm) m f) ∧ Binds p.K fd ("self" :: ps) []
theorem MuF.at {A : Ar δ} {F : Pc × δ → M ρ} (hf : MuF p k m ps (spM p (aCons (tPc p) A) D F)) (d : Pc) : MeF p k d.k.nm m ps (spM p (aCons (tOnly p d) A) D (fun a => F (d, a.2))) := by
  obtain ⟨f, fd, h1, h2, h3⟩ := hf.ex
  exact ⟨f, fd, h1.imp fun vs H Q E => spM_as (A := aCons (tPc p) A) (A' := aCons (tOnly p d) A) (φ := fun a : Unit × δ => (d, a.2)) (fun a vs R ⟨v, r, e, r1, r2⟩ => ⟨v, r, e, r1, r2⟩), (h2 d.k).1, (h2 d.k).2, h3⟩
end
section
end
section
end
end Hd
namespace Hd
open PySem PySem.Spec L2
section
end
end Hd
namespace Hd
open PySem PySem.Spec L2
inductive PV where
  | num (n : Int)
  | text (t : Tx)
  | tree (w : Tx) (its : List PV)
inductive PVR (R : RdR) : PV → V → Prop where
  | num {n : Int} : PVR R (.num n) (.int n)
  | text {t : Tx} : OkTx t → PVR R (.text t) (.str (toS t))
  | tree {w : Tx} {its : List PV} {a b : Addr} {vs : List V} : OkTx w → R a (.tup [.str (toS w), .ref b]) → R b (.lst vs) → its.length = vs.length → (∀ (i : Nat) x v, its[i]? = some x → vs[i]? = some v → PVR R x v) → PVR R (.tree w its) (.ref a)
theorem PVR.mono {R R' : RdR} (s : ∀ a o, R a o → R' a o) {x : PV} {v : V} (h : PVR R x v) : PVR R' x v := by
  induction h with
  | num => exact .num
  | text h => exact .text h
  | tree h0 h1 h2 h3 _ ih => exact .tree h0 (s _ _ h1) (s _ _ h2) h3 ih
section
end
end Hd
namespace Hd
open PySem PySem.Spec L2
section
end
end Hd
set_option maxHeartbeats 1000000
namespace Hd
open PySem PySem.Spec PyProof.Rows L2 RT
section
end
section
end
end Hd
namespace Hd
open PySem PySem.Spec L2
def lOf {β : Type} (p : Pr) (iC : Nat) : List (Ec × β) → List V → List (Value × (Addr → Value → Option Addr → TS))
  | (d, _) :: r, v :: vs => (.ref (p.C d), fun _ _ _ => tAsg (fun σ H Q => Q v H) (gName iC)) :: lOf p iC r vs
  | _, _ => []
inductive Hds (p : Pr) (kn : List Ec) (GG : List Str) (L : List Slot) {α : Type} (S : Ty α) (y : Str) (iC : Nat) {β : Type} (LJ : β → List Slot) : List ExceptHandler → List (Ec × β) → List V → Prop
  | nil : Hds p kn GG L S y iC LJ [] [] []
  | cons {x : Str} {cx : Ec} {j : Nat} {np pos' p2 p3 : Pos} {e : Expr} {v : V} {dv : α} {h : β} {hs cl vs} (hcx : cx ∈ kn) (hx : p.mg x = some (.ref (p.C cx))) (hG : GG[j]? = some x) (he : ∀ Y : Cx, PE Y e (fun σ H Q => Q v H)) (hrep : ∀ R, S.rep dv v R)
      (hh : Wk (L.set iC (sV false S dv)) (LJ h)) (r : Hds p kn GG L S y iC LJ hs cl vs) (hsw : ∀ Y : Cx, swapsWith e (some (.Name y p2)) p3.line Y.env = pure false := by intro _; rfl) :
      Hds p kn GG L S y iC LJ (.ExceptHandler (some (.Name x np)) none [.Assign [.Name y p2] e p3] pos' :: hs) ((cx, h) :: cl) (v :: vs)
section
variable {p : Pr} {sc : Scope} {NN VV GG : List Str} {k : Nat} {g : G} {L L' : List Slot} {α β γ δ : Type} {S : Ty α} {pos : Pos} {st : List Stmt} {D : δ → Out}
theorem Hds.ok {kn : List Ec} {y : Str} {iC jC : Nat} {LJ : β → List Slot} {hs : List ExceptHandler} {cl : List (Ec × β)} {vs : List V} (ok : OkS p sc NN VV GG k g) (hNC : NN[iC]? = some y) (hVC : VV[jC]? = some y) (r : Hds p kn GG L S y iC LJ hs cl vs) : HdsOk g.X hs (lOf p iC cl vs) := by
  induction r with
  | nil => exact .nil
  | cons hcx hx hG he hrep hh r hsw ih =>
    obtain ⟨hg, ho⟩ := ok.gl hG
    refine .cons ⟨hg, (okName_d ho).1, .inl (by rw [ok.mg]; exact hx)⟩ (fun ad oE cl dd pn _ _ => ?_) ih
    exact pss_one (ps_set (i := iC) (by show g.X.N.Nodup; rw [ok.N]; exact ok.nd) (by show g.X.N[iC]? = _; rw [ok.N]; exact hNC) (ok.loc hVC) (he _) (hsw _) (.inl (ok.fnT y)))
end
end Hd
namespace Hd
open PySem PySem.Spec L2
section
end
end Hd
namespace Hd
open PySem PySem.Spec L2
section
end
end Hd
namespace Hd
open PySem PySem.Spec L2
section
end
section
end
end Hd
namespace Hd
open PySem PySem.Spec PyProof.Rows L2
section
end
end Hd
noncomputable section
namespace Hd
open PySem PySem.Spec PySem.W PySem.Calls PyProof.Rows HandSHeadRun
section
end
end Hd
namespace Hd
open PySem PySem.Spec L2
section
variable {α β γ δ ε : Type} {S : Ty α} {T : Ty β} {U : Ty γ} {W : Ty ε} {A : Ar δ}
/-- never the same -/
structure Apart (D : Deep S) (E : Deep T) : Prop where
  l : ∀ a b, PyData.eqv (D.pd a) (E.pd b) = false
  r : ∀ a b, PyData.eqv (E.pd b) (D.pd a) = false
end
section
end
end Hd
namespace Hd
open PySem PySem.Spec L2
section
variable {α β γ δ ε : Type} {S : Ty α} {T : Ty β} {S' : Ty γ} {A : Ar δ} {B : Ar ε}
theorem Apart.symm {D : Deep S} {E : Deep T} (h : Apart D E) : Apart E D := ⟨fun a b => h.r b a, fun a b => h.l b a⟩
end
section
end
end Hd
namespace Hd
open PySem PySem.Spec L2
section
end
end Hd
namespace Hd
open PySem PySem.Spec L2
theorem Plc.lv {α γ : Type} {O : WTy α} {O3 : WTy γ} {H : Hp} {R : RdR} {v v2 : V} {F F2 : List Addr} {ds : List γ} {put : List γ → α} (h : Plc H R O v F (wL O3) ds put v2 F2) :
    ∃ a ws, v2 = .ref a ∧ H a = some (.lst ws) ∧ ws.length = ds.length ∧ Plc H R O v F (wLv a ws O3) ds put (.ref a) F2 := by
  obtain ⟨a, ws, Fs, e1, e2, hp, rr⟩ := h.rep
  subst e1
  refine ⟨a, ws, rfl, hp, rr.length.symm, ⟨Fs, rfl, e2, hp, rr⟩, h.sub, h.nd, fun {H' R' d2' F2'} s k r' nd' n' => ?_⟩
  obtain ⟨Fs', x1, x2, x3, x4⟩ := r'
  exact h.up s k ⟨a, ws, Fs', rfl, x2, x3, x4⟩ nd' n'
/-- a thing of one's own told by the items of one list in it -/
def wCx {α γ : Type} (O : WTy α) (O3 : WTy γ) (put : List γ → α) (a : Addr) (ws : List V) : WTy (List γ) where
  T := { O.T with rep := fun ds v R => O.T.rep (put ds) v R, mono := fun r s => O.T.mono r s }
  rep := fun ds v H R F => ∃ F2, Plc H R O v F (wLv a ws O3) ds put (.ref a) F2 ∧ ∀ p ∈ F, ∃ o, H p = some o ∧ gd o = true
  st := by
    rintro ds v H H' F R R' ⟨F2, h, t⟩ s k
    exact ⟨F2, h.ext s k, fun p hp => by rw [k p hp]; exact t p hp⟩
  tb := fun ⟨_, _, t⟩ p hp => t p hp
  fz := by
    rintro ds v H F R R' ⟨F2, h, t⟩ s k
    obtain ⟨F', r, nd, n⟩ := h.up (R' := R) (H' := H) (fun _ _ z => z) (fun _ _ _ => rfl) h.rep h.nd (fun p hp => .inl hp)
    exact O.fz r s fun p hp o ho => k p ((n p hp).elim (h.sub p) (·.1)) o ho
theorem ex_nd (P : Addr → Prop) : ∀ F : List Addr, ∃ G : List Addr, G.Nodup ∧ ∀ p, p ∈ G ↔ p ∈ F ∧ P p
  | [] => ⟨[], List.nodup_nil, fun p => by simp⟩
  | a :: F => by
    obtain ⟨G, h1, h2⟩ := ex_nd P F
    by_cases c : P a ∧ a ∉ G
    · exact ⟨a :: G, List.nodup_cons.mpr ⟨c.2, h1⟩, fun p => by
        rw [List.mem_cons, List.mem_cons, h2]
        constructor
        · rintro (e | e)
          · subst e; exact ⟨.inl rfl, c.1⟩
          · exact ⟨.inr e.1, e.2⟩
        · rintro ⟨e | e, z⟩
          · exact .inl e
          · exact .inr ⟨e, z⟩⟩
    · exact ⟨G, h1, fun p => by
        rw [List.mem_cons, h2]
        constructor
        · exact fun e => ⟨.inr e.1, e.2⟩
        · rintro ⟨e | e, z⟩
          · subst e
            by_cases q : p ∈ G
            · exact (h2 p).mp q
            · exact absurd ⟨z, q⟩ c
          · exact ⟨e, z⟩⟩
theorem Plc.cx {α γ : Type} {O : WTy α} {O3 : WTy γ} {put : List γ → α} {a : Addr} {ws : List V} {H : Hp} {R : RdR} {v : V} {F : List Addr} {ds : List γ} (r : (wCx O O3 put a ws).rep ds v H R F) : ∃ F2, Plc H R (wCx O O3 put a ws) v F (wLv a ws O3) ds (fun d => d) (.ref a) F2 := by
  obtain ⟨F2, pl, tb⟩ := r
  refine ⟨F2, pl.rep, pl.sub, pl.nd, fun {H' R' d2' F2'} s k r' nd' n' => ?_⟩
  obtain ⟨G, g1, g2⟩ := ex_nd (fun p => p ∉ F2) F
  have nd2 : (F2' ++ G).Nodup := by
    refine List.nodup_append.mpr ⟨nd', g1, fun p hp q hq e => ?_⟩
    subst e
    obtain ⟨q1, q2⟩ := (g2 p).mp hq
    exact (n' p hp).elim q2 fun z => z q1
  have mem : ∀ p, p ∈ F2' ++ G ↔ p ∈ F2' ∨ (p ∈ F ∧ p ∉ F2) := fun p => by
    rw [List.mem_append, g2]
  refine ⟨F2' ++ G, ⟨F2', ⟨r', fun p hp => (mem p).mpr (.inl hp), nd', fun {H'' R'' d'' F2''} s2 k2 r2 nd3 n3 => ?_⟩, fun p hp => ?_⟩, nd2, fun p hp => (mem p).mp hp⟩
  · have dj : ∀ p, p ∈ F → p ∉ F2 → p ∉ F2' := fun p h1 h2 h3 => (n' p h3).elim h2 fun z => z h1
    obtain ⟨F', x1, x2, x3⟩ := pl.up (H' := H'') (R' := R'') (d2' := d'') (F2' := F2'') (fun b o z => s2 b o (s b o z)) (fun p hp hn => (k2 p ((mem p).mpr (.inr ⟨hp, hn⟩)) (dj p hp hn)).trans (k p hp hn)) r2 nd3 (fun p hp => by
      by_cases z : p ∈ F2
      · exact .inl z
      · refine .inr fun z2 => ?_
        rcases n3 p hp with q | q
        · exact dj p z2 z q
        · exact q ((mem p).mpr (.inr ⟨z2, z⟩)))
    exact ⟨F', x1, x2, fun p hp => (x3 p hp).imp id fun ⟨q1, q2⟩ => ⟨(mem p).mpr (.inr ⟨q1, q2⟩), dj p q1 q2⟩⟩
  · rcases (mem p).mp hp with z | ⟨z1, z2⟩
    · exact (wLv a ws O3).tb r' p z
    · rw [k p z1 z2]; exact tb p z1
/-- a slot whose value is known, and nothing else of it -/
def sIs (w : V) : Slot := ⟨fun v _ _ F => F = [] ∧ v = some w, fun h _ _ => h, fun ⟨e, _⟩ p hp => by subst e; exact nomatch hp⟩
theorem At.setIs {fm : Fm} {kp : RdR} {L : List Slot} {i : Nat} {σ : L2.St} {H : Hp} {own : List Addr} {v : V} (h : At fm kp L σ H own) : ∃ own', At fm kp (L.set i (sIs v)) (σ.set i (some v)) H own' ∧ ∀ p ∈ own', p ∈ own := by
  obtain ⟨h1, h2, ⟨Fs, h3, rfl⟩, h4, h5, h6⟩ := h
  have kk : ∀ p ∈ (Fs.set i []).flatten, p ∈ Fs.flatten := fun p hp => (set_sub (i := i)).subset hp
  exact ⟨_, ⟨h1, h2, ⟨Fs.set i [], (h3.st (RB.own kk) fun _ _ => rfl).set (s := sIs v) (v := some v) ⟨rfl, rfl⟩ i, rfl⟩, h4.sublist set_sub, fun p hp => h5 p (kk p hp), fun a o q => RX.own (md := .sh) (H := H) kk a o (h6 a o q)⟩, kk⟩
/-- a slot's own thing, told otherwise, with less of one's own -/
theorem At.reshape {fm : Fm} {kp : RdR} {L : List Slot} {i : Nat} {σ : L2.St} {H : Hp} {own : List Addr} {s s' : Slot} (h : At fm kp L σ H own) (hL : L[i]? = some s)
    (c : ∀ v F (R : Bool → RdR), s.ok v H R F → ∃ F', s'.ok v H R F' ∧ F'.Nodup ∧ ∀ p ∈ F', p ∈ F) : ∃ own', At fm kp (L.set i s') σ H own' := by
  obtain ⟨h1, h2, ⟨Fs, h3, rfl⟩, h4, h5, h6⟩ := h
  obtain ⟨v, F, e1, e2, r⟩ := h3.get hL
  obtain ⟨F', r', nd', sub'⟩ := c v F _ r
  have kk : ∀ p ∈ (Fs.set i F').flatten, p ∈ Fs.flatten := fun p hp => by
    rcases flat_set_mem h4 e2 p hp with z | ⟨z, _⟩
    · exact flat_mem e2 p (sub' p z)
    · exact z
  exact ⟨_, h1, h2, ⟨Fs.set i F', (h3.chg h4 e2 e1 (RB.own kk) (fun _ _ _ => rfl) (s'.st r' (RB.own kk) fun _ _ => rfl)), rfl⟩, flat_set_nd h4 e2 nd' (fun p hp => .inl (sub' p hp)), fun p hp => h5 p (kk p hp), fun a o q => RX.own (md := .sh) (H := H) kk a o (h6 a o q)⟩
/-- each item, one after the other -/
def walkF {γ : Type} (F : γ → M γ) : List γ → M (List γ)
  | [] => .ok []
  | x :: r => (F x).bind fun y => (walkF F r).bind fun l => .ok (y :: l)
section
variable {p : Pr} {sc : Scope} {NN VV GG : List Str} {k : Nat} {g : G} {L L' : List Slot} {a b c e e' ix it : Expr} {md md' : Md} {α β γ δ ρ τ : Type} {S : Ty α} {T : Ty β} {O : WTy α} {O2 : WTy β} {O3 : WTy γ} {A : WAr ρ} {pos pp pos' : Pos} {i j : Nat} {x y : Str} {px : V → Prop} {st body : List Stmt} {D : δ → Out} {d : α}
/-- the name that walks is a name of the item -/
theorem evp_alias {put : List γ → α} {q : Addr} {ws : List V} {ds : List γ} {n i2 j2 : Nat} {v : V} {z : γ} (ok : Ok p sc NN VV GG k g) (hN : NN[i2]? = some x) (hV : VV[j2]? = some x) (hL : L[i]? = some (sP px (wCx O O3 put q ws) ds)) (hL2 : L[i2]? = some (sIs v)) (hw : ws[n]? = some v) (hz : ds[n]? = some z) :
    EvP g L (.Name x pos) i px (wCx O O3 put q ws) ds O3 (.ok (z, fun r => ds.set n r)) := by
  obtain ⟨hv, ho⟩ := ok.vis hV
  obtain ⟨h1, h2, _⟩ := okName_d ho
  refine PE.imp (pe_var (i := i2) (by rw [ok.N]; exact hN) hv h1 h2) fun σ H Q ⟨kp, own, Fs, at_, hsl, heo, r⟩ => ?_
  obtain ⟨v1, F1, e1, e2, e3, e4⟩ := hsl.get hL2
  subst e4
  obtain ⟨v0, F0, x1, x2, v3, x3, hx, rr⟩ := hsl.get hL
  subst x3
  obtain ⟨F2, pl⟩ := Plc.cx rr
  obtain ⟨v4, F4, y1, y2, pl4⟩ := pl.itemV hz
  rw [hw] at y1
  cases y1
  exact ⟨v, e1, r v F4 H (Same.refl H) ⟨v3, F0, hL, hsl, heo, x1, hx, x2, pl4⟩⟩
/-- for x in PLACE: body, where the body changes the item -/
theorem evb_forPl {mp : M (List γ × (List γ → α))} {FB : γ → M γ} {h : α → M δ} {i2 j2 : Nat} {tp : Pos} (ok : OkS p sc NN VV GG k g) (hX : g.LX = List.replicate L.length sAny)
    (hp : EvP g L it i px O d (wL O3) mp) (hN2 : NN[i2]? = some x) (hV2 : VV[j2]? = some x) (hij : i ≠ i2) {s2 : Slot} (hL2 : L[i2]? = some s2)
    (hb : ∀ (put : List γ → α) (q : Addr) (ws : List V) (ds : List γ) (n : Nat) (v : V) (z : γ), ws[n]? = some v → ds[n]? = some z → EvB g ((L.set i2 (sIs v)).set i (sP px (wCx O O3 put q ws) ds)) body (fun d' => .go ((L.set i2 sAny).set i (sP px (wCx O O3 put q ws) d'))) ((FB z).bind fun r => .ok (ds.set n r)))
    (hr : ∀ d', EvB g ((L.set i2 sAny).set i (sP px O d')) st D (h d')) (hfs : ∀ v, foldedSetIterable it g.X.env v = pure v := by intro _; rfl) :
    EvB g L (.For (.Name x tp) it body [] pos :: st) D (mp.bind fun q => (walkF FB q.1).bind fun l => M.bind (.ok (q.2 l)) h) := by
  let Z := { z : (List γ → α) × Addr × List V × List γ × Nat × V × γ // z.2.2.1[z.2.2.2.2.1]? = some z.2.2.2.2.2.1 ∧ z.2.2.2.1[z.2.2.2.2.1]? = some z.2.2.2.2.2.2 }
  have hb' : ∀ z : Z, PSs g.X body (tB g ((L.set i2 (sIs z.1.2.2.2.2.2.1)).set i (sP px (wCx O O3 z.1.1 z.1.2.1 z.1.2.2.1) z.1.2.2.2.1)) (fun d' => .go ((L.set i2 sAny).set i (sP px (wCx O O3 z.1.1 z.1.2.1 z.1.2.2.1) d'))) ((FB z.1.2.2.2.2.2.2).bind fun r => .ok (z.1.2.2.2.1.set z.1.2.2.2.2.1 r))) := fun z => hb _ _ _ _ _ _ _ z.2.1 z.2.2
  refine PSs.imp (pss_cons (ps_for ok.psO ok.calm (pi_list hp) (pg_name (i := i2) (by rw [ok.N]; exact ok.nd) (by rw [ok.N]; exact hN2) (ok.loc hV2) (okS_fn ok)) (PSs.ex hb') hfs) (PSs.ex hr)) fun E σ H ⟨kp, own, at_, q⟩ => ?_
  obtain ⟨Fs, hsl, heo⟩ := at_.sl
  refine ⟨kp, own, Fs, at_, hsl, heo, ?_⟩
  cases mp with
  | ex c => exact fun H' s => BOk.exx (by rw [hX]; exact Wk.anys rfl) at_ q H' s
  | no => exact q.elim
  | ok q0 =>
  intro v2 F2 H1 s1 A1
  have q : BOk g kp E D ((walkF FB q0.1).bind fun l => M.bind (.ok (q0.2 l)) h) := q
  have at1 := at_.ext s1
  obtain ⟨v, F, hL, hs, e, e1, hx, e2, pl⟩ := A1
  obtain ⟨a0, ws, rfl, ha1, hwl, plv⟩ := pl.lv
  refine ⟨a0, rfl, ⟨ws, SqL.of ha1⟩, ?_⟩
  let L1 : List γ → List Slot := fun ds => (L.set i2 sAny).set i (sP px (wCx O O3 q0.2 a0 ws) ds)
  have hlt : i < (L.set i2 sAny).length := by rw [List.length_set]; exact (List.getElem?_eq_some_iff.mp hL).1
  have at0 : ∃ own0, At g.fm kp (L1 q0.1) σ H1 own0 := by
    have atc : At g.fm kp (L.set i (sP px (wCx O O3 q0.2 a0 ws) q0.1)) σ H1 own := by
      refine ⟨at1.same, at1.zin, ⟨Fs, ?_, e⟩, at1.nd, at1.new, at1.kept⟩
      have hpw := hs.pw
      refine Pw.all ⟨by rw [List.length_set]; exact hpw.l1, by rw [List.length_set]; exact hpw.l2, fun j _ s3 v' F' x1 x2 x3 => ?_⟩
      by_cases hj : i = j
      · subst hj
        rw [List.getElem?_set_self (List.getElem?_eq_some_iff.mp hL).1] at x1
        cases x1
        rw [e1] at x2; cases x2
        rw [e2] at x3; cases x3
        obtain ⟨v9, y1, y2, y3⟩ := hpw.ok i (fun z => z) _ _ _ hL e1 e2
        exact ⟨v, rfl, hx, F2, plv, fun p hp => by cases y1; exact O.tb y3 p hp⟩
      · rw [List.getElem?_set_ne hj] at x1
        exact hpw.ok j (fun z => z) s3 v' F' x1 x2 x3
    obtain ⟨own0, b0, _⟩ := At.weak atc (wk_set _ i2)
    refine ⟨own0, ?_⟩
    show At g.fm kp ((L.set i2 sAny).set i _) σ H1 own0
    rw [← List.set_comm _ _ hij]
    exact b0
  obtain ⟨own0, at0⟩ := at0
  have nth : ∀ {ds : List γ} {σ : L2.St} {H : Hp} {own : List Addr}, At g.fm kp (L1 ds) σ H own → H a0 = some (.lst ws) := fun {ds σ H own} at_ => by
    obtain ⟨Fs, hsl, heo⟩ := at_.sl
    obtain ⟨v0, F0, _, _, v3, _, _, F9, pl9, _⟩ := hsl.get (i := i) (List.getElem?_set_self hlt)
    obtain ⟨_, _, _, y7, _⟩ := pl9.rep
    exact y7
  have nth2 : ∀ {ds : List γ} {σ : L2.St} {H : Hp} {own : List Addr}, At g.fm kp (L1 ds) σ H own → ws.length = ds.length := fun {ds σ H own} at_ => by
    obtain ⟨Fs, hsl, heo⟩ := at_.sl
    obtain ⟨v0, F0, _, _, v3, _, _, F9, pl9, _⟩ := hsl.get (i := i) (List.getElem?_set_self hlt)
    obtain ⟨_, _, _, _, rr⟩ := pl9.rep
    exact rr.length.symm
  refine ⟨fun n m σ H => m = ws.length - n ∧ n ≤ ws.length ∧ ∃ dn own', dn.length = n ∧ At g.fm kp (L1 (dn ++ q0.1.drop n)) σ H own' ∧ BOk g kp E D ((walkF FB (q0.1.drop n)).bind fun l => M.bind (.ok (q0.2 (dn ++ l))) h), ⟨_, rfl, Nat.zero_le _, [], own0, rfl, by rw [List.drop_zero, List.nil_append]; exact at0, by rw [List.drop_zero]; exact q⟩, ?_⟩
  rintro n m σ2 H2 ⟨rfl, hn, dn, own', hdn, a', q'⟩
  have ha2 := nth a'
  by_cases hnl : n < ws.length
  · have hnp : n < q0.1.length := by omega
    have hd : q0.1.drop n = q0.1[n] :: q0.1.drop (n + 1) := List.drop_eq_getElem_cons hnp
    rw [hd] at a' q'
    refine .inr ⟨⟨ws, ws[n], SqL.of ha2, by simp [hnl]⟩, fun σ' H' => ∃ dn own', dn.length = n + 1 ∧ At g.fm kp (L1 (dn ++ q0.1.drop (n + 1))) σ' H' own' ∧ BOk g kp E D ((walkF FB (q0.1.drop (n + 1))).bind fun l => M.bind (.ok (q0.2 (dn ++ l))) h), fun σ' H' z => ⟨ws.length - (n + 1), by omega, rfl, hnl, z⟩, fun x3 H3 ⟨eH, yx⟩ => ?_⟩
    subst eH
    have ex3 : x3 = ws[n] := by
      have := yx ws (SqL.of ha2)
      rw [List.getElem?_eq_getElem hnl] at this
      cases this; rfl
    subst ex3
    obtain ⟨own3, b3, _⟩ := a'.setIs (i := i2) (v := ws[n])
    have eL : (L1 (dn ++ (q0.1[n] :: q0.1.drop (n + 1)))).set i2 (sIs ws[n]) = (L.set i2 (sIs ws[n])).set i (sP px (wCx O O3 q0.2 a0 ws) (dn ++ (q0.1[n] :: q0.1.drop (n + 1)))) := by
      show ((L.set i2 sAny).set i _).set i2 _ = _
      rw [List.set_comm _ _ hij, List.set_set]
    rw [eL] at b3
    refine ⟨⟨(q0.2, a0, ws, dn ++ (q0.1[n] :: q0.1.drop (n + 1)), n, ws[n], q0.1[n]), List.getElem?_eq_getElem hnl, by show (dn ++ (q0.1[n] :: q0.1.drop (n + 1)))[n]? = _; rw [List.getElem?_append_right (by omega), hdn, Nat.sub_self]; rfl⟩, kp, own3, b3, ?_⟩
    have q2 : BOk g kp E D (((FB q0.1[n]).bind fun y => (walkF FB (q0.1.drop (n + 1))).bind fun l => .ok (y :: l)).bind fun l => M.bind (.ok (q0.2 (dn ++ l))) h) := q'
    show BOk g kp _ _ ((FB q0.1[n]).bind fun r => .ok ((dn ++ (q0.1[n] :: q0.1.drop (n + 1))).set n r))
    cases hF : FB q0.1[n] with
    | ok r =>
      rw [hF] at q2
      have e9 : (dn ++ (q0.1[n] :: q0.1.drop (n + 1))).set n r = dn ++ [r] ++ q0.1.drop (n + 1) := by
        rw [List.set_append_right _ _ (by omega), hdn, Nat.sub_self, List.set_cons_zero, List.append_assoc]; rfl
      have q3 : BOk g kp E D ((walkF FB (q0.1.drop (n + 1))).bind fun l => M.bind (.ok (q0.2 (dn ++ [r] ++ l))) h) := by
        have e : (((walkF FB (q0.1.drop (n + 1))).bind fun l => M.ok (r :: l)).bind fun l => M.bind (.ok (q0.2 (dn ++ l))) h) = (walkF FB (q0.1.drop (n + 1))).bind fun l => M.bind (.ok (q0.2 (dn ++ [r] ++ l))) h := by
          rw [M.bind_assoc]
          congr 1
          funext l
          show h (q0.2 (dn ++ (r :: l))) = h (q0.2 (dn ++ [r] ++ l))
          rw [List.append_assoc]; rfl
        rw [← e]
        exact q2
      show OutOk g.fm kp _ (.go (L1 ((dn ++ (q0.1[n] :: q0.1.drop (n + 1))).set n r)))
      rw [e9]
      exact fun σ3 H3 own4 a4 => ⟨⟨dn ++ [r], own4, by simp [hdn], a4, q3⟩, ⟨dn ++ [r], own4, by simp [hdn], a4, q3⟩⟩
    | ex c =>
      rw [hF] at q2
      exact fun σ3 H3 own4 a4 => q2 σ3 H3 own4 a4
    | no => rw [hF] at q2; exact q2
  · have e : n = ws.length := by omega
    subst e
    refine .inl ⟨⟨ws, SqL.of ha2, Nat.le_refl _⟩, ?_⟩
    have hdl : q0.1.drop ws.length = [] := List.drop_eq_nil_of_le (by omega)
    rw [hdl] at a' q'
    obtain ⟨own5, a5⟩ := a'.reshape (i := i) (List.getElem?_set_self hlt) (s' := sP px O (q0.2 (dn ++ []))) (fun v F R ⟨x, e, hx, F2, pl, tb⟩ => by
      obtain ⟨F', r, nd, n⟩ := pl.up (R' := R false) (H' := _) (fun _ _ z => z) (fun _ _ _ => rfl) pl.rep pl.nd (fun p hp => .inl hp)
      exact ⟨F', ⟨x, e, hx, r⟩, nd, fun p hp => (n p hp).elim (pl.sub p) (·.1)⟩)
    have e2 : (L1 (dn ++ [])).set i (sP px O (q0.2 (dn ++ []))) = (L.set i2 sAny).set i (sP px O (q0.2 (dn ++ []))) := List.set_set ..
    rw [e2] at a5
    exact ⟨q0.2 (dn ++ []), kp, own5, a5, q'⟩
theorem wk_al {L : List Slot} {i i2 : Nat} {s P P' : Slot} (hij : i ≠ i2) : Wk (((L.set i2 s).set i P').set i P) ((L.set i2 sAny).set i P) := by
  have e : ((L.set i2 s).set i P').set i P = (L.set i2 s).set i P := List.set_set ..
  rw [e]
  have h := wk_set ((L.set i2 s).set i P) i2
  rwa [List.set_comm _ _ hij, List.set_set] at h
/-- for x in PLACE: x.append(c) -/
theorem evb_forA {O3 : WTy γ} {mp : M (List (List γ) × (List (List γ) → α))} {cst : γ} {h : α → M δ} {i2 j2 : Nat} {tp xp ap cp ep : Pos} (ok : OkS p sc NN VV GG k g) (hX : g.LX = List.replicate L.length sAny)
    (hp : EvP g L it i px O d (wL (wL O3)) mp) (hN2 : NN[i2]? = some x) (hV2 : VV[j2]? = some x) (hij : i ≠ i2) {s2 : Slot} (hL2 : L[i2]? = some s2) (hi : L[i]? = some (sP px O d))
    (he : ∀ L', EvN g L' e O3 (.ok cst)) (hr : ∀ d', EvB g ((L.set i2 sAny).set i (sP px O d')) st D (h d')) (hfs : ∀ v, foldedSetIterable it g.X.env v = pure v := by intro _; rfl)
    (hs : swapsWith (.Call (.Attribute (.Name x xp) "append" ap) [e] [] cp) none ep.line g.X.env = pure false := by rfl)
    (hbase : attributeBase (.Name x xp) "append" g.X.env (eval (.Name x xp) g.X.env) = eval (.Name x xp) g.X.env := by rfl)
    (hfew : ((backTo cp (starEach [e] g.X.env)).all (fun x => !x.1) && (backToKw cp (keywordEach [] g.X.env)).all (fun x => x.1.isSome)
      && decide (([e] : List Expr).length + ([] : List Keyword).length + (if ([] : List Keyword).isEmpty then 0 else 1) < 30)) = true := by rfl)
    (hline : (ap.endLine == cp.line) = true := by rfl) (hst : starEach [e] g.X.env = (false, eval e g.X.env) :: starEach [] g.X.env := by rfl) (hpl : (backTo cp (starEach [] g.X.env)).any (·.1) = false := by rfl) :
    EvB g L (.For (.Name x tp) it [.Expr (.Call (.Attribute (.Name x xp) "append" ap) [e] [] cp) ep] [] pos :: st) D (mp.bind fun q => (walkF (fun z => pushM z cst) q.1).bind fun l => M.bind (.ok (q.2 l)) h) := by
  have l2 : i2 < L.length := (List.getElem?_eq_some_iff.mp hL2).1
  have l1 : i < L.length := (List.getElem?_eq_some_iff.mp hi).1
  refine evb_forPl (FB := fun z => pushM z cst) ok hX hp hN2 hV2 hij hL2 (fun put q ws ds n v z hw hz => ?_) hr hfs
  have hL' : ((L.set i2 (sIs v)).set i (sP px (wCx O (wL O3) put q ws) ds))[i]? = some (sP px (wCx O (wL O3) put q ws) ds) := List.getElem?_set_self (by rw [List.length_set]; exact l1)
  have hL2' : ((L.set i2 (sIs v)).set i (sP px (wCx O (wL O3) put q ws) ds))[i2]? = some (sIs v) := by rw [List.getElem?_set_ne hij, List.getElem?_set_self l2]
  exact evb_qAppend (h := fun d' => .ok d') ok (by rw [hX]; have := Wk.anys (L := (L.set i2 (sIs v)).set i (sP px (wCx O (wL O3) put q ws) ds)) rfl; rwa [List.length_set, List.length_set] at this) (evp_alias ok.toOk hN2 hV2 hL' hL2' hw hz) (he _) (fun d' => evb_go rfl (wk_al hij)) hs hbase hfew hline hst hpl
end
end Hd
namespace Hd
open PySem PySem.Spec L2
/-- what holds written items: a list or a tuple -/
structure Cn where
  con : List V → HO
  T : {δ : Type} → Ar δ → Ty δ
  g : ∀ vs, gd (con vs) = true
  build : ∀ {δ : Type} {A : Ar δ} {d : δ} {R : RdR} {a : Addr} {vs : List V}, R a (con vs) → A.rep d vs R → (T A).rep d (.ref a) R
def cT : Cn := ⟨.tup, tTup, fun _ => rfl, fun h r => ⟨_, _, rfl, h, r⟩⟩
/-- it stands at a and holds the values ws -/
def wPn {δ : Type} (c : Cn) (a : Addr) (ws : List V) (A : WAr δ) : WTy δ where
  T := c.T A.A
  rep := fun d v H R F => ∃ G, v = .ref a ∧ F = a :: G ∧ H a = some (c.con ws) ∧ A.rep d ws H R G
  st := by
    rintro d v H H' F R R' ⟨G, e1, e2, h, r⟩ s k
    exact ⟨G, e1, e2, by rw [k a (by rw [e2]; exact List.mem_cons_self)]; exact h, A.st r s fun q hq => k q (by rw [e2]; exact List.mem_cons_of_mem _ hq)⟩
  tb := by
    rintro d v H F R ⟨G, e1, e2, h, r⟩ q hq
    rw [e2] at hq
    rcases List.mem_cons.mp hq with e | hq
    · subst e; exact ⟨_, h, c.g ws⟩
    · exact A.tb r q hq
  fz := by
    rintro d v H F R R' ⟨G, e1, e2, h, r⟩ s k
    subst e1
    exact c.build (k a (by rw [e2]; exact List.mem_cons_self) _ h) (A.fz r s fun q hq => k q (by rw [e2]; exact List.mem_cons_of_mem _ hq))
/-- .. looked at as a shared thing -/
def sFz {δ : Type} (c : Cn) (a : Addr) (ws : List V) (A : Ar δ) (d : δ) : Slot := ⟨fun v _ R F => F = [] ∧ v = some (.ref a) ∧ R false a (c.con ws) ∧ A.rep d ws (R false), fun ⟨e1, e2, h, r⟩ s _ => ⟨e1, e2, s _ _ _ h, A.mono r (s false)⟩, fun ⟨e, _⟩ p hp => by subst e; exact nomatch hp⟩
/-- the item k of known values -/
def sAt (ws : List V) (k : Nat) : Slot := ⟨fun v _ _ F => F = [] ∧ ∃ w, v = some w ∧ ws[k]? = some w, fun h _ _ => h, fun ⟨e, _⟩ p hp => by subst e; exact nomatch hp⟩
section
variable {α δ γ : Type} {O3 : WTy γ} {A : WAr δ} {kk : Nat} {pr : δ → γ} {stt : δ → γ → δ}
theorem WAt.see (h : WAt A kk O3 pr stt) : ∀ {d : δ} {vs : List V} {R : RdR}, A.A.rep d vs R → ∃ v, vs[kk]? = some v ∧ O3.T.rep (pr d) v R := by
  induction h with
  | z => rintro d vs R ⟨v, r, e, h1, h2⟩; subst e; exact ⟨v, rfl, h1⟩
  | s _ ih =>
    rintro d vs R ⟨v, r, e, h1, h2⟩
    subst e
    obtain ⟨w, e1, e2⟩ := ih h2
    exact ⟨w, by simpa using e1, e2⟩
end
section
variable {fm : Fm} {kp : RdR} {L : List Slot} {σ : L2.St} {H : Hp} {own : List Addr} {i j : Nat} {s s' : Slot}
theorem At.convI (hL : L[i]? = some s) (h : At fm kp L σ H own) (c : ∀ Fs, AllS H (RB fm own H) L σ Fs → ∀ v F, σ[i]? = some v → s.ok v H (RB fm own H) F → s'.ok v H (RB fm own H) F) : At fm kp (L.set i s') σ H own := by
  obtain ⟨h1, h2, ⟨Fs, h3, e⟩, h4, h5, h6⟩ := h
  refine ⟨h1, h2, ⟨Fs, ?_, e⟩, h4, h5, h6⟩
  have hpw := h3.pw
  refine Pw.all ⟨by rw [List.length_set]; exact hpw.l1, by rw [List.length_set]; exact hpw.l2, fun j _ s2 v F e1 e2 e3 => ?_⟩
  by_cases hij : i = j
  · subst hij
    rw [List.getElem?_set_self (List.getElem?_eq_some_iff.mp hL).1] at e1
    cases e1
    exact c Fs h3 v F e2 (hpw.ok i (fun z => z) _ v F hL e2 e3)
  · rw [List.getElem?_set_ne hij] at e1
    exact hpw.ok j (fun z => z) s2 v F e1 e2 e3
end
/-- another way of looking at the slots -/
def AtC (L L' : List Slot) : Prop := ∀ {fm : Fm} {kp : RdR} {σ : L2.St} {H : Hp} {own : List Addr}, At fm kp L σ H own → ∃ own', At fm kp L' σ H own' ∧ ∀ p ∈ own', p ∈ own
theorem ac_tr {L L1 L2 : List Slot} (h : AtC L L1) (k : AtC L1 L2) : AtC L L2 := fun a => by
  obtain ⟨o1, a1, s1⟩ := h a
  obtain ⟨o2, a2, s2⟩ := k a1
  exact ⟨o2, a2, fun p hp => s1 p (s2 p hp)⟩
section
variable {L : List Slot} {i j kk : Nat} {α δ γ : Type} {O3 : WTy γ} {A : WAr δ} {pr : δ → γ} {stt : δ → γ → δ} {px : V → Prop} {d : δ} {c : Cn} {a : Addr} {ws : List V}
theorem ac_lend (hL : L[i]? = some (sP px (wPn c a ws A) d)) : AtC L (L.set i (sFz c a ws A.A d)) := fun {fm kp σ H own} h => by
  obtain ⟨h1, h2, ⟨Fs, h3, e⟩, h4, h5, h6⟩ := h
  obtain ⟨v0, F, e1, e2, v, rfl, hx, G, e3, e4, h7, r⟩ := h3.get hL
  have nd := h4
  rw [e] at nd
  have nF : ∀ q ∈ (Fs.set i []).flatten, q ∈ Fs.flatten ∧ q ∉ F := fun q hq => by
    rcases flat_set_mem nd e2 q hq with hq | hq
    · exact nomatch hq
    · exact hq
  have kk : ∀ q ∈ (Fs.set i []).flatten, q ∈ own := fun q hq => by rw [e]; exact (nF q hq).1
  have hk : ∀ q ∈ Fs.flatten, q ∉ F → H q = H q := fun _ _ _ => rfl
  have rd : ∀ q ∈ F, ∀ o, H q = some o → gd o = true → RD fm (Fs.set i []).flatten H q o := fun q hq o ho go => .inl ⟨.inl (cl_of ho (gd_nt go)), fun hq' => (nF q hq').2 hq, (h5 q (by rw [e]; exact flat_mem e2 q hq)).2.2⟩
  refine ⟨_, ⟨h1, h2, ⟨Fs.set i [], h3.chg nd e2 e1 (RB.own kk) hk (s' := sFz c a ws A.A d) ⟨rfl, by rw [e3], ?_, A.fz r (RB.own kk false) fun q hq o ho => ?_⟩, rfl⟩, flat_set_nd nd e2 List.nodup_nil (fun _ h => nomatch h), fun q hq => h5 q (kk q hq), fun a o z => RX.own (md := .sh) (H := H) kk a o (h6 a o z)⟩, kk⟩
  · exact rd a (by rw [e4]; exact List.mem_cons_self) _ h7 (c.g ws)
  · obtain ⟨o', ho', go⟩ := A.tb r q hq
    rw [ho] at ho'; cases ho'
    exact rd q (by rw [e4]; exact List.mem_cons_of_mem _ hq) _ ho go
theorem ac_see (hL : L[i]? = some (sFz c a ws A.A d)) (hj : L[j]? = some (sAt ws kk)) (hA : WAt A kk O3 pr stt) : AtC L (L.set j (sV false O3.T (pr d))) := fun {fm kp σ H own} h => ⟨own, h.convI hj fun Fs hs v F e1 ⟨e2, w, e3, e4⟩ => by
  obtain ⟨v0, F0, x1, x2, y1, y2, y3, y4⟩ := hs.get hL
  obtain ⟨w', e5, e6⟩ := hA.see y4
  rw [e4] at e5; cases e5
  exact ⟨e2, w, e3, e6⟩, fun _ h => h⟩
theorem ac_shut (hL : L[i]? = some (sFz c a ws A.A d)) : AtC L (L.set i (sV false (c.T A.A) d)) := fun {fm kp σ H own} h => ⟨own, h.convI hL fun Fs hs v F e1 ⟨e2, e3, e4, e5⟩ => ⟨e2, .ref a, e3, c.build e4 e5⟩, fun _ h => h⟩
end
section
variable {p : Pr} {sc : Scope} {NN VV GG : List Str} {k : Nat} {g : G} {L L' : List Slot} {a b c e e' ix : Expr} {md md' : Md} {α β γ δ ρ : Type} {S : Ty α} {T : Ty β} {O : WTy α} {O2 : WTy β} {O3 : WTy γ} {A A' : WAr ρ} {pos pos' pp : Pos} {i j kk : Nat} {x y : Str} {px : V → Prop} {st : List Stmt} {D : δ → Out} {cn : Cn} {q : Addr} {ws : List V} {d : ρ} {pr : ρ → γ} {stt : ρ → γ → ρ}
theorem ev_look {m : M β} (hf : Flat T ∨ md = .fx) (ha : AtC L L') (h : EvE g L' e md T m) : EvE g L e md T m := PE.imp h fun σ H Q q => by
  obtain ⟨kp, own, at_, q⟩ := tE_iff.mp q
  obtain ⟨own', a', sub⟩ := ha at_
  refine tE_iff.mpr ⟨kp, own', a', ?_⟩
  cases m with
  | ok d =>
    refine fun v H' s r => q v H' s ?_
    rcases hf with hf | rfl
    · exact hf r
    · exact T.mono r fun a o z => ⟨z.1, fun y => (at_.new a y).1 z.2.2.2.2, z.2.2⟩
  | ex c => exact q
  | no => exact q
theorem evt_look {m : M Bool} (ha : AtC L L') (h : EvT g L' e m) : EvT g L e m := PT.imp h fun σ H Q q => by
  obtain ⟨kp, own, at_, q⟩ := tT_iff.mp q
  obtain ⟨own', a', sub⟩ := ha at_
  refine tT_iff.mpr ⟨kp, own', a', ?_⟩
  cases m <;> exact q
theorem evb_pinT {m : M δ} (hL : L[i]? = some (sP px (wTup A) d)) (hr : ∀ q ws, EvB g (L.set i (sP px (wPn cT q ws A) d)) st D m) : EvB g L st D m := PSs.imp (PSs.ex (t := fun z : Addr × List V => tB g (L.set i (sP px (wPn cT z.1 z.2 A) d)) D m) fun z => hr z.1 z.2) fun E σ H ⟨kp, own, at_, q⟩ => by
  obtain ⟨Fs, hsl, heo⟩ := at_.sl
  obtain ⟨v0, F, e1, e2, x, e3, hx, p, vs, G, e4, e5, h, r⟩ := hsl.get hL
  refine ⟨(p, vs), kp, own, at_.convI hL fun Fs2 _ v F2 e1' ⟨x', e3', hx', p', vs', G', e4', e5', h', r'⟩ => ?_, q⟩
  rw [e1] at e1'; cases e1'
  rw [e3] at e3'; cases e3'
  rw [e4] at e4'; cases e4'
  rw [h] at h'; cases h'
  exact ⟨x, e3, hx, G', e4, e5', h, r'⟩
theorem evb_unpinT {m : M δ} (hL : L[i]? = some (sP px (wPn cT q ws A) d)) (hr : EvB g (L.set i (sP px (wTup A) d)) st D m) : EvB g L st D m := evb_conv (s' := sP px (wTup A) d) hL (fun v H R F ⟨x, e3, hx, G, e4, e5, h, r⟩ => ⟨x, e3, hx, q, ws, G, e4, e5, h, r⟩) hr
theorem At.pinned {fm : Fm} {kp : RdR} {σ : L2.St} {H : Hp} {own : List Addr} (h : At fm kp L σ H own) (hL : L[i]? = some (sP px (wPn cn q ws A) d)) : σ[i]? = some (some (.ref q)) ∧ H q = some (cn.con ws) := by
  obtain ⟨Fs, hsl, heo⟩ := h.sl
  obtain ⟨v0, F, e1, e2, x, e3, hx, G, e4, e5, h, r⟩ := hsl.get hL
  rw [e3, e4] at e1
  exact ⟨e1, h⟩
theorem evb_aliasT {m : M δ} {yp ip : Pos} {iy jy : Nat} (ok : OkS p sc NN VV GG k g) (hN : NN[i]? = some x) (hV : VV[j]? = some x) (hNy : NN[iy]? = some y) (hVy : VV[jy]? = some y) (hL : L[iy]? = some (sP px (wPn cT q ws A) d)) (hA : WAt A kk O3 pr stt) (hi : EvE g L ix md tInt (.ok (kk : Int)))
    (hr : EvB g (L.set i (sAt ws kk)) st D m) (hsx : PlainIx ix := by exact fun _ _ => rfl) (hs : swapsWith (.Subscript (.Name y yp) ix ip) (some (.Name x pos')) pos.line g.X.env = pure false := by rfl) :
    EvB g L (.Assign [.Name x pos'] (.Subscript (.Name y yp) ix ip) pos :: st) D m := by
  obtain ⟨hv, ho⟩ := ok.toOk.vis hVy
  obtain ⟨h1, h2, _⟩ := okName_d ho
  refine PSs.imp (pss_cons (ps_set (i := i) (by rw [ok.N]; exact ok.nd) (by rw [ok.N]; exact hN) (ok.loc hV) (pe_ix (pos := ip) (r := rIxT g.X.K) ix_tup (pe_var (pos := yp) (i := iy) (by rw [ok.N]; exact hNy) hv h1 h2) hi hsx) hs (okS_fn ok)) hr) fun E σ H ⟨kp, own, at_, q'⟩ => ?_
  obtain ⟨e1, hp⟩ := at_.pinned hL
  refine ⟨_, e1, tE_iff.mpr ⟨kp, own, at_, ?_⟩⟩
  intro z H1 s1 r1
  cases (show z = .int kk from r1)
  have at1 := at_.ext s1
  obtain ⟨Fs, hsl, heo⟩ := at1.sl
  obtain ⟨v0, F, e2, e3, x', e4, hx, G, e5, e6, h7, r⟩ := hsl.get hL
  have nd := at1.nd
  rw [heo] at nd
  obtain ⟨v3, F3, e8, _⟩ := hA.get r (by have := flat_nd nd e3; rw [e6, List.nodup_cons] at this; exact this.2)
  refine ⟨q, ws, kk, v3, rfl, rfl, .inl (.inl h7), atI_nat e8, ?_⟩
  have kk' : ∀ p ∈ (Fs.set i []).flatten, p ∈ Fs.flatten := fun p hp => (set_sub (i := i)).subset hp
  exact ⟨kp, _, ⟨at1.same, at1.zin, ⟨Fs.set i [], (hsl.st (RB.own fun p hp => by rw [heo]; exact kk' p hp) fun _ _ => rfl).set (s := sAt ws kk) ⟨rfl, v3, rfl, e8⟩ i, rfl⟩, nd.sublist set_sub, fun p hp => at1.new p (by rw [heo]; exact kk' p hp), fun a o z => RX.own (md := .sh) (H := H1) (fun p hp => by rw [heo]; exact kk' p hp) a o (at1.kept a o z)⟩, q'⟩
end
section
end
section
end
section
end
section
variable {g : G} {L : List Slot} {e : Expr} {α δ τ : Type} {S : Ty α} {Lt : τ → List Slot} {pos : Pos} {st : List Stmt} {D : δ → Out}
/-- return f(x), where f changes x and the def changes nothing that it was handed -/
theorem evb_retXf {m : M (α × τ)} {mk : α × τ → δ} (hD : ∀ r, D (mk r) = .rt false S r.1) (he : EvX g L e (wV S) Lt m) : EvB g L (.Return (some e) pos :: st) D (m.bind fun r => .ok (mk r)) := by
  refine PSs.imp (PSs.head (ps_ret he)) fun E σ H ⟨kp, own, at_, q⟩ => ?_
  refine ⟨kp, own, at_, ?_⟩
  cases m with
  | ok r =>
    intro v F H' own' a' nd n1 kpt al ⟨e, r1⟩
    subst e
    have q : OutOk g.fm kp E (D (mk r)) := q
    rw [hD] at q
    exact q v H' a'.same (S.mono r1 (RD.drop fun _ h => nomatch h))
  | ex c => exact fun H' own' a' => q σ H' own' a'
  | no => exact q
end
end Hd
namespace Hd
open PySem PySem.Spec L2
def Okm {α : Type} (m : M α) (P : α → Prop) : Prop := ∃ a, m = .ok a ∧ P a
section
variable {α β γ ρ : Type} {m : M α} {f : α → M β} {P P' : α → Prop} {Q : β → Prop}
theorem okv {a : α} (h : P a) : Okm (.ok a) P := ⟨a, rfl, h⟩
theorem okb (h : Okm m P) (k : ∀ a, P a → Okm (f a) Q) : Okm (m.bind f) Q := by
  obtain ⟨a, rfl, ha⟩ := h
  exact k a ha
theorem okmono (h : Okm m P) (k : ∀ a, P a → P' a) : Okm m P' := by
  obtain ⟨a, e, ha⟩ := h
  exact ⟨a, e, k a ha⟩
theorem okif {c : Bool} {a b : M α} (h1 : c = true → Okm a P) (h2 : c = false → Okm b P) : Okm (if c = true then a else b) P := by
  cases c with
  | true => exact h1 rfl
  | false => exact h2 rfl
theorem oke {a : α} (h : Okm m (· = a)) : m = .ok a := by
  obtain ⟨b, e, rfl⟩ := h
  exact e
theorem ok_mod {x y : Int} (h : 0 < y) : Okm (modM x y) (· = x % y) := by unfold modM; rw [if_pos h]; exact okv rfl
theorem ok_div {x y : Int} (h : 0 < y) (h2 : y < 2 ^ 64) : Okm (divM x y) (· = x / y) := by
  unfold divM
  rw [if_pos ⟨h, Nat.lt_of_lt_of_le (show y.natAbs < 2 ^ 64 by omega) (Nat.pow_le_pow_right (by decide) (by decide))⟩]
  exact okv rfl
theorem ok_mul {x y : Int} (n m : Nat) (h : x.natAbs < 2 ^ n) (h2 : y.natAbs < 2 ^ m) (hn : n ≤ 10000 := by decide) (hm : m ≤ 10000 := by decide) : Okm (mulM x y) (· = x * y) := by
  unfold mulM
  rw [if_pos ⟨Nat.lt_of_lt_of_le h (Nat.pow_le_pow_right (by decide) hn), Nat.lt_of_lt_of_le h2 (Nat.pow_le_pow_right (by decide) hm)⟩]
  exact okv rfl
theorem getM_at {xs : List α} {i : Int} {v : α} (h0 : 0 ≤ i) (h : xs[i.toNat]? = some v) : getM xs i = .ok v := by
  have hl : i.toNat < xs.length := (List.getElem?_eq_some_iff.mp h).1
  unfold getM L2.atI L2.ixN
  rw [if_pos h0, if_pos (by omega)]
  show (match xs[i.toNat]? with | some d => M.ok d | none => .no) = _
  rw [h]
theorem getM_nat {xs : List α} {i : Nat} {v : α} (h : xs[i]? = some v) : getM xs (i : Int) = .ok v := getM_at (by omega) (by rw [Int.toNat_natCast]; exact h)
theorem ok_get {xs : List α} {i : Int} (h0 : 0 ≤ i) (h1 : i < xs.length) : Okm (getM xs i) (fun v => xs[i.toNat]? = some v) := by
  have hl : i.toNat < xs.length := by omega
  exact ⟨xs[i.toNat], getM_at h0 (by simp [hl]), by simp [hl]⟩
theorem getM_last {xs : List α} {v : α} (h : xs.getLast? = some v) : getM xs (-1) = .ok v := by
  have hne : xs ≠ [] := fun e => by rw [e] at h; cases h
  have hl : 0 < xs.length := List.length_pos_iff.mpr hne
  unfold getM L2.atI L2.ixN
  rw [if_neg (by decide), if_pos (by omega)]
  show (match xs[(-1 + (xs.length : Int)).toNat]? with | some d => M.ok d | none => .no) = _
  rw [show (-1 + (xs.length : Int)).toNat = xs.length - 1 by omega, ← List.getLast?_eq_getElem?, h]
theorem getS_at {x : Tx} {i : Int} {c : Nat} (h0 : 0 ≤ i) (h : x[i.toNat]? = some c) : getS x i = .ok [c] := by
  have hl : i.toNat < x.length := (List.getElem?_eq_some_iff.mp h).1
  unfold getS L2.atI L2.ixN
  rw [if_pos h0, if_pos (by omega)]
  show (match x[i.toNat]? with | some d => M.ok [d] | none => .no) = _
  rw [h]
theorem getS_nat {x : Tx} {i : Nat} {c : Nat} (h : x[i]? = some c) : getS x (i : Int) = .ok [c] := getS_at (by omega) (by rw [Int.toNat_natCast]; exact h)
theorem ok_push {xs : List α} {d : α} (h : xs.length < 1000000) : Okm (pushM xs d) (· = xs ++ [d]) := by
  unfold pushM
  rw [if_pos (Nat.lt_trans h (by decide))]
  exact okv rfl
theorem ok_set {xs : List α} {i : Int} {d : α} (h0 : 0 ≤ i) (h1 : i < xs.length) : Okm (setM xs i d) (· = xs.set i.toNat d) := by
  unfold setM L2.ixN
  rw [if_pos h0, if_pos h1]
  exact okv rfl
theorem ok_cat {x y : Tx} (h : x.length + y.length ≤ 1000000) : Okm (catS x y) (· = x ++ y) := by
  unfold catS
  rw [if_pos (Nat.le_trans h (by decide))]
  exact okv rfl
theorem ok_catL {x y : List α} (h : x.length + y.length ≤ 1000000) : Okm (catL x y) (· = x ++ y) := by
  unfold catL
  rw [if_pos (Nat.le_trans h (by decide))]
  exact okv rfl
theorem flat_rep1 {d : α} : ∀ n, (List.replicate n [d]).flatten = List.replicate n d
  | 0 => rfl
  | n + 1 => by rw [List.replicate_succ, List.flatten_cons, flat_rep1 n]; rfl
theorem ok_rep1 {d : α} {n : Int} (h : n < 1000000) (h' : -1000000 < n) : Okm (repM [d] n) (· = List.replicate n.toNat d) := by
  unfold repM
  rw [if_pos ⟨by omega, by omega, by
    have : ([d] : List α).length * n.toNat ≤ 1000000 := by simp; omega
    exact Nat.le_trans this (by decide)⟩, flat_rep1]
  exact okv rfl
theorem ok_range {lo hi : Int} (h1 : -(2 ^ 62) ≤ lo := by omega) (h2 : lo < 2 ^ 62 := by omega) (h3 : -(2 ^ 62) ≤ hi := by omega) (h4 : hi < 2 ^ 62 := by omega) : Okm (rangeM lo hi) (· = upFrom lo (hi - lo).toNat) := by
  unfold rangeM
  rw [if_pos ⟨h1, h2, h3, h4⟩]
  exact okv rfl
theorem range_eq {lo hi : Int} (h1 : -(2 ^ 62) ≤ lo := by omega) (h2 : lo < 2 ^ 62 := by omega) (h3 : -(2 ^ 62) ≤ hi := by omega) (h4 : hi < 2 ^ 62 := by omega) : rangeM lo hi = .ok (upFrom lo (hi - lo).toNat) := oke (ok_range h1 h2 h3 h4)
theorem upFrom_mem {lo x : Int} {n : Nat} : x ∈ upFrom lo n ↔ lo ≤ x ∧ x < lo + n := by
  induction n generalizing lo with
  | zero => simp [upFrom]
  | succ n ih => rw [upFrom, List.mem_cons, ih]; push_cast; omega
theorem ok_for {f : β → α → M β} {s0 : β} {xs : List α} (I : Nat → β → Prop) (h0 : I 0 s0) (hs : ∀ i x s, xs[i]? = some x → I i s → Okm (f s x) (I (i + 1))) : Okm (forM f s0 xs) (I xs.length) := by
  induction xs generalizing s0 I with
  | nil => exact okv h0
  | cons x r ih =>
    refine okb (hs 0 x s0 rfl h0) fun s1 h1 => ?_
    exact ih (fun i => I (i + 1)) h1 fun i y s e h => hs (i + 1) y s (by simpa using e) h
theorem ok_forR {f : β → Int → M β} {s0 : β} {lo : Int} {n : Nat} (I : Nat → β → Prop) (h0 : I 0 s0) (hs : ∀ i s, i < n → I i s → Okm (f s (lo + i)) (I (i + 1))) : Okm (forM f s0 (upFrom lo n)) (I n) := by
  have h := ok_for (f := f) (xs := upFrom lo n) I h0 fun i x s e h => by
    rw [upFrom_get] at e
    by_cases hi : i < n
    · rw [if_pos hi] at e
      cases e
      exact hs i s hi h
    · rw [if_neg hi] at e; cases e
  rwa [upFrom_len] at h
/-- an invariant without a place -/
theorem ok_forI {f : β → α → M β} {s0 : β} {xs : List α} (I : β → Prop) (h0 : I s0) (hs : ∀ x ∈ xs, ∀ s, I s → Okm (f s x) I) : Okm (forM f s0 xs) I := ok_for (fun _ => I) h0 fun _ x s e h => hs x (List.mem_of_getElem? e) s h
theorem comp_eq {h : α → M (Option β)} {g : α → Option β} {xs : List α} (hl : xs.length ≤ 1000000) (hs : ∀ x ∈ xs, h x = .ok (g x)) : compM h xs = .ok (xs.filterMap g) := by
  unfold compM
  rw [if_pos (Nat.le_trans hl (by decide))]
  clear hl
  induction xs with
  | nil => rfl
  | cons x r ih =>
    show ((h x).nox.bind fun o => (compG h r).bind fun l => M.ok (o.toList ++ l)) = _
    rw [hs x List.mem_cons_self, ih fun y hy => hs y (List.mem_cons_of_mem _ hy)]
    show M.ok ((g x).toList ++ r.filterMap g) = _
    rw [List.filterMap_cons]
    cases g x <;> rfl
theorem comp_map {h : α → M (Option β)} {g : α → β} {xs : List α} (hl : xs.length ≤ 1000000) (hs : ∀ x ∈ xs, h x = .ok (some (g x))) : compM h xs = .ok (xs.map g) := by
  rw [comp_eq (g := fun x => some (g x)) hl hs]
  congr 1
  induction xs with
  | nil => rfl
  | cons x r ih => rw [List.filterMap_cons]; simp only [List.map_cons]; rw [ih (by simp at hl; omega) fun y hy => hs y (List.mem_cons_of_mem _ hy)]
end
theorem tx_hash : tx "#" = [35] := by decide +kernel
theorem tx_dot : tx "." = [46] := by decide +kernel
theorem tx_nil : tx "" = [] := by decide +kernel
theorem sIx_at {n d : Nat} {i : Int} (h0 : 0 ≤ i) (h : i ≤ n) : HT.sIx n d (some i) = i.toNat := by
  simp only [HT.sIx]
  split <;> omega
theorem cut_mid {α : Type} {xs : List α} {a b : Int} (h0 : 0 ≤ a) (h1 : a ≤ b) (h2 : b ≤ xs.length) : cutL xs (some a) (some b) = (xs.drop a.toNat).take (b.toNat - a.toNat) := by
  unfold cutL; rw [sIx_at h0 (by omega), sIx_at (by omega) h2]
theorem cut_from {α : Type} {xs : List α} {a : Int} (h0 : 0 ≤ a) (h1 : a ≤ xs.length) : cutL xs (some a) none = xs.drop a.toNat := by
  unfold cutL; rw [sIx_at h0 (by omega)]
  show (xs.drop a.toNat).take (xs.length - a.toNat) = _
  rw [List.take_of_length_le (by rw [List.length_drop]; exact Nat.le_refl _)]
theorem cut_to {α : Type} {xs : List α} {b : Int} (h0 : 0 ≤ b) (h1 : b ≤ xs.length) : cutL xs none (some b) = xs.take b.toNat := by
  unfold cutL; rw [sIx_at h0 (by omega)]
  rfl
theorem join_nil_eq : ∀ xs : List Tx, TL.joinL [] xs = xs.flatten
  | [] => rfl
  | [x] => by simp [TL.joinL]
  | x :: y :: r => by rw [TL.joinL, join_nil_eq (y :: r)]; simp
theorem ok_join {xs : List Tx} (h : (xs.map List.length).sum ≤ 1000000) : Okm (joinM [] xs) (· = xs.flatten) := by
  unfold joinM
  rw [if_pos (by simp; omega), join_nil_eq]
  exact okv rfl
/-- a cloth's rows -/
structure Cloth (rows : List Tx) (w h : Nat) : Prop where
  hh : rows.length = h
  ww : ∀ r ∈ rows, r.length = w
  sg : ∀ r ∈ rows, ∀ c ∈ r, c = 35 ∨ c = 46
  w1 : 1 ≤ w
  w2 : w ≤ 40
  h1 : 1 ≤ h
  h2 : h ≤ 40
end Hd
set_option maxHeartbeats 0
namespace Hd
open PySem PySem.Spec L2
def topS (i : Nat) : Stmt := PySem.Challenge.pw_heddle_k35_taken_apart.main.body.getD i (.Pass ⟨0, 0, 0, 0⟩)
def dds : List He.DefD := ([⟨("_law_numbers", none), "_law_numbers", "_law_numbers", defArgs (topS 19), defBody (topS 19), defScope (topS 19), [], []⟩, ⟨("_law_cloth", none), "_law_cloth", "_law_cloth", defArgs (topS 20), defBody (topS 20), defScope (topS 20), [], []⟩, ⟨("measured", none), "measured", "measured", defArgs (topS 6), defBody (topS 6), defScope (topS 6), [], []⟩, ⟨("scores_of", none), "scores_of", "scores_of", defArgs (topS 8), defBody (topS 8), defScope (topS 8), [], []⟩, ⟨("by_count", none), "by_count", "by_count", defArgs (topS 10), defBody (topS 10), defScope (topS 10), [], []⟩, ⟨("running_sums", none), "running_sums", "running_sums", defArgs (topS 11), defBody (topS 11), defScope (topS 11), [], []⟩, ⟨("tops_of", none), "tops_of", "tops_of", defArgs (topS 12), defBody (topS 12), defScope (topS 12), [], []⟩, ⟨("layers_of", none), "layers_of", "layers_of", defArgs (topS 13), defBody (topS 13), defScope (topS 13), [], []⟩, ⟨("row_cut", none), "row_cut", "row_cut", defArgs (topS 15), defBody (topS 15), defScope (topS 15), [], []⟩, ⟨("cut_out", none), "cut_out", "cut_out", defArgs (topS 16), defBody (topS 16), defScope (topS 16), [], []⟩, ⟨("taken_apart", none), "taken_apart", "taken_apart", defArgs (topS 17), defBody (topS 17), defScope (topS 17), [], []⟩, ⟨("_law_owned", none), "_law_owned", "_law_owned", defArgs (topS 23), defBody (topS 23), defScope (topS 23), [], []⟩, ⟨("_law_formed", none), "_law_formed", "_law_formed", defArgs (topS 24), defBody (topS 24), defScope (topS 24), [], []⟩, ⟨("_law_reached", none), "_law_reached", "_law_reached", defArgs (topS 21), defBody (topS 21), defScope (topS 21), [], []⟩, ⟨("_law_hangs", none), "_law_hangs", "_law_hangs", defArgs (topS 22), defBody (topS 22), defScope (topS 22), [], []⟩, ⟨("_law_lies", none), "_law_lies", "_law_lies", defArgs (topS 25), defBody (topS 25), defScope (topS 25), [], []⟩, ⟨("_law_lone", none), "_law_lone", "_law_lone", defArgs (topS 26), defBody (topS 26), defScope (topS 26), [], []⟩, ⟨("_law_told_again", none), "_law_told_again", "_law_told_again", defArgs (topS 27), defBody (topS 27), defScope (topS 27), [], []⟩, ⟨("law", none), "law", "law", defArgs (topS 28), defBody (topS 28), defScope (topS 28), [], []⟩] : List He.DefD)
def fas : List He.Fa := ([.glo "_law_numbers", .glo "_law_cloth", .glo "measured", .glo "scores_of", .glo "by_count", .glo "running_sums", .glo "tops_of", .glo "layers_of", .glo "row_cut", .glo "cut_out", .glo "taken_apart", .glo "_law_owned", .glo "_law_formed", .glo "_law_reached", .glo "_law_hangs", .glo "_law_lies", .glo "_law_lone", .glo "_law_told_again", .glo "law", .free "all", .free "bool", .free "int", .free "isinstance", .free "len", .free "list", .free "range", .free "sorted", .free "str", .free "tuple", .int "MOST_STRANDS" 40] : List He.Fa) ++ ([.glo "NoCloth", .exc "NoCloth"] : List He.Fa)
def loose : List Str := (["_wall", "WeaveError", "NoCloth", "MOST_STRANDS", "measured", "scores_of", "by_count", "running_sums", "tops_of", "layers_of", "row_cut", "cut_out", "taken_apart", "_law_numbers", "_law_cloth", "_law_reached", "_law_hangs", "_law_owned", "_law_formed", "_law_lies", "_law_lone", "_law_told_again"] : List Str)
abbrev hdR : PySem.W.OpenRow := PySem.W.OpenLaw.row PySem.Challenge.rw_heddle_k35_taken_apart
abbrev hk : PySem.W.Hook := He.hookX 6 fas dds [] [("by_count", none)] (fun _ => true)
def ob (s : PySem.W.SharedT) : He.AlX := He.obsX 6 fas dds [] [("by_count", none)] (fun _ => true) (HandSHeadRun.getT s)
theorem ob_eq (s : PySem.W.SharedT) : ob s = hk.obs s.abs := He.obsX_eq (HandSHeadRun.getT_eq s)
theorem run (w : World) : HandSHeadRun.RunEq hdR (PySem.W.view hdR.prog [28]) hk ob 3000 loose w := by intro os; kernel_rfl
structure Facts (p : Pr) : Prop where
  g_all : p.mg "all" = none
  g_bool : p.mg "bool" = none
  g_int : p.mg "int" = none
  g_isinstance : p.mg "isinstance" = none
  g_len : p.mg "len" = none
  g_list : p.mg "list" = none
  g_range : p.mg "range" = none
  g_sorted : p.mg "sorted" = none
  g_str : p.mg "str" = none
  g_tuple : p.mg "tuple" = none
  c_MOST_STRANDS : ∃ t, p.mg "MOST_STRANDS" = some (.int 40 t)
  x_NoCloth : ExF p "NoCloth" .noCloth
  d__law_numbers : ∃ f fd, FunD p.K "_law_numbers" "_law_numbers" (defArgs (topS 19)) (defBody (topS 19)) (defScope (topS 19)) [] [] f fd ∧ p.mg "_law_numbers" = some (.ref f)
  d__law_cloth : ∃ f fd, FunD p.K "_law_cloth" "_law_cloth" (defArgs (topS 20)) (defBody (topS 20)) (defScope (topS 20)) [] [] f fd ∧ p.mg "_law_cloth" = some (.ref f)
  d_measured : ∃ f fd, FunD p.K "measured" "measured" (defArgs (topS 6)) (defBody (topS 6)) (defScope (topS 6)) [] [] f fd ∧ p.mg "measured" = some (.ref f)
  d_scores_of : ∃ f fd, FunD p.K "scores_of" "scores_of" (defArgs (topS 8)) (defBody (topS 8)) (defScope (topS 8)) [] [] f fd ∧ p.mg "scores_of" = some (.ref f)
  d_by_count : ∃ f fd, FunD p.K "by_count" "by_count" (defArgs (topS 10)) (defBody (topS 10)) (defScope (topS 10)) [] [] f fd ∧ p.mg "by_count" = some (.ref f) ∧ ∃ c P, fd.code = .ref c ∧ p.T = some P ∧ LamX.TabB p.base p.mg c P
  d_running_sums : ∃ f fd, FunD p.K "running_sums" "running_sums" (defArgs (topS 11)) (defBody (topS 11)) (defScope (topS 11)) [] [] f fd ∧ p.mg "running_sums" = some (.ref f)
  d_tops_of : ∃ f fd, FunD p.K "tops_of" "tops_of" (defArgs (topS 12)) (defBody (topS 12)) (defScope (topS 12)) [] [] f fd ∧ p.mg "tops_of" = some (.ref f)
  d_layers_of : ∃ f fd, FunD p.K "layers_of" "layers_of" (defArgs (topS 13)) (defBody (topS 13)) (defScope (topS 13)) [] [] f fd ∧ p.mg "layers_of" = some (.ref f)
  d_row_cut : ∃ f fd, FunD p.K "row_cut" "row_cut" (defArgs (topS 15)) (defBody (topS 15)) (defScope (topS 15)) [] [] f fd ∧ p.mg "row_cut" = some (.ref f)
  d_cut_out : ∃ f fd, FunD p.K "cut_out" "cut_out" (defArgs (topS 16)) (defBody (topS 16)) (defScope (topS 16)) [] [] f fd ∧ p.mg "cut_out" = some (.ref f)
  d_taken_apart : ∃ f fd, FunD p.K "taken_apart" "taken_apart" (defArgs (topS 17)) (defBody (topS 17)) (defScope (topS 17)) [] [] f fd ∧ p.mg "taken_apart" = some (.ref f)
  d__law_owned : ∃ f fd, FunD p.K "_law_owned" "_law_owned" (defArgs (topS 23)) (defBody (topS 23)) (defScope (topS 23)) [] [] f fd ∧ p.mg "_law_owned" = some (.ref f)
  d__law_formed : ∃ f fd, FunD p.K "_law_formed" "_law_formed" (defArgs (topS 24)) (defBody (topS 24)) (defScope (topS 24)) [] [] f fd ∧ p.mg "_law_formed" = some (.ref f)
  d__law_reached : ∃ f fd, FunD p.K "_law_reached" "_law_reached" (defArgs (topS 21)) (defBody (topS 21)) (defScope (topS 21)) [] [] f fd ∧ p.mg "_law_reached" = some (.ref f)
  d__law_hangs : ∃ f fd, FunD p.K "_law_hangs" "_law_hangs" (defArgs (topS 22)) (defBody (topS 22)) (defScope (topS 22)) [] [] f fd ∧ p.mg "_law_hangs" = some (.ref f)
  d__law_lies : ∃ f fd, FunD p.K "_law_lies" "_law_lies" (defArgs (topS 25)) (defBody (topS 25)) (defScope (topS 25)) [] [] f fd ∧ p.mg "_law_lies" = some (.ref f)
  d__law_lone : ∃ f fd, FunD p.K "_law_lone" "_law_lone" (defArgs (topS 26)) (defBody (topS 26)) (defScope (topS 26)) [] [] f fd ∧ p.mg "_law_lone" = some (.ref f)
  d__law_told_again : ∃ f fd, FunD p.K "_law_told_again" "_law_told_again" (defArgs (topS 27)) (defBody (topS 27)) (defScope (topS 27)) [] [] f fd ∧ p.mg "_law_told_again" = some (.ref f)
  d_law : ∃ f fd, FunD p.K "law" "law" (defArgs (topS 28)) (defBody (topS 28)) (defScope (topS 28)) [] [] f fd ∧ p.mg "law" = some (.ref f)
abbrev s__law_numbers : Stmt := (topS 19)
abbrev N__law_numbers : List Str := ["script", "many", "found", "step", "k"]
abbrev V__law_numbers : List Str := ["script", "many", "found", "step", "k"]
abbrev G__law_numbers : List Str := ["len", "range"]
theorem sc__law_numbers : Sc s__law_numbers N__law_numbers V__law_numbers ["script", "many"] G__law_numbers := ⟨⟨rfl, rfl, rfl, by decide +kernel, rfl, by decide +kernel, by decide +kernel⟩, by decide +kernel, by decide +kernel, by decide +kernel⟩
def r_f_law_numbers_l1  : ((List Int) × Int) → Int → M ((List Int) × Int) := fun s17 k18 => M.bind (M.bind (M.bind (M.ok s17.2) fun y20 => M.ok (y20 * (48271 : Int))) fun y21 => M.ok (y21 % (2147483647 : Int))) fun step19 => M.bind (M.bind (M.bind (M.ok step19) fun y23 => M.ok (y23 / (16 : Int))) fun y24 => M.ok (y24 % (1000000 : Int))) fun y25 => M.bind (pushM s17.1 y25) fun found22 => M.ok (found22, step19)
def f_law_numbers_l1  : ((List Int) × Int) → Int → M ((List Int) × Int) := fun s17 k18 => let step19 : Int := ((s17.2 * (48271 : Int)) % (2147483647 : Int)); M.bind (pushM s17.1 ((step19 / (16 : Int)) % (1000000 : Int))) fun found22 => M.ok (found22, step19)
theorem eq_f_law_numbers_l1  : r_f_law_numbers_l1  = f_law_numbers_l1  := by funext s17 k18; first | (simp only [r_f_law_numbers_l1, f_law_numbers_l1, M.bind_assoc, M.bok]; done) | (simp only [r_f_law_numbers_l1, f_law_numbers_l1, M.bind_assoc, M.bok]; rfl)
def r_f_law_numbers_l2 (script1 : (List Int)) (many2 : Int) : ((List Int)) → Int → M ((List Int)) := fun s30 k31 => M.bind (M.bind (M.bind (M.bind (M.ok s30) fun y34 => M.bind (M.bind (M.ok k31) fun y32 => M.bind (M.ok many2) fun y33 => modM y32 y33) fun y35 => getM y34 y35) fun y38 => M.bind (M.bind (M.ok script1) fun y36 => M.bind (M.ok k31) fun y37 => getM y36 y37) fun y39 => M.ok (y38 + y39)) fun y40 => M.ok (y40 % (1000000 : Int))) fun y43 => M.bind (M.bind (M.ok k31) fun y41 => M.bind (M.ok many2) fun y42 => modM y41 y42) fun i44 => M.bind (setM s30 i44 y43) fun found45 => M.ok found45
def f_law_numbers_l2 (script1 : (List Int)) (many2 : Int) : ((List Int)) → Int → M ((List Int)) := fun s30 k31 => M.bind (M.bind (M.bind (M.bind (modM k31 many2) fun y35 => getM s30 y35) fun y38 => M.bind (getM script1 k31) fun y39 => M.ok (y38 + y39)) fun y40 => M.ok (y40 % (1000000 : Int))) fun y43 => M.bind (modM k31 many2) fun i44 => M.bind (setM s30 i44 y43) fun found45 => M.ok found45
theorem eq_f_law_numbers_l2 (script1 : (List Int)) (many2 : Int) : r_f_law_numbers_l2 script1 many2 = f_law_numbers_l2 script1 many2 := by funext s30 k31; first | (simp only [r_f_law_numbers_l2, f_law_numbers_l2, M.bind_assoc, M.bok, eq_f_law_numbers_l1]; done) | (simp only [r_f_law_numbers_l2, f_law_numbers_l2, M.bind_assoc, M.bok, eq_f_law_numbers_l1]; rfl)
def q__law_numbers (script1 : (List Int)) (many2 : Int) : M (List Int) := M.bind (M.ok []) fun found3 => M.bind (M.ok (1 : Int)) fun step4 => M.bind (M.bind (M.bind (M.ok script1) fun y5 => M.ok (y5.length : Int)) fun y6 => M.bind (M.ok (0 : Int)) fun y7 => M.ok (decide (y7 < y6))) fun c8 => M.bind (if c8 = true then M.bind (M.bind (M.ok (1 : Int)) fun y13 => M.bind (M.bind (M.bind (M.ok script1) fun y10 => M.bind (M.ok (0 : Int)) fun y11 => getM y10 y11) fun y12 => M.ok (y12 % (2147483646 : Int))) fun y14 => M.ok (y13 + y14)) fun step9 => M.ok step9 else M.ok step4) fun (s15 : (Int)) => M.bind (M.bind (M.ok many2) fun y16 => rangeM 0 y16) fun xs26 => M.bind (forM r_f_law_numbers_l1 (found3, s15) xs26) fun (s27 : ((List Int) × Int)) => M.bind (M.bind (M.bind (M.ok script1) fun y28 => M.ok (y28.length : Int)) fun y29 => rangeM 0 y29) fun xs46 => M.bind (forM (r_f_law_numbers_l2 script1 many2) s27.1 xs46) fun (s47 : ((List Int))) => M.ok s47
def f_law_numbers (script1 : (List Int)) (many2 : Int) : M (List Int) := let found3 : (List Int) := []; let step4 : Int := (1 : Int); M.bind (if (decide ((0 : Int) < (script1.length : Int))) = true then M.bind (M.bind (M.bind (getM script1 (0 : Int)) fun y12 => M.ok (y12 % (2147483646 : Int))) fun y14 => M.ok ((1 : Int) + y14)) fun step9 => M.ok step9 else M.ok step4) fun (s15 : (Int)) => M.bind (rangeM 0 many2) fun xs26 => M.bind (forM f_law_numbers_l1 (found3, s15) xs26) fun (s27 : ((List Int) × Int)) => M.bind (rangeM 0 (script1.length : Int)) fun xs46 => M.bind (forM (f_law_numbers_l2 script1 many2) s27.1 xs46) fun (s47 : ((List Int))) => M.ok s47
def r__law_numbers (d : ((List Int) × Int × Unit)) : M (List Int) := q__law_numbers d.1 d.2.1
def c__law_numbers (d : ((List Int) × Int × Unit)) : M (List Int) := f_law_numbers d.1 d.2.1
theorem eq__law_numbers : r__law_numbers = c__law_numbers := by funext d; first | (simp only [r__law_numbers, c__law_numbers, q__law_numbers, f_law_numbers, M.bind_assoc, M.bok, eq_f_law_numbers_l1, eq_f_law_numbers_l2]; done) | (simp only [r__law_numbers, c__law_numbers, q__law_numbers, f_law_numbers, M.bind_assoc, M.bok, eq_f_law_numbers_l1, eq_f_law_numbers_l2]; rfl)
theorem bb__law_numbers {p : Pr} (X : Facts p) {g : G} (ok : OkS p (defScope s__law_numbers) N__law_numbers V__law_numbers G__law_numbers 0 g) (hX : g.LX = List.replicate N__law_numbers.length sAny) (script1 : (List Int)) (many2 : Int) : EvB g [(sV false (tListK p.K tInt) script1), (sV false tInt many2), sAny, sAny, sAny] (defBody s__law_numbers) (fun r => .rtL false tInt r) (q__law_numbers script1 many2) := (evb_own ok (i := 2) (j := 2) rfl rfl (wkX hX rfl) .sh (evl_nil (md := .sh) (S := tInt)) fun found3 => (evb_set ok (i := 3) (j := 3) rfl rfl (wkX hX rfl) .sh (ev_int (md := .sh)) fun step4 => (evb_if (LJ := (fun (s15 : (Int)) => [(sV false (tListK p.K tInt) script1), (sV false tInt many2), (sOwn false tInt found3), (sV false tInt s15), sAny])) (wkX hX rfl) (evt_c ok.toOk c_gt (ev_lenQ (md' := .sh) ok.toOk sq_k (j := 0) rfl X.g_len (ev_vsh ok.toOk (i := 0) (j := 0) rfl rfl rfl)) (ev_int (md := .sh))) (evb_set ok (i := 3) (j := 3) rfl rfl (wkX hX rfl) .sh (ev_add (md' := .sh) ok.toOk (ev_int (md := .sh)) (ev_modC (md' := .sh) ok.toOk (by decide) (ev_ixQ ok.toOk sq_k (ev_vsh ok.toOk (i := 0) (j := 0) rfl rfl rfl) (ev_int (md := .sh))) (ev_int (md := .sh)))) fun step9 => (evb_nx (by rfl) (Wk.s (Wk.s (Wk.s (Wk.s (Wk.s Wk.n))))))) (evb_nx (by rfl) (Wk.s (Wk.s (Wk.s (Wk.s (Wk.s Wk.n)))))) fun s15 => (evb_for (LF := (fun (s17 : ((List Int) × Int)) => [(sV false (tListK p.K tInt) script1), (sV false tInt many2), (sOwn false tInt s17.1), (sV false tInt s17.2), sAny])) (s0 := (found3, s15)) ok (wkX hX rfl) (evi_range1 ok.toOk (j := 1) rfl X.g_range (ev_vsh ok.toOk (i := 1) (j := 1) rfl rfl rfl)) (Wk.s (Wk.s (Wk.s (Wk.s (Wk.s Wk.n))))) (fun _ => evg_name ok (i := 4) (j := 4) rfl rfl) (fun s17 k18 => (evb_set ok (i := 3) (j := 3) rfl rfl (wkX hX rfl) .sh (ev_modC (md' := .sh) ok.toOk (by decide) (ev_mulC (md' := .sh) ok.toOk (by decide) (ev_vsh ok.toOk (i := 3) (j := 3) rfl rfl rfl) (ev_int (md := .sh))) (ev_int (md := .sh))) fun step19 => (evb_append ok (wkX hX rfl) (i := 2) (j := 2) rfl rfl rfl .sh (ev_modC (md' := .sh) ok.toOk (by decide) (ev_divC (md' := .sh) ok.toOk (by decide) (by decide) (ev_vsh ok.toOk (i := 3) (j := 3) rfl rfl rfl) (ev_int (md := .sh))) (ev_int (md := .sh))) fun found22 => (evb_go (by rfl) (Wk.s (Wk.s (Wk.s (Wk.s (Wk.a Wk.n))))))))) fun s27 => (evb_for (LF := (fun (s30 : ((List Int))) => [(sV false (tListK p.K tInt) script1), (sV false tInt many2), (sOwn false tInt s30), (sV false tInt s27.2), sAny])) (s0 := s27.1) ok (wkX hX rfl) (evi_range1 ok.toOk (j := 1) rfl X.g_range (ev_lenQ (md' := .sh) ok.toOk sq_k (j := 0) rfl X.g_len (ev_vsh ok.toOk (i := 0) (j := 0) rfl rfl rfl))) (Wk.s (Wk.s (Wk.s (Wk.s (Wk.s Wk.n))))) (fun _ => evg_name ok (i := 4) (j := 4) rfl rfl) (fun s30 k31 => (evb_setitem ok (wkX hX rfl) (i := 2) (j := 2) rfl rfl rfl .sh (ev_borrow (i := 2) (.inl flInt) rfl (ev_modC (md' := .sh) ok.toOk (by decide) (ev_add (md' := .sh) ok.toOk (ev_ixQ ok.toOk sq_l (ev_vsh ok.toOk (i := 2) (j := 2) rfl rfl rfl) (ev_mod (md' := .sh) ok.toOk (ev_vsh ok.toOk (i := 4) (j := 4) rfl rfl rfl) (ev_vsh ok.toOk (i := 1) (j := 1) rfl rfl rfl))) (ev_ixQ ok.toOk sq_k (ev_vsh ok.toOk (i := 0) (j := 0) rfl rfl rfl) (ev_vsh ok.toOk (i := 4) (j := 4) rfl rfl rfl))) (ev_int (md := .sh)))) (ev_mod (md' := .sh) ok.toOk (ev_vsh ok.toOk (i := 4) (j := 4) rfl rfl rfl) (ev_vsh ok.toOk (i := 1) (j := 1) rfl rfl rfl)) fun found45 => (evb_go (by rfl) (Wk.s (Wk.s (Wk.s (Wk.s (Wk.a Wk.n)))))))) fun s47 => (evb_retOwn ok.toOk (i := 2) (j := 2) rfl rfl rfl (.inl rfl) (by rfl)))))))
theorem b__law_numbers {p : Pr} (X : Facts p) : Body p s__law_numbers N__law_numbers V__law_numbers G__law_numbers 0 (fun (d : ((List Int) × Int × Unit)) => [(sV false (tListK p.K tInt) d.1), (sV false tInt d.2.1), sAny, sAny, sAny]) (fun r => .rtL false tInt r) r__law_numbers := fun g ok hX d => bb__law_numbers X ok hX d.1 d.2.1
theorem fn__law_numbers {p : Pr} (X : Facts p) : Fn p 1 "_law_numbers" ["script", "many"] (spM p (aCons (tListK p.K tInt) (aCons tInt aNil)) (fun r => .rtL false tInt r) c__law_numbers) := by
  obtain ⟨f, fd, hF, hm⟩ := X.d__law_numbers
  exact ⟨f, fd, eq__law_numbers ▸ fn_rtL (m := 3) hF sc__law_numbers (.cons (.cons .nil)) rfl rfl (b__law_numbers X), hm, hF.kp, hF.bindsN fun _ _ _ _ _ _ us hl => match us, hl with | [_, _], _ => rfl⟩
abbrev s__law_cloth : Stmt := (topS 20)
abbrev N__law_cloth : List Str := ["numbers", "wide", "high", "layered", "rows", "j", "row", "k", "at", "bit", "up", "low"]
abbrev V__law_cloth : List Str := ["numbers", "wide", "high", "layered", "rows", "j", "row", "k", "at", "bit", "up", "low"]
abbrev G__law_cloth : List Str := ["range", "int"]
theorem sc__law_cloth : Sc s__law_cloth N__law_cloth V__law_cloth ["numbers", "wide", "high", "layered"] G__law_cloth := ⟨⟨rfl, rfl, rfl, by decide +kernel, rfl, by decide +kernel, by decide +kernel⟩, by decide +kernel, by decide +kernel, by decide +kernel⟩
def r_f_law_cloth_l1 (numbers1 : (List Int)) (layered4 : Int) (j8 : Int) : (Tx) → Int → M (Tx) := fun s11 k12 => M.bind (M.bind (M.bind (M.ok j8) fun y14 => M.ok (y14 * (40 : Int))) fun y15 => M.bind (M.ok k12) fun y16 => M.ok (y15 + y16)) fun at13 => M.bind (M.bind (M.bind (M.bind (M.ok numbers1) fun y21 => M.bind (M.bind (M.ok (8 : Int)) fun y19 => M.bind (M.bind (M.ok at13) fun y18 => M.ok (y18 % (55 : Int))) fun y20 => M.ok (y19 + y20)) fun y22 => getM y21 y22) fun y27 => M.bind (M.bind (M.ok (1 : Int)) fun y25 => M.bind (M.bind (M.bind (M.ok at13) fun y23 => M.ok (y23 / (55 : Int))) fun y24 => M.ok ((2 : Int) * y24)) fun y26 => M.ok (y25 + y26)) fun y28 => divM y27 y28) fun y29 => M.ok (y29 % (2 : Int))) fun bit17 => M.bind (M.bind (M.ok layered4) fun y30 => M.bind (M.ok (1 : Int)) fun y31 => M.ok (decide (y31 < y30))) fun c32 => M.bind (if c32 = true then M.bind (M.bind (M.bind (M.bind (M.ok numbers1) fun y38 => M.bind (M.bind (M.ok (8 : Int)) fun y36 => M.bind (M.bind (M.bind (M.ok k12) fun y34 => M.ok ((3 : Int) * y34)) fun y35 => M.ok (y35 % (55 : Int))) fun y37 => M.ok (y36 + y37)) fun y39 => getM y38 y39) fun y40 => M.ok (y40 / (7 : Int))) fun y41 => M.bind (M.ok layered4) fun y42 => modM y41 y42) fun up33 => M.bind (M.bind (M.bind (M.bind (M.ok numbers1) fun y50 => M.bind (M.bind (M.ok (8 : Int)) fun y48 => M.bind (M.bind (M.bind (M.bind (M.ok j8) fun y44 => M.ok ((3 : Int) * y44)) fun y45 => M.bind (M.ok (1 : Int)) fun y46 => M.ok (y45 + y46)) fun y47 => M.ok (y47 % (55 : Int))) fun y49 => M.ok (y48 + y49)) fun y51 => getM y50 y51) fun y52 => M.ok (y52 / (7 : Int))) fun y53 => M.bind (M.ok layered4) fun y54 => modM y53 y54) fun low43 => M.bind (M.bind (M.ok up33) fun y55 => M.bind (M.ok low43) fun y56 => M.ok (!decide (y55 = y56))) fun c57 => if c57 = true then M.bind (M.bind (M.bind (M.ok up33) fun y59 => M.bind (M.ok low43) fun y60 => M.ok (decide (y59 < y60))) fun y61 => M.ok (bInt y61)) fun bit58 => M.ok bit58 else M.ok bit17 else M.ok bit17) fun (s63 : (Int)) => M.bind (M.bind (M.ok s11) fun y67 => M.bind (M.bind (M.ok (tx ".#")) fun y65 => M.bind (M.ok s63) fun y66 => getS y65 y66) fun y68 => catS y67 y68) fun row64 => M.ok row64
def f_law_cloth_l1 (numbers1 : (List Int)) (layered4 : Int) (j8 : Int) : (Tx) → Int → M (Tx) := fun s11 k12 => let at13 : Int := ((j8 * (40 : Int)) + k12); M.bind (M.bind (M.bind (getM numbers1 ((8 : Int) + (at13 % (55 : Int)))) fun y27 => divM y27 ((1 : Int) + ((2 : Int) * (at13 / (55 : Int))))) fun y29 => M.ok (y29 % (2 : Int))) fun bit17 => M.bind (if (decide ((1 : Int) < layered4)) = true then M.bind (M.bind (M.bind (getM numbers1 ((8 : Int) + (((3 : Int) * k12) % (55 : Int)))) fun y40 => M.ok (y40 / (7 : Int))) fun y41 => modM y41 layered4) fun up33 => M.bind (M.bind (M.bind (getM numbers1 ((8 : Int) + ((((3 : Int) * j8) + (1 : Int)) % (55 : Int)))) fun y52 => M.ok (y52 / (7 : Int))) fun y53 => modM y53 layered4) fun low43 => if (!decide (up33 = low43)) = true then let bit58 : Int := (bInt (decide (up33 < low43))); M.ok bit58 else M.ok bit17 else M.ok bit17) fun (s63 : (Int)) => M.bind (M.bind (getS (tx ".#") s63) fun y68 => catS s11 y68) fun row64 => M.ok row64
theorem eq_f_law_cloth_l1 (numbers1 : (List Int)) (layered4 : Int) (j8 : Int) : r_f_law_cloth_l1 numbers1 layered4 j8 = f_law_cloth_l1 numbers1 layered4 j8 := by funext s11 k12; first | (simp only [r_f_law_cloth_l1, f_law_cloth_l1, M.bind_assoc, M.bok]; done) | (simp only [r_f_law_cloth_l1, f_law_cloth_l1, M.bind_assoc, M.bok]; rfl)
def r_f_law_cloth_l2 (numbers1 : (List Int)) (wide2 : Int) (layered4 : Int) : ((List Tx)) → Int → M ((List Tx)) := fun s7 j8 => M.bind (M.ok (tx "")) fun row9 => M.bind (M.bind (M.ok wide2) fun y10 => rangeM 0 y10) fun xs69 => M.bind (forM (r_f_law_cloth_l1 numbers1 layered4 j8) row9 xs69) fun (s70 : (Tx)) => M.bind (M.ok s70) fun y72 => M.bind (pushM s7 y72) fun rows71 => M.ok rows71
def f_law_cloth_l2 (numbers1 : (List Int)) (wide2 : Int) (layered4 : Int) : ((List Tx)) → Int → M ((List Tx)) := fun s7 j8 => let row9 : Tx := (tx ""); M.bind (rangeM 0 wide2) fun xs69 => M.bind (forM (f_law_cloth_l1 numbers1 layered4 j8) row9 xs69) fun (s70 : (Tx)) => M.bind (pushM s7 s70) fun rows71 => M.ok rows71
theorem eq_f_law_cloth_l2 (numbers1 : (List Int)) (wide2 : Int) (layered4 : Int) : r_f_law_cloth_l2 numbers1 wide2 layered4 = f_law_cloth_l2 numbers1 wide2 layered4 := by funext s7 j8; first | (simp only [r_f_law_cloth_l2, f_law_cloth_l2, M.bind_assoc, M.bok, eq_f_law_cloth_l1]; done) | (simp only [r_f_law_cloth_l2, f_law_cloth_l2, M.bind_assoc, M.bok, eq_f_law_cloth_l1]; rfl)
def q__law_cloth (numbers1 : (List Int)) (wide2 : Int) (high3 : Int) (layered4 : Int) : M (List Tx) := M.bind (M.ok []) fun rows5 => M.bind (M.bind (M.ok high3) fun y6 => rangeM 0 y6) fun xs73 => M.bind (forM (r_f_law_cloth_l2 numbers1 wide2 layered4) rows5 xs73) fun (s74 : ((List Tx))) => M.ok s74
def f_law_cloth (numbers1 : (List Int)) (wide2 : Int) (high3 : Int) (layered4 : Int) : M (List Tx) := let rows5 : (List Tx) := []; M.bind (rangeM 0 high3) fun xs73 => M.bind (forM (f_law_cloth_l2 numbers1 wide2 layered4) rows5 xs73) fun (s74 : ((List Tx))) => M.ok s74
def r__law_cloth (d : ((List Int) × Int × Int × Int × Unit)) : M (List Tx) := q__law_cloth d.1 d.2.1 d.2.2.1 d.2.2.2.1
def c__law_cloth (d : ((List Int) × Int × Int × Int × Unit)) : M (List Tx) := f_law_cloth d.1 d.2.1 d.2.2.1 d.2.2.2.1
theorem eq__law_cloth : r__law_cloth = c__law_cloth := by funext d; first | (simp only [r__law_cloth, c__law_cloth, q__law_cloth, f_law_cloth, M.bind_assoc, M.bok, eq_f_law_cloth_l1, eq_f_law_cloth_l2]; done) | (simp only [r__law_cloth, c__law_cloth, q__law_cloth, f_law_cloth, M.bind_assoc, M.bok, eq_f_law_cloth_l1, eq_f_law_cloth_l2]; rfl)
theorem bb__law_cloth {p : Pr} (X : Facts p) {g : G} (ok : OkS p (defScope s__law_cloth) N__law_cloth V__law_cloth G__law_cloth 0 g) (hX : g.LX = List.replicate N__law_cloth.length sAny) (numbers1 : (List Int)) (wide2 : Int) (high3 : Int) (layered4 : Int) : EvB g [(sV false (tList tInt) numbers1), (sV false tInt wide2), (sV false tInt high3), (sV false tInt layered4), sAny, sAny, sAny, sAny, sAny, sAny, sAny, sAny] (defBody s__law_cloth) (fun r => .rtL false tStr r) (q__law_cloth numbers1 wide2 high3 layered4) := (evb_own ok (i := 4) (j := 4) rfl rfl (wkX hX rfl) .sh (evl_nil (md := .sh) (S := tStr)) fun rows5 => (evb_for (LF := (fun (s7 : ((List Tx))) => [(sV false (tList tInt) numbers1), (sV false tInt wide2), (sV false tInt high3), (sV false tInt layered4), (sOwn false tStr s7), sAny, sAny, sAny, sAny, sAny, sAny, sAny])) (s0 := rows5) ok (wkX hX rfl) (evi_range1 ok.toOk (j := 0) rfl X.g_range (ev_vsh ok.toOk (i := 2) (j := 2) rfl rfl rfl)) (Wk.s (Wk.s (Wk.s (Wk.s (Wk.s (Wk.s (Wk.s (Wk.s (Wk.s (Wk.s (Wk.s (Wk.s Wk.n)))))))))))) (fun _ => evg_name ok (i := 5) (j := 5) rfl rfl) (fun s7 j8 => (evb_set ok (i := 6) (j := 6) rfl rfl (wkX hX rfl) .sh (ev_str (md := .sh) (by decide +kernel)) fun row9 => (evb_for (LF := (fun (s11 : (Tx)) => [(sV false (tList tInt) numbers1), (sV false tInt wide2), (sV false tInt high3), (sV false tInt layered4), (sOwn false tStr s7), (sV false tInt j8), (sV false tStr s11), sAny, sAny, sAny, sAny, sAny])) (s0 := row9) ok (wkX hX rfl) (evi_range1 ok.toOk (j := 0) rfl X.g_range (ev_vsh ok.toOk (i := 1) (j := 1) rfl rfl rfl)) (Wk.s (Wk.s (Wk.s (Wk.s (Wk.s (Wk.s (Wk.s (Wk.s (Wk.s (Wk.s (Wk.s (Wk.s Wk.n)))))))))))) (fun _ => evg_name ok (i := 7) (j := 7) rfl rfl) (fun s11 k12 => (evb_set ok (i := 8) (j := 8) rfl rfl (wkX hX rfl) .sh (ev_add (md' := .sh) ok.toOk (ev_mulC (md' := .sh) ok.toOk (by decide) (ev_vsh ok.toOk (i := 5) (j := 5) rfl rfl rfl) (ev_int (md := .sh))) (ev_vsh ok.toOk (i := 7) (j := 7) rfl rfl rfl)) fun at13 => (evb_set ok (i := 9) (j := 9) rfl rfl (wkX hX rfl) .sh (ev_modC (md' := .sh) ok.toOk (by decide) (ev_div (md' := .sh) ok.toOk (ev_ixQ ok.toOk sq_l (ev_vsh ok.toOk (i := 0) (j := 0) rfl rfl rfl) (ev_add (md' := .sh) ok.toOk (ev_int (md := .sh)) (ev_modC (md' := .sh) ok.toOk (by decide) (ev_vsh ok.toOk (i := 8) (j := 8) rfl rfl rfl) (ev_int (md := .sh))))) (ev_add (md' := .sh) ok.toOk (ev_int (md := .sh)) (ev_mulL (md' := .sh) ok.toOk (by decide) (ev_int (md := .sh)) (ev_divC (md' := .sh) ok.toOk (by decide) (by decide) (ev_vsh ok.toOk (i := 8) (j := 8) rfl rfl rfl) (ev_int (md := .sh)))))) (ev_int (md := .sh))) fun bit17 => (evb_if (LJ := (fun (s63 : (Int)) => [(sV false (tList tInt) numbers1), (sV false tInt wide2), (sV false tInt high3), (sV false tInt layered4), (sOwn false tStr s7), (sV false tInt j8), (sV false tStr s11), (sV false tInt k12), (sV false tInt at13), (sV false tInt s63), sAny, sAny])) (wkX hX rfl) (evt_c ok.toOk c_gt (ev_vsh ok.toOk (i := 3) (j := 3) rfl rfl rfl) (ev_int (md := .sh))) (evb_set ok (i := 10) (j := 10) rfl rfl (wkX hX rfl) .sh (ev_mod (md' := .sh) ok.toOk (ev_divC (md' := .sh) ok.toOk (by decide) (by decide) (ev_ixQ ok.toOk sq_l (ev_vsh ok.toOk (i := 0) (j := 0) rfl rfl rfl) (ev_add (md' := .sh) ok.toOk (ev_int (md := .sh)) (ev_modC (md' := .sh) ok.toOk (by decide) (ev_mulL (md' := .sh) ok.toOk (by decide) (ev_int (md := .sh)) (ev_vsh ok.toOk (i := 7) (j := 7) rfl rfl rfl)) (ev_int (md := .sh))))) (ev_int (md := .sh))) (ev_vsh ok.toOk (i := 3) (j := 3) rfl rfl rfl)) fun up33 => (evb_set ok (i := 11) (j := 11) rfl rfl (wkX hX rfl) .sh (ev_mod (md' := .sh) ok.toOk (ev_divC (md' := .sh) ok.toOk (by decide) (by decide) (ev_ixQ ok.toOk sq_l (ev_vsh ok.toOk (i := 0) (j := 0) rfl rfl rfl) (ev_add (md' := .sh) ok.toOk (ev_int (md := .sh)) (ev_modC (md' := .sh) ok.toOk (by decide) (ev_add (md' := .sh) ok.toOk (ev_mulL (md' := .sh) ok.toOk (by decide) (ev_int (md := .sh)) (ev_vsh ok.toOk (i := 5) (j := 5) rfl rfl rfl)) (ev_int (md := .sh))) (ev_int (md := .sh))))) (ev_int (md := .sh))) (ev_vsh ok.toOk (i := 3) (j := 3) rfl rfl rfl)) fun low43 => (evb_ifl (wkX hX rfl) (evt_c ok.toOk (c_ne s_int) (ev_vsh ok.toOk (i := 10) (j := 10) rfl rfl rfl) (ev_vsh ok.toOk (i := 11) (j := 11) rfl rfl rfl)) (evb_set ok (i := 9) (j := 9) rfl rfl (wkX hX rfl) .sh (ev_intB (md' := .sh) ok.toOk (j := 1) rfl X.g_int (ev_c (md' := .sh) ok.toOk c_lt (ev_vsh ok.toOk (i := 10) (j := 10) rfl rfl rfl) (ev_vsh ok.toOk (i := 11) (j := 11) rfl rfl rfl))) fun bit58 => (evb_nx (by rfl) (Wk.s (Wk.s (Wk.s (Wk.s (Wk.s (Wk.s (Wk.s (Wk.s (Wk.s (Wk.s (Wk.a (Wk.a Wk.n)))))))))))))) (evb_nx (by rfl) (Wk.s (Wk.s (Wk.s (Wk.s (Wk.s (Wk.s (Wk.s (Wk.s (Wk.s (Wk.s (Wk.a (Wk.a Wk.n)))))))))))))))) (evb_nx (by rfl) (Wk.s (Wk.s (Wk.s (Wk.s (Wk.s (Wk.s (Wk.s (Wk.s (Wk.s (Wk.s (Wk.s (Wk.s Wk.n))))))))))))) fun s63 => (evb_set ok (i := 6) (j := 6) rfl rfl (wkX hX rfl) .sh (ev_catS (md' := .sh) ok.toOk (ev_vsh ok.toOk (i := 6) (j := 6) rfl rfl rfl) (ev_ixS (md' := .sh) ok.toOk (ev_str (md := .sh) (by decide +kernel)) (ev_vsh ok.toOk (i := 9) (j := 9) rfl rfl rfl))) fun row64 => (evb_go (by rfl) (Wk.s (Wk.s (Wk.s (Wk.s (Wk.s (Wk.s (Wk.s (Wk.a (Wk.a (Wk.a (Wk.s (Wk.s Wk.n)))))))))))))))))) fun s70 => (evb_append ok (wkX hX rfl) (i := 4) (j := 4) rfl rfl rfl .sh (ev_vsh ok.toOk (i := 6) (j := 6) rfl rfl rfl) fun rows71 => (evb_go (by rfl) (Wk.s (Wk.s (Wk.s (Wk.s (Wk.s (Wk.a (Wk.a (Wk.s (Wk.s (Wk.s (Wk.s (Wk.s Wk.n))))))))))))))))) fun s74 => (evb_retOwn ok.toOk (i := 4) (j := 4) rfl rfl rfl (.inl rfl) (by rfl))))
theorem b__law_cloth {p : Pr} (X : Facts p) : Body p s__law_cloth N__law_cloth V__law_cloth G__law_cloth 0 (fun (d : ((List Int) × Int × Int × Int × Unit)) => [(sV false (tList tInt) d.1), (sV false tInt d.2.1), (sV false tInt d.2.2.1), (sV false tInt d.2.2.2.1), sAny, sAny, sAny, sAny, sAny, sAny, sAny, sAny]) (fun r => .rtL false tStr r) r__law_cloth := fun g ok hX d => bb__law_cloth X ok hX d.1 d.2.1 d.2.2.1 d.2.2.2.1
theorem fn__law_cloth {p : Pr} (X : Facts p) : Fn p 1 "_law_cloth" ["numbers", "wide", "high", "layered"] (spM p (aCons (tList tInt) (aCons tInt (aCons tInt (aCons tInt aNil)))) (fun r => .rtL false tStr r) c__law_cloth) := by
  obtain ⟨f, fd, hF, hm⟩ := X.d__law_cloth
  exact ⟨f, fd, eq__law_cloth ▸ fn_rtL (m := 8) hF sc__law_cloth (.cons (.cons (.cons (.cons .nil)))) rfl rfl (b__law_cloth X), hm, hF.kp, hF.bindsN fun _ _ _ _ _ _ us hl => match us, hl with | [_, _, _, _], _ => rfl⟩
abbrev s_measured : Stmt := (topS 6)
abbrev N_measured : List Str := ["cloth", "wide", "text", "sign"]
abbrev V_measured : List Str := ["cloth", "wide", "text", "sign"]
abbrev G_measured : List Str := ["len", "MOST_STRANDS", "NoCloth"]
theorem sc_measured : Sc s_measured N_measured V_measured ["cloth"] G_measured := ⟨⟨rfl, rfl, rfl, by decide +kernel, rfl, by decide +kernel, by decide +kernel⟩, by decide +kernel, by decide +kernel, by decide +kernel⟩
def r_f_measured_l1  : Unit → Tx → M Unit := fun s24 sign25 => M.bind (M.ok ((!decide (sign25 = (tx "#"))) && (!decide (sign25 = (tx "."))))) fun c31 => if c31 = true then M.ex .noCloth else M.ok ()
def f_measured_l1  : Unit → Tx → M Unit := fun s24 sign25 => if ((!decide (sign25 = (tx "#"))) && (!decide (sign25 = (tx ".")))) = true then M.ex .noCloth else M.ok ()
theorem eq_f_measured_l1  : r_f_measured_l1  = f_measured_l1  := by funext s24 sign25; first | (simp only [r_f_measured_l1, f_measured_l1, M.bind_assoc, M.bok]; done) | (simp only [r_f_measured_l1, f_measured_l1, M.bind_assoc, M.bok]; rfl)
def r_f_measured_l2 (wide9 : Int) : Unit → Tx → M Unit := fun s18 text19 => M.bind (M.bind (M.bind (M.ok text19) fun y20 => M.ok (y20.length : Int)) fun y21 => M.bind (M.ok wide9) fun y22 => M.ok (!decide (y21 = y22))) fun c35 => if c35 = true then M.ex .noCloth else M.bind (M.bind (M.ok text19) fun y23 => M.ok (y23.map fun c => [c])) fun xs33 => M.bind (forM r_f_measured_l1 () xs33) fun (s34 : Unit) => M.ok ()
def f_measured_l2 (wide9 : Int) : Unit → Tx → M Unit := fun s18 text19 => if (!decide ((text19.length : Int) = wide9)) = true then M.ex .noCloth else M.bind (forM f_measured_l1 () (text19.map fun c => [c])) fun (s34 : Unit) => M.ok ()
theorem eq_f_measured_l2 (wide9 : Int) : r_f_measured_l2 wide9 = f_measured_l2 wide9 := by funext s18 text19; first | (simp only [r_f_measured_l2, f_measured_l2, M.bind_assoc, M.bok, eq_f_measured_l1]; done) | (simp only [r_f_measured_l2, f_measured_l2, M.bind_assoc, M.bok, eq_f_measured_l1]; rfl)
def q_measured (cloth1 : (List Tx)) : M (Int × Int × Unit) := M.bind (M.ok ((decide ((cloth1.length : Int) < (1 : Int))) || (decide ((40 : Int) < (cloth1.length : Int))))) fun c49 => if c49 = true then M.ex .noCloth else M.bind (M.bind (M.bind (M.ok cloth1) fun y10 => M.bind (M.ok (0 : Int)) fun y11 => getM y10 y11) fun y12 => M.ok (y12.length : Int)) fun wide9 => M.bind (M.ok ((decide (wide9 < (1 : Int))) || (decide ((40 : Int) < wide9)))) fun c47 => if c47 = true then M.ex .noCloth else M.bind (M.ok cloth1) fun xs37 => M.bind (forM (r_f_measured_l2 wide9) () xs37) fun (s38 : Unit) => (M.bind (M.ok wide9) fun y42 => M.bind (M.bind (M.bind (M.ok cloth1) fun y39 => M.ok (y39.length : Int)) fun y40 => M.bind (M.ok ()) fun y41 => M.ok (y40, y41)) fun y43 => M.ok (y42, y43))
def f_measured (cloth1 : (List Tx)) : M (Int × Int × Unit) := if ((decide ((cloth1.length : Int) < (1 : Int))) || (decide ((40 : Int) < (cloth1.length : Int)))) = true then M.ex .noCloth else M.bind (M.bind (getM cloth1 (0 : Int)) fun y12 => M.ok (y12.length : Int)) fun wide9 => if ((decide (wide9 < (1 : Int))) || (decide ((40 : Int) < wide9))) = true then M.ex .noCloth else M.bind (forM (f_measured_l2 wide9) () cloth1) fun (s38 : Unit) => M.ok (wide9, (cloth1.length : Int), ())
def r_measured (d : ((List Tx) × Unit)) : M (Int × Int × Unit) := q_measured d.1
def c_measured (d : ((List Tx) × Unit)) : M (Int × Int × Unit) := f_measured d.1
theorem eq_measured : r_measured = c_measured := by funext d; first | (simp only [r_measured, c_measured, q_measured, f_measured, M.bind_assoc, M.bok, eq_f_measured_l1, eq_f_measured_l2]; done) | (simp only [r_measured, c_measured, q_measured, f_measured, M.bind_assoc, M.bok, eq_f_measured_l1, eq_f_measured_l2]; rfl)
theorem bb_measured {p : Pr} (X : Facts p) {g : G} (ok : OkS p (defScope s_measured) N_measured V_measured G_measured 0 g) (hX : g.LX = List.replicate N_measured.length sAny) (cloth1 : (List Tx)) : EvB g [(sV false (tList tStr) cloth1), sAny, sAny, sAny] (defBody s_measured) (fun r => .rt false (tTup (aCons tInt (aCons tInt aNil))) r) (q_measured cloth1) := (evb_ifr ok (wkX hX rfl) X.x_NoCloth (jj := 0) (j := 2) rfl (EvW.t (evw_orP (pureT (m := M.bind (M.bind (M.ok cloth1) fun y2 => M.ok (y2.length : Int)) fun y3 => M.bind (M.ok (1 : Int)) fun y4 => M.ok (decide (y3 < y4))) (evt_c ok.toOk c_lt (ev_lenQ (md' := .sh) ok.toOk sq_l (j := 0) rfl X.g_len (ev_vsh ok.toOk (i := 0) (j := 0) rfl rfl rfl)) (ev_int (md := .sh))) rfl) (pureW (m := M.bind (M.bind (M.ok cloth1) fun y5 => M.ok (y5.length : Int)) fun y6 => M.bind (M.ok (40 : Int)) fun y7 => M.ok (decide (y7 < y6))) (evw_or1 (evt_c ok.toOk c_gt (ev_lenQ (md' := .sh) ok.toOk sq_l (j := 0) rfl X.g_len (ev_vsh ok.toOk (i := 0) (j := 0) rfl rfl rfl)) (ev_gint (md := .sh) ok.toOk (j := 1) rfl X.c_MOST_STRANDS))) rfl))) (evb_set ok (i := 1) (j := 1) rfl rfl (wkX hX rfl) .sh (ev_lenS (md' := .sh) ok.toOk (j := 0) rfl X.g_len (ev_ixQ ok.toOk sq_l (ev_vsh ok.toOk (i := 0) (j := 0) rfl rfl rfl) (ev_int (md := .sh)))) fun wide9 => (evb_ifr ok (wkX hX rfl) X.x_NoCloth (jj := 0) (j := 2) rfl (EvW.t (evw_orP (pureT (m := M.bind (M.ok wide9) fun y13 => M.bind (M.ok (1 : Int)) fun y14 => M.ok (decide (y13 < y14))) (evt_c ok.toOk c_lt (ev_vsh ok.toOk (i := 1) (j := 1) rfl rfl rfl) (ev_int (md := .sh))) rfl) (pureW (m := M.bind (M.ok wide9) fun y15 => M.bind (M.ok (40 : Int)) fun y16 => M.ok (decide (y16 < y15))) (evw_or1 (evt_c ok.toOk c_gt (ev_vsh ok.toOk (i := 1) (j := 1) rfl rfl rfl) (ev_gint (md := .sh) ok.toOk (j := 1) rfl X.c_MOST_STRANDS))) rfl))) (evb_for (LF := (fun (s18 : Unit) => [(sV false (tList tStr) cloth1), (sV false tInt wide9), sAny, sAny])) (s0 := ()) ok (wkX hX rfl) (evi_seq ok.toOk sq_l (ev_vsh ok.toOk (i := 0) (j := 0) rfl rfl rfl)) (Wk.s (Wk.s (Wk.s (Wk.s Wk.n)))) (fun _ => evg_name ok (i := 2) (j := 2) rfl rfl) (fun s18 text19 => (evb_ifr ok (wkX hX rfl) X.x_NoCloth (jj := 0) (j := 2) rfl (evt_c ok.toOk (c_ne s_int) (ev_lenS (md' := .sh) ok.toOk (j := 0) rfl X.g_len (ev_vsh ok.toOk (i := 2) (j := 2) rfl rfl rfl)) (ev_vsh ok.toOk (i := 1) (j := 1) rfl rfl rfl)) (evb_for (LF := (fun (s24 : Unit) => [(sV false (tList tStr) cloth1), (sV false tInt wide9), (sV false tStr text19), sAny])) (s0 := ()) ok (wkX hX rfl) (evi_str (ev_vsh ok.toOk (i := 2) (j := 2) rfl rfl rfl)) (Wk.s (Wk.s (Wk.s (Wk.s Wk.n)))) (fun _ => evg_name ok (i := 3) (j := 3) rfl rfl) (fun s24 sign25 => (evb_ifr ok (wkX hX rfl) X.x_NoCloth (jj := 0) (j := 2) rfl (EvW.t (evw_andP (pureT (m := M.bind (M.ok sign25) fun y26 => M.bind (M.ok (tx "#")) fun y27 => M.ok (!decide (y26 = y27))) (evt_c ok.toOk (c_ne s_str) (ev_vsh ok.toOk (i := 3) (j := 3) rfl rfl rfl) (ev_str (md := .sh) (by decide +kernel))) rfl) (pureW (m := M.bind (M.ok sign25) fun y28 => M.bind (M.ok (tx ".")) fun y29 => M.ok (!decide (y28 = y29))) (evw_and1 (evt_c ok.toOk (c_ne s_str) (ev_vsh ok.toOk (i := 3) (j := 3) rfl rfl rfl) (ev_str (md := .sh) (by decide +kernel)))) rfl))) (evb_go (by rfl) (Wk.s (Wk.s (Wk.s (Wk.a Wk.n))))))) fun s34 => (evb_go (by rfl) (Wk.s (Wk.s (Wk.a (Wk.s Wk.n)))))))) fun s38 => (evb_ret (wkX hX rfl) .sh (by intro _; rfl) (ev_tup (fun d vs R h => by rw [(lenS (lenS len0)) h]; decide) (eva_cons (ev_vsh ok.toOk (i := 1) (j := 1) rfl rfl rfl) (eva_cons (ev_lenQ (md' := .sh) ok.toOk sq_l (j := 0) rfl X.g_len (ev_vsh ok.toOk (i := 0) (j := 0) rfl rfl rfl)) eva_nil))))))))
theorem b_measured {p : Pr} (X : Facts p) : Body p s_measured N_measured V_measured G_measured 0 (fun (d : ((List Tx) × Unit)) => [(sV false (tList tStr) d.1), sAny, sAny, sAny]) (fun r => .rt false (tTup (aCons tInt (aCons tInt aNil))) r) r_measured := fun g ok hX d => bb_measured X ok hX d.1
theorem fn_measured {p : Pr} (X : Facts p) : Fn p 1 "measured" ["cloth"] (spM p (aCons (tList tStr) aNil) (fun r => .rt false (tTup (aCons tInt (aCons tInt aNil))) r) c_measured) := by
  obtain ⟨f, fd, hF, hm⟩ := X.d_measured
  exact ⟨f, fd, eq_measured ▸ fn_rt (m := 3) hF sc_measured (.cons .nil) rfl rfl (b_measured X), hm, hF.kp, hF.bindsN fun _ _ _ _ _ _ us hl => match us, hl with | [_], _ => rfl⟩
abbrev s_scores_of : Stmt := (topS 8)
abbrev N_scores_of : List Str := ["cloth", "ends", "picks", "counts", "end", "pick", "row"]
abbrev V_scores_of : List Str := ["cloth", "ends", "picks", "counts", "end", "pick"]
abbrev G_scores_of : List Str := ["measured", "range", "len"]
theorem sc_scores_of : Sc s_scores_of N_scores_of V_scores_of ["cloth"] G_scores_of := ⟨⟨rfl, rfl, rfl, by decide +kernel, rfl, by decide +kernel, by decide +kernel⟩, by decide +kernel, by decide +kernel, by decide +kernel⟩
def r_f_scores_of_l1 (cloth1 : (List Tx)) : ((List Int)) → Int → M ((List Int)) := fun s8 end9 => M.bind (M.bind (M.bind (M.ok cloth1) fun xs18 => compM (fun row11 => M.bind (M.bind (M.bind (M.ok row11) fun y12 => M.bind (M.ok end9) fun y13 => getS y12 y13) fun y14 => M.bind (M.ok (tx "#")) fun y15 => M.ok (decide (y14 = y15))) fun c16 => if c16 = true then M.bind (M.ok row11) fun y17 => M.ok (some y17) else M.ok none) xs18) fun y19 => M.ok (y19.length : Int)) fun y20 => M.bind (pushM s8 y20) fun counts10 => M.ok counts10
def f_scores_of_l1 (cloth1 : (List Tx)) : ((List Int)) → Int → M ((List Int)) := fun s8 end9 => M.bind (M.bind (compM (fun row11 => M.bind (M.bind (getS row11 end9) fun y14 => M.ok (decide (y14 = (tx "#")))) fun c16 => if c16 = true then M.ok (some row11) else M.ok none) cloth1) fun y19 => M.ok (y19.length : Int)) fun y20 => M.bind (pushM s8 y20) fun counts10 => M.ok counts10
theorem eq_f_scores_of_l1 (cloth1 : (List Tx)) : r_f_scores_of_l1 cloth1 = f_scores_of_l1 cloth1 := by funext s8 end9; first | (simp only [r_f_scores_of_l1, f_scores_of_l1, M.bind_assoc, M.bok, c_measured]; done) | (simp only [r_f_scores_of_l1, f_scores_of_l1, M.bind_assoc, M.bok, c_measured]; rfl)
def r_f_scores_of_l2 (cloth1 : (List Tx)) : ((List Int)) → Int → M ((List Int)) := fun s24 pick25 => M.bind (M.bind (M.bind (M.ok cloth1) fun y27 => M.bind (M.ok pick25) fun y28 => getM y27 y28) fun y29 => M.bind (M.ok (tx ".")) fun y30 => countS y29 y30) fun y31 => M.bind (pushM s24 y31) fun counts26 => M.ok counts26
def f_scores_of_l2 (cloth1 : (List Tx)) : ((List Int)) → Int → M ((List Int)) := fun s24 pick25 => M.bind (M.bind (getM cloth1 pick25) fun y29 => countS y29 (tx ".")) fun y31 => M.bind (pushM s24 y31) fun counts26 => M.ok counts26
theorem eq_f_scores_of_l2 (cloth1 : (List Tx)) : r_f_scores_of_l2 cloth1 = f_scores_of_l2 cloth1 := by funext s24 pick25; first | (simp only [r_f_scores_of_l2, f_scores_of_l2, M.bind_assoc, M.bok, eq_f_scores_of_l1, c_measured]; done) | (simp only [r_f_scores_of_l2, f_scores_of_l2, M.bind_assoc, M.bok, eq_f_scores_of_l1, c_measured]; rfl)
def q_scores_of (cloth1 : (List Tx)) : M (List Int) := M.bind (M.bind (M.bind (M.ok cloth1) fun y2 => M.bind (M.ok ()) fun y3 => M.ok (y2, y3)) c_measured) fun t5 => M.bind (M.ok []) fun counts6 => M.bind (M.bind (M.ok t5.1) fun y7 => rangeM 0 y7) fun xs21 => M.bind (forM (r_f_scores_of_l1 cloth1) counts6 xs21) fun (s22 : ((List Int))) => M.bind (M.bind (M.ok t5.2.1) fun y23 => rangeM 0 y23) fun xs32 => M.bind (forM (r_f_scores_of_l2 cloth1) s22 xs32) fun (s33 : ((List Int))) => M.ok s33
def f_scores_of (cloth1 : (List Tx)) : M (List Int) := M.bind (f_measured cloth1) fun t5 => let counts6 : (List Int) := []; M.bind (rangeM 0 t5.1) fun xs21 => M.bind (forM (f_scores_of_l1 cloth1) counts6 xs21) fun (s22 : ((List Int))) => M.bind (rangeM 0 t5.2.1) fun xs32 => M.bind (forM (f_scores_of_l2 cloth1) s22 xs32) fun (s33 : ((List Int))) => M.ok s33
def r_scores_of (d : ((List Tx) × Unit)) : M (List Int) := q_scores_of d.1
def c_scores_of (d : ((List Tx) × Unit)) : M (List Int) := f_scores_of d.1
theorem eq_scores_of : r_scores_of = c_scores_of := by funext d; first | (simp only [r_scores_of, c_scores_of, q_scores_of, f_scores_of, M.bind_assoc, M.bok, eq_f_scores_of_l1, eq_f_scores_of_l2, c_measured]; done) | (simp only [r_scores_of, c_scores_of, q_scores_of, f_scores_of, M.bind_assoc, M.bok, eq_f_scores_of_l1, eq_f_scores_of_l2, c_measured]; rfl)
theorem bb_scores_of {p : Pr} (X : Facts p) {g : G} (ok : OkS p (defScope s_scores_of) N_scores_of V_scores_of G_scores_of 1 g) (hX : g.LX = List.replicate N_scores_of.length sAny) (cloth1 : (List Tx)) : EvB g [(sV false (tList tStr) cloth1), sAny, sAny, sAny, sAny, sAny, sAny] (defBody s_scores_of) (fun r => .rtL false tInt r) (q_scores_of cloth1) := (evb_asg ok (wkX hX rfl) (ev_call (md' := .sh) ok.toOk (fn_measured X) (by decide) (j := 0) rfl .sh (eva_cons (md := .sh) (ev_vsh ok.toOk (i := 0) (j := 0) rfl rfl rfl) eva_nil)) (evg_tup ok.toOk (lenS (lenS len0)) (evgs_cons (evg_name ok (i := 1) (j := 1) rfl rfl) fun _ => (evgs_cons (evg_name ok (i := 2) (j := 2) rfl rfl) fun _ => evgs_nil))) fun t5 => (evb_own ok (i := 3) (j := 3) rfl rfl (wkX hX rfl) .sh (evl_nil (md := .sh) (S := tInt)) fun counts6 => (evb_for (LF := (fun (s8 : ((List Int))) => [(sV false (tList tStr) cloth1), (sV false tInt t5.1), (sV false tInt t5.2.1), (sOwn false tInt s8), sAny, sAny, sAny])) (s0 := counts6) ok (wkX hX rfl) (evi_range1 ok.toOk (j := 1) rfl X.g_range (ev_vsh ok.toOk (i := 1) (j := 1) rfl rfl rfl)) (Wk.s (Wk.s (Wk.s (Wk.s (Wk.s (Wk.s (Wk.s Wk.n))))))) (fun _ => evg_name ok (i := 4) (j := 4) rfl rfl) (fun s8 end9 => (evb_append ok (wkX hX rfl) (i := 3) (j := 3) rfl rfl rfl .sh (ev_lenQ (md' := .sh) ok.toOk sq_l (j := 2) rfl X.g_len (ev_ofL (evl_lc (md := .sh) (VV' := ["row", "end"]) (GG' := []) (i := 6) ok.toOk (evi_seq ok.toOk sq_l (ev_vsh ok.toOk (i := 0) (j := 0) rfl rfl rfl)) rfl rfl no_any (by decide +kernel) (by decide +kernel) (by decide +kernel) (by decide +kernel) (fun g' okc row11 => (evpts_one (evt_c okc (c_eq s_str) (ev_ixS (md' := .sh) okc (ev_vsh okc (i := 6) (j := 0) rfl rfl rfl) (ev_vsh okc (i := 4) (j := 1) rfl rfl rfl)) (ev_str (md := .sh) (by decide +kernel))))) (fun g' okc row11 => (ev_vsh okc (i := 6) (j := 0) rfl rfl rfl))))) fun counts10 => (evb_go (by rfl) (Wk.s (Wk.s (Wk.s (Wk.s (Wk.a (Wk.s (Wk.s Wk.n)))))))))) fun s22 => (evb_for (LF := (fun (s24 : ((List Int))) => [(sV false (tList tStr) cloth1), (sV false tInt t5.1), (sV false tInt t5.2.1), (sOwn false tInt s24), sAny, sAny, sAny])) (s0 := s22) ok (wkX hX rfl) (evi_range1 ok.toOk (j := 1) rfl X.g_range (ev_vsh ok.toOk (i := 2) (j := 2) rfl rfl rfl)) (Wk.s (Wk.s (Wk.s (Wk.s (Wk.s (Wk.s (Wk.s Wk.n))))))) (fun _ => evg_name ok (i := 5) (j := 5) rfl rfl) (fun s24 pick25 => (evb_append ok (wkX hX rfl) (i := 3) (j := 3) rfl rfl rfl .sh (ev_countS (md' := .sh) ok.toOk (ev_ixQ ok.toOk sq_l (ev_vsh ok.toOk (i := 0) (j := 0) rfl rfl rfl) (ev_vsh ok.toOk (i := 5) (j := 5) rfl rfl rfl)) (ev_str (md := .sh) (by decide +kernel))) fun counts26 => (evb_go (by rfl) (Wk.s (Wk.s (Wk.s (Wk.s (Wk.s (Wk.a (Wk.s Wk.n)))))))))) fun s33 => (evb_retOwn ok.toOk (i := 3) (j := 3) rfl rfl rfl (.inl rfl) (by rfl))))))
theorem b_scores_of {p : Pr} (X : Facts p) : Body p s_scores_of N_scores_of V_scores_of G_scores_of 1 (fun (d : ((List Tx) × Unit)) => [(sV false (tList tStr) d.1), sAny, sAny, sAny, sAny, sAny, sAny]) (fun r => .rtL false tInt r) r_scores_of := fun g ok hX d => bb_scores_of X ok hX d.1
theorem fn_scores_of {p : Pr} (X : Facts p) : Fn p 2 "scores_of" ["cloth"] (spM p (aCons (tList tStr) aNil) (fun r => .rtL false tInt r) c_scores_of) := by
  obtain ⟨f, fd, hF, hm⟩ := X.d_scores_of
  exact ⟨f, fd, eq_scores_of ▸ fn_rtL (m := 6) hF sc_scores_of (.cons .nil) rfl rfl (b_scores_of X), hm, hF.kp, hF.bindsN fun _ _ _ _ _ _ us hl => match us, hl with | [_], _ => rfl⟩
abbrev s_by_count : Stmt := topS 10
abbrev N_by_count : List Str := ["counts", "first", "behind"]
abbrev V_by_count : List Str := ["counts", "first", "behind"]
abbrev G_by_count : List Str := ["sorted", "range"]
theorem sc_by_count : Sc s_by_count N_by_count V_by_count ["counts", "first", "behind"] G_by_count := ⟨⟨rfl, rfl, rfl, by decide +kernel, rfl, by decide +kernel, by decide +kernel⟩, by decide +kernel, by decide +kernel, by decide +kernel⟩
def f_by_count (counts : List Int) (first : Int) (behind : Int) : M (List Int) := sortKeyM counts first behind
def c_by_count (d : (List Int × Int × Int × Unit)) : M (List Int) := f_by_count d.1 d.2.1 d.2.2.1
theorem fn_by_count {p : Pr} (X : Facts p) : Fn p 1 "by_count" ["counts", "first", "behind"] (spM p (aCons (tList tInt) (aCons tInt (aCons tInt aNil))) (fun r => .rtL false tInt r) c_by_count) := by
  obtain ⟨f, fd, hF, hm, c, P, hc, hT, TB⟩ := X.d_by_count
  refine ⟨f, fd, fn_genC (m := 0) hF sc_by_count (.cons (.cons (.cons .nil))) rfl rfl (fun g ok hX hcode hqual d => ?_), hm, hF.kp, hF.bindsN fun _ _ _ _ _ _ us hl => match us, hl with | [_, _, _], _ => rfl⟩
  exact evb_retL (m := M.bind (M.ok d.2.1) fun lo => M.bind (M.ok d.2.2.1) fun hi => sortKeyM d.1 lo hi) (wkX hX rfl) .sh (by intro _; rfl) (evl_sortLam (md' := .sh) ok (j := 0) rfl X.g_sorted (j2 := 1) rfl X.g_range (i := 0) rfl rfl (ev_vsh ok.toOk (i := 1) (j := 1) rfl rfl rfl) (ev_vsh ok.toOk (i := 2) (j := 2) rfl rfl rfl) hT TB (hcode.trans hc) (by rw [hqual]; decide +kernel) rfl ⟨rfl, rfl, rfl, by decide +kernel, by decide +kernel, by decide +kernel, by decide +kernel, by decide +kernel, by decide +kernel, by decide +kernel, fun _ _ _ _ _ => rfl⟩ (by decide +kernel))
abbrev s_running_sums : Stmt := (topS 11)
abbrev N_running_sums : List Str := ["counts", "line", "sums", "strand"]
abbrev V_running_sums : List Str := ["counts", "line", "sums", "strand"]
abbrev G_running_sums : List Str := []
theorem sc_running_sums : Sc s_running_sums N_running_sums V_running_sums ["counts", "line"] G_running_sums := ⟨⟨rfl, rfl, rfl, by decide +kernel, rfl, by decide +kernel, by decide +kernel⟩, by decide +kernel, by decide +kernel, by decide +kernel⟩
def r_f_running_sums_l1 (counts1 : (List Int)) : ((List Int)) → Int → M ((List Int)) := fun s7 strand8 => M.bind (M.bind (M.bind (M.ok s7) fun y11 => M.bind (M.bind (M.ok (1 : Int)) fun y10 => M.ok (-y10)) fun y12 => getM y11 y12) fun y15 => M.bind (M.bind (M.ok counts1) fun y13 => M.bind (M.ok strand8) fun y14 => getM y13 y14) fun y16 => M.ok (y15 + y16)) fun y17 => M.bind (pushM s7 y17) fun sums9 => M.ok sums9
def f_running_sums_l1 (counts1 : (List Int)) : ((List Int)) → Int → M ((List Int)) := fun s7 strand8 => M.bind (M.bind (getM s7 (-(1 : Int))) fun y15 => M.bind (getM counts1 strand8) fun y16 => M.ok (y15 + y16)) fun y17 => M.bind (pushM s7 y17) fun sums9 => M.ok sums9
theorem eq_f_running_sums_l1 (counts1 : (List Int)) : r_f_running_sums_l1 counts1 = f_running_sums_l1 counts1 := by funext s7 strand8; first | (simp only [r_f_running_sums_l1, f_running_sums_l1, M.bind_assoc, M.bok]; done) | (simp only [r_f_running_sums_l1, f_running_sums_l1, M.bind_assoc, M.bok]; rfl)
def q_running_sums (counts1 : (List Int)) (line2 : (List Int)) : M (List Int) := M.bind (M.bind (M.ok (0 : Int)) fun y4 => M.bind (M.ok []) fun y5 => M.ok (y4 :: y5)) fun sums3 => M.bind (M.ok line2) fun xs18 => M.bind (forM (r_f_running_sums_l1 counts1) sums3 xs18) fun (s19 : ((List Int))) => M.ok s19
def f_running_sums (counts1 : (List Int)) (line2 : (List Int)) : M (List Int) := let sums3 : (List Int) := [(0 : Int)]; M.bind (forM (f_running_sums_l1 counts1) sums3 line2) fun (s19 : ((List Int))) => M.ok s19
def r_running_sums (d : ((List Int) × (List Int) × Unit)) : M (List Int) := q_running_sums d.1 d.2.1
def c_running_sums (d : ((List Int) × (List Int) × Unit)) : M (List Int) := f_running_sums d.1 d.2.1
theorem eq_running_sums : r_running_sums = c_running_sums := by funext d; first | (simp only [r_running_sums, c_running_sums, q_running_sums, f_running_sums, M.bind_assoc, M.bok, eq_f_running_sums_l1]; done) | (simp only [r_running_sums, c_running_sums, q_running_sums, f_running_sums, M.bind_assoc, M.bok, eq_f_running_sums_l1]; rfl)
theorem bb_running_sums {p : Pr} (X : Facts p) {g : G} (ok : OkS p (defScope s_running_sums) N_running_sums V_running_sums G_running_sums 0 g) (hX : g.LX = List.replicate N_running_sums.length sAny) (counts1 : (List Int)) (line2 : (List Int)) : EvB g [(sV false (tList tInt) counts1), (sV false (tList tInt) line2), sAny, sAny] (defBody s_running_sums) (fun r => .rtL false tInt r) (q_running_sums counts1 line2) := (evb_own ok (i := 2) (j := 2) rfl rfl (wkX hX rfl) .sh (evl_lstN (n := 1) (lnS ln0) (by decide) (evs_cons (ev_int (md := .sh)) evs_nil)) fun sums3 => (evb_for (LF := (fun (s7 : ((List Int))) => [(sV false (tList tInt) counts1), (sV false (tList tInt) line2), (sOwn false tInt s7), sAny])) (s0 := sums3) ok (wkX hX rfl) (evi_seq ok.toOk sq_l (ev_vsh ok.toOk (i := 1) (j := 1) rfl rfl rfl)) (Wk.s (Wk.s (Wk.s (Wk.s Wk.n)))) (fun _ => evg_name ok (i := 3) (j := 3) rfl rfl) (fun s7 strand8 => (evb_append ok (wkX hX rfl) (i := 2) (j := 2) rfl rfl rfl .sh (ev_borrow (i := 2) (.inl flInt) rfl (ev_add (md' := .sh) ok.toOk (ev_ixQ ok.toOk sq_l (ev_vsh ok.toOk (i := 2) (j := 2) rfl rfl rfl) (ev_neg (md' := .sh) ok.toOk (ev_int (md := .sh)))) (ev_ixQ ok.toOk sq_l (ev_vsh ok.toOk (i := 0) (j := 0) rfl rfl rfl) (ev_vsh ok.toOk (i := 3) (j := 3) rfl rfl rfl)))) fun sums9 => (evb_go (by rfl) (Wk.s (Wk.s (Wk.s (Wk.a Wk.n))))))) fun s19 => (evb_retOwn ok.toOk (i := 2) (j := 2) rfl rfl rfl (.inl rfl) (by rfl))))
theorem b_running_sums {p : Pr} (X : Facts p) : Body p s_running_sums N_running_sums V_running_sums G_running_sums 0 (fun (d : ((List Int) × (List Int) × Unit)) => [(sV false (tList tInt) d.1), (sV false (tList tInt) d.2.1), sAny, sAny]) (fun r => .rtL false tInt r) r_running_sums := fun g ok hX d => bb_running_sums X ok hX d.1 d.2.1
theorem fn_running_sums {p : Pr} (X : Facts p) : Fn p 1 "running_sums" ["counts", "line"] (spM p (aCons (tList tInt) (aCons (tList tInt) aNil)) (fun r => .rtL false tInt r) c_running_sums) := by
  obtain ⟨f, fd, hF, hm⟩ := X.d_running_sums
  exact ⟨f, fd, eq_running_sums ▸ fn_rtL (m := 2) hF sc_running_sums (.cons (.cons .nil)) rfl rfl (b_running_sums X), hm, hF.kp, hF.bindsN fun _ _ _ _ _ _ us hl => match us, hl with | [_, _], _ => rfl⟩
abbrev s_tops_of : Stmt := (topS 12)
abbrev N_tops_of : List Str := ["cloth", "ends", "picks", "counts", "end_sums", "pick_sums", "found", "many", "more"]
abbrev V_tops_of : List Str := ["cloth", "ends", "picks", "counts", "end_sums", "pick_sums", "found", "many", "more"]
abbrev G_tops_of : List Str := ["measured", "scores_of", "by_count", "running_sums", "range"]
theorem sc_tops_of : Sc s_tops_of N_tops_of V_tops_of ["cloth"] G_tops_of := ⟨⟨rfl, rfl, rfl, by decide +kernel, rfl, by decide +kernel, by decide +kernel⟩, by decide +kernel, by decide +kernel, by decide +kernel⟩
def r_f_tops_of_l1 (t5 : (Int × Int × Unit)) (endsums10 : (List Int)) (picksums26 : (List Int)) (many49 : Int) : ((List (Int × Int × Unit))) → Int → M ((List (Int × Int × Unit))) := fun s53 more54 => M.bind (M.bind (M.bind (M.bind (M.ok endsums10) fun y55 => M.bind (M.ok many49) fun y56 => getM y55 y56) fun y59 => M.bind (M.bind (M.ok picksums26) fun y57 => M.bind (M.ok more54) fun y58 => getM y57 y58) fun y60 => M.ok (y59 + y60)) fun y71 => M.bind (M.bind (M.bind (M.bind (M.ok many49) fun y61 => M.bind (M.ok t5.2.1) fun y62 => mulM y61 y62) fun y65 => M.bind (M.bind (M.ok more54) fun y63 => M.bind (M.ok t5.1) fun y64 => mulM y63 y64) fun y66 => M.ok (y65 + y66)) fun y69 => M.bind (M.bind (M.ok many49) fun y67 => M.bind (M.ok more54) fun y68 => mulM y67 y68) fun y70 => M.ok (y69 - y70)) fun y72 => M.ok (decide (y71 = y72))) fun c73 => if c73 = true then M.bind (M.bind (M.ok many49) fun y77 => M.bind (M.bind (M.ok more54) fun y75 => M.bind (M.ok ()) fun y76 => M.ok (y75, y76)) fun y78 => M.ok (y77, y78)) fun y81 => M.bind (pushM s53 y81) fun found74 => M.ok found74 else M.ok s53
def f_tops_of_l1 (t5 : (Int × Int × Unit)) (endsums10 : (List Int)) (picksums26 : (List Int)) (many49 : Int) : ((List (Int × Int × Unit))) → Int → M ((List (Int × Int × Unit))) := fun s53 more54 => M.bind (M.bind (M.bind (getM endsums10 many49) fun y59 => M.bind (getM picksums26 more54) fun y60 => M.ok (y59 + y60)) fun y71 => M.bind (M.bind (M.bind (mulM many49 t5.2.1) fun y65 => M.bind (mulM more54 t5.1) fun y66 => M.ok (y65 + y66)) fun y69 => M.bind (mulM many49 more54) fun y70 => M.ok (y69 - y70)) fun y72 => M.ok (decide (y71 = y72))) fun c82 => if c82 = true then M.bind (pushM s53 (many49, more54, ())) fun found74 => M.ok found74 else M.ok s53
theorem eq_f_tops_of_l1 (t5 : (Int × Int × Unit)) (endsums10 : (List Int)) (picksums26 : (List Int)) (many49 : Int) : r_f_tops_of_l1 t5 endsums10 picksums26 many49 = f_tops_of_l1 t5 endsums10 picksums26 many49 := by funext s53 more54; first | (simp only [r_f_tops_of_l1, f_tops_of_l1, M.bind_assoc, M.bok, c_by_count, c_measured, c_running_sums, c_scores_of]; done) | (simp only [r_f_tops_of_l1, f_tops_of_l1, M.bind_assoc, M.bok, c_by_count, c_measured, c_running_sums, c_scores_of]; rfl)
def r_f_tops_of_l2 (t5 : (Int × Int × Unit)) (endsums10 : (List Int)) (picksums26 : (List Int)) : ((List (Int × Int × Unit))) → Int → M ((List (Int × Int × Unit))) := fun s48 many49 => M.bind (M.bind (M.bind (M.ok t5.2.1) fun y50 => M.bind (M.ok (1 : Int)) fun y51 => M.ok (y50 + y51)) fun y52 => rangeM 0 y52) fun xs83 => M.bind (forM (r_f_tops_of_l1 t5 endsums10 picksums26 many49) s48 xs83) fun (s84 : ((List (Int × Int × Unit)))) => M.ok s84
def f_tops_of_l2 (t5 : (Int × Int × Unit)) (endsums10 : (List Int)) (picksums26 : (List Int)) : ((List (Int × Int × Unit))) → Int → M ((List (Int × Int × Unit))) := fun s48 many49 => M.bind (rangeM 0 (t5.2.1 + (1 : Int))) fun xs83 => M.bind (forM (f_tops_of_l1 t5 endsums10 picksums26 many49) s48 xs83) fun (s84 : ((List (Int × Int × Unit)))) => M.ok s84
theorem eq_f_tops_of_l2 (t5 : (Int × Int × Unit)) (endsums10 : (List Int)) (picksums26 : (List Int)) : r_f_tops_of_l2 t5 endsums10 picksums26 = f_tops_of_l2 t5 endsums10 picksums26 := by funext s48 many49; first | (simp only [r_f_tops_of_l2, f_tops_of_l2, M.bind_assoc, M.bok, eq_f_tops_of_l1, c_by_count, c_measured, c_running_sums, c_scores_of]; done) | (simp only [r_f_tops_of_l2, f_tops_of_l2, M.bind_assoc, M.bok, eq_f_tops_of_l1, c_by_count, c_measured, c_running_sums, c_scores_of]; rfl)
def q_tops_of (cloth1 : (List Tx)) : M (List (Int × Int × Unit)) := M.bind (M.bind (M.bind (M.ok cloth1) fun y2 => M.bind (M.ok ()) fun y3 => M.ok (y2, y3)) c_measured) fun t5 => M.bind (M.bind (M.bind (M.ok cloth1) fun y7 => M.bind (M.ok ()) fun y8 => M.ok (y7, y8)) c_scores_of) fun counts6 => M.bind (M.bind (M.bind (M.ok counts6) fun y22 => M.bind (M.bind (M.bind (M.bind (M.ok counts6) fun y15 => M.bind (M.bind (M.ok (0 : Int)) fun y13 => M.bind (M.bind (M.ok t5.1) fun y11 => M.bind (M.ok ()) fun y12 => M.ok (y11, y12)) fun y14 => M.ok (y13, y14)) fun y16 => M.ok (y15, y16)) c_by_count) fun y20 => M.bind (M.ok ()) fun y21 => M.ok (y20, y21)) fun y23 => M.ok (y22, y23)) c_running_sums) fun endsums10 => M.bind (M.bind (M.bind (M.ok counts6) fun y40 => M.bind (M.bind (M.bind (M.bind (M.ok counts6) fun y33 => M.bind (M.bind (M.ok t5.1) fun y31 => M.bind (M.bind (M.bind (M.ok t5.1) fun y27 => M.bind (M.ok t5.2.1) fun y28 => M.ok (y27 + y28)) fun y29 => M.bind (M.ok ()) fun y30 => M.ok (y29, y30)) fun y32 => M.ok (y31, y32)) fun y34 => M.ok (y33, y34)) c_by_count) fun y38 => M.bind (M.ok ()) fun y39 => M.ok (y38, y39)) fun y41 => M.ok (y40, y41)) c_running_sums) fun picksums26 => M.bind (M.ok []) fun found44 => M.bind (M.bind (M.bind (M.ok t5.1) fun y45 => M.bind (M.ok (1 : Int)) fun y46 => M.ok (y45 + y46)) fun y47 => rangeM 0 y47) fun xs85 => M.bind (forM (r_f_tops_of_l2 t5 endsums10 picksums26) found44 xs85) fun (s86 : ((List (Int × Int × Unit)))) => M.ok s86
def f_tops_of (cloth1 : (List Tx)) : M (List (Int × Int × Unit)) := M.bind (f_measured cloth1) fun t5 => M.bind (f_scores_of cloth1) fun counts6 => M.bind (M.bind (f_by_count counts6 (0 : Int) t5.1) fun y25 => f_running_sums counts6 y25) fun endsums10 => M.bind (M.bind (f_by_count counts6 t5.1 (t5.1 + t5.2.1)) fun y43 => f_running_sums counts6 y43) fun picksums26 => let found44 : (List (Int × Int × Unit)) := []; M.bind (rangeM 0 (t5.1 + (1 : Int))) fun xs85 => M.bind (forM (f_tops_of_l2 t5 endsums10 picksums26) found44 xs85) fun (s86 : ((List (Int × Int × Unit)))) => M.ok s86
def r_tops_of (d : ((List Tx) × Unit)) : M (List (Int × Int × Unit)) := q_tops_of d.1
def c_tops_of (d : ((List Tx) × Unit)) : M (List (Int × Int × Unit)) := f_tops_of d.1
theorem eq_tops_of : r_tops_of = c_tops_of := by funext d; first | (simp only [r_tops_of, c_tops_of, q_tops_of, f_tops_of, M.bind_assoc, M.bok, eq_f_tops_of_l1, eq_f_tops_of_l2, c_by_count, c_measured, c_running_sums, c_scores_of]; done) | (simp only [r_tops_of, c_tops_of, q_tops_of, f_tops_of, M.bind_assoc, M.bok, eq_f_tops_of_l1, eq_f_tops_of_l2, c_by_count, c_measured, c_running_sums, c_scores_of]; rfl)
theorem bb_tops_of {p : Pr} (X : Facts p) {g : G} (ok : OkS p (defScope s_tops_of) N_tops_of V_tops_of G_tops_of 2 g) (hX : g.LX = List.replicate N_tops_of.length sAny) (cloth1 : (List Tx)) : EvB g [(sV false (tList tStr) cloth1), sAny, sAny, sAny, sAny, sAny, sAny, sAny, sAny] (defBody s_tops_of) (fun r => .rtL false (tTup (aCons tInt (aCons tInt aNil))) r) (q_tops_of cloth1) := (evb_asg ok (wkX hX rfl) (ev_call (md' := .sh) ok.toOk (fn_measured X) (by decide) (j := 0) rfl .sh (eva_cons (md := .sh) (ev_vsh ok.toOk (i := 0) (j := 0) rfl rfl rfl) eva_nil)) (evg_tup ok.toOk (lenS (lenS len0)) (evgs_cons (evg_name ok (i := 1) (j := 1) rfl rfl) fun _ => (evgs_cons (evg_name ok (i := 2) (j := 2) rfl rfl) fun _ => evgs_nil))) fun t5 => (evb_set ok (i := 3) (j := 3) rfl rfl (wkX hX rfl) .sh (ev_ofL (evl_call (md' := .sh) ok.toOk (fn_scores_of X) (by decide) (j := 1) rfl .sh (eva_cons (md := .sh) (ev_vsh ok.toOk (i := 0) (j := 0) rfl rfl rfl) eva_nil))) fun counts6 => (evb_set ok (i := 4) (j := 4) rfl rfl (wkX hX rfl) .sh (ev_ofL (evl_call (md' := .sh) ok.toOk (fn_running_sums X) (by decide) (j := 3) rfl .sh (eva_cons (md := .sh) (ev_vsh ok.toOk (i := 3) (j := 3) rfl rfl rfl) (eva_cons (md := .sh) (ev_ofL (evl_call (md' := .sh) ok.toOk (fn_by_count X) (by decide) (j := 2) rfl .sh (eva_cons (md := .sh) (ev_vsh ok.toOk (i := 3) (j := 3) rfl rfl rfl) (eva_cons (md := .sh) (ev_int (md := .sh)) (eva_cons (md := .sh) (ev_vsh ok.toOk (i := 1) (j := 1) rfl rfl rfl) eva_nil))))) eva_nil)))) fun endsums10 => (evb_set ok (i := 5) (j := 5) rfl rfl (wkX hX rfl) .sh (ev_ofL (evl_call (md' := .sh) ok.toOk (fn_running_sums X) (by decide) (j := 3) rfl .sh (eva_cons (md := .sh) (ev_vsh ok.toOk (i := 3) (j := 3) rfl rfl rfl) (eva_cons (md := .sh) (ev_ofL (evl_call (md' := .sh) ok.toOk (fn_by_count X) (by decide) (j := 2) rfl .sh (eva_cons (md := .sh) (ev_vsh ok.toOk (i := 3) (j := 3) rfl rfl rfl) (eva_cons (md := .sh) (ev_vsh ok.toOk (i := 1) (j := 1) rfl rfl rfl) (eva_cons (md := .sh) (ev_add (md' := .sh) ok.toOk (ev_vsh ok.toOk (i := 1) (j := 1) rfl rfl rfl) (ev_vsh ok.toOk (i := 2) (j := 2) rfl rfl rfl)) eva_nil))))) eva_nil)))) fun picksums26 => (evb_own ok (i := 6) (j := 6) rfl rfl (wkX hX rfl) .sh (evl_nil (md := .sh) (S := (tTup (aCons tInt (aCons tInt aNil))))) fun found44 => (evb_for (LF := (fun (s48 : ((List (Int × Int × Unit)))) => [(sV false (tList tStr) cloth1), (sV false tInt t5.1), (sV false tInt t5.2.1), (sV false (tList tInt) counts6), (sV false (tList tInt) endsums10), (sV false (tList tInt) picksums26), (sOwn false (tTup (aCons tInt (aCons tInt aNil))) s48), sAny, sAny])) (s0 := found44) ok (wkX hX rfl) (evi_range1 ok.toOk (j := 4) rfl X.g_range (ev_add (md' := .sh) ok.toOk (ev_vsh ok.toOk (i := 1) (j := 1) rfl rfl rfl) (ev_int (md := .sh)))) (Wk.s (Wk.s (Wk.s (Wk.s (Wk.s (Wk.s (Wk.s (Wk.s (Wk.s Wk.n))))))))) (fun _ => evg_name ok (i := 7) (j := 7) rfl rfl) (fun s48 many49 => (evb_for (LF := (fun (s53 : ((List (Int × Int × Unit)))) => [(sV false (tList tStr) cloth1), (sV false tInt t5.1), (sV false tInt t5.2.1), (sV false (tList tInt) counts6), (sV false (tList tInt) endsums10), (sV false (tList tInt) picksums26), (sOwn false (tTup (aCons tInt (aCons tInt aNil))) s53), (sV false tInt many49), sAny])) (s0 := s48) ok (wkX hX rfl) (evi_range1 ok.toOk (j := 4) rfl X.g_range (ev_add (md' := .sh) ok.toOk (ev_vsh ok.toOk (i := 2) (j := 2) rfl rfl rfl) (ev_int (md := .sh)))) (Wk.s (Wk.s (Wk.s (Wk.s (Wk.s (Wk.s (Wk.s (Wk.s (Wk.s Wk.n))))))))) (fun _ => evg_name ok (i := 8) (j := 8) rfl rfl) (fun s53 more54 => (evb_ifl (wkX hX rfl) (evt_c ok.toOk (c_eq s_int) (ev_add (md' := .sh) ok.toOk (ev_ixQ ok.toOk sq_l (ev_vsh ok.toOk (i := 4) (j := 4) rfl rfl rfl) (ev_vsh ok.toOk (i := 7) (j := 7) rfl rfl rfl)) (ev_ixQ ok.toOk sq_l (ev_vsh ok.toOk (i := 5) (j := 5) rfl rfl rfl) (ev_vsh ok.toOk (i := 8) (j := 8) rfl rfl rfl))) (ev_subt (md' := .sh) ok.toOk (ev_add (md' := .sh) ok.toOk (ev_mul (md' := .sh) ok.toOk (ev_vsh ok.toOk (i := 7) (j := 7) rfl rfl rfl) (ev_vsh ok.toOk (i := 2) (j := 2) rfl rfl rfl)) (ev_mul (md' := .sh) ok.toOk (ev_vsh ok.toOk (i := 8) (j := 8) rfl rfl rfl) (ev_vsh ok.toOk (i := 1) (j := 1) rfl rfl rfl))) (ev_mul (md' := .sh) ok.toOk (ev_vsh ok.toOk (i := 7) (j := 7) rfl rfl rfl) (ev_vsh ok.toOk (i := 8) (j := 8) rfl rfl rfl)))) (evb_append ok (wkX hX rfl) (i := 6) (j := 6) rfl rfl rfl .sh (ev_tup (fun d vs R h => by rw [(lenS (lenS len0)) h]; decide) (eva_cons (ev_vsh ok.toOk (i := 7) (j := 7) rfl rfl rfl) (eva_cons (ev_vsh ok.toOk (i := 8) (j := 8) rfl rfl rfl) eva_nil))) fun found74 => (evb_go (by rfl) (Wk.s (Wk.s (Wk.s (Wk.s (Wk.s (Wk.s (Wk.s (Wk.s (Wk.a Wk.n))))))))))) (evb_go (by rfl) (Wk.s (Wk.s (Wk.s (Wk.s (Wk.s (Wk.s (Wk.s (Wk.s (Wk.a Wk.n)))))))))))) fun s84 => (evb_go (by rfl) (Wk.s (Wk.s (Wk.s (Wk.s (Wk.s (Wk.s (Wk.s (Wk.a (Wk.s Wk.n)))))))))))) fun s86 => (evb_retOwn ok.toOk (i := 6) (j := 6) rfl rfl rfl (.inl rfl) (by rfl))))))))
theorem b_tops_of {p : Pr} (X : Facts p) : Body p s_tops_of N_tops_of V_tops_of G_tops_of 2 (fun (d : ((List Tx) × Unit)) => [(sV false (tList tStr) d.1), sAny, sAny, sAny, sAny, sAny, sAny, sAny, sAny]) (fun r => .rtL false (tTup (aCons tInt (aCons tInt aNil))) r) r_tops_of := fun g ok hX d => bb_tops_of X ok hX d.1
theorem fn_tops_of {p : Pr} (X : Facts p) : Fn p 3 "tops_of" ["cloth"] (spM p (aCons (tList tStr) aNil) (fun r => .rtL false (tTup (aCons tInt (aCons tInt aNil))) r) c_tops_of) := by
  obtain ⟨f, fd, hF, hm⟩ := X.d_tops_of
  exact ⟨f, fd, eq_tops_of ▸ fn_rtL (m := 8) hF sc_tops_of (.cons .nil) rfl rfl (b_tops_of X), hm, hF.kp, hF.bindsN fun _ _ _ _ _ _ us hl => match us, hl with | [_], _ => rfl⟩
abbrev s_layers_of : Stmt := (topS 13)
abbrev N_layers_of : List Str := ["cloth", "ends", "picks", "counts", "end_line", "pick_line", "found", "done", "reach", "layer"]
abbrev V_layers_of : List Str := ["cloth", "ends", "picks", "counts", "end_line", "pick_line", "found", "done", "reach", "layer"]
abbrev G_layers_of : List Str := ["measured", "scores_of", "by_count", "tops_of", "sorted"]
theorem sc_layers_of : Sc s_layers_of N_layers_of V_layers_of ["cloth"] G_layers_of := ⟨⟨rfl, rfl, rfl, by decide +kernel, rfl, by decide +kernel, by decide +kernel⟩, by decide +kernel, by decide +kernel, by decide +kernel⟩
def r_f_layers_of_l1 (endline10 : (List Int)) (pickline20 : (List Int)) : ((List (List Int)) × (Int × Int × Unit)) → (Int × Int × Unit) → M ((List (List Int)) × (Int × Int × Unit)) := fun s47 reach48 => M.bind (M.bind (M.bind (M.ok endline10) fun y54 => M.bind (M.bind (M.bind (M.ok s47.2) fun y50 => M.ok y50.1) fun y51 => M.ok (some y51)) fun y55 => M.bind (M.bind (M.bind (M.ok reach48) fun y52 => M.ok y52.1) fun y53 => M.ok (some y53)) fun y56 => M.ok (cutL y54 y55 y56)) fun y64 => M.bind (M.bind (M.ok pickline20) fun y61 => M.bind (M.bind (M.bind (M.ok s47.2) fun y57 => M.ok y57.2.1) fun y58 => M.ok (some y58)) fun y62 => M.bind (M.bind (M.bind (M.ok reach48) fun y59 => M.ok y59.2.1) fun y60 => M.ok (some y60)) fun y63 => M.ok (cutL y61 y62 y63)) fun y65 => catL y64 y65) fun layer49 => M.bind (M.bind (M.ok layer49) fun y67 => M.ok (sortI y67)) fun y68 => M.bind (pushM s47.1 y68) fun found66 => M.bind (M.ok reach48) fun done69 => M.ok (found66, done69)
def f_layers_of_l1 (endline10 : (List Int)) (pickline20 : (List Int)) : ((List (List Int)) × (Int × Int × Unit)) → (Int × Int × Unit) → M ((List (List Int)) × (Int × Int × Unit)) := fun s47 reach48 => M.bind (catL (cutL endline10 (some s47.2.1) (some reach48.1)) (cutL pickline20 (some s47.2.2.1) (some reach48.2.1))) fun layer49 => M.bind (pushM s47.1 (sortI layer49)) fun found66 => let done69 : (Int × Int × Unit) := reach48; M.ok (found66, done69)
theorem eq_f_layers_of_l1 (endline10 : (List Int)) (pickline20 : (List Int)) : r_f_layers_of_l1 endline10 pickline20 = f_layers_of_l1 endline10 pickline20 := by funext s47 reach48; first | (simp only [r_f_layers_of_l1, f_layers_of_l1, M.bind_assoc, M.bok, c_by_count, c_measured, c_scores_of, c_tops_of]; done) | (simp only [r_f_layers_of_l1, f_layers_of_l1, M.bind_assoc, M.bok, c_by_count, c_measured, c_scores_of, c_tops_of]; rfl)
def q_layers_of (cloth1 : (List Tx)) : M (List (List Int)) := M.bind (M.bind (M.bind (M.ok cloth1) fun y2 => M.bind (M.ok ()) fun y3 => M.ok (y2, y3)) c_measured) fun t5 => M.bind (M.bind (M.bind (M.ok cloth1) fun y7 => M.bind (M.ok ()) fun y8 => M.ok (y7, y8)) c_scores_of) fun counts6 => M.bind (M.bind (M.bind (M.ok counts6) fun y15 => M.bind (M.bind (M.ok (0 : Int)) fun y13 => M.bind (M.bind (M.ok t5.1) fun y11 => M.bind (M.ok ()) fun y12 => M.ok (y11, y12)) fun y14 => M.ok (y13, y14)) fun y16 => M.ok (y15, y16)) c_by_count) fun endline10 => M.bind (M.bind (M.bind (M.ok counts6) fun y27 => M.bind (M.bind (M.ok t5.1) fun y25 => M.bind (M.bind (M.bind (M.ok t5.1) fun y21 => M.bind (M.ok t5.2.1) fun y22 => M.ok (y21 + y22)) fun y23 => M.bind (M.ok ()) fun y24 => M.ok (y23, y24)) fun y26 => M.ok (y25, y26)) fun y28 => M.ok (y27, y28)) c_by_count) fun pickline20 => M.bind (M.ok []) fun found32 => M.bind (M.bind (M.ok (0 : Int)) fun y36 => M.bind (M.bind (M.ok (0 : Int)) fun y34 => M.bind (M.ok ()) fun y35 => M.ok (y34, y35)) fun y37 => M.ok (y36, y37)) fun done33 => M.bind (M.bind (M.bind (M.bind (M.ok cloth1) fun y40 => M.bind (M.ok ()) fun y41 => M.ok (y40, y41)) c_tops_of) fun y44 => M.bind (M.bind (M.ok (1 : Int)) fun y43 => M.ok (some y43)) fun y45 => M.bind (M.ok (none : Option Int)) fun y46 => M.ok (cutL y44 y45 y46)) fun xs70 => M.bind (forM (r_f_layers_of_l1 endline10 pickline20) (found32, done33) xs70) fun (s71 : ((List (List Int)) × (Int × Int × Unit))) => M.ok s71.1
def f_layers_of (cloth1 : (List Tx)) : M (List (List Int)) := M.bind (f_measured cloth1) fun t5 => M.bind (f_scores_of cloth1) fun counts6 => M.bind (f_by_count counts6 (0 : Int) t5.1) fun endline10 => M.bind (f_by_count counts6 t5.1 (t5.1 + t5.2.1)) fun pickline20 => let found32 : (List (List Int)) := []; let done33 : (Int × Int × Unit) := ((0 : Int), (0 : Int), ()); M.bind (M.bind (f_tops_of cloth1) fun y44 => M.ok (cutL y44 (some (1 : Int)) none)) fun xs70 => M.bind (forM (f_layers_of_l1 endline10 pickline20) (found32, done33) xs70) fun (s71 : ((List (List Int)) × (Int × Int × Unit))) => M.ok s71.1
def r_layers_of (d : ((List Tx) × Unit)) : M (List (List Int)) := q_layers_of d.1
def c_layers_of (d : ((List Tx) × Unit)) : M (List (List Int)) := f_layers_of d.1
theorem eq_layers_of : r_layers_of = c_layers_of := by funext d; first | (simp only [r_layers_of, c_layers_of, q_layers_of, f_layers_of, M.bind_assoc, M.bok, eq_f_layers_of_l1, c_by_count, c_measured, c_scores_of, c_tops_of]; done) | (simp only [r_layers_of, c_layers_of, q_layers_of, f_layers_of, M.bind_assoc, M.bok, eq_f_layers_of_l1, c_by_count, c_measured, c_scores_of, c_tops_of]; rfl)
theorem bb_layers_of {p : Pr} (X : Facts p) {g : G} (ok : OkS p (defScope s_layers_of) N_layers_of V_layers_of G_layers_of 3 g) (hX : g.LX = List.replicate N_layers_of.length sAny) (cloth1 : (List Tx)) : EvB g [(sV false (tList tStr) cloth1), sAny, sAny, sAny, sAny, sAny, sAny, sAny, sAny, sAny] (defBody s_layers_of) (fun r => .rtL false (tList tInt) r) (q_layers_of cloth1) := (evb_asg ok (wkX hX rfl) (ev_call (md' := .sh) ok.toOk (fn_measured X) (by decide) (j := 0) rfl .sh (eva_cons (md := .sh) (ev_vsh ok.toOk (i := 0) (j := 0) rfl rfl rfl) eva_nil)) (evg_tup ok.toOk (lenS (lenS len0)) (evgs_cons (evg_name ok (i := 1) (j := 1) rfl rfl) fun _ => (evgs_cons (evg_name ok (i := 2) (j := 2) rfl rfl) fun _ => evgs_nil))) fun t5 => (evb_set ok (i := 3) (j := 3) rfl rfl (wkX hX rfl) .sh (ev_ofL (evl_call (md' := .sh) ok.toOk (fn_scores_of X) (by decide) (j := 1) rfl .sh (eva_cons (md := .sh) (ev_vsh ok.toOk (i := 0) (j := 0) rfl rfl rfl) eva_nil))) fun counts6 => (evb_set ok (i := 4) (j := 4) rfl rfl (wkX hX rfl) .sh (ev_ofL (evl_call (md' := .sh) ok.toOk (fn_by_count X) (by decide) (j := 2) rfl .sh (eva_cons (md := .sh) (ev_vsh ok.toOk (i := 3) (j := 3) rfl rfl rfl) (eva_cons (md := .sh) (ev_int (md := .sh)) (eva_cons (md := .sh) (ev_vsh ok.toOk (i := 1) (j := 1) rfl rfl rfl) eva_nil))))) fun endline10 => (evb_set ok (i := 5) (j := 5) rfl rfl (wkX hX rfl) .sh (ev_ofL (evl_call (md' := .sh) ok.toOk (fn_by_count X) (by decide) (j := 2) rfl .sh (eva_cons (md := .sh) (ev_vsh ok.toOk (i := 3) (j := 3) rfl rfl rfl) (eva_cons (md := .sh) (ev_vsh ok.toOk (i := 1) (j := 1) rfl rfl rfl) (eva_cons (md := .sh) (ev_add (md' := .sh) ok.toOk (ev_vsh ok.toOk (i := 1) (j := 1) rfl rfl rfl) (ev_vsh ok.toOk (i := 2) (j := 2) rfl rfl rfl)) eva_nil))))) fun pickline20 => (evb_own ok (i := 6) (j := 6) rfl rfl (wkX hX rfl) .sh (evl_nil (md := .sh) (S := (tList tInt))) fun found32 => (evb_set ok (i := 7) (j := 7) rfl rfl (wkX hX rfl) .sh (ev_tup (fun d vs R h => by rw [(lenS (lenS len0)) h]; decide) (eva_cons (ev_int (md := .sh)) (eva_cons (ev_int (md := .sh)) eva_nil))) fun done33 => (evb_for (LF := (fun (s47 : ((List (List Int)) × (Int × Int × Unit))) => [(sV false (tList tStr) cloth1), (sV false tInt t5.1), (sV false tInt t5.2.1), (sV false (tList tInt) counts6), (sV false (tList tInt) endline10), (sV false (tList tInt) pickline20), (sOwn false (tList tInt) s47.1), (sV false (tTup (aCons tInt (aCons tInt aNil))) s47.2), sAny, sAny])) (s0 := (found32, done33)) ok (wkX hX rfl) (evi_seq ok.toOk sq_l (ev_ofL (evl_slQ (md := .sh) ok.toOk sq_l (ev_ofL (evl_call (md' := .sh) ok.toOk (fn_tops_of X) (by decide) (j := 3) rfl .sh (eva_cons (md := .sh) (ev_vsh ok.toOk (i := 0) (j := 0) rfl rfl rfl) eva_nil))) (evo_some (ev_int (md := .sh))) evo_none))) (Wk.s (Wk.s (Wk.s (Wk.s (Wk.s (Wk.s (Wk.s (Wk.s (Wk.s (Wk.s Wk.n)))))))))) (fun _ => evg_name ok (i := 8) (j := 8) rfl rfl) (fun s47 reach48 => (evb_set ok (i := 9) (j := 9) rfl rfl (wkX hX rfl) .sh (ev_ofL (evl_cat (md := .sh) ok.toOk (ev_ofL (evl_slQ (md := .sh) ok.toOk sq_l (ev_vsh ok.toOk (i := 4) (j := 4) rfl rfl rfl) (evo_some (ev_ixA (n := 0) ok.toOk .z (ev_vsh ok.toOk (i := 7) (j := 7) rfl rfl rfl) (ev_int (md := .sh)))) (evo_some (ev_ixA (n := 0) ok.toOk .z (ev_vsh ok.toOk (i := 8) (j := 8) rfl rfl rfl) (ev_int (md := .sh)))))) (ev_ofL (evl_slQ (md := .sh) ok.toOk sq_l (ev_vsh ok.toOk (i := 5) (j := 5) rfl rfl rfl) (evo_some (ev_ixA (n := 1) ok.toOk (.s .z) (ev_vsh ok.toOk (i := 7) (j := 7) rfl rfl rfl) (ev_int (md := .sh)))) (evo_some (ev_ixA (n := 1) ok.toOk (.s .z) (ev_vsh ok.toOk (i := 8) (j := 8) rfl rfl rfl) (ev_int (md := .sh)))))))) fun layer49 => (evb_append ok (wkX hX rfl) (i := 6) (j := 6) rfl rfl rfl .sh (ev_ofL (evl_sortI (md' := .sh) ok.toOk (j := 4) rfl X.g_sorted (ev_vsh ok.toOk (i := 9) (j := 9) rfl rfl rfl))) fun found66 => (evb_set ok (i := 7) (j := 7) rfl rfl (wkX hX rfl) .sh (ev_vsh ok.toOk (i := 8) (j := 8) rfl rfl rfl) fun done69 => (evb_go (by rfl) (Wk.s (Wk.s (Wk.s (Wk.s (Wk.s (Wk.s (Wk.s (Wk.s (Wk.a (Wk.a Wk.n))))))))))))))) fun s71 => (evb_retOwn ok.toOk (i := 6) (j := 6) rfl rfl rfl (.inl rfl) (by rfl)))))))))
theorem b_layers_of {p : Pr} (X : Facts p) : Body p s_layers_of N_layers_of V_layers_of G_layers_of 3 (fun (d : ((List Tx) × Unit)) => [(sV false (tList tStr) d.1), sAny, sAny, sAny, sAny, sAny, sAny, sAny, sAny, sAny]) (fun r => .rtL false (tList tInt) r) r_layers_of := fun g ok hX d => bb_layers_of X ok hX d.1
theorem fn_layers_of {p : Pr} (X : Facts p) : Fn p 4 "layers_of" ["cloth"] (spM p (aCons (tList tStr) aNil) (fun r => .rtL false (tList tInt) r) c_layers_of) := by
  obtain ⟨f, fd, hF, hm⟩ := X.d_layers_of
  exact ⟨f, fd, eq_layers_of ▸ fn_rtL (m := 9) hF sc_layers_of (.cons .nil) rfl rfl (b_layers_of X), hm, hF.kp, hF.bindsN fun _ _ _ _ _ _ us hl => match us, hl with | [_], _ => rfl⟩
abbrev s_row_cut : Stmt := (topS 15)
abbrev N_row_cut : List Str := ["row", "ends", "end"]
abbrev V_row_cut : List Str := ["row", "ends"]
abbrev G_row_cut : List Str := []
theorem sc_row_cut : Sc s_row_cut N_row_cut V_row_cut ["row", "ends"] G_row_cut := ⟨⟨rfl, rfl, rfl, by decide +kernel, rfl, by decide +kernel, by decide +kernel⟩, by decide +kernel, by decide +kernel, by decide +kernel⟩
def q_row_cut (row1 : Tx) (ends2 : (List Int)) : M Tx := M.bind (M.ok (tx "")) fun y9 => M.bind (M.bind (M.ok ends2) fun xs8 => compM (fun end3 => M.bind (M.ok true) fun c6 => if c6 = true then M.bind (M.bind (M.ok row1) fun y4 => M.bind (M.ok end3) fun y5 => getS y4 y5) fun y7 => M.ok (some y7) else M.ok none) xs8) fun y10 => joinM y9 y10
def f_row_cut (row1 : Tx) (ends2 : (List Int)) : M Tx := M.bind (compM (fun end3 => M.bind (getS row1 end3) fun y7 => M.ok (some y7)) ends2) fun y10 => joinM (tx "") y10
def r_row_cut (d : (Tx × (List Int) × Unit)) : M Tx := q_row_cut d.1 d.2.1
def c_row_cut (d : (Tx × (List Int) × Unit)) : M Tx := f_row_cut d.1 d.2.1
theorem eq_row_cut : r_row_cut = c_row_cut := by funext d; first | (simp only [r_row_cut, c_row_cut, q_row_cut, f_row_cut, M.bind_assoc, M.bok]; done) | (simp only [r_row_cut, c_row_cut, q_row_cut, f_row_cut, M.bind_assoc, M.bok]; rfl)
theorem bb_row_cut {p : Pr} (X : Facts p) {g : G} (ok : OkS p (defScope s_row_cut) N_row_cut V_row_cut G_row_cut 0 g) (hX : g.LX = List.replicate N_row_cut.length sAny) (row1 : Tx) (ends2 : (List Int)) : EvB g [(sV false tStr row1), (sV false (tList tInt) ends2), sAny] (defBody s_row_cut) (fun r => .rt false tStr r) (q_row_cut row1 ends2) := (evb_ret (wkX hX rfl) .sh (by intro _; rfl) (ev_join (md' := .sh) ok.toOk (ev_str (md := .sh) (by decide +kernel)) (ev_ofL (evl_lc (md := .sh) (VV' := ["row", "end"]) (GG' := []) (i := 2) ok.toOk (evi_seq ok.toOk sq_l (ev_vsh ok.toOk (i := 1) (j := 1) rfl rfl rfl)) rfl rfl no_any (by decide +kernel) (by decide +kernel) (by decide +kernel) (by decide +kernel) (fun g' okc end3 => evpts_nil) (fun g' okc end3 => (ev_ixS (md' := .sh) okc (ev_vsh okc (i := 0) (j := 0) rfl rfl rfl) (ev_vsh okc (i := 2) (j := 1) rfl rfl rfl)))))))
theorem b_row_cut {p : Pr} (X : Facts p) : Body p s_row_cut N_row_cut V_row_cut G_row_cut 0 (fun (d : (Tx × (List Int) × Unit)) => [(sV false tStr d.1), (sV false (tList tInt) d.2.1), sAny]) (fun r => .rt false tStr r) r_row_cut := fun g ok hX d => bb_row_cut X ok hX d.1 d.2.1
theorem fn_row_cut {p : Pr} (X : Facts p) : Fn p 1 "row_cut" ["row", "ends"] (spM p (aCons tStr (aCons (tList tInt) aNil)) (fun r => .rt false tStr r) c_row_cut) := by
  obtain ⟨f, fd, hF, hm⟩ := X.d_row_cut
  exact ⟨f, fd, eq_row_cut ▸ fn_rt (m := 1) hF sc_row_cut (.cons (.cons .nil)) rfl rfl (b_row_cut X), hm, hF.kp, hF.bindsN fun _ _ _ _ _ _ us hl => match us, hl with | [_, _], _ => rfl⟩
abbrev s_cut_out : Stmt := (topS 16)
abbrev N_cut_out : List Str := ["cloth", "ends", "picks", "pick"]
abbrev V_cut_out : List Str := ["cloth", "ends", "picks"]
abbrev G_cut_out : List Str := []
theorem sc_cut_out : Sc s_cut_out N_cut_out V_cut_out ["cloth", "ends", "picks"] G_cut_out := ⟨⟨rfl, rfl, rfl, by decide +kernel, rfl, by decide +kernel, by decide +kernel⟩, by decide +kernel, by decide +kernel, by decide +kernel⟩
def q_cut_out (cloth1 : (List Tx)) (ends2 : (List Int)) (picks3 : (List Int)) : M (List Tx) := M.bind (M.ok picks3) fun xs15 => compM (fun pick4 => M.bind (M.ok true) fun c13 => if c13 = true then M.bind (M.bind (M.bind (M.bind (M.ok cloth1) fun y5 => M.bind (M.ok pick4) fun y6 => getM y5 y6) fun y9 => M.bind (M.bind (M.ok ends2) fun y7 => M.bind (M.ok ()) fun y8 => M.ok (y7, y8)) fun y10 => M.ok (y9, y10)) c_row_cut) fun y14 => M.ok (some y14) else M.ok none) xs15
def f_cut_out (cloth1 : (List Tx)) (ends2 : (List Int)) (picks3 : (List Int)) : M (List Tx) := compM (fun pick4 => M.bind (M.bind (getM cloth1 pick4) fun y11 => f_row_cut y11 ends2) fun y14 => M.ok (some y14)) picks3
def r_cut_out (d : ((List Tx) × (List Int) × (List Int) × Unit)) : M (List Tx) := q_cut_out d.1 d.2.1 d.2.2.1
def c_cut_out (d : ((List Tx) × (List Int) × (List Int) × Unit)) : M (List Tx) := f_cut_out d.1 d.2.1 d.2.2.1
theorem eq_cut_out : r_cut_out = c_cut_out := by funext d; first | (simp only [r_cut_out, c_cut_out, q_cut_out, f_cut_out, M.bind_assoc, M.bok, c_row_cut]; done) | (simp only [r_cut_out, c_cut_out, q_cut_out, f_cut_out, M.bind_assoc, M.bok, c_row_cut]; rfl)
theorem bb_cut_out {p : Pr} (X : Facts p) {g : G} (ok : OkS p (defScope s_cut_out) N_cut_out V_cut_out G_cut_out 1 g) (hX : g.LX = List.replicate N_cut_out.length sAny) (cloth1 : (List Tx)) (ends2 : (List Int)) (picks3 : (List Int)) : EvB g [(sV false (tList tStr) cloth1), (sV false (tList tInt) ends2), (sV false (tList tInt) picks3), sAny] (defBody s_cut_out) (fun r => .rtL false tStr r) (q_cut_out cloth1 ends2 picks3) := (evb_retL (wkX hX rfl) .sh (by intro _; rfl) (evl_lc (md := .sh) (VV' := ["cloth", "pick", "ends"]) (GG' := ["row_cut"]) (i := 3) ok.toOk (evi_seq ok.toOk sq_l (ev_vsh ok.toOk (i := 2) (j := 2) rfl rfl rfl)) rfl rfl no_any (by decide +kernel) (by decide +kernel) (by decide +kernel) (by decide +kernel) (fun g' okc pick4 => evpts_nil) (fun g' okc pick4 => (ev_call (md' := .sh) okc (fn_row_cut X) (by decide) (j := 0) rfl .sh (eva_cons (md := .sh) (ev_ixQ okc sq_l (ev_vsh okc (i := 0) (j := 0) rfl rfl rfl) (ev_vsh okc (i := 3) (j := 1) rfl rfl rfl)) (eva_cons (md := .sh) (ev_vsh okc (i := 1) (j := 2) rfl rfl rfl) eva_nil))))))
theorem b_cut_out {p : Pr} (X : Facts p) : Body p s_cut_out N_cut_out V_cut_out G_cut_out 1 (fun (d : ((List Tx) × (List Int) × (List Int) × Unit)) => [(sV false (tList tStr) d.1), (sV false (tList tInt) d.2.1), (sV false (tList tInt) d.2.2.1), sAny]) (fun r => .rtL false tStr r) r_cut_out := fun g ok hX d => bb_cut_out X ok hX d.1 d.2.1 d.2.2.1
theorem fn_cut_out {p : Pr} (X : Facts p) : Fn p 2 "cut_out" ["cloth", "ends", "picks"] (spM p (aCons (tList tStr) (aCons (tList tInt) (aCons (tList tInt) aNil))) (fun r => .rtL false tStr r) c_cut_out) := by
  obtain ⟨f, fd, hF, hm⟩ := X.d_cut_out
  exact ⟨f, fd, eq_cut_out ▸ fn_rtL (m := 1) hF sc_cut_out (.cons (.cons (.cons .nil))) rfl rfl (b_cut_out X), hm, hF.kp, hF.bindsN fun _ _ _ _ _ _ us hl => match us, hl with | [_, _, _], _ => rfl⟩
abbrev s_taken_apart : Stmt := (topS 17)
abbrev N_taken_apart : List Str := ["cloth", "wide", "high", "pieces", "ends", "picks", "layer", "warps", "wefts", "end", "pick", "strand"]
abbrev V_taken_apart : List Str := ["cloth", "wide", "high", "pieces", "ends", "picks", "layer", "warps", "wefts", "end", "pick"]
abbrev G_taken_apart : List Str := ["measured", "layers_of", "len", "cut_out"]
theorem sc_taken_apart : Sc s_taken_apart N_taken_apart V_taken_apart ["cloth"] G_taken_apart := ⟨⟨rfl, rfl, rfl, by decide +kernel, rfl, by decide +kernel, by decide +kernel⟩, by decide +kernel, by decide +kernel, by decide +kernel⟩
def r_f_taken_apart_l1 (s22 : ((List (List Tx)) × (List Int) × (List Int))) : ((List Int)) → Int → M ((List Int)) := fun s40 end41 => M.bind (M.bind (M.ok s22.1) fun y42 => M.ok (y42.length : Int)) fun y43 => M.bind (M.ok end41) fun i44 => M.bind (setM s40 i44 y43) fun ends45 => M.ok ends45
def f_taken_apart_l1 (s22 : ((List (List Tx)) × (List Int) × (List Int))) : ((List Int)) → Int → M ((List Int)) := fun s40 end41 => M.bind (setM s40 end41 (s22.1.length : Int)) fun ends45 => M.ok ends45
theorem eq_f_taken_apart_l1 (s22 : ((List (List Tx)) × (List Int) × (List Int))) : r_f_taken_apart_l1 s22 = f_taken_apart_l1 s22 := by funext s40 end41; first | (simp only [r_f_taken_apart_l1, f_taken_apart_l1, M.bind_assoc, M.bok, c_cut_out, c_layers_of, c_measured]; done) | (simp only [r_f_taken_apart_l1, f_taken_apart_l1, M.bind_assoc, M.bok, c_cut_out, c_layers_of, c_measured]; rfl)
def r_f_taken_apart_l2 (s22 : ((List (List Tx)) × (List Int) × (List Int))) : ((List Int)) → Int → M ((List Int)) := fun s48 pick49 => M.bind (M.bind (M.ok s22.1) fun y50 => M.ok (y50.length : Int)) fun y51 => M.bind (M.ok pick49) fun i52 => M.bind (setM s48 i52 y51) fun picks53 => M.ok picks53
def f_taken_apart_l2 (s22 : ((List (List Tx)) × (List Int) × (List Int))) : ((List Int)) → Int → M ((List Int)) := fun s48 pick49 => M.bind (setM s48 pick49 (s22.1.length : Int)) fun picks53 => M.ok picks53
theorem eq_f_taken_apart_l2 (s22 : ((List (List Tx)) × (List Int) × (List Int))) : r_f_taken_apart_l2 s22 = f_taken_apart_l2 s22 := by funext s48 pick49; first | (simp only [r_f_taken_apart_l2, f_taken_apart_l2, M.bind_assoc, M.bok, eq_f_taken_apart_l1, c_cut_out, c_layers_of, c_measured]; done) | (simp only [r_f_taken_apart_l2, f_taken_apart_l2, M.bind_assoc, M.bok, eq_f_taken_apart_l1, c_cut_out, c_layers_of, c_measured]; rfl)
def r_f_taken_apart_l3 (cloth1 : (List Tx)) (t5 : (Int × Int × Unit)) : ((List (List Tx)) × (List Int) × (List Int)) → (List Int) → M ((List (List Tx)) × (List Int) × (List Int)) := fun s22 layer23 => M.bind (M.bind (M.ok layer23) fun xs30 => compM (fun strand25 => M.bind (M.bind (M.ok strand25) fun y26 => M.bind (M.ok t5.1) fun y27 => M.ok (decide (y26 < y27))) fun c28 => if c28 = true then M.bind (M.ok strand25) fun y29 => M.ok (some y29) else M.ok none) xs30) fun warps24 => M.bind (M.bind (M.ok layer23) fun xs39 => compM (fun strand32 => M.bind (M.bind (M.ok strand32) fun y33 => M.bind (M.ok t5.1) fun y34 => M.ok (decide (y34 ≤ y33))) fun c37 => if c37 = true then M.bind (M.bind (M.ok strand32) fun y35 => M.bind (M.ok t5.1) fun y36 => M.ok (y35 - y36)) fun y38 => M.ok (some y38) else M.ok none) xs39) fun wefts31 => M.bind (M.ok warps24) fun xs46 => M.bind (forM (r_f_taken_apart_l1 s22) s22.2.1 xs46) fun (s47 : ((List Int))) => M.bind (M.ok wefts31) fun xs54 => M.bind (forM (r_f_taken_apart_l2 s22) s22.2.2 xs54) fun (s55 : ((List Int))) => M.bind (M.bind (M.bind (M.ok cloth1) fun y61 => M.bind (M.bind (M.ok warps24) fun y59 => M.bind (M.bind (M.ok wefts31) fun y57 => M.bind (M.ok ()) fun y58 => M.ok (y57, y58)) fun y60 => M.ok (y59, y60)) fun y62 => M.ok (y61, y62)) c_cut_out) fun y66 => M.bind (pushM s22.1 y66) fun pieces56 => M.ok (pieces56, s47, s55)
def f_taken_apart_l3 (cloth1 : (List Tx)) (t5 : (Int × Int × Unit)) : ((List (List Tx)) × (List Int) × (List Int)) → (List Int) → M ((List (List Tx)) × (List Int) × (List Int)) := fun s22 layer23 => M.bind (compM (fun strand25 => if (decide (strand25 < t5.1)) = true then M.ok (some strand25) else M.ok none) layer23) fun warps24 => M.bind (compM (fun strand32 => if (decide (t5.1 ≤ strand32)) = true then M.ok (some (strand32 - t5.1)) else M.ok none) layer23) fun wefts31 => M.bind (forM (f_taken_apart_l1 s22) s22.2.1 warps24) fun (s47 : ((List Int))) => M.bind (forM (f_taken_apart_l2 s22) s22.2.2 wefts31) fun (s55 : ((List Int))) => M.bind (f_cut_out cloth1 warps24 wefts31) fun y66 => M.bind (pushM s22.1 y66) fun pieces56 => M.ok (pieces56, s47, s55)
theorem eq_f_taken_apart_l3 (cloth1 : (List Tx)) (t5 : (Int × Int × Unit)) : r_f_taken_apart_l3 cloth1 t5 = f_taken_apart_l3 cloth1 t5 := by funext s22 layer23; first | (simp only [r_f_taken_apart_l3, f_taken_apart_l3, M.bind_assoc, M.bok, eq_f_taken_apart_l1, eq_f_taken_apart_l2, c_cut_out, c_layers_of, c_measured]; done) | (simp only [r_f_taken_apart_l3, f_taken_apart_l3, M.bind_assoc, M.bok, eq_f_taken_apart_l1, eq_f_taken_apart_l2, c_cut_out, c_layers_of, c_measured]; rfl)
def q_taken_apart (cloth1 : (List Tx)) : M ((List (List Tx)) × (List Int) × (List Int) × Unit) := M.bind (M.bind (M.bind (M.ok cloth1) fun y2 => M.bind (M.ok ()) fun y3 => M.ok (y2, y3)) c_measured) fun t5 => M.bind (M.ok []) fun pieces6 => M.bind (M.bind (M.bind (M.ok (0 : Int)) fun y8 => M.bind (M.ok []) fun y9 => M.ok (y8 :: y9)) fun y11 => M.bind (M.ok t5.1) fun y12 => repM y11 y12) fun ends7 => M.bind (M.bind (M.bind (M.ok (0 : Int)) fun y14 => M.bind (M.ok []) fun y15 => M.ok (y14 :: y15)) fun y17 => M.bind (M.ok t5.2.1) fun y18 => repM y17 y18) fun picks13 => M.bind (M.bind (M.bind (M.ok cloth1) fun y19 => M.bind (M.ok ()) fun y20 => M.ok (y19, y20)) c_layers_of) fun xs67 => M.bind (forM (r_f_taken_apart_l3 cloth1 t5) (pieces6, ends7, picks13) xs67) fun (s68 : ((List (List Tx)) × (List Int) × (List Int))) => M.bind (M.bind (M.ok s68.1) fun y73 => M.bind (M.bind (M.ok s68.2.1) fun y71 => M.bind (M.bind (M.ok s68.2.2) fun y69 => M.bind (M.ok ()) fun y70 => M.ok (y69, y70)) fun y72 => M.ok (y71, y72)) fun y74 => M.ok (y73, y74)) fun r78 => M.ok r78
def f_taken_apart (cloth1 : (List Tx)) : M ((List (List Tx)) × (List Int) × (List Int) × Unit) := M.bind (f_measured cloth1) fun t5 => let pieces6 : (List (List Tx)) := []; M.bind (repM ([(0 : Int)]) t5.1) fun ends7 => M.bind (repM ([(0 : Int)]) t5.2.1) fun picks13 => M.bind (f_layers_of cloth1) fun xs67 => M.bind (forM (f_taken_apart_l3 cloth1 t5) (pieces6, ends7, picks13) xs67) fun (s68 : ((List (List Tx)) × (List Int) × (List Int))) => M.ok (s68.1, s68.2.1, s68.2.2, ())
def r_taken_apart (d : ((List Tx) × Unit)) : M ((List (List Tx)) × (List Int) × (List Int) × Unit) := q_taken_apart d.1
def c_taken_apart (d : ((List Tx) × Unit)) : M ((List (List Tx)) × (List Int) × (List Int) × Unit) := f_taken_apart d.1
theorem eq_taken_apart : r_taken_apart = c_taken_apart := by funext d; first | (simp only [r_taken_apart, c_taken_apart, q_taken_apart, f_taken_apart, M.bind_assoc, M.bok, eq_f_taken_apart_l1, eq_f_taken_apart_l2, eq_f_taken_apart_l3, c_cut_out, c_layers_of, c_measured]; done) | (simp only [r_taken_apart, c_taken_apart, q_taken_apart, f_taken_apart, M.bind_assoc, M.bok, eq_f_taken_apart_l1, eq_f_taken_apart_l2, eq_f_taken_apart_l3, c_cut_out, c_layers_of, c_measured]; rfl)
theorem bb_taken_apart {p : Pr} (X : Facts p) {g : G} (ok : OkS p (defScope s_taken_apart) N_taken_apart V_taken_apart G_taken_apart 4 g) (hX : g.LX = List.replicate N_taken_apart.length sAny) (cloth1 : (List Tx)) : EvB g [(sV false (tList tStr) cloth1), sAny, sAny, sAny, sAny, sAny, sAny, sAny, sAny, sAny, sAny, sAny] (defBody s_taken_apart) (fun r => oOut (wTup (waCons (wL (wL (wV tStr))) (waCons (wL (wV tInt)) (waCons (wL (wV tInt)) waNil)))) r) (q_taken_apart cloth1) := (evb_asg ok (wkX hX rfl) (ev_call (md' := .sh) ok.toOk (fn_measured X) (by decide) (j := 0) rfl .sh (eva_cons (md := .sh) (ev_vsh ok.toOk (i := 0) (j := 0) rfl rfl rfl) eva_nil)) (evg_tup ok.toOk (lenS (lenS len0)) (evgs_cons (evg_name ok (i := 1) (j := 1) rfl rfl) fun _ => (evgs_cons (evg_name ok (i := 2) (j := 2) rfl rfl) fun _ => evgs_nil))) fun t5 => (evb_setN ok (i := 3) (j := 3) rfl rfl (.inl (wkX hX rfl)) evn_lnil fun pieces6 => (evb_own ok (i := 4) (j := 4) rfl rfl (wkX hX rfl) .sh (evl_rep (md := .sh) ok.toOk (evl_lstN (n := 1) (lnS ln0) (by decide) (evs_cons (ev_int (md := .sh)) evs_nil)) (ev_vsh ok.toOk (i := 1) (j := 1) rfl rfl rfl)) fun ends7 => (evb_own ok (i := 5) (j := 5) rfl rfl (wkX hX rfl) .sh (evl_rep (md := .sh) ok.toOk (evl_lstN (n := 1) (lnS ln0) (by decide) (evs_cons (ev_int (md := .sh)) evs_nil)) (ev_vsh ok.toOk (i := 2) (j := 2) rfl rfl rfl)) fun picks13 => (evb_for (LF := (fun (s22 : ((List (List Tx)) × (List Int) × (List Int))) => [(sV false (tList tStr) cloth1), (sV false tInt t5.1), (sV false tInt t5.2.1), (sO (wL (wL (wV tStr))) s22.1), (sOwn false tInt s22.2.1), (sOwn false tInt s22.2.2), sAny, sAny, sAny, sAny, sAny, sAny])) (s0 := (pieces6, ends7, picks13)) ok (wkX hX rfl) (evi_seq ok.toOk sq_l (ev_ofL (evl_call (md' := .sh) ok.toOk (fn_layers_of X) (by decide) (j := 1) rfl .sh (eva_cons (md := .sh) (ev_vsh ok.toOk (i := 0) (j := 0) rfl rfl rfl) eva_nil)))) (Wk.s (Wk.s (Wk.s (Wk.s (Wk.s (Wk.s (Wk.s (Wk.s (Wk.s (Wk.s (Wk.s (Wk.s Wk.n)))))))))))) (fun _ => evg_name ok (i := 6) (j := 6) rfl rfl) (fun s22 layer23 => (evb_setC (md := .sh) (VV' := ["strand", "wide"]) (GG' := []) (i := 11) (i2 := 7) ok rfl (wkX hX rfl) (by decide +kernel) (by rfl) (by decide +kernel) (evi_seq ok.toOk sq_l (ev_vsh ok.toOk (i := 6) (j := 6) rfl rfl rfl)) rfl rfl no_any (by decide +kernel) (by decide +kernel) (by decide +kernel) (by decide +kernel) (fun g' okc strand25 => (evpts_one (evt_c okc c_lt (ev_vsh okc (i := 11) (j := 0) rfl rfl rfl) (ev_vsh okc (i := 1) (j := 1) rfl rfl rfl)))) (fun g' okc strand25 => (ev_vsh okc (i := 11) (j := 0) rfl rfl rfl)) fun warps24 => (evb_setC (md := .sh) (VV' := ["strand", "wide"]) (GG' := []) (i := 11) (i2 := 8) ok rfl (wkX hX rfl) (by decide +kernel) (by rfl) (by decide +kernel) (evi_seq ok.toOk sq_l (ev_vsh ok.toOk (i := 6) (j := 6) rfl rfl rfl)) rfl rfl no_any (by decide +kernel) (by decide +kernel) (by decide +kernel) (by decide +kernel) (fun g' okc strand32 => (evpts_one (evt_c okc c_ge (ev_vsh okc (i := 11) (j := 0) rfl rfl rfl) (ev_vsh okc (i := 1) (j := 1) rfl rfl rfl)))) (fun g' okc strand32 => (ev_subt (md' := .sh) okc (ev_vsh okc (i := 11) (j := 0) rfl rfl rfl) (ev_vsh okc (i := 1) (j := 1) rfl rfl rfl))) fun wefts31 => (evb_for (LF := (fun (s40 : ((List Int))) => [(sV false (tList tStr) cloth1), (sV false tInt t5.1), (sV false tInt t5.2.1), (sO (wL (wL (wV tStr))) s22.1), (sOwn false tInt s40), (sOwn false tInt s22.2.2), (sV false (tList tInt) layer23), (sV false (tList tInt) warps24), (sV false (tList tInt) wefts31), sAny, sAny, sAny])) (s0 := s22.2.1) ok (wkX hX rfl) (evi_seq ok.toOk sq_l (ev_vsh ok.toOk (i := 7) (j := 7) rfl rfl rfl)) (Wk.s (Wk.s (Wk.s (Wk.s (Wk.s (Wk.s (Wk.s (Wk.s (Wk.s (Wk.s (Wk.s (Wk.s Wk.n)))))))))))) (fun _ => evg_name ok (i := 9) (j := 9) rfl rfl) (fun s40 end41 => (evb_setitem ok (wkX hX rfl) (i := 4) (j := 4) rfl rfl rfl .sh (ev_borrowP (i := 3) (.inl flInt) rfl (ev_lenQ (md' := .sh) ok.toOk sq_l (j := 2) rfl X.g_len (ev_vsh ok.toOk (i := 3) (j := 3) rfl rfl rfl))) (ev_vsh ok.toOk (i := 9) (j := 9) rfl rfl rfl) fun ends45 => (evb_go (by rfl) (Wk.s (Wk.s (Wk.s (Wk.s (Wk.s (Wk.s (Wk.s (Wk.s (Wk.s (Wk.a (Wk.s (Wk.s Wk.n))))))))))))))) fun s47 => (evb_for (LF := (fun (s48 : ((List Int))) => [(sV false (tList tStr) cloth1), (sV false tInt t5.1), (sV false tInt t5.2.1), (sO (wL (wL (wV tStr))) s22.1), (sOwn false tInt s47), (sOwn false tInt s48), (sV false (tList tInt) layer23), (sV false (tList tInt) warps24), (sV false (tList tInt) wefts31), sAny, sAny, sAny])) (s0 := s22.2.2) ok (wkX hX rfl) (evi_seq ok.toOk sq_l (ev_vsh ok.toOk (i := 8) (j := 8) rfl rfl rfl)) (Wk.s (Wk.s (Wk.s (Wk.s (Wk.s (Wk.s (Wk.s (Wk.s (Wk.s (Wk.s (Wk.s (Wk.s Wk.n)))))))))))) (fun _ => evg_name ok (i := 10) (j := 10) rfl rfl) (fun s48 pick49 => (evb_setitem ok (wkX hX rfl) (i := 5) (j := 5) rfl rfl rfl .sh (ev_borrowP (i := 3) (.inl flInt) rfl (ev_lenQ (md' := .sh) ok.toOk sq_l (j := 2) rfl X.g_len (ev_vsh ok.toOk (i := 3) (j := 3) rfl rfl rfl))) (ev_vsh ok.toOk (i := 10) (j := 10) rfl rfl rfl) fun picks53 => (evb_go (by rfl) (Wk.s (Wk.s (Wk.s (Wk.s (Wk.s (Wk.s (Wk.s (Wk.s (Wk.s (Wk.s (Wk.a (Wk.s Wk.n))))))))))))))) fun s55 => (evb_nAppend ok (i := 3) (j := 3) rfl rfl rfl (wkX hX rfl) (evn_l (evl_call (md' := .sh) ok.toOk (fn_cut_out X) (by decide) (j := 3) rfl .sh (eva_cons (md := .sh) (ev_vsh ok.toOk (i := 0) (j := 0) rfl rfl rfl) (eva_cons (md := .sh) (ev_vsh ok.toOk (i := 7) (j := 7) rfl rfl rfl) (eva_cons (md := .sh) (ev_vsh ok.toOk (i := 8) (j := 8) rfl rfl rfl) eva_nil))))) fun pieces56 => (evb_go (by rfl) (Wk.s (Wk.s (Wk.s (Wk.s (Wk.s (Wk.s (Wk.a (Wk.a (Wk.a (Wk.s (Wk.s (Wk.s Wk.n))))))))))))))))))) fun s68 => (evb_asO (i := 4) rfl (evb_asO (i := 5) rfl (evb_retR (mk := fun r78 => r78) (.inl (wkX hX rfl)) (by intro _; rfl) (evr_tup (lenWl (n := 3) (by decide) (lenWS (lenWS (lenWS @lenW0)))) (evra_cons ok.toOk (evr_mv ok.toOk (i := 3) (j := 3) rfl rfl rfl) (fun g okr => (evra_cons okr (evr_mv okr (i := 4) (j := 4) rfl rfl rfl) (fun g okr => (evra_cons okr (evr_mv okr (i := 5) (j := 5) rfl rfl rfl) (fun g okr => evra_nil) (by decide))) (by decide))) (by decide)))))))))))
theorem b_taken_apart {p : Pr} (X : Facts p) : Body p s_taken_apart N_taken_apart V_taken_apart G_taken_apart 4 (fun (d : ((List Tx) × Unit)) => [(sV false (tList tStr) d.1), sAny, sAny, sAny, sAny, sAny, sAny, sAny, sAny, sAny, sAny, sAny]) (fun r => oOut (wTup (waCons (wL (wL (wV tStr))) (waCons (wL (wV tInt)) (waCons (wL (wV tInt)) waNil)))) r) r_taken_apart := fun g ok hX d => bb_taken_apart X ok hX d.1
theorem fn_taken_apart {p : Pr} (X : Facts p) : Fn p 5 "taken_apart" ["cloth"] (spM p (aCons (tList tStr) aNil) (fun r => oOut (wTup (waCons (wL (wL (wV tStr))) (waCons (wL (wV tInt)) (waCons (wL (wV tInt)) waNil)))) r) c_taken_apart) := by
  obtain ⟨f, fd, hF, hm⟩ := X.d_taken_apart
  exact ⟨f, fd, eq_taken_apart ▸ fn_rtN (m := 11) hF sc_taken_apart (.cons .nil) rfl rfl (b_taken_apart X), hm, hF.kp, hF.bindsN fun _ _ _ _ _ _ us hl => match us, hl with | [_], _ => rfl⟩
abbrev s__law_owned : Stmt := (topS 23)
abbrev N__law_owned : List Str := ["row", "count", "many", "number"]
abbrev V__law_owned : List Str := ["row", "count", "many", "number"]
abbrev G__law_owned : List Str := ["list", "isinstance", "len", "int", "bool"]
theorem sc__law_owned : Sc s__law_owned N__law_owned V__law_owned ["row", "count", "many"] G__law_owned := ⟨⟨rfl, rfl, rfl, by decide +kernel, rfl, by decide +kernel, by decide +kernel⟩, by decide +kernel, by decide +kernel, by decide +kernel⟩
def r_f_law_owned_l1 (many3 : Int) : Unit → Int → M (Fl Unit Bool) := fun s12 number13 => M.bind (M.ok ((!true) || (false || (!((decide ((0 : Int) ≤ number13)) && (decide (number13 < many3))))))) fun c20 => if c20 = true then M.bind (M.ok false) fun r21 => M.ok (Fl.rt r21) else M.ok (Fl.nx ())
def f_law_owned_l1 (many3 : Int) : Unit → Int → M (Fl Unit Bool) := fun s12 number13 => if ((!true) || (false || (!((decide ((0 : Int) ≤ number13)) && (decide (number13 < many3)))))) = true then M.ok (Fl.rt false) else M.ok (Fl.nx ())
theorem eq_f_law_owned_l1 (many3 : Int) : r_f_law_owned_l1 many3 = f_law_owned_l1 many3 := by funext s12 number13; first | (simp only [r_f_law_owned_l1, f_law_owned_l1, M.bind_assoc, M.bok]; done) | (simp only [r_f_law_owned_l1, f_law_owned_l1, M.bind_assoc, M.bok]; rfl)
def q__law_owned (row1 : (List Int)) (count2 : Int) (many3 : Int) : M Bool := M.bind (M.ok ((!true) || (!decide ((row1.length : Int) = count2)))) fun c10 => if c10 = true then M.ok false else M.bind (M.ok row1) fun xs23 => M.bind (forF (r_f_law_owned_l1 many3) () xs23) (Fl.el (fun (s24 : Unit) => M.ok true) fun r26 => M.ok r26)
def f_law_owned (row1 : (List Int)) (count2 : Int) (many3 : Int) : M Bool := if ((!true) || (!decide ((row1.length : Int) = count2))) = true then M.ok false else M.bind (forF (f_law_owned_l1 many3) () row1) (Fl.el (fun (s24 : Unit) => M.ok true) fun r26 => M.ok r26)
def r__law_owned (d : ((List Int) × Int × Int × Unit)) : M Bool := q__law_owned d.1 d.2.1 d.2.2.1
def c__law_owned (d : ((List Int) × Int × Int × Unit)) : M Bool := f_law_owned d.1 d.2.1 d.2.2.1
theorem eq__law_owned : r__law_owned = c__law_owned := by funext d; first | (simp only [r__law_owned, c__law_owned, q__law_owned, f_law_owned, M.bind_assoc, M.bok, eq_f_law_owned_l1]; done) | (simp only [r__law_owned, c__law_owned, q__law_owned, f_law_owned, M.bind_assoc, M.bok, eq_f_law_owned_l1]; rfl)
theorem bb__law_owned {p : Pr} (X : Facts p) {g : G} (ok : OkS p (defScope s__law_owned) N__law_owned V__law_owned G__law_owned 0 g) (hX : g.LX = List.replicate N__law_owned.length sAny) (row1 : (List Int)) (count2 : Int) (many3 : Int) : EvB g [(sV false (tList tInt) row1), (sV false tInt count2), (sV false tInt many3), sAny] (defBody s__law_owned) (fun r => .rt false tBool r) (q__law_owned row1 count2 many3) := (evb_ifx (wkX hX rfl) (EvW.t (evw_orP (pureT (m := M.bind (M.bind (M.ok row1) fun y4 => M.ok true) fun y5 => M.ok (!y5)) (evt_not (evt_of (ev_isi (md' := .sh) (r := true) ok.toOk (j := 1) rfl X.g_isinstance i_list (by decide +kernel) (ev_vsh ok.toOk (i := 0) (j := 0) rfl rfl rfl) (ev_ty (n := "list") (md := .sh) ok.toOk (j := 0) rfl X.g_list (by decide +kernel))))) rfl) (pureW (m := M.bind (M.bind (M.ok row1) fun y6 => M.ok (y6.length : Int)) fun y7 => M.bind (M.ok count2) fun y8 => M.ok (!decide (y7 = y8))) (evw_or1 (evt_c ok.toOk (c_ne s_int) (ev_lenQ (md' := .sh) ok.toOk sq_l (j := 2) rfl X.g_len (ev_vsh ok.toOk (i := 0) (j := 0) rfl rfl rfl)) (ev_vsh ok.toOk (i := 1) (j := 1) rfl rfl rfl))) rfl))) (evb_ret (wkX hX rfl) .sh (by intro _; rfl) (ev_bool (md := .sh))) (evb_forF (LF := (fun (s12 : Unit) => [(sV false (tList tInt) row1), (sV false tInt count2), (sV false tInt many3), sAny])) (s0 := ()) (dr := fun r26 => r26) ok (wkX hX rfl) (evi_seq ok.toOk sq_l (ev_vsh ok.toOk (i := 0) (j := 0) rfl rfl rfl)) (Wk.s (Wk.s (Wk.s (Wk.s Wk.n)))) (fun _ => evg_name ok (i := 3) (j := 3) rfl rfl) (fun s12 number13 => (evb_ifl (wkX hX rfl) (EvW.t (evw_orP (pureT (m := M.bind (M.bind (M.ok number13) fun y14 => M.ok true) fun y15 => M.ok (!y15)) (evt_not (evt_of (ev_isi (md' := .sh) (r := true) ok.toOk (j := 1) rfl X.g_isinstance i_int (by decide +kernel) (ev_vsh ok.toOk (i := 3) (j := 3) rfl rfl rfl) (ev_ty (n := "int") (md := .sh) ok.toOk (j := 3) rfl X.g_int (by decide +kernel))))) rfl) (pureW (m := M.ok (false || (!((decide ((0 : Int) ≤ number13)) && (decide (number13 < many3)))))) (evw_orP (pureT (m := M.bind (M.ok number13) fun y16 => M.ok false) (evt_of (ev_isi (md' := .sh) (r := false) ok.toOk (j := 1) rfl X.g_isinstance i_int (by decide +kernel) (ev_vsh ok.toOk (i := 3) (j := 3) rfl rfl rfl) (ev_ty (n := "bool") (md := .sh) ok.toOk (j := 4) rfl X.g_bool (by decide +kernel)))) rfl) (pureW (m := M.bind (M.ok ((decide ((0 : Int) ≤ number13)) && (decide (number13 < many3)))) fun y17 => M.ok (!y17)) (evw_or1 (evt_not (evt_chainI ok.toOk ch_le ch_lt (ev_int (md := .sh)) (ev_vsh ok.toOk (i := 3) (j := 3) rfl rfl rfl) (ev_vsh ok.toOk (i := 2) (j := 2) rfl rfl rfl) rfl rfl rfl))) rfl)) rfl))) (evb_retF (mk := fun r21 => Fl.rt r21) (wkX hX rfl) .sh (by intro _; rfl) (ev_bool (md := .sh))) (evb_go (by rfl) (Wk.s (Wk.s (Wk.s (Wk.a Wk.n))))))) fun s24 => (evb_ret (wkX hX rfl) .sh (by intro _; rfl) (ev_bool (md := .sh)))))
theorem b__law_owned {p : Pr} (X : Facts p) : Body p s__law_owned N__law_owned V__law_owned G__law_owned 0 (fun (d : ((List Int) × Int × Int × Unit)) => [(sV false (tList tInt) d.1), (sV false tInt d.2.1), (sV false tInt d.2.2.1), sAny]) (fun r => .rt false tBool r) r__law_owned := fun g ok hX d => bb__law_owned X ok hX d.1 d.2.1 d.2.2.1
theorem fn__law_owned {p : Pr} (X : Facts p) : Fn p 1 "_law_owned" ["row", "count", "many"] (spM p (aCons (tList tInt) (aCons tInt (aCons tInt aNil))) (fun r => .rt false tBool r) c__law_owned) := by
  obtain ⟨f, fd, hF, hm⟩ := X.d__law_owned
  exact ⟨f, fd, eq__law_owned ▸ fn_rt (m := 1) hF sc__law_owned (.cons (.cons (.cons .nil))) rfl rfl (b__law_owned X), hm, hF.kp, hF.bindsN fun _ _ _ _ _ _ us hl => match us, hl with | [_, _, _], _ => rfl⟩
abbrev s__law_formed : Stmt := (topS 24)
abbrev N__law_formed : List Str := ["piece", "wide", "high", "row", "sign"]
abbrev V__law_formed : List Str := ["piece", "wide", "high", "row", "sign"]
abbrev G__law_formed : List Str := ["list", "isinstance", "len", "str"]
theorem sc__law_formed : Sc s__law_formed N__law_formed V__law_formed ["piece", "wide", "high"] G__law_formed := ⟨⟨rfl, rfl, rfl, by decide +kernel, rfl, by decide +kernel, by decide +kernel⟩, by decide +kernel, by decide +kernel, by decide +kernel⟩
def r_f_law_formed_l1  : Unit → Tx → M (Fl Unit Bool) := fun s23 sign24 => M.bind (M.ok ((!decide (sign24 = (tx "#"))) && (!decide (sign24 = (tx "."))))) fun c30 => if c30 = true then M.bind (M.ok false) fun r31 => M.ok (Fl.rt r31) else M.ok (Fl.nx ())
def f_law_formed_l1  : Unit → Tx → M (Fl Unit Bool) := fun s23 sign24 => if ((!decide (sign24 = (tx "#"))) && (!decide (sign24 = (tx ".")))) = true then M.ok (Fl.rt false) else M.ok (Fl.nx ())
theorem eq_f_law_formed_l1  : r_f_law_formed_l1  = f_law_formed_l1  := by funext s23 sign24; first | (simp only [r_f_law_formed_l1, f_law_formed_l1, M.bind_assoc, M.bok]; done) | (simp only [r_f_law_formed_l1, f_law_formed_l1, M.bind_assoc, M.bok]; rfl)
def r_f_law_formed_l2 (wide2 : Int) : Unit → Tx → M (Fl Unit Bool) := fun s12 row13 => M.bind (M.ok ((!true) || (!decide ((row13.length : Int) = wide2)))) fun c20 => if c20 = true then M.bind (M.ok false) fun r21 => M.ok (Fl.rt r21) else M.bind (M.bind (M.ok row13) fun y22 => M.ok (y22.map fun c => [c])) fun xs33 => M.bind (forF r_f_law_formed_l1 () xs33) (Fl.el (fun (s34 : Unit) => M.ok (Fl.nx ())) fun r35 => M.ok (Fl.rt r35))
def f_law_formed_l2 (wide2 : Int) : Unit → Tx → M (Fl Unit Bool) := fun s12 row13 => if ((!true) || (!decide ((row13.length : Int) = wide2))) = true then M.ok (Fl.rt false) else M.bind (forF f_law_formed_l1 () (row13.map fun c => [c])) (Fl.el (fun (s34 : Unit) => M.ok (Fl.nx ())) fun r35 => M.ok (Fl.rt r35))
theorem eq_f_law_formed_l2 (wide2 : Int) : r_f_law_formed_l2 wide2 = f_law_formed_l2 wide2 := by funext s12 row13; first | (simp only [r_f_law_formed_l2, f_law_formed_l2, M.bind_assoc, M.bok, eq_f_law_formed_l1]; done) | (simp only [r_f_law_formed_l2, f_law_formed_l2, M.bind_assoc, M.bok, eq_f_law_formed_l1]; rfl)
def q__law_formed (piece1 : (List Tx)) (wide2 : Int) (high3 : Int) : M Bool := M.bind (M.ok ((!true) || (!decide ((piece1.length : Int) = high3)))) fun c10 => if c10 = true then M.ok false else M.bind (M.ok piece1) fun xs37 => M.bind (forF (r_f_law_formed_l2 wide2) () xs37) (Fl.el (fun (s38 : Unit) => M.ok true) fun r40 => M.ok r40)
def f_law_formed (piece1 : (List Tx)) (wide2 : Int) (high3 : Int) : M Bool := if ((!true) || (!decide ((piece1.length : Int) = high3))) = true then M.ok false else M.bind (forF (f_law_formed_l2 wide2) () piece1) (Fl.el (fun (s38 : Unit) => M.ok true) fun r40 => M.ok r40)
def r__law_formed (d : ((List Tx) × Int × Int × Unit)) : M Bool := q__law_formed d.1 d.2.1 d.2.2.1
def c__law_formed (d : ((List Tx) × Int × Int × Unit)) : M Bool := f_law_formed d.1 d.2.1 d.2.2.1
theorem eq__law_formed : r__law_formed = c__law_formed := by funext d; first | (simp only [r__law_formed, c__law_formed, q__law_formed, f_law_formed, M.bind_assoc, M.bok, eq_f_law_formed_l1, eq_f_law_formed_l2]; done) | (simp only [r__law_formed, c__law_formed, q__law_formed, f_law_formed, M.bind_assoc, M.bok, eq_f_law_formed_l1, eq_f_law_formed_l2]; rfl)
theorem bb__law_formed {p : Pr} (X : Facts p) {g : G} (ok : OkS p (defScope s__law_formed) N__law_formed V__law_formed G__law_formed 0 g) (hX : g.LX = List.replicate N__law_formed.length sAny) (piece1 : (List Tx)) (wide2 : Int) (high3 : Int) : EvB g [(sV false (tList tStr) piece1), (sV false tInt wide2), (sV false tInt high3), sAny, sAny] (defBody s__law_formed) (fun r => .rt false tBool r) (q__law_formed piece1 wide2 high3) := (evb_ifx (wkX hX rfl) (EvW.t (evw_orP (pureT (m := M.bind (M.bind (M.ok piece1) fun y4 => M.ok true) fun y5 => M.ok (!y5)) (evt_not (evt_of (ev_isi (md' := .sh) (r := true) ok.toOk (j := 1) rfl X.g_isinstance i_list (by decide +kernel) (ev_vsh ok.toOk (i := 0) (j := 0) rfl rfl rfl) (ev_ty (n := "list") (md := .sh) ok.toOk (j := 0) rfl X.g_list (by decide +kernel))))) rfl) (pureW (m := M.bind (M.bind (M.ok piece1) fun y6 => M.ok (y6.length : Int)) fun y7 => M.bind (M.ok high3) fun y8 => M.ok (!decide (y7 = y8))) (evw_or1 (evt_c ok.toOk (c_ne s_int) (ev_lenQ (md' := .sh) ok.toOk sq_l (j := 2) rfl X.g_len (ev_vsh ok.toOk (i := 0) (j := 0) rfl rfl rfl)) (ev_vsh ok.toOk (i := 2) (j := 2) rfl rfl rfl))) rfl))) (evb_ret (wkX hX rfl) .sh (by intro _; rfl) (ev_bool (md := .sh))) (evb_forF (LF := (fun (s12 : Unit) => [(sV false (tList tStr) piece1), (sV false tInt wide2), (sV false tInt high3), sAny, sAny])) (s0 := ()) (dr := fun r40 => r40) ok (wkX hX rfl) (evi_seq ok.toOk sq_l (ev_vsh ok.toOk (i := 0) (j := 0) rfl rfl rfl)) (Wk.s (Wk.s (Wk.s (Wk.s (Wk.s Wk.n))))) (fun _ => evg_name ok (i := 3) (j := 3) rfl rfl) (fun s12 row13 => (evb_ifx (wkX hX rfl) (EvW.t (evw_orP (pureT (m := M.bind (M.bind (M.ok row13) fun y14 => M.ok true) fun y15 => M.ok (!y15)) (evt_not (evt_of (ev_isi (md' := .sh) (r := true) ok.toOk (j := 1) rfl X.g_isinstance i_str (by decide +kernel) (ev_vsh ok.toOk (i := 3) (j := 3) rfl rfl rfl) (ev_ty (n := "str") (md := .sh) ok.toOk (j := 3) rfl X.g_str (by decide +kernel))))) rfl) (pureW (m := M.bind (M.bind (M.ok row13) fun y16 => M.ok (y16.length : Int)) fun y17 => M.bind (M.ok wide2) fun y18 => M.ok (!decide (y17 = y18))) (evw_or1 (evt_c ok.toOk (c_ne s_int) (ev_lenS (md' := .sh) ok.toOk (j := 2) rfl X.g_len (ev_vsh ok.toOk (i := 3) (j := 3) rfl rfl rfl)) (ev_vsh ok.toOk (i := 1) (j := 1) rfl rfl rfl))) rfl))) (evb_retF (mk := fun r21 => Fl.rt r21) (wkX hX rfl) .sh (by intro _; rfl) (ev_bool (md := .sh))) (evb_forF (LF := (fun (s23 : Unit) => [(sV false (tList tStr) piece1), (sV false tInt wide2), (sV false tInt high3), (sV false tStr row13), sAny])) (s0 := ()) (dr := fun r35 => Fl.rt r35) ok (wkX hX rfl) (evi_str (ev_vsh ok.toOk (i := 3) (j := 3) rfl rfl rfl)) (Wk.s (Wk.s (Wk.s (Wk.s (Wk.s Wk.n))))) (fun _ => evg_name ok (i := 4) (j := 4) rfl rfl) (fun s23 sign24 => (evb_ifl (wkX hX rfl) (EvW.t (evw_andP (pureT (m := M.bind (M.ok sign24) fun y25 => M.bind (M.ok (tx "#")) fun y26 => M.ok (!decide (y25 = y26))) (evt_c ok.toOk (c_ne s_str) (ev_vsh ok.toOk (i := 4) (j := 4) rfl rfl rfl) (ev_str (md := .sh) (by decide +kernel))) rfl) (pureW (m := M.bind (M.ok sign24) fun y27 => M.bind (M.ok (tx ".")) fun y28 => M.ok (!decide (y27 = y28))) (evw_and1 (evt_c ok.toOk (c_ne s_str) (ev_vsh ok.toOk (i := 4) (j := 4) rfl rfl rfl) (ev_str (md := .sh) (by decide +kernel)))) rfl))) (evb_retF (mk := fun r31 => Fl.rt r31) (wkX hX rfl) .sh (by intro _; rfl) (ev_bool (md := .sh))) (evb_go (by rfl) (Wk.s (Wk.s (Wk.s (Wk.s (Wk.a Wk.n)))))))) fun s34 => (evb_go (by rfl) (Wk.s (Wk.s (Wk.s (Wk.a (Wk.s Wk.n))))))))) fun s38 => (evb_ret (wkX hX rfl) .sh (by intro _; rfl) (ev_bool (md := .sh)))))
theorem b__law_formed {p : Pr} (X : Facts p) : Body p s__law_formed N__law_formed V__law_formed G__law_formed 0 (fun (d : ((List Tx) × Int × Int × Unit)) => [(sV false (tList tStr) d.1), (sV false tInt d.2.1), (sV false tInt d.2.2.1), sAny, sAny]) (fun r => .rt false tBool r) r__law_formed := fun g ok hX d => bb__law_formed X ok hX d.1 d.2.1 d.2.2.1
theorem fn__law_formed {p : Pr} (X : Facts p) : Fn p 1 "_law_formed" ["piece", "wide", "high"] (spM p (aCons (tList tStr) (aCons tInt (aCons tInt aNil))) (fun r => .rt false tBool r) c__law_formed) := by
  obtain ⟨f, fd, hF, hm⟩ := X.d__law_formed
  exact ⟨f, fd, eq__law_formed ▸ fn_rt (m := 2) hF sc__law_formed (.cons (.cons (.cons .nil))) rfl rfl (b__law_formed X), hm, hF.kp, hF.bindsN fun _ _ _ _ _ _ us hl => match us, hl with | [_, _, _], _ => rfl⟩
abbrev s__law_reached : Stmt := (topS 21)
abbrev N__law_reached : List Str := ["piece", "wide", "forth", "size", "seen", "turn", "j", "k", "along", "strand"]
abbrev V__law_reached : List Str := ["piece", "wide", "forth", "size", "seen", "turn", "j", "k", "along"]
abbrev G__law_reached : List Str := ["len", "range", "all"]
theorem sc__law_reached : Sc s__law_reached N__law_reached V__law_reached ["piece", "wide", "forth"] G__law_reached := ⟨⟨rfl, rfl, rfl, by decide +kernel, rfl, by decide +kernel, by decide +kernel⟩, by decide +kernel, by decide +kernel, by decide +kernel⟩
def r_f_law_reached_l1 (piece1 : (List Tx)) (wide2 : Int) (forth3 : Bool) (j22 : Int) : ((List Bool)) → Int → M ((List Bool)) := fun s24 k25 => M.bind (M.bind (M.bind (M.bind (M.bind (M.ok piece1) fun y27 => M.bind (M.ok j22) fun y28 => getM y27 y28) fun y29 => M.bind (M.ok k25) fun y30 => getS y29 y30) fun y31 => M.bind (M.ok (tx "#")) fun y32 => M.ok (decide (y31 = y32))) fun y33 => M.bind (M.ok forth3) fun y34 => M.ok (decide (y33 = y34))) fun along26 => M.bind (M.bind (M.ok along26) fun c37 => if c37 = true then M.bind (M.ok s24) fun y35 => M.bind (M.ok k25) fun y36 => getM y35 y36 else M.ok false) fun c39 => M.bind (if c39 = true then M.bind (M.ok true) fun y42 => M.bind (M.bind (M.ok wide2) fun y40 => M.bind (M.ok j22) fun y41 => M.ok (y40 + y41)) fun i43 => M.bind (setM s24 i43 y42) fun seen44 => M.ok seen44 else M.ok s24) fun (s45 : ((List Bool))) => M.bind (M.bind (M.bind (M.ok along26) fun y46 => M.ok (!y46)) fun c51 => if c51 = true then M.bind (M.ok s45) fun y49 => M.bind (M.bind (M.ok wide2) fun y47 => M.bind (M.ok j22) fun y48 => M.ok (y47 + y48)) fun y50 => getM y49 y50 else M.ok false) fun c53 => if c53 = true then M.bind (M.ok true) fun y54 => M.bind (M.ok k25) fun i55 => M.bind (setM s45 i55 y54) fun seen56 => M.ok seen56 else M.ok s45
def f_law_reached_l1 (piece1 : (List Tx)) (wide2 : Int) (forth3 : Bool) (j22 : Int) : ((List Bool)) → Int → M ((List Bool)) := fun s24 k25 => M.bind (M.bind (M.bind (M.bind (getM piece1 j22) fun y29 => getS y29 k25) fun y31 => M.ok (decide (y31 = (tx "#")))) fun y33 => M.ok (decide (y33 = forth3))) fun along26 => M.bind (if along26 = true then getM s24 k25 else M.ok false) fun c39 => M.bind (if c39 = true then M.bind (setM s24 (wide2 + j22) true) fun seen44 => M.ok seen44 else M.ok s24) fun (s45 : ((List Bool))) => M.bind (if (!along26) = true then getM s45 (wide2 + j22) else M.ok false) fun c57 => if c57 = true then M.bind (setM s45 k25 true) fun seen56 => M.ok seen56 else M.ok s45
theorem eq_f_law_reached_l1 (piece1 : (List Tx)) (wide2 : Int) (forth3 : Bool) (j22 : Int) : r_f_law_reached_l1 piece1 wide2 forth3 j22 = f_law_reached_l1 piece1 wide2 forth3 j22 := by funext s24 k25; first | (simp only [r_f_law_reached_l1, f_law_reached_l1, M.bind_assoc, M.bok]; done) | (simp only [r_f_law_reached_l1, f_law_reached_l1, M.bind_assoc, M.bok]; rfl)
def r_f_law_reached_l2 (piece1 : (List Tx)) (wide2 : Int) (forth3 : Bool) : ((List Bool)) → Int → M ((List Bool)) := fun s21 j22 => M.bind (M.bind (M.ok wide2) fun y23 => rangeM 0 y23) fun xs58 => M.bind (forM (r_f_law_reached_l1 piece1 wide2 forth3 j22) s21 xs58) fun (s59 : ((List Bool))) => M.ok s59
def f_law_reached_l2 (piece1 : (List Tx)) (wide2 : Int) (forth3 : Bool) : ((List Bool)) → Int → M ((List Bool)) := fun s21 j22 => M.bind (rangeM 0 wide2) fun xs58 => M.bind (forM (f_law_reached_l1 piece1 wide2 forth3 j22) s21 xs58) fun (s59 : ((List Bool))) => M.ok s59
theorem eq_f_law_reached_l2 (piece1 : (List Tx)) (wide2 : Int) (forth3 : Bool) : r_f_law_reached_l2 piece1 wide2 forth3 = f_law_reached_l2 piece1 wide2 forth3 := by funext s21 j22; first | (simp only [r_f_law_reached_l2, f_law_reached_l2, M.bind_assoc, M.bok, eq_f_law_reached_l1]; done) | (simp only [r_f_law_reached_l2, f_law_reached_l2, M.bind_assoc, M.bok, eq_f_law_reached_l1]; rfl)
def r_f_law_reached_l3 (piece1 : (List Tx)) (wide2 : Int) (forth3 : Bool) : ((List Bool)) → Int → M ((List Bool)) := fun s17 turn18 => M.bind (M.bind (M.bind (M.ok piece1) fun y19 => M.ok (y19.length : Int)) fun y20 => rangeM 0 y20) fun xs60 => M.bind (forM (r_f_law_reached_l2 piece1 wide2 forth3) s17 xs60) fun (s61 : ((List Bool))) => M.ok s61
def f_law_reached_l3 (piece1 : (List Tx)) (wide2 : Int) (forth3 : Bool) : ((List Bool)) → Int → M ((List Bool)) := fun s17 turn18 => M.bind (rangeM 0 (piece1.length : Int)) fun xs60 => M.bind (forM (f_law_reached_l2 piece1 wide2 forth3) s17 xs60) fun (s61 : ((List Bool))) => M.ok s61
theorem eq_f_law_reached_l3 (piece1 : (List Tx)) (wide2 : Int) (forth3 : Bool) : r_f_law_reached_l3 piece1 wide2 forth3 = f_law_reached_l3 piece1 wide2 forth3 := by funext s17 turn18; first | (simp only [r_f_law_reached_l3, f_law_reached_l3, M.bind_assoc, M.bok, eq_f_law_reached_l1, eq_f_law_reached_l2]; done) | (simp only [r_f_law_reached_l3, f_law_reached_l3, M.bind_assoc, M.bok, eq_f_law_reached_l1, eq_f_law_reached_l2]; rfl)
def q__law_reached (piece1 : (List Tx)) (wide2 : Int) (forth3 : Bool) : M Bool := M.bind (M.bind (M.ok wide2) fun y6 => M.bind (M.bind (M.ok piece1) fun y5 => M.ok (y5.length : Int)) fun y7 => M.ok (y6 + y7)) fun size4 => M.bind (M.bind (M.bind (M.ok size4) fun y9 => rangeM 0 y9) fun xs15 => compM (fun strand10 => M.bind (M.ok true) fun c13 => if c13 = true then M.bind (M.bind (M.ok strand10) fun y11 => M.bind (M.ok (0 : Int)) fun y12 => M.ok (decide (y11 = y12))) fun y14 => M.ok (some y14) else M.ok none) xs15) fun seen8 => M.bind (M.bind (M.ok size4) fun y16 => rangeM 0 y16) fun xs62 => M.bind (forM (r_f_law_reached_l3 piece1 wide2 forth3) seen8 xs62) fun (s63 : ((List Bool))) => M.bind (M.ok s63) fun y64 => M.ok (y64.all id)
def f_law_reached (piece1 : (List Tx)) (wide2 : Int) (forth3 : Bool) : M Bool := let size4 : Int := (wide2 + (piece1.length : Int)); M.bind (M.bind (rangeM 0 size4) fun xs15 => compM (fun strand10 => M.ok (some (decide (strand10 = (0 : Int))))) xs15) fun seen8 => M.bind (rangeM 0 size4) fun xs62 => M.bind (forM (f_law_reached_l3 piece1 wide2 forth3) seen8 xs62) fun (s63 : ((List Bool))) => M.ok (s63.all id)
def r__law_reached (d : ((List Tx) × Int × Bool × Unit)) : M Bool := q__law_reached d.1 d.2.1 d.2.2.1
def c__law_reached (d : ((List Tx) × Int × Bool × Unit)) : M Bool := f_law_reached d.1 d.2.1 d.2.2.1
theorem eq__law_reached : r__law_reached = c__law_reached := by funext d; first | (simp only [r__law_reached, c__law_reached, q__law_reached, f_law_reached, M.bind_assoc, M.bok, eq_f_law_reached_l1, eq_f_law_reached_l2, eq_f_law_reached_l3]; done) | (simp only [r__law_reached, c__law_reached, q__law_reached, f_law_reached, M.bind_assoc, M.bok, eq_f_law_reached_l1, eq_f_law_reached_l2, eq_f_law_reached_l3]; rfl)
theorem bb__law_reached {p : Pr} (X : Facts p) {g : G} (ok : OkS p (defScope s__law_reached) N__law_reached V__law_reached G__law_reached 0 g) (hX : g.LX = List.replicate N__law_reached.length sAny) (piece1 : (List Tx)) (wide2 : Int) (forth3 : Bool) : EvB g [(sV false (tList tStr) piece1), (sV false tInt wide2), (sV false tBool forth3), sAny, sAny, sAny, sAny, sAny, sAny, sAny] (defBody s__law_reached) (fun r => .rt false tBool r) (q__law_reached piece1 wide2 forth3) := (evb_set ok (i := 3) (j := 3) rfl rfl (wkX hX rfl) .sh (ev_add (md' := .sh) ok.toOk (ev_vsh ok.toOk (i := 1) (j := 1) rfl rfl rfl) (ev_lenQ (md' := .sh) ok.toOk sq_l (j := 0) rfl X.g_len (ev_vsh ok.toOk (i := 0) (j := 0) rfl rfl rfl))) fun size4 => (evb_ownC (md := .sh) (VV' := ["strand"]) (GG' := []) (i := 9) (i2 := 4) ok rfl (wkX hX rfl) .sh (by decide +kernel) (by rfl) (by decide +kernel) (evi_range1 ok.toOk (j := 1) rfl X.g_range (ev_vsh ok.toOk (i := 3) (j := 3) rfl rfl rfl)) rfl rfl no_any (by decide +kernel) (by decide +kernel) (by decide +kernel) (by decide +kernel) (fun g' okc strand10 => evpts_nil) (fun g' okc strand10 => (ev_c (md' := .sh) okc (c_eq s_int) (ev_vsh okc (i := 9) (j := 0) rfl rfl rfl) (ev_int (md := .sh)))) fun seen8 => (evb_for (LF := (fun (s17 : ((List Bool))) => [(sV false (tList tStr) piece1), (sV false tInt wide2), (sV false tBool forth3), (sV false tInt size4), (sOwn false tBool s17), sAny, sAny, sAny, sAny, sAny])) (s0 := seen8) ok (wkX hX rfl) (evi_range1 ok.toOk (j := 1) rfl X.g_range (ev_vsh ok.toOk (i := 3) (j := 3) rfl rfl rfl)) (Wk.s (Wk.s (Wk.s (Wk.s (Wk.s (Wk.s (Wk.s (Wk.s (Wk.s (Wk.s Wk.n)))))))))) (fun _ => evg_name ok (i := 5) (j := 5) rfl rfl) (fun s17 turn18 => (evb_for (LF := (fun (s21 : ((List Bool))) => [(sV false (tList tStr) piece1), (sV false tInt wide2), (sV false tBool forth3), (sV false tInt size4), (sOwn false tBool s21), (sV false tInt turn18), sAny, sAny, sAny, sAny])) (s0 := s17) ok (wkX hX rfl) (evi_range1 ok.toOk (j := 1) rfl X.g_range (ev_lenQ (md' := .sh) ok.toOk sq_l (j := 0) rfl X.g_len (ev_vsh ok.toOk (i := 0) (j := 0) rfl rfl rfl))) (Wk.s (Wk.s (Wk.s (Wk.s (Wk.s (Wk.s (Wk.s (Wk.s (Wk.s (Wk.s Wk.n)))))))))) (fun _ => evg_name ok (i := 6) (j := 6) rfl rfl) (fun s21 j22 => (evb_for (LF := (fun (s24 : ((List Bool))) => [(sV false (tList tStr) piece1), (sV false tInt wide2), (sV false tBool forth3), (sV false tInt size4), (sOwn false tBool s24), (sV false tInt turn18), (sV false tInt j22), sAny, sAny, sAny])) (s0 := s21) ok (wkX hX rfl) (evi_range1 ok.toOk (j := 1) rfl X.g_range (ev_vsh ok.toOk (i := 1) (j := 1) rfl rfl rfl)) (Wk.s (Wk.s (Wk.s (Wk.s (Wk.s (Wk.s (Wk.s (Wk.s (Wk.s (Wk.s Wk.n)))))))))) (fun _ => evg_name ok (i := 7) (j := 7) rfl rfl) (fun s24 k25 => (evb_set ok (i := 8) (j := 8) rfl rfl (wkX hX rfl) .sh (ev_c (md' := .sh) ok.toOk (c_eq s_bool) (ev_c (md' := .sh) ok.toOk (c_eq s_str) (ev_ixS (md' := .sh) ok.toOk (ev_ixQ ok.toOk sq_l (ev_vsh ok.toOk (i := 0) (j := 0) rfl rfl rfl) (ev_vsh ok.toOk (i := 6) (j := 6) rfl rfl rfl)) (ev_vsh ok.toOk (i := 7) (j := 7) rfl rfl rfl)) (ev_str (md := .sh) (by decide +kernel))) (ev_vsh ok.toOk (i := 2) (j := 2) rfl rfl rfl)) fun along26 => (evb_if (LJ := (fun (s45 : ((List Bool))) => [(sV false (tList tStr) piece1), (sV false tInt wide2), (sV false tBool forth3), (sV false tInt size4), (sOwn false tBool s45), (sV false tInt turn18), (sV false tInt j22), (sV false tInt k25), (sV false tBool along26), sAny])) (wkX hX rfl) (evt_borrow (i := 4) rfl (EvW.t (evw_and (evt_of (ev_vsh ok.toOk (i := 8) (j := 8) rfl rfl rfl)) (evw_and1 (evt_of (ev_ixQ ok.toOk sq_l (ev_vsh ok.toOk (i := 4) (j := 4) rfl rfl rfl) (ev_vsh ok.toOk (i := 7) (j := 7) rfl rfl rfl))))))) (evb_setitem ok (wkX hX rfl) (i := 4) (j := 4) rfl rfl rfl .sh (ev_bool (md := .sh)) (ev_add (md' := .sh) ok.toOk (ev_vsh ok.toOk (i := 1) (j := 1) rfl rfl rfl) (ev_vsh ok.toOk (i := 6) (j := 6) rfl rfl rfl)) fun seen44 => (evb_nx (by rfl) (Wk.s (Wk.s (Wk.s (Wk.s (Wk.s (Wk.s (Wk.s (Wk.s (Wk.s (Wk.s Wk.n)))))))))))) (evb_nx (by rfl) (Wk.s (Wk.s (Wk.s (Wk.s (Wk.s (Wk.s (Wk.s (Wk.s (Wk.s (Wk.s Wk.n))))))))))) fun s45 => (evb_ifl (wkX hX rfl) (evt_borrow (i := 4) rfl (EvW.t (evw_and (evt_not (evt_of (ev_vsh ok.toOk (i := 8) (j := 8) rfl rfl rfl))) (evw_and1 (evt_of (ev_ixQ ok.toOk sq_l (ev_vsh ok.toOk (i := 4) (j := 4) rfl rfl rfl) (ev_add (md' := .sh) ok.toOk (ev_vsh ok.toOk (i := 1) (j := 1) rfl rfl rfl) (ev_vsh ok.toOk (i := 6) (j := 6) rfl rfl rfl)))))))) (evb_setitem ok (wkX hX rfl) (i := 4) (j := 4) rfl rfl rfl .sh (ev_bool (md := .sh)) (ev_vsh ok.toOk (i := 7) (j := 7) rfl rfl rfl) fun seen56 => (evb_go (by rfl) (Wk.s (Wk.s (Wk.s (Wk.s (Wk.s (Wk.s (Wk.s (Wk.a (Wk.a (Wk.s Wk.n)))))))))))) (evb_go (by rfl) (Wk.s (Wk.s (Wk.s (Wk.s (Wk.s (Wk.s (Wk.s (Wk.a (Wk.a (Wk.s Wk.n))))))))))))))) fun s59 => (evb_go (by rfl) (Wk.s (Wk.s (Wk.s (Wk.s (Wk.s (Wk.s (Wk.a (Wk.s (Wk.s (Wk.s Wk.n))))))))))))) fun s61 => (evb_go (by rfl) (Wk.s (Wk.s (Wk.s (Wk.s (Wk.s (Wk.a (Wk.s (Wk.s (Wk.s (Wk.s Wk.n))))))))))))) fun s63 => (evb_ret (wkX hX rfl) .sh (by intro _; rfl) (ev_borrow (i := 4) (.inl flBool) rfl (ev_all (md' := .sh) ok.toOk (j := 2) rfl X.g_all (ev_vsh ok.toOk (i := 4) (j := 4) rfl rfl rfl)))))))
theorem b__law_reached {p : Pr} (X : Facts p) : Body p s__law_reached N__law_reached V__law_reached G__law_reached 0 (fun (d : ((List Tx) × Int × Bool × Unit)) => [(sV false (tList tStr) d.1), (sV false tInt d.2.1), (sV false tBool d.2.2.1), sAny, sAny, sAny, sAny, sAny, sAny, sAny]) (fun r => .rt false tBool r) r__law_reached := fun g ok hX d => bb__law_reached X ok hX d.1 d.2.1 d.2.2.1
theorem fn__law_reached {p : Pr} (X : Facts p) : Fn p 1 "_law_reached" ["piece", "wide", "forth"] (spM p (aCons (tList tStr) (aCons tInt (aCons tBool aNil))) (fun r => .rt false tBool r) c__law_reached) := by
  obtain ⟨f, fd, hF, hm⟩ := X.d__law_reached
  exact ⟨f, fd, eq__law_reached ▸ fn_rt (m := 7) hF sc__law_reached (.cons (.cons (.cons .nil))) rfl rfl (b__law_reached X), hm, hF.kp, hF.bindsN fun _ _ _ _ _ _ us hl => match us, hl with | [_, _, _], _ => rfl⟩
abbrev s__law_hangs : Stmt := (topS 22)
abbrev N__law_hangs : List Str := ["piece", "wide"]
abbrev V__law_hangs : List Str := ["piece", "wide"]
abbrev G__law_hangs : List Str := ["_law_reached"]
theorem sc__law_hangs : Sc s__law_hangs N__law_hangs V__law_hangs ["piece", "wide"] G__law_hangs := ⟨⟨rfl, rfl, rfl, by decide +kernel, rfl, by decide +kernel, by decide +kernel⟩, by decide +kernel, by decide +kernel, by decide +kernel⟩
def q__law_hangs (piece1 : (List Tx)) (wide2 : Int) : M Bool := M.bind (M.bind (M.bind (M.ok piece1) fun y7 => M.bind (M.bind (M.ok wide2) fun y5 => M.bind (M.bind (M.ok true) fun y3 => M.bind (M.ok ()) fun y4 => M.ok (y3, y4)) fun y6 => M.ok (y5, y6)) fun y8 => M.ok (y7, y8)) c__law_reached) fun c21 => if c21 = true then M.bind (M.bind (M.ok piece1) fun y16 => M.bind (M.bind (M.ok wide2) fun y14 => M.bind (M.bind (M.ok false) fun y12 => M.bind (M.ok ()) fun y13 => M.ok (y12, y13)) fun y15 => M.ok (y14, y15)) fun y17 => M.ok (y16, y17)) c__law_reached else M.ok false
def f_law_hangs (piece1 : (List Tx)) (wide2 : Int) : M Bool := M.bind (f_law_reached piece1 wide2 true) fun c22 => if c22 = true then f_law_reached piece1 wide2 false else M.ok false
def r__law_hangs (d : ((List Tx) × Int × Unit)) : M Bool := q__law_hangs d.1 d.2.1
def c__law_hangs (d : ((List Tx) × Int × Unit)) : M Bool := f_law_hangs d.1 d.2.1
theorem eq__law_hangs : r__law_hangs = c__law_hangs := by funext d; first | (simp only [r__law_hangs, c__law_hangs, q__law_hangs, f_law_hangs, M.bind_assoc, M.bok, c__law_reached]; done) | (simp only [r__law_hangs, c__law_hangs, q__law_hangs, f_law_hangs, M.bind_assoc, M.bok, c__law_reached]; rfl)
theorem bb__law_hangs {p : Pr} (X : Facts p) {g : G} (ok : OkS p (defScope s__law_hangs) N__law_hangs V__law_hangs G__law_hangs 1 g) (hX : g.LX = List.replicate N__law_hangs.length sAny) (piece1 : (List Tx)) (wide2 : Int) : EvB g [(sV false (tList tStr) piece1), (sV false tInt wide2)] (defBody s__law_hangs) (fun r => .rt false tBool r) (q__law_hangs piece1 wide2) := (evb_ret (wkX hX rfl) .sh (by intro _; rfl) (ev_and (ev_call (md' := .sh) ok.toOk (fn__law_reached X) (by decide) (j := 0) rfl .sh (eva_cons (md := .sh) (ev_vsh ok.toOk (i := 0) (j := 0) rfl rfl rfl) (eva_cons (md := .sh) (ev_vsh ok.toOk (i := 1) (j := 1) rfl rfl rfl) (eva_cons (md := .sh) (ev_bool (md := .sh)) eva_nil)))) (ev_one (ev_call (md' := .sh) ok.toOk (fn__law_reached X) (by decide) (j := 0) rfl .sh (eva_cons (md := .sh) (ev_vsh ok.toOk (i := 0) (j := 0) rfl rfl rfl) (eva_cons (md := .sh) (ev_vsh ok.toOk (i := 1) (j := 1) rfl rfl rfl) (eva_cons (md := .sh) (ev_bool (md := .sh)) eva_nil)))))))
theorem b__law_hangs {p : Pr} (X : Facts p) : Body p s__law_hangs N__law_hangs V__law_hangs G__law_hangs 1 (fun (d : ((List Tx) × Int × Unit)) => [(sV false (tList tStr) d.1), (sV false tInt d.2.1)]) (fun r => .rt false tBool r) r__law_hangs := fun g ok hX d => bb__law_hangs X ok hX d.1 d.2.1
theorem fn__law_hangs {p : Pr} (X : Facts p) : Fn p 2 "_law_hangs" ["piece", "wide"] (spM p (aCons (tList tStr) (aCons tInt aNil)) (fun r => .rt false tBool r) c__law_hangs) := by
  obtain ⟨f, fd, hF, hm⟩ := X.d__law_hangs
  exact ⟨f, fd, eq__law_hangs ▸ fn_rt (m := 0) hF sc__law_hangs (.cons (.cons .nil)) rfl rfl (b__law_hangs X), hm, hF.kp, hF.bindsN fun _ _ _ _ _ _ us hl => match us, hl with | [_, _], _ => rfl⟩
abbrev s__law_lies : Stmt := (topS 25)
abbrev N__law_lies : List Str := ["given", "pieces", "ends", "picks", "j", "k", "name", "place", "due"]
abbrev V__law_lies : List Str := ["given", "pieces", "ends", "picks", "j", "k", "name", "place", "due"]
abbrev G__law_lies : List Str := ["len", "range", "int"]
theorem sc__law_lies : Sc s__law_lies N__law_lies V__law_lies ["given", "pieces", "ends", "picks"] G__law_lies := ⟨⟨rfl, rfl, rfl, by decide +kernel, rfl, by decide +kernel, by decide +kernel⟩, by decide +kernel, by decide +kernel, by decide +kernel⟩
def r_f_law_lies_l1 (given1 : (List Tx)) (pieces2 : (List (List Tx))) (ends3 : (List Int)) (picks4 : (List Int)) (j8 : Int) : Unit → Int → M (Fl Unit Bool) := fun s11 k12 => M.bind (M.bind (M.bind (M.ok ends3) fun y13 => M.bind (M.ok k12) fun y14 => getM y13 y14) fun y17 => M.bind (M.bind (M.ok picks4) fun y15 => M.bind (M.ok j8) fun y16 => getM y15 y16) fun y18 => M.ok (decide (y17 = y18))) fun c19 => M.bind (if c19 = true then M.bind (M.bind (M.ok ends3) fun y21 => M.bind (M.ok k12) fun y22 => getM y21 y22) fun name20 => M.bind (M.bind (M.bind (M.ok ends3) fun y25 => M.bind (M.ok (none : Option Int)) fun y26 => M.bind (M.bind (M.ok k12) fun y24 => M.ok (some y24)) fun y27 => M.ok (cutL y25 y26 y27)) fun y28 => M.bind (M.ok name20) fun y29 => M.ok (y28.count y29 : Int)) fun place23 => M.bind (M.bind (M.bind (M.bind (M.ok pieces2) fun y31 => M.bind (M.ok name20) fun y32 => getM y31 y32) fun y39 => M.bind (M.bind (M.bind (M.ok picks4) fun y34 => M.bind (M.ok (none : Option Int)) fun y35 => M.bind (M.bind (M.ok j8) fun y33 => M.ok (some y33)) fun y36 => M.ok (cutL y34 y35 y36)) fun y37 => M.bind (M.ok name20) fun y38 => M.ok (y37.count y38 : Int)) fun y40 => getM y39 y40) fun y41 => M.bind (M.ok place23) fun y42 => getS y41 y42) fun due30 => M.ok due30 else M.bind (M.bind (M.ok (tx "#.")) fun y51 => M.bind (M.bind (M.bind (M.bind (M.ok ends3) fun y44 => M.bind (M.ok k12) fun y45 => getM y44 y45) fun y48 => M.bind (M.bind (M.ok picks4) fun y46 => M.bind (M.ok j8) fun y47 => getM y46 y47) fun y49 => M.ok (decide (y49 < y48))) fun y50 => M.ok (bInt y50)) fun y52 => getS y51 y52) fun due43 => M.ok due43) fun (s53 : (Tx)) => M.bind (M.bind (M.bind (M.bind (M.ok given1) fun y54 => M.bind (M.ok j8) fun y55 => getM y54 y55) fun y56 => M.bind (M.ok k12) fun y57 => getS y56 y57) fun y58 => M.bind (M.ok s53) fun y59 => M.ok (!decide (y58 = y59))) fun c60 => if c60 = true then M.bind (M.ok false) fun r61 => M.ok (Fl.rt r61) else M.ok (Fl.nx ())
def f_law_lies_l1 (given1 : (List Tx)) (pieces2 : (List (List Tx))) (ends3 : (List Int)) (picks4 : (List Int)) (j8 : Int) : Unit → Int → M (Fl Unit Bool) := fun s11 k12 => M.bind (M.bind (getM ends3 k12) fun y17 => M.bind (getM picks4 j8) fun y18 => M.ok (decide (y17 = y18))) fun c19 => M.bind (if c19 = true then M.bind (getM ends3 k12) fun name20 => let place23 : Int := ((cutL ends3 none (some k12)).count name20 : Int); M.bind (M.bind (M.bind (getM pieces2 name20) fun y39 => getM y39 ((cutL picks4 none (some j8)).count name20 : Int)) fun y41 => getS y41 place23) fun due30 => M.ok due30 else M.bind (M.bind (M.bind (M.bind (getM ends3 k12) fun y48 => M.bind (getM picks4 j8) fun y49 => M.ok (decide (y49 < y48))) fun y50 => M.ok (bInt y50)) fun y52 => getS (tx "#.") y52) fun due43 => M.ok due43) fun (s53 : (Tx)) => M.bind (M.bind (M.bind (getM given1 j8) fun y56 => getS y56 k12) fun y58 => M.ok (!decide (y58 = s53))) fun c62 => if c62 = true then M.ok (Fl.rt false) else M.ok (Fl.nx ())
theorem eq_f_law_lies_l1 (given1 : (List Tx)) (pieces2 : (List (List Tx))) (ends3 : (List Int)) (picks4 : (List Int)) (j8 : Int) : r_f_law_lies_l1 given1 pieces2 ends3 picks4 j8 = f_law_lies_l1 given1 pieces2 ends3 picks4 j8 := by funext s11 k12; first | (simp only [r_f_law_lies_l1, f_law_lies_l1, M.bind_assoc, M.bok]; done) | (simp only [r_f_law_lies_l1, f_law_lies_l1, M.bind_assoc, M.bok]; rfl)
def r_f_law_lies_l2 (given1 : (List Tx)) (pieces2 : (List (List Tx))) (ends3 : (List Int)) (picks4 : (List Int)) : Unit → Int → M (Fl Unit Bool) := fun s7 j8 => M.bind (M.bind (M.bind (M.ok ends3) fun y9 => M.ok (y9.length : Int)) fun y10 => rangeM 0 y10) fun xs63 => M.bind (forF (r_f_law_lies_l1 given1 pieces2 ends3 picks4 j8) () xs63) (Fl.el (fun (s64 : Unit) => M.ok (Fl.nx ())) fun r65 => M.ok (Fl.rt r65))
def f_law_lies_l2 (given1 : (List Tx)) (pieces2 : (List (List Tx))) (ends3 : (List Int)) (picks4 : (List Int)) : Unit → Int → M (Fl Unit Bool) := fun s7 j8 => M.bind (rangeM 0 (ends3.length : Int)) fun xs63 => M.bind (forF (f_law_lies_l1 given1 pieces2 ends3 picks4 j8) () xs63) (Fl.el (fun (s64 : Unit) => M.ok (Fl.nx ())) fun r65 => M.ok (Fl.rt r65))
theorem eq_f_law_lies_l2 (given1 : (List Tx)) (pieces2 : (List (List Tx))) (ends3 : (List Int)) (picks4 : (List Int)) : r_f_law_lies_l2 given1 pieces2 ends3 picks4 = f_law_lies_l2 given1 pieces2 ends3 picks4 := by funext s7 j8; first | (simp only [r_f_law_lies_l2, f_law_lies_l2, M.bind_assoc, M.bok, eq_f_law_lies_l1]; done) | (simp only [r_f_law_lies_l2, f_law_lies_l2, M.bind_assoc, M.bok, eq_f_law_lies_l1]; rfl)
def q__law_lies (given1 : (List Tx)) (pieces2 : (List (List Tx))) (ends3 : (List Int)) (picks4 : (List Int)) : M Bool := M.bind (M.bind (M.bind (M.ok picks4) fun y5 => M.ok (y5.length : Int)) fun y6 => rangeM 0 y6) fun xs66 => M.bind (forF (r_f_law_lies_l2 given1 pieces2 ends3 picks4) () xs66) (Fl.el (fun (s67 : Unit) => M.ok true) fun r69 => M.ok r69)
def f_law_lies (given1 : (List Tx)) (pieces2 : (List (List Tx))) (ends3 : (List Int)) (picks4 : (List Int)) : M Bool := M.bind (rangeM 0 (picks4.length : Int)) fun xs66 => M.bind (forF (f_law_lies_l2 given1 pieces2 ends3 picks4) () xs66) (Fl.el (fun (s67 : Unit) => M.ok true) fun r69 => M.ok r69)
def r__law_lies (d : ((List Tx) × (List (List Tx)) × (List Int) × (List Int) × Unit)) : M Bool := q__law_lies d.1 d.2.1 d.2.2.1 d.2.2.2.1
def c__law_lies (d : ((List Tx) × (List (List Tx)) × (List Int) × (List Int) × Unit)) : M Bool := f_law_lies d.1 d.2.1 d.2.2.1 d.2.2.2.1
theorem eq__law_lies : r__law_lies = c__law_lies := by funext d; first | (simp only [r__law_lies, c__law_lies, q__law_lies, f_law_lies, M.bind_assoc, M.bok, eq_f_law_lies_l1, eq_f_law_lies_l2]; done) | (simp only [r__law_lies, c__law_lies, q__law_lies, f_law_lies, M.bind_assoc, M.bok, eq_f_law_lies_l1, eq_f_law_lies_l2]; rfl)
theorem bb__law_lies {p : Pr} (X : Facts p) {g : G} (ok : OkS p (defScope s__law_lies) N__law_lies V__law_lies G__law_lies 0 g) (hX : g.LX = List.replicate N__law_lies.length sAny) (given1 : (List Tx)) (pieces2 : (List (List Tx))) (ends3 : (List Int)) (picks4 : (List Int)) : EvB g [(sV false (tList tStr) given1), (sV false (tList (tList tStr)) pieces2), (sV false (tList tInt) ends3), (sV false (tList tInt) picks4), sAny, sAny, sAny, sAny, sAny] (defBody s__law_lies) (fun r => .rt false tBool r) (q__law_lies given1 pieces2 ends3 picks4) := (evb_forF (LF := (fun (s7 : Unit) => [(sV false (tList tStr) given1), (sV false (tList (tList tStr)) pieces2), (sV false (tList tInt) ends3), (sV false (tList tInt) picks4), sAny, sAny, sAny, sAny, sAny])) (s0 := ()) (dr := fun r69 => r69) ok (wkX hX rfl) (evi_range1 ok.toOk (j := 1) rfl X.g_range (ev_lenQ (md' := .sh) ok.toOk sq_l (j := 0) rfl X.g_len (ev_vsh ok.toOk (i := 3) (j := 3) rfl rfl rfl))) (Wk.s (Wk.s (Wk.s (Wk.s (Wk.s (Wk.s (Wk.s (Wk.s (Wk.s Wk.n))))))))) (fun _ => evg_name ok (i := 4) (j := 4) rfl rfl) (fun s7 j8 => (evb_forF (LF := (fun (s11 : Unit) => [(sV false (tList tStr) given1), (sV false (tList (tList tStr)) pieces2), (sV false (tList tInt) ends3), (sV false (tList tInt) picks4), (sV false tInt j8), sAny, sAny, sAny, sAny])) (s0 := ()) (dr := fun r65 => Fl.rt r65) ok (wkX hX rfl) (evi_range1 ok.toOk (j := 1) rfl X.g_range (ev_lenQ (md' := .sh) ok.toOk sq_l (j := 0) rfl X.g_len (ev_vsh ok.toOk (i := 2) (j := 2) rfl rfl rfl))) (Wk.s (Wk.s (Wk.s (Wk.s (Wk.s (Wk.s (Wk.s (Wk.s (Wk.s Wk.n))))))))) (fun _ => evg_name ok (i := 5) (j := 5) rfl rfl) (fun s11 k12 => (evb_if (LJ := (fun (s53 : (Tx)) => [(sV false (tList tStr) given1), (sV false (tList (tList tStr)) pieces2), (sV false (tList tInt) ends3), (sV false (tList tInt) picks4), (sV false tInt j8), (sV false tInt k12), sAny, sAny, (sV false tStr s53)])) (wkX hX rfl) (evt_c ok.toOk (c_eq s_int) (ev_ixQ ok.toOk sq_l (ev_vsh ok.toOk (i := 2) (j := 2) rfl rfl rfl) (ev_vsh ok.toOk (i := 5) (j := 5) rfl rfl rfl)) (ev_ixQ ok.toOk sq_l (ev_vsh ok.toOk (i := 3) (j := 3) rfl rfl rfl) (ev_vsh ok.toOk (i := 4) (j := 4) rfl rfl rfl))) (evb_set ok (i := 6) (j := 6) rfl rfl (wkX hX rfl) .sh (ev_ixQ ok.toOk sq_l (ev_vsh ok.toOk (i := 2) (j := 2) rfl rfl rfl) (ev_vsh ok.toOk (i := 5) (j := 5) rfl rfl rfl)) fun name20 => (evb_set ok (i := 7) (j := 7) rfl rfl (wkX hX rfl) .sh (ev_countI (md' := .sh) ok.toOk (ev_ofL (evl_slQ (md := .sh) ok.toOk sq_l (ev_vsh ok.toOk (i := 2) (j := 2) rfl rfl rfl) evo_none (evo_some (ev_vsh ok.toOk (i := 5) (j := 5) rfl rfl rfl)))) (ev_vsh ok.toOk (i := 6) (j := 6) rfl rfl rfl)) fun place23 => (evb_set ok (i := 8) (j := 8) rfl rfl (wkX hX rfl) .sh (ev_ixS (md' := .sh) ok.toOk (ev_ixQ ok.toOk sq_l (ev_ixQ ok.toOk sq_l (ev_vsh ok.toOk (i := 1) (j := 1) rfl rfl rfl) (ev_vsh ok.toOk (i := 6) (j := 6) rfl rfl rfl)) (ev_countI (md' := .sh) ok.toOk (ev_ofL (evl_slQ (md := .sh) ok.toOk sq_l (ev_vsh ok.toOk (i := 3) (j := 3) rfl rfl rfl) evo_none (evo_some (ev_vsh ok.toOk (i := 4) (j := 4) rfl rfl rfl)))) (ev_vsh ok.toOk (i := 6) (j := 6) rfl rfl rfl))) (ev_vsh ok.toOk (i := 7) (j := 7) rfl rfl rfl)) fun due30 => (evb_nx (by rfl) (Wk.s (Wk.s (Wk.s (Wk.s (Wk.s (Wk.s (Wk.a (Wk.a (Wk.s Wk.n))))))))))))) (evb_set ok (i := 8) (j := 8) rfl rfl (wkX hX rfl) .sh (ev_ixS (md' := .sh) ok.toOk (ev_str (md := .sh) (by decide +kernel)) (ev_intB (md' := .sh) ok.toOk (j := 2) rfl X.g_int (ev_c (md' := .sh) ok.toOk c_gt (ev_ixQ ok.toOk sq_l (ev_vsh ok.toOk (i := 2) (j := 2) rfl rfl rfl) (ev_vsh ok.toOk (i := 5) (j := 5) rfl rfl rfl)) (ev_ixQ ok.toOk sq_l (ev_vsh ok.toOk (i := 3) (j := 3) rfl rfl rfl) (ev_vsh ok.toOk (i := 4) (j := 4) rfl rfl rfl))))) fun due43 => (evb_nx (by rfl) (Wk.s (Wk.s (Wk.s (Wk.s (Wk.s (Wk.s (Wk.s (Wk.s (Wk.s Wk.n))))))))))) fun s53 => (evb_ifl (wkX hX rfl) (evt_c ok.toOk (c_ne s_str) (ev_ixS (md' := .sh) ok.toOk (ev_ixQ ok.toOk sq_l (ev_vsh ok.toOk (i := 0) (j := 0) rfl rfl rfl) (ev_vsh ok.toOk (i := 4) (j := 4) rfl rfl rfl)) (ev_vsh ok.toOk (i := 5) (j := 5) rfl rfl rfl)) (ev_vsh ok.toOk (i := 8) (j := 8) rfl rfl rfl)) (evb_retF (mk := fun r61 => Fl.rt r61) (wkX hX rfl) .sh (by intro _; rfl) (ev_bool (md := .sh))) (evb_go (by rfl) (Wk.s (Wk.s (Wk.s (Wk.s (Wk.s (Wk.a (Wk.s (Wk.s (Wk.a Wk.n))))))))))))) fun s64 => (evb_go (by rfl) (Wk.s (Wk.s (Wk.s (Wk.s (Wk.a (Wk.s (Wk.s (Wk.s (Wk.s Wk.n)))))))))))) fun s67 => (evb_ret (wkX hX rfl) .sh (by intro _; rfl) (ev_bool (md := .sh))))
theorem b__law_lies {p : Pr} (X : Facts p) : Body p s__law_lies N__law_lies V__law_lies G__law_lies 0 (fun (d : ((List Tx) × (List (List Tx)) × (List Int) × (List Int) × Unit)) => [(sV false (tList tStr) d.1), (sV false (tList (tList tStr)) d.2.1), (sV false (tList tInt) d.2.2.1), (sV false (tList tInt) d.2.2.2.1), sAny, sAny, sAny, sAny, sAny]) (fun r => .rt false tBool r) r__law_lies := fun g ok hX d => bb__law_lies X ok hX d.1 d.2.1 d.2.2.1 d.2.2.2.1
theorem fn__law_lies {p : Pr} (X : Facts p) : Fn p 1 "_law_lies" ["given", "pieces", "ends", "picks"] (spM p (aCons (tList tStr) (aCons (tList (tList tStr)) (aCons (tList tInt) (aCons (tList tInt) aNil)))) (fun r => .rt false tBool r) c__law_lies) := by
  obtain ⟨f, fd, hF, hm⟩ := X.d__law_lies
  exact ⟨f, fd, eq__law_lies ▸ fn_rt (m := 5) hF sc__law_lies (.cons (.cons (.cons (.cons .nil)))) rfl rfl (b__law_lies X), hm, hF.kp, hF.bindsN fun _ _ _ _ _ _ us hl => match us, hl with | [_, _, _, _], _ => rfl⟩
abbrev s__law_lone : Stmt := (topS 26)
abbrev N__law_lone : List Str := ["ends", "picks", "name"]
abbrev V__law_lone : List Str := ["ends", "picks", "name"]
abbrev G__law_lone : List Str := []
theorem sc__law_lone : Sc s__law_lone N__law_lone V__law_lone ["ends", "picks", "name"] G__law_lone := ⟨⟨rfl, rfl, rfl, by decide +kernel, rfl, by decide +kernel, by decide +kernel⟩, by decide +kernel, by decide +kernel, by decide +kernel⟩
def q__law_lone (ends1 : (List Int)) (picks2 : (List Int)) (name3 : Int) : M (Int × Int × Unit) := M.bind (M.bind (M.bind (M.bind (M.ok ends1) fun y4 => M.bind (M.ok name3) fun y5 => M.ok (y4.count y5 : Int)) fun y8 => M.bind (M.bind (M.ok picks2) fun y6 => M.bind (M.ok name3) fun y7 => M.ok (y6.count y7 : Int)) fun y9 => M.ok (y8 + y9)) fun y10 => M.bind (M.ok (1 : Int)) fun y11 => M.ok (!decide (y10 = y11))) fun c12 => if c12 = true then (M.bind (M.ok (2 : Int)) fun y15 => M.bind (M.bind (M.ok (0 : Int)) fun y13 => M.bind (M.ok ()) fun y14 => M.ok (y13, y14)) fun y16 => M.ok (y15, y16)) else M.bind (M.bind (M.bind (M.ok ends1) fun y20 => M.bind (M.ok name3) fun y21 => M.ok (y20.count y21 : Int)) fun y22 => M.bind (M.ok (1 : Int)) fun y23 => M.ok (decide (y22 = y23))) fun c24 => if c24 = true then (M.bind (M.ok (0 : Int)) fun y29 => M.bind (M.bind (M.bind (M.ok ends1) fun y25 => M.bind (M.ok name3) fun y26 => indexM y25 y26) fun y27 => M.bind (M.ok ()) fun y28 => M.ok (y27, y28)) fun y30 => M.ok (y29, y30)) else (M.bind (M.ok (1 : Int)) fun y38 => M.bind (M.bind (M.bind (M.ok picks2) fun y34 => M.bind (M.ok name3) fun y35 => indexM y34 y35) fun y36 => M.bind (M.ok ()) fun y37 => M.ok (y36, y37)) fun y39 => M.ok (y38, y39))
def f_law_lone (ends1 : (List Int)) (picks2 : (List Int)) (name3 : Int) : M (Int × Int × Unit) := if (!decide (((ends1.count name3 : Int) + (picks2.count name3 : Int)) = (1 : Int))) = true then M.ok ((2 : Int), (0 : Int), ()) else if (decide ((ends1.count name3 : Int) = (1 : Int))) = true then M.bind (indexM ends1 name3) fun y32 => M.ok ((0 : Int), y32, ()) else M.bind (indexM picks2 name3) fun y41 => M.ok ((1 : Int), y41, ())
def r__law_lone (d : ((List Int) × (List Int) × Int × Unit)) : M (Int × Int × Unit) := q__law_lone d.1 d.2.1 d.2.2.1
def c__law_lone (d : ((List Int) × (List Int) × Int × Unit)) : M (Int × Int × Unit) := f_law_lone d.1 d.2.1 d.2.2.1
theorem eq__law_lone : r__law_lone = c__law_lone := by funext d; first | (simp only [r__law_lone, c__law_lone, q__law_lone, f_law_lone, M.bind_assoc, M.bok]; done) | (simp only [r__law_lone, c__law_lone, q__law_lone, f_law_lone, M.bind_assoc, M.bok]; rfl)
theorem bb__law_lone {p : Pr} (X : Facts p) {g : G} (ok : OkS p (defScope s__law_lone) N__law_lone V__law_lone G__law_lone 0 g) (hX : g.LX = List.replicate N__law_lone.length sAny) (ends1 : (List Int)) (picks2 : (List Int)) (name3 : Int) : EvB g [(sV false (tList tInt) ends1), (sV false (tList tInt) picks2), (sV false tInt name3)] (defBody s__law_lone) (fun r => .rt true (tTup (aCons tInt (aCons tInt aNil))) r) (q__law_lone ends1 picks2 name3) := (evb_ifx (wkX hX rfl) (evt_c ok.toOk (c_ne s_int) (ev_add (md' := .sh) ok.toOk (ev_countI (md' := .sh) ok.toOk (ev_vsh ok.toOk (i := 0) (j := 0) rfl rfl rfl) (ev_vsh ok.toOk (i := 2) (j := 2) rfl rfl rfl)) (ev_countI (md' := .sh) ok.toOk (ev_vsh ok.toOk (i := 1) (j := 1) rfl rfl rfl) (ev_vsh ok.toOk (i := 2) (j := 2) rfl rfl rfl))) (ev_int (md := .sh))) (evb_ret (wkX hX rfl) .fx (by intro _; rfl) (ev_tup (fun d vs R h => by rw [(lenS (lenS len0)) h]; decide) (eva_cons (ev_flat (md' := .fx) flInt (ev_int (md := .sh))) (eva_cons (ev_flat (md' := .fx) flInt (ev_int (md := .sh))) eva_nil)))) (evb_ifx (wkX hX rfl) (evt_c ok.toOk (c_eq s_int) (ev_countI (md' := .sh) ok.toOk (ev_vsh ok.toOk (i := 0) (j := 0) rfl rfl rfl) (ev_vsh ok.toOk (i := 2) (j := 2) rfl rfl rfl)) (ev_int (md := .sh))) (evb_ret (wkX hX rfl) .fx (by intro _; rfl) (ev_tup (fun d vs R h => by rw [(lenS (lenS len0)) h]; decide) (eva_cons (ev_flat (md' := .fx) flInt (ev_int (md := .sh))) (eva_cons (ev_flat (md' := .fx) flInt (ev_index (md' := .sh) ok.toOk f_int (ev_vsh ok.toOk (i := 0) (j := 0) rfl rfl rfl) (ev_vsh ok.toOk (i := 2) (j := 2) rfl rfl rfl))) eva_nil)))) (evb_ret (wkX hX rfl) .fx (by intro _; rfl) (ev_tup (fun d vs R h => by rw [(lenS (lenS len0)) h]; decide) (eva_cons (ev_flat (md' := .fx) flInt (ev_int (md := .sh))) (eva_cons (ev_flat (md' := .fx) flInt (ev_index (md' := .sh) ok.toOk f_int (ev_vsh ok.toOk (i := 1) (j := 1) rfl rfl rfl) (ev_vsh ok.toOk (i := 2) (j := 2) rfl rfl rfl))) eva_nil))))))
theorem b__law_lone {p : Pr} (X : Facts p) : Body p s__law_lone N__law_lone V__law_lone G__law_lone 0 (fun (d : ((List Int) × (List Int) × Int × Unit)) => [(sV false (tList tInt) d.1), (sV false (tList tInt) d.2.1), (sV false tInt d.2.2.1)]) (fun r => .rt true (tTup (aCons tInt (aCons tInt aNil))) r) r__law_lone := fun g ok hX d => bb__law_lone X ok hX d.1 d.2.1 d.2.2.1
theorem fn__law_lone {p : Pr} (X : Facts p) : Fn p 1 "_law_lone" ["ends", "picks", "name"] (spM p (aCons (tList tInt) (aCons (tList tInt) (aCons tInt aNil))) (fun r => .rt true (tTup (aCons tInt (aCons tInt aNil))) r) c__law_lone) := by
  obtain ⟨f, fd, hF, hm⟩ := X.d__law_lone
  exact ⟨f, fd, eq__law_lone ▸ fn_rt (m := 0) hF sc__law_lone (.cons (.cons (.cons .nil))) rfl rfl (b__law_lone X), hm, hF.kp, hF.bindsN fun _ _ _ _ _ _ us hl => match us, hl with | [_, _, _], _ => rfl⟩
abbrev s__law_told_again : Stmt := (topS 27)
abbrev N__law_told_again : List Str := ["handed", "given", "found", "kept", "piece"]
abbrev V__law_told_again : List Str := ["handed", "given", "found", "kept", "piece"]
abbrev G__law_told_again : List Str := ["list", "taken_apart"]
theorem sc__law_told_again : Sc s__law_told_again N__law_told_again V__law_told_again ["handed", "given", "found"] G__law_told_again := ⟨⟨rfl, rfl, rfl, by decide +kernel, rfl, by decide +kernel, by decide +kernel⟩, by decide +kernel, by decide +kernel, by decide +kernel⟩
def q__law_told_again (handed1 : (List Tx)) (given2 : (List Tx)) (found3 : ((List (List Tx)) × (List Int) × (List Int) × Unit)) : M (Bool × (((List (List Tx)) × (List Int) × (List Int) × Unit) × Unit)) := M.bind (M.bind (M.bind (M.bind (M.ok found3) fun y6 => M.ok y6.1) fun xs10 => compM (fun piece7 => M.bind (M.ok true) fun c8 => if c8 = true then M.bind (M.ok piece7) fun y9 => M.ok (some y9) else M.ok none) xs10) fun y17 => M.bind (M.bind (M.bind (M.ok found3) fun y11 => M.ok y11.2.1) fun y15 => M.bind (M.bind (M.bind (M.ok found3) fun y12 => M.ok y12.2.2.1) fun y13 => M.bind (M.ok ()) fun y14 => M.ok (y13, y14)) fun y16 => M.ok (y15, y16)) fun y18 => M.ok (y17, y18)) fun kept5 => M.bind (M.bind (M.ok (found3, fun (y : ((List (List Tx)) × (List Int) × (List Int) × Unit)) => y)) fun y23 => M.ok (y23.1.1, fun (y : (List (List Tx))) => y23.2 (y, y23.1.2))) fun q24 => M.bind (walkF (fun z => pushM z (tx "#")) q24.1) fun l25 => M.bind (M.ok (q24.2 l25)) fun found26 => M.bind (M.bind (M.ok (found26, fun (y : ((List (List Tx)) × (List Int) × (List Int) × Unit)) => y)) fun y31 => M.ok (y31.1.1, fun (y : (List (List Tx))) => y31.2 (y, y31.1.2))) fun q32 => M.bind (M.bind (M.ok (tx "#")) fun y28 => M.bind (M.ok []) fun y29 => M.ok (y28 :: y29)) fun y57 => M.bind (pushM q32.1 y57) fun l33 => M.bind (M.ok (q32.2 l33)) fun found34 => M.bind (M.bind (M.ok (found34, fun (y : ((List (List Tx)) × (List Int) × (List Int) × Unit)) => y)) fun y36 => M.ok (y36.1.2.1, fun (y : (List Int)) => y36.2 (y36.1.1, (y, y36.1.2.2)))) fun q37 => M.bind (M.ok (0 : Int)) fun y56 => M.bind (pushM q37.1 y56) fun l38 => M.bind (M.ok (q37.2 l38)) fun found39 => M.bind (M.bind (M.ok (found39, fun (y : ((List (List Tx)) × (List Int) × (List Int) × Unit)) => y)) fun y41 => M.ok (y41.1.2.2.1, fun (y : (List Int)) => y41.2 (y41.1.1, (y41.1.2.1, (y, y41.1.2.2.2))))) fun q42 => M.bind (M.ok (0 : Int)) fun y55 => M.bind (pushM q42.1 y55) fun l43 => M.bind (M.ok (q42.2 l43)) fun found44 => M.bind (M.bind (M.bind (M.ok handed1) fun y45 => M.bind (M.ok given2) fun y46 => M.ok (decide (y45 = y46))) fun c52 => if c52 = true then M.bind (M.bind (M.bind (M.ok handed1) fun y47 => M.bind (M.ok ()) fun y48 => M.ok (y47, y48)) c_taken_apart) fun y50 => M.bind (M.ok kept5) fun y51 => M.ok (decide (y50 = y51)) else M.ok false) fun r54 => M.ok (r54, (found44, ()))
def f_law_told_again (handed1 : (List Tx)) (given2 : (List Tx)) (found3 : ((List (List Tx)) × (List Int) × (List Int) × Unit)) : M (Bool × (((List (List Tx)) × (List Int) × (List Int) × Unit) × Unit)) := M.bind (M.bind (compM (fun piece7 => M.ok (some piece7)) found3.1) fun y19 => M.ok (y19, found3.2.1, found3.2.2.1, ())) fun kept5 => M.bind (walkF (fun z => pushM z (tx "#")) ((found3, fun (y : ((List (List Tx)) × (List Int) × (List Int) × Unit)) => y).1.1, fun (y : (List (List Tx))) => (found3, fun (y : ((List (List Tx)) × (List Int) × (List Int) × Unit)) => y).2 (y, (found3, fun (y : ((List (List Tx)) × (List Int) × (List Int) × Unit)) => y).1.2)).1) fun l25 => let found26 : ((List (List Tx)) × (List Int) × (List Int) × Unit) := ((found3, fun (y : ((List (List Tx)) × (List Int) × (List Int) × Unit)) => y).1.1, fun (y : (List (List Tx))) => (found3, fun (y : ((List (List Tx)) × (List Int) × (List Int) × Unit)) => y).2 (y, (found3, fun (y : ((List (List Tx)) × (List Int) × (List Int) × Unit)) => y).1.2)).2 l25; M.bind (pushM ((found26, fun (y : ((List (List Tx)) × (List Int) × (List Int) × Unit)) => y).1.1, fun (y : (List (List Tx))) => (found26, fun (y : ((List (List Tx)) × (List Int) × (List Int) × Unit)) => y).2 (y, (found26, fun (y : ((List (List Tx)) × (List Int) × (List Int) × Unit)) => y).1.2)).1 ([(tx "#")])) fun l33 => let found34 : ((List (List Tx)) × (List Int) × (List Int) × Unit) := ((found26, fun (y : ((List (List Tx)) × (List Int) × (List Int) × Unit)) => y).1.1, fun (y : (List (List Tx))) => (found26, fun (y : ((List (List Tx)) × (List Int) × (List Int) × Unit)) => y).2 (y, (found26, fun (y : ((List (List Tx)) × (List Int) × (List Int) × Unit)) => y).1.2)).2 l33; M.bind (pushM ((found34, fun (y : ((List (List Tx)) × (List Int) × (List Int) × Unit)) => y).1.2.1, fun (y : (List Int)) => (found34, fun (y : ((List (List Tx)) × (List Int) × (List Int) × Unit)) => y).2 ((found34, fun (y : ((List (List Tx)) × (List Int) × (List Int) × Unit)) => y).1.1, (y, (found34, fun (y : ((List (List Tx)) × (List Int) × (List Int) × Unit)) => y).1.2.2))).1 (0 : Int)) fun l38 => let found39 : ((List (List Tx)) × (List Int) × (List Int) × Unit) := ((found34, fun (y : ((List (List Tx)) × (List Int) × (List Int) × Unit)) => y).1.2.1, fun (y : (List Int)) => (found34, fun (y : ((List (List Tx)) × (List Int) × (List Int) × Unit)) => y).2 ((found34, fun (y : ((List (List Tx)) × (List Int) × (List Int) × Unit)) => y).1.1, (y, (found34, fun (y : ((List (List Tx)) × (List Int) × (List Int) × Unit)) => y).1.2.2))).2 l38; M.bind (pushM ((found39, fun (y : ((List (List Tx)) × (List Int) × (List Int) × Unit)) => y).1.2.2.1, fun (y : (List Int)) => (found39, fun (y : ((List (List Tx)) × (List Int) × (List Int) × Unit)) => y).2 ((found39, fun (y : ((List (List Tx)) × (List Int) × (List Int) × Unit)) => y).1.1, ((found39, fun (y : ((List (List Tx)) × (List Int) × (List Int) × Unit)) => y).1.2.1, (y, (found39, fun (y : ((List (List Tx)) × (List Int) × (List Int) × Unit)) => y).1.2.2.2)))).1 (0 : Int)) fun l43 => let found44 : ((List (List Tx)) × (List Int) × (List Int) × Unit) := ((found39, fun (y : ((List (List Tx)) × (List Int) × (List Int) × Unit)) => y).1.2.2.1, fun (y : (List Int)) => (found39, fun (y : ((List (List Tx)) × (List Int) × (List Int) × Unit)) => y).2 ((found39, fun (y : ((List (List Tx)) × (List Int) × (List Int) × Unit)) => y).1.1, ((found39, fun (y : ((List (List Tx)) × (List Int) × (List Int) × Unit)) => y).1.2.1, (y, (found39, fun (y : ((List (List Tx)) × (List Int) × (List Int) × Unit)) => y).1.2.2.2)))).2 l43; M.bind (if (decide (handed1 = given2)) = true then M.bind (f_taken_apart handed1) fun y50 => M.ok (decide (y50 = kept5)) else M.ok false) fun r54 => M.ok (r54, (found44, ()))
def r__law_told_again (d : ((List Tx) × (List Tx) × ((List (List Tx)) × (List Int) × (List Int) × Unit) × Unit)) : M (Bool × (((List (List Tx)) × (List Int) × (List Int) × Unit) × Unit)) := q__law_told_again d.1 d.2.1 d.2.2.1
def c__law_told_again (d : ((List Tx) × (List Tx) × ((List (List Tx)) × (List Int) × (List Int) × Unit) × Unit)) : M (Bool × (((List (List Tx)) × (List Int) × (List Int) × Unit) × Unit)) := f_law_told_again d.1 d.2.1 d.2.2.1
theorem eq__law_told_again : r__law_told_again = c__law_told_again := by funext d; first | (simp only [r__law_told_again, c__law_told_again, q__law_told_again, f_law_told_again, M.bind_assoc, M.bok, c_taken_apart]; done) | (simp only [r__law_told_again, c__law_told_again, q__law_told_again, f_law_told_again, M.bind_assoc, M.bok, c_taken_apart]; rfl)
theorem bb__law_told_again {p : Pr} (X : Facts p) {g : G} (ok : OkS p (defScope s__law_told_again) N__law_told_again V__law_told_again G__law_told_again 5 g) (vs : List V) (handed1 : (List Tx)) (given2 : (List Tx)) (found3 : ((List (List Tx)) × (List Int) × (List Int) × Unit)) (hX : g.LX = List.replicate N__law_told_again.length sAny) : EvB g [(sV false (tList tStr) handed1), (sV false (tList tStr) given2), (sA (vs.tail.tail.headD .non) (wTup (waCons (wL (wL (wV tStr))) (waCons (wL (wV tInt)) (waCons (wL (wV tInt)) waNil)))) found3), sAny, sAny] (defBody s__law_told_again) (fun (r : (Bool × (((List (List Tx)) × (List Int) × (List Int) × Unit) × Unit))) => xOut (fun (w_ : (((List (List Tx)) × (List Int) × (List Int) × Unit) × Unit)) => [sAny, sAny, (sA (vs.tail.tail.headD .non) (wTup (waCons (wL (wL (wV tStr))) (waCons (wL (wV tInt)) (waCons (wL (wV tInt)) waNil)))) w_.1), sAny, sAny]) (wV tBool) r) (q__law_told_again handed1 given2 found3) := (evb_setN ok (i := 3) (j := 3) rfl rfl (.inl (wkX hX rfl)) (evn_borrowP (i := 2) (fw_tup (fwa_cons (fw_l (fw_l (fw_v flStr))) (fwa_cons (fw_l (fw_v flInt)) (fwa_cons (fw_l (fw_v flInt)) fwa_nil)))) rfl (evn_r (evr_tup (lenWl (n := 3) (by decide) (lenWS (lenWS (lenWS @lenW0)))) (evra_cons ok.toOk (evr_n (evn_lc (VV' := ["piece"]) (GG' := ["list"]) (i := 4) ok.toOk (evi_seq ok.toOk sq_l (ev_ixA (n := 0) ok.toOk .z (ev_vsh ok.toOk (i := 2) (j := 2) rfl rfl rfl) (ev_int (md := .sh)))) rfl rfl no_any (by decide +kernel) (by decide +kernel) (by decide +kernel) (by decide +kernel) (fun g' okc piece7 => evpts_nil) (fw_l (fw_v flStr)) (fun g' okc piece7 => (evn_l (evl_copyQ (md := .sh) okc sq_l (j := 0) rfl X.g_list (ev_vsh okc (i := 4) (j := 0) rfl rfl rfl)))))) (fun g okr => (evra_cons okr (evr_n (evn_l (evl_copyQ (md := .sh) okr sq_l (j := 0) rfl X.g_list (ev_ixA (n := 1) okr (.s .z) (ev_vsh okr (i := 2) (j := 2) rfl rfl rfl) (ev_int (md := .sh)))))) (fun g okr => (evra_cons okr (evr_n (evn_l (evl_copyQ (md := .sh) okr sq_l (j := 0) rfl X.g_list (ev_ixA (n := 2) okr (.s (.s .z)) (ev_vsh okr (i := 2) (j := 2) rfl rfl rfl) (ev_int (md := .sh)))))) (fun g okr => evra_nil) (by decide))) (by decide))) (by decide))))) fun kept5 => (evb_freezeP (i := 3) rfl (evb_forA ok hX (i := 2) (evp_tup ok.toOk .z (evp_name ok.toOk (i := 2) (j := 2) rfl rfl rfl) (ev_int (md := .sh))) (i2 := 4) (j2 := 4) rfl rfl (by decide) rfl rfl (fun _ => evn_v (ev_str (md := .sh) (by decide +kernel))) fun found26 => (evb_qAppend ok (wkX hX rfl) (evp_tup ok.toOk .z (evp_name ok.toOk (i := 2) (j := 2) rfl rfl rfl) (ev_int (md := .sh))) (evn_l (evl_lstN (n := 1) (lnS ln0) (by decide) (evs_cons (ev_str (md := .sh) (by decide +kernel)) evs_nil))) fun found34 => (evb_qAppend ok (wkX hX rfl) (evp_tup ok.toOk (.s .z) (evp_name ok.toOk (i := 2) (j := 2) rfl rfl rfl) (ev_int (md := .sh))) (evn_v (ev_int (md := .sh))) fun found39 => (evb_qAppend ok (wkX hX rfl) (evp_tup ok.toOk (.s (.s .z)) (evp_name ok.toOk (i := 2) (j := 2) rfl rfl rfl) (ev_int (md := .sh))) (evn_v (ev_int (md := .sh))) fun found44 => (evb_retXo (fo := fun (w_ : (((List (List Tx)) × (List Int) × (List Int) × Unit) × Unit)) => [sAny, sAny, (sA (vs.tail.tail.headD .non) (wTup (waCons (wL (wL (wV tStr))) (waCons (wL (wV tInt)) (waCons (wL (wV tInt)) waNil)))) w_.1), sAny, sAny]) (mk := fun r54 => (r54, (found44, ()))) (w := (found44, ())) (.inl (wkX hX rfl)) (by intro _; rfl) (Wk.a (Wk.a (Wk.s (Wk.a (Wk.s Wk.n))))) (evn_v (ev_and (ev_c (md' := .sh) ok.toOk (c_eqD ok.toOk (dList dStr) (by decide)) (ev_vsh ok.toOk (i := 0) (j := 0) rfl rfl rfl) (ev_vsh ok.toOk (i := 1) (j := 1) rfl rfl rfl)) (ev_one (ev_c (md' := .sh) ok.toOk (c_eqD ok.toOk (dTup (dCons (dList (dList dStr)) (dCons (dList dInt) (dCons (dList dInt) dNil)))) (by decide)) (ev_ofN (evn_call ok.toOk (fn_taken_apart X) (by decide) (j := 1) rfl (eva_cons (md := .sh) (ev_vsh ok.toOk (i := 0) (j := 0) rfl rfl rfl) eva_nil))) (ev_vsh ok.toOk (i := 3) (j := 3) rfl rfl rfl))))))))))))
theorem fn__law_told_again {p : Pr} (X : Facts p) : Fn p 6 "_law_told_again" ["handed", "given", "found"] (spX p (waCons (wV (tList tStr)) (waCons (wV (tList tStr)) (waCons (wTup (waCons (wL (wL (wV tStr))) (waCons (wL (wV tInt)) (waCons (wL (wV tInt)) waNil)))) waNil))) (fun (d : ((List Tx) × ((List Tx) × (((List (List Tx)) × (List Int) × (List Int) × Unit) × Unit)))) (w : (((List (List Tx)) × (List Int) × (List Int) × Unit) × Unit)) => (d.1, (fun (d : ((List Tx) × (((List (List Tx)) × (List Int) × (List Int) × Unit) × Unit))) (w : (((List (List Tx)) × (List Int) × (List Int) × Unit) × Unit)) => (d.1, (fun (d : (((List (List Tx)) × (List Int) × (List Int) × Unit) × Unit)) (w : (((List (List Tx)) × (List Int) × (List Int) × Unit) × Unit)) => (w.1, (fun (d : Unit) (_ : Unit) => d) d.2 w.2)) d.2 w)) d.2 w)) (wV tBool) false c__law_told_again) := by
  obtain ⟨f, fd, hF, hm⟩ := X.d__law_told_again
  exact ⟨f, fd, eq__law_told_again ▸ fn_X (D' := fun vs (r : (Bool × (((List (List Tx)) × (List Int) × (List Int) × Unit) × Unit))) => xOut (fun (w_ : (((List (List Tx)) × (List Int) × (List Int) × Unit) × Unit)) => [sAny, sAny, (sA (vs.tail.tail.headD .non) (wTup (waCons (wL (wL (wV tStr))) (waCons (wL (wV tInt)) (waCons (wL (wV tInt)) waNil)))) w_.1), sAny, sAny]) (wV tBool) r) (kx := false) (m := 2) hF sc__law_told_again (.sh (.sh (.ow .nil))) rfl rfl (fun r vs fm Q h => h) (fun vs g ok d hX => bb__law_told_again X ok vs d.1 d.2.1 d.2.2.1 hX), hm, hF.kp, hF.bindsN fun _ _ _ _ _ _ us hl => match us, hl with | [_, _, _], _ => rfl⟩
abbrev s_law : Stmt := (topS 28)
abbrev N_law : List Str := ["script", "numbers", "most", "heights", "wide", "high", "given", "handed", "found", "pieces", "ends", "picks", "name", "count", "many", "one", "two"]
abbrev V_law : List Str := ["script", "numbers", "most", "heights", "wide", "high", "given", "handed", "found", "pieces", "ends", "picks", "name", "count", "many", "one", "two"]
abbrev G_law : List Str := ["_law_numbers", "_law_cloth", "list", "taken_apart", "tuple", "isinstance", "len", "_law_owned", "range", "_law_formed", "_law_hangs", "_law_lies", "_law_lone", "_law_told_again"]
theorem sc_law : Sc s_law N_law V_law ["script"] G_law := ⟨⟨rfl, rfl, rfl, by decide +kernel, rfl, by decide +kernel, by decide +kernel⟩, by decide +kernel, by decide +kernel, by decide +kernel⟩
def r_f_law_l1 (found61 : ((List (List Tx)) × (List Int) × (List Int) × Unit)) : Unit → Int → M (Fl Unit Bool) := fun s110 name111 => M.bind (M.bind (M.ok found61.2.1) fun y113 => M.bind (M.ok name111) fun y114 => M.ok (y113.count y114 : Int)) fun count112 => M.bind (M.bind (M.ok found61.2.2.1) fun y116 => M.bind (M.ok name111) fun y117 => M.ok (y116.count y117 : Int)) fun many115 => M.bind (M.bind (M.bind (M.bind (M.ok count112) fun y118 => M.bind (M.ok many115) fun y119 => M.ok (y118 + y119)) fun y120 => M.bind (M.ok (0 : Int)) fun y121 => M.ok (decide (y120 = y121))) fun c134 => if c134 = true then M.ok true else M.bind (M.bind (M.bind (M.bind (M.ok found61.1) fun y122 => M.bind (M.ok name111) fun y123 => getM y122 y123) fun y128 => M.bind (M.bind (M.ok count112) fun y126 => M.bind (M.bind (M.ok many115) fun y124 => M.bind (M.ok ()) fun y125 => M.ok (y124, y125)) fun y127 => M.ok (y126, y127)) fun y129 => M.ok (y128, y129)) c__law_formed) fun y133 => M.ok (!y133)) fun c136 => if c136 = true then M.bind (M.ok false) fun r137 => M.ok (Fl.rt r137) else M.bind (M.bind (M.bind (M.bind (M.bind (M.ok found61.1) fun y138 => M.bind (M.ok name111) fun y139 => getM y138 y139) fun y142 => M.bind (M.bind (M.ok count112) fun y140 => M.bind (M.ok ()) fun y141 => M.ok (y140, y141)) fun y143 => M.ok (y142, y143)) c__law_hangs) fun y146 => M.ok (!y146)) fun c147 => if c147 = true then M.bind (M.ok false) fun r148 => M.ok (Fl.rt r148) else M.ok (Fl.nx ())
def f_law_l1 (found61 : ((List (List Tx)) × (List Int) × (List Int) × Unit)) : Unit → Int → M (Fl Unit Bool) := fun s110 name111 => let count112 : Int := (found61.2.1.count name111 : Int); let many115 : Int := (found61.2.2.1.count name111 : Int); M.bind (if (decide ((count112 + many115) = (0 : Int))) = true then M.ok true else M.bind (M.bind (getM found61.1 name111) fun y130 => f_law_formed y130 count112 many115) fun y133 => M.ok (!y133)) fun c150 => if c150 = true then M.ok (Fl.rt false) else M.bind (M.bind (M.bind (getM found61.1 name111) fun y144 => f_law_hangs y144 count112) fun y146 => M.ok (!y146)) fun c149 => if c149 = true then M.ok (Fl.rt false) else M.ok (Fl.nx ())
theorem eq_f_law_l1 (found61 : ((List (List Tx)) × (List Int) × (List Int) × Unit)) : r_f_law_l1 found61 = f_law_l1 found61 := by funext s110 name111; first | (simp only [r_f_law_l1, f_law_l1, M.bind_assoc, M.bok, c__law_cloth, c__law_formed, c__law_hangs, c__law_lies, c__law_lone, c__law_numbers, c__law_owned, c__law_told_again, c_taken_apart]; done) | (simp only [r_f_law_l1, f_law_l1, M.bind_assoc, M.bok, c__law_cloth, c__law_formed, c__law_hangs, c__law_lies, c__law_lone, c__law_numbers, c__law_owned, c__law_told_again, c_taken_apart]; rfl)
def r_f_law_l2 (found61 : ((List (List Tx)) × (List Int) × (List Int) × Unit)) : Unit → Int → M (Fl Unit Bool) := fun s172 name173 => M.bind (M.bind (M.bind (M.ok found61.2.1) fun y179 => M.bind (M.bind (M.ok found61.2.2.1) fun y177 => M.bind (M.bind (M.ok name173) fun y175 => M.bind (M.ok ()) fun y176 => M.ok (y175, y176)) fun y178 => M.ok (y177, y178)) fun y180 => M.ok (y179, y180)) c__law_lone) fun one174 => M.bind (M.bind (M.bind (M.ok found61.2.1) fun y191 => M.bind (M.bind (M.ok found61.2.2.1) fun y189 => M.bind (M.bind (M.bind (M.ok name173) fun y185 => M.bind (M.ok (1 : Int)) fun y186 => M.ok (y185 + y186)) fun y187 => M.bind (M.ok ()) fun y188 => M.ok (y187, y188)) fun y190 => M.ok (y189, y190)) fun y192 => M.ok (y191, y192)) c__law_lone) fun two184 => M.bind (M.ok ((decide (one174.1 = two184.1)) && ((!decide (one174.1 = (2 : Int))) && (decide (two184.2.1 < one174.2.1))))) fun c209 => if c209 = true then M.bind (M.ok false) fun r210 => M.ok (Fl.rt r210) else M.ok (Fl.nx ())
def f_law_l2 (found61 : ((List (List Tx)) × (List Int) × (List Int) × Unit)) : Unit → Int → M (Fl Unit Bool) := fun s172 name173 => M.bind (f_law_lone found61.2.1 found61.2.2.1 name173) fun one174 => M.bind (f_law_lone found61.2.1 found61.2.2.1 (name173 + (1 : Int))) fun two184 => if ((decide (one174.1 = two184.1)) && ((!decide (one174.1 = (2 : Int))) && (decide (two184.2.1 < one174.2.1)))) = true then M.ok (Fl.rt false) else M.ok (Fl.nx ())
theorem eq_f_law_l2 (found61 : ((List (List Tx)) × (List Int) × (List Int) × Unit)) : r_f_law_l2 found61 = f_law_l2 found61 := by funext s172 name173; first | (simp only [r_f_law_l2, f_law_l2, M.bind_assoc, M.bok, eq_f_law_l1, c__law_cloth, c__law_formed, c__law_hangs, c__law_lies, c__law_lone, c__law_numbers, c__law_owned, c__law_told_again, c_taken_apart]; done) | (simp only [r_f_law_l2, f_law_l2, M.bind_assoc, M.bok, eq_f_law_l1, c__law_cloth, c__law_formed, c__law_hangs, c__law_lies, c__law_lone, c__law_numbers, c__law_owned, c__law_told_again, c_taken_apart]; rfl)
def q_law (script1 : (List Int)) : M Bool := M.bind (M.bind (M.bind (M.ok script1) fun y5 => M.bind (M.bind (M.ok (63 : Int)) fun y3 => M.bind (M.ok ()) fun y4 => M.ok (y3, y4)) fun y6 => M.ok (y5, y6)) c__law_numbers) fun numbers2 => M.bind (M.ok (6 : Int)) fun most9 => M.bind (M.bind (M.bind (M.bind (M.ok numbers2) fun y10 => M.bind (M.ok (3 : Int)) fun y11 => getM y10 y11) fun y12 => M.ok (y12 % (8 : Int))) fun y13 => M.bind (M.ok (1 : Int)) fun y14 => M.ok (decide (y13 = y14))) fun c15 => M.bind (if c15 = true then M.bind (M.ok (12 : Int)) fun most16 => M.ok most16 else M.ok most9) fun (s17 : (Int)) => M.bind (M.bind (M.ok (1 : Int)) fun y22 => M.bind (M.bind (M.bind (M.ok numbers2) fun y19 => M.bind (M.ok (0 : Int)) fun y20 => getM y19 y20) fun y21 => M.ok (y21 % (3 : Int))) fun y23 => M.ok (y22 + y23)) fun heights18 => M.bind (M.bind (M.bind (M.bind (M.ok numbers2) fun y24 => M.bind (M.ok (3 : Int)) fun y25 => getM y24 y25) fun y26 => M.ok (y26 % (16 : Int))) fun y27 => M.bind (M.ok (2 : Int)) fun y28 => M.ok (decide (y27 = y28))) fun c29 => M.bind (if c29 = true then M.bind (M.ok (40 : Int)) fun most30 => M.bind (M.ok (12 : Int)) fun heights31 => M.ok (most30, heights31) else M.ok (s17, heights18)) fun (s32 : (Int × Int)) => M.bind (M.bind (M.ok (1 : Int)) fun y38 => M.bind (M.bind (M.bind (M.ok numbers2) fun y34 => M.bind (M.ok (1 : Int)) fun y35 => getM y34 y35) fun y36 => M.bind (M.ok s32.1) fun y37 => modM y36 y37) fun y39 => M.ok (y38 + y39)) fun wide33 => M.bind (M.bind (M.ok (1 : Int)) fun y45 => M.bind (M.bind (M.bind (M.ok numbers2) fun y41 => M.bind (M.ok (2 : Int)) fun y42 => getM y41 y42) fun y43 => M.bind (M.ok s32.1) fun y44 => modM y43 y44) fun y46 => M.ok (y45 + y46)) fun high40 => M.bind (M.bind (M.bind (M.ok numbers2) fun y54 => M.bind (M.bind (M.ok wide33) fun y52 => M.bind (M.bind (M.ok high40) fun y50 => M.bind (M.bind (M.ok s32.2) fun y48 => M.bind (M.ok ()) fun y49 => M.ok (y48, y49)) fun y51 => M.ok (y50, y51)) fun y53 => M.ok (y52, y53)) fun y55 => M.ok (y54, y55)) c__law_cloth) fun given47 => M.bind (M.ok given47) fun handed60 => M.bind (M.bind (M.bind (M.ok handed60) fun y62 => M.bind (M.ok ()) fun y63 => M.ok (y62, y63)) c_taken_apart) fun found61 => M.bind (M.ok ((!true) || ((!decide ((3 : Int) = (3 : Int))) || (!decide (handed60 = given47))))) fun c74 => if c74 = true then M.ok false else M.bind (M.bind (M.bind (M.ok found61.1) fun y78 => M.ok true) fun y79 => M.ok (!y79)) fun c80 => if c80 = true then M.ok false else M.bind (M.bind (M.bind (M.bind (M.bind (M.ok found61.2.1) fun y87 => M.bind (M.bind (M.ok wide33) fun y85 => M.bind (M.bind (M.bind (M.ok found61.1) fun y82 => M.ok (y82.length : Int)) fun y83 => M.bind (M.ok ()) fun y84 => M.ok (y83, y84)) fun y86 => M.ok (y85, y86)) fun y88 => M.ok (y87, y88)) c__law_owned) fun y92 => M.ok (!y92)) fun c104 => if c104 = true then M.ok true else M.bind (M.bind (M.bind (M.ok found61.2.2.1) fun y98 => M.bind (M.bind (M.ok high40) fun y96 => M.bind (M.bind (M.bind (M.ok found61.1) fun y93 => M.ok (y93.length : Int)) fun y94 => M.bind (M.ok ()) fun y95 => M.ok (y94, y95)) fun y97 => M.ok (y96, y97)) fun y99 => M.ok (y98, y99)) c__law_owned) fun y103 => M.ok (!y103)) fun c106 => if c106 = true then M.ok false else M.bind (M.bind (M.bind (M.ok found61.1) fun y108 => M.ok (y108.length : Int)) fun y109 => rangeM 0 y109) fun xs151 => M.bind (forF (r_f_law_l1 found61) () xs151) (Fl.el (fun (s152 : Unit) => M.bind (M.bind (M.bind (M.bind (M.ok given47) fun y159 => M.bind (M.bind (M.ok found61.1) fun y157 => M.bind (M.bind (M.ok found61.2.1) fun y155 => M.bind (M.bind (M.ok found61.2.2.1) fun y153 => M.bind (M.ok ()) fun y154 => M.ok (y153, y154)) fun y156 => M.ok (y155, y156)) fun y158 => M.ok (y157, y158)) fun y160 => M.ok (y159, y160)) c__law_lies) fun y165 => M.ok (!y165)) fun c166 => if c166 = true then M.ok false else M.bind (M.bind (M.bind (M.bind (M.ok found61.1) fun y168 => M.ok (y168.length : Int)) fun y169 => M.bind (M.ok (1 : Int)) fun y170 => M.ok (y169 - y170)) fun y171 => rangeM 0 y171) fun xs212 => M.bind (forF (r_f_law_l2 found61) () xs212) (Fl.el (fun (s213 : Unit) => M.bind (M.bind (M.bind (M.ok handed60) fun y219 => M.bind (M.bind (M.ok given47) fun y217 => M.bind (M.bind (M.ok (found61, fun (y : ((List (List Tx)) × (List Int) × (List Int) × Unit)) => y)) fun q214 => M.bind (M.ok ((), fun (_ : Unit) => ())) fun r215 => M.ok ((q214.1, r215.1), fun (w216 : ((List (List Tx)) × (List Int) × (List Int) × Unit) × Unit) => (q214.2 w216.1, r215.2 w216.2))) fun r218 => M.ok ((y217, r218.1), r218.2)) fun r220 => M.ok ((y219, r220.1), r220.2)) fun q221 => M.bind (c__law_told_again q221.1) fun r222 => M.ok (r222.1, q221.2 r222.2)) fun x223 => M.ok x223.1) fun r224 => M.ok r224)) fun r226 => M.ok r226)
def f_law (script1 : (List Int)) : M Bool := M.bind (f_law_numbers script1 (63 : Int)) fun numbers2 => let most9 : Int := (6 : Int); M.bind (M.bind (M.bind (getM numbers2 (3 : Int)) fun y12 => M.ok (y12 % (8 : Int))) fun y13 => M.ok (decide (y13 = (1 : Int)))) fun c15 => M.bind (if c15 = true then let most16 : Int := (12 : Int); M.ok most16 else M.ok most9) fun (s17 : (Int)) => M.bind (M.bind (M.bind (getM numbers2 (0 : Int)) fun y21 => M.ok (y21 % (3 : Int))) fun y23 => M.ok ((1 : Int) + y23)) fun heights18 => M.bind (M.bind (M.bind (getM numbers2 (3 : Int)) fun y26 => M.ok (y26 % (16 : Int))) fun y27 => M.ok (decide (y27 = (2 : Int)))) fun c29 => M.bind (if c29 = true then let most30 : Int := (40 : Int); let heights31 : Int := (12 : Int); M.ok (most30, heights31) else M.ok (s17, heights18)) fun (s32 : (Int × Int)) => M.bind (M.bind (M.bind (getM numbers2 (1 : Int)) fun y36 => modM y36 s32.1) fun y39 => M.ok ((1 : Int) + y39)) fun wide33 => M.bind (M.bind (M.bind (getM numbers2 (2 : Int)) fun y43 => modM y43 s32.1) fun y46 => M.ok ((1 : Int) + y46)) fun high40 => M.bind (f_law_cloth numbers2 wide33 high40 s32.2) fun given47 => let handed60 : (List Tx) := given47; M.bind (f_taken_apart handed60) fun found61 => if ((!true) || ((!decide ((3 : Int) = (3 : Int))) || (!decide (handed60 = given47)))) = true then M.ok false else if (!true) = true then M.ok false else M.bind (M.bind (M.bind (f_law_owned found61.2.1 wide33 (found61.1.length : Int)) fun y92 => M.ok (!y92)) fun c105 => if c105 = true then M.ok true else M.bind (f_law_owned found61.2.2.1 high40 (found61.1.length : Int)) fun y103 => M.ok (!y103)) fun c227 => if c227 = true then M.ok false else M.bind (rangeM 0 (found61.1.length : Int)) fun xs151 => M.bind (forF (f_law_l1 found61) () xs151) (Fl.el (fun (s152 : Unit) => M.bind (M.bind (f_law_lies given47 found61.1 found61.2.1 found61.2.2.1) fun y165 => M.ok (!y165)) fun c225 => if c225 = true then M.ok false else M.bind (rangeM 0 ((found61.1.length : Int) - (1 : Int))) fun xs212 => M.bind (forF (f_law_l2 found61) () xs212) (Fl.el (fun (s213 : Unit) => M.bind (f_law_told_again handed60 given47 found61) fun x223 => M.ok x223.1) fun r224 => M.ok r224)) fun r226 => M.ok r226)
def r_law (d : ((List Int) × Unit)) : M Bool := q_law d.1
def c_law (d : ((List Int) × Unit)) : M Bool := f_law d.1
theorem eq_law : r_law = c_law := by funext d; first | (simp only [r_law, c_law, q_law, f_law, M.bind_assoc, M.bok, eq_f_law_l1, eq_f_law_l2, c__law_cloth, c__law_formed, c__law_hangs, c__law_lies, c__law_lone, c__law_numbers, c__law_owned, c__law_told_again, c_taken_apart]; done) | (simp only [r_law, c_law, q_law, f_law, M.bind_assoc, M.bok, eq_f_law_l1, eq_f_law_l2, c__law_cloth, c__law_formed, c__law_hangs, c__law_lies, c__law_lone, c__law_numbers, c__law_owned, c__law_told_again, c_taken_apart]; rfl)
theorem bb_law {p : Pr} (X : Facts p) {g : G} (ok : OkS p (defScope s_law) N_law V_law G_law 6 g) (hX : g.LX = List.replicate N_law.length sAny) (script1 : (List Int)) : EvB g [(sV false (tListK p.K tInt) script1), sAny, sAny, sAny, sAny, sAny, sAny, sAny, sAny, sAny, sAny, sAny, sAny, sAny, sAny, sAny, sAny] (defBody s_law) (fun r => .rt false tBool r) (q_law script1) := (evb_set ok (i := 1) (j := 1) rfl rfl (wkX hX rfl) .sh (ev_ofL (evl_call (md' := .sh) ok.toOk (fn__law_numbers X) (by decide) (j := 0) rfl .sh (eva_cons (md := .sh) (ev_vsh ok.toOk (i := 0) (j := 0) rfl rfl rfl) (eva_cons (md := .sh) (ev_int (md := .sh)) eva_nil)))) fun numbers2 => (evb_set ok (i := 2) (j := 2) rfl rfl (wkX hX rfl) .sh (ev_int (md := .sh)) fun most9 => (evb_if (LJ := (fun (s17 : (Int)) => [(sV false (tListK p.K tInt) script1), (sV false (tList tInt) numbers2), (sV false tInt s17), sAny, sAny, sAny, sAny, sAny, sAny, sAny, sAny, sAny, sAny, sAny, sAny, sAny, sAny])) (wkX hX rfl) (evt_c ok.toOk (c_eq s_int) (ev_modC (md' := .sh) ok.toOk (by decide) (ev_ixQ ok.toOk sq_l (ev_vsh ok.toOk (i := 1) (j := 1) rfl rfl rfl) (ev_int (md := .sh))) (ev_int (md := .sh))) (ev_int (md := .sh))) (evb_set ok (i := 2) (j := 2) rfl rfl (wkX hX rfl) .sh (ev_int (md := .sh)) fun most16 => (evb_nx (by rfl) (Wk.s (Wk.s (Wk.s (Wk.s (Wk.s (Wk.s (Wk.s (Wk.s (Wk.s (Wk.s (Wk.s (Wk.s (Wk.s (Wk.s (Wk.s (Wk.s (Wk.s Wk.n))))))))))))))))))) (evb_nx (by rfl) (Wk.s (Wk.s (Wk.s (Wk.s (Wk.s (Wk.s (Wk.s (Wk.s (Wk.s (Wk.s (Wk.s (Wk.s (Wk.s (Wk.s (Wk.s (Wk.s (Wk.s Wk.n)))))))))))))))))) fun s17 => (evb_set ok (i := 3) (j := 3) rfl rfl (wkX hX rfl) .sh (ev_add (md' := .sh) ok.toOk (ev_int (md := .sh)) (ev_modC (md' := .sh) ok.toOk (by decide) (ev_ixQ ok.toOk sq_l (ev_vsh ok.toOk (i := 1) (j := 1) rfl rfl rfl) (ev_int (md := .sh))) (ev_int (md := .sh)))) fun heights18 => (evb_if (LJ := (fun (s32 : (Int × Int)) => [(sV false (tListK p.K tInt) script1), (sV false (tList tInt) numbers2), (sV false tInt s32.1), (sV false tInt s32.2), sAny, sAny, sAny, sAny, sAny, sAny, sAny, sAny, sAny, sAny, sAny, sAny, sAny])) (wkX hX rfl) (evt_c ok.toOk (c_eq s_int) (ev_modC (md' := .sh) ok.toOk (by decide) (ev_ixQ ok.toOk sq_l (ev_vsh ok.toOk (i := 1) (j := 1) rfl rfl rfl) (ev_int (md := .sh))) (ev_int (md := .sh))) (ev_int (md := .sh))) (evb_set ok (i := 2) (j := 2) rfl rfl (wkX hX rfl) .sh (ev_int (md := .sh)) fun most30 => (evb_set ok (i := 3) (j := 3) rfl rfl (wkX hX rfl) .sh (ev_int (md := .sh)) fun heights31 => (evb_nx (by rfl) (Wk.s (Wk.s (Wk.s (Wk.s (Wk.s (Wk.s (Wk.s (Wk.s (Wk.s (Wk.s (Wk.s (Wk.s (Wk.s (Wk.s (Wk.s (Wk.s (Wk.s Wk.n)))))))))))))))))))) (evb_nx (by rfl) (Wk.s (Wk.s (Wk.s (Wk.s (Wk.s (Wk.s (Wk.s (Wk.s (Wk.s (Wk.s (Wk.s (Wk.s (Wk.s (Wk.s (Wk.s (Wk.s (Wk.s Wk.n)))))))))))))))))) fun s32 => (evb_set ok (i := 4) (j := 4) rfl rfl (wkX hX rfl) .sh (ev_add (md' := .sh) ok.toOk (ev_int (md := .sh)) (ev_mod (md' := .sh) ok.toOk (ev_ixQ ok.toOk sq_l (ev_vsh ok.toOk (i := 1) (j := 1) rfl rfl rfl) (ev_int (md := .sh))) (ev_vsh ok.toOk (i := 2) (j := 2) rfl rfl rfl))) fun wide33 => (evb_set ok (i := 5) (j := 5) rfl rfl (wkX hX rfl) .sh (ev_add (md' := .sh) ok.toOk (ev_int (md := .sh)) (ev_mod (md' := .sh) ok.toOk (ev_ixQ ok.toOk sq_l (ev_vsh ok.toOk (i := 1) (j := 1) rfl rfl rfl) (ev_int (md := .sh))) (ev_vsh ok.toOk (i := 2) (j := 2) rfl rfl rfl))) fun high40 => (evb_set ok (i := 6) (j := 6) rfl rfl (wkX hX rfl) .sh (ev_ofL (evl_call (md' := .sh) ok.toOk (fn__law_cloth X) (by decide) (j := 1) rfl .sh (eva_cons (md := .sh) (ev_vsh ok.toOk (i := 1) (j := 1) rfl rfl rfl) (eva_cons (md := .sh) (ev_vsh ok.toOk (i := 4) (j := 4) rfl rfl rfl) (eva_cons (md := .sh) (ev_vsh ok.toOk (i := 5) (j := 5) rfl rfl rfl) (eva_cons (md := .sh) (ev_vsh ok.toOk (i := 3) (j := 3) rfl rfl rfl) eva_nil)))))) fun given47 => (evb_set ok (i := 7) (j := 7) rfl rfl (wkX hX rfl) .sh (ev_ofL (evl_copyQ (md := .sh) ok.toOk sq_l (j := 2) rfl X.g_list (ev_vsh ok.toOk (i := 6) (j := 6) rfl rfl rfl))) fun handed60 => (evb_setN ok (i := 8) (j := 8) rfl rfl (.inl (wkX hX rfl)) (evn_call ok.toOk (fn_taken_apart X) (by decide) (j := 3) rfl (eva_cons (md := .sh) (ev_vsh ok.toOk (i := 7) (j := 7) rfl rfl rfl) eva_nil)) fun found61 => (evb_ifx (wkX hX rfl) (evt_borrowP (i := 8) rfl (EvW.t (evw_orP (pureT (m := M.bind (M.bind (M.ok found61) fun y65 => M.ok true) fun y66 => M.ok (!y66)) (evt_not (evt_of (ev_isi (md' := .sh) (r := true) ok.toOk (j := 5) rfl X.g_isinstance i_tup (by decide +kernel) (ev_vsh ok.toOk (i := 8) (j := 8) rfl rfl rfl) (ev_ty (n := "tuple") (md := .sh) ok.toOk (j := 4) rfl X.g_tuple (by decide +kernel))))) rfl) (pureW (m := M.ok ((!decide ((3 : Int) = (3 : Int))) || (!decide (handed60 = given47)))) (evw_orP (pureT (m := M.bind (M.bind (M.ok found61) fun y67 => M.ok (3 : Int)) fun y68 => M.bind (M.ok (3 : Int)) fun y69 => M.ok (!decide (y68 = y69))) (evt_c ok.toOk (c_ne s_int) (ev_lenT (md' := .sh) (n := 3) ok.toOk (lenS (lenS (lenS len0))) (j := 6) rfl X.g_len (ev_vsh ok.toOk (i := 8) (j := 8) rfl rfl rfl)) (ev_int (md := .sh))) rfl) (pureW (m := M.bind (M.ok handed60) fun y70 => M.bind (M.ok given47) fun y71 => M.ok (!decide (y70 = y71))) (evw_or1 (evt_c ok.toOk (c_neD ok.toOk (dList dStr) (by decide)) (ev_vsh ok.toOk (i := 7) (j := 7) rfl rfl rfl) (ev_vsh ok.toOk (i := 6) (j := 6) rfl rfl rfl))) rfl)) rfl)))) (evb_ret (wkX hX rfl) .sh (by intro _; rfl) (ev_bool (md := .sh))) (evb_lit (L' := [(sV false (tListK p.K tInt) script1), (sV false (tList tInt) numbers2), (sV false tInt s32.1), (sV false tInt s32.2), (sV false tInt wide33), (sV false tInt high40), (sV false (tList tStr) given47), (sV false (tList tStr) handed60), (sO (wTup (waCons (wL (wL (wV tStr))) (waCons (wL (wV tInt)) (waCons (wL (wV tInt)) waNil)))) found61), sAny, sAny, sAny, sAny, sAny, sAny, sAny, sAny]) rfl (evb_pinT (i := 8) rfl fun q76 ws77 => (evb_aliasT ok (i := 9) (j := 9) rfl rfl (iy := 8) (jy := 8) rfl rfl rfl .z (ev_int (md := .sh)) (evb_aliasT ok (i := 10) (j := 10) rfl rfl (iy := 8) (jy := 8) rfl rfl rfl (.s .z) (ev_int (md := .sh)) (evb_aliasT ok (i := 11) (j := 11) rfl rfl (iy := 8) (jy := 8) rfl rfl rfl (.s (.s .z)) (ev_int (md := .sh)) (evb_ifx (wkX hX rfl) (evt_look (ac_tr (ac_lend (i := 8) rfl) (ac_tr (ac_see (i := 8) (j := 11) rfl rfl (.s (.s .z))) (ac_tr (ac_see (i := 8) (j := 10) rfl rfl (.s .z)) (ac_tr (ac_see (i := 8) (j := 9) rfl rfl .z) (ac_shut (i := 8) rfl))))) (evt_not (evt_of (ev_isi (md' := .sh) (r := true) ok.toOk (j := 5) rfl X.g_isinstance i_list (by decide +kernel) (ev_vsh ok.toOk (i := 9) (j := 9) rfl rfl rfl) (ev_ty (n := "list") (md := .sh) ok.toOk (j := 2) rfl X.g_list (by decide +kernel)))))) (evb_ret (wkX hX rfl) .sh (by intro _; rfl) (ev_bool (md := .sh))) (evb_ifx (wkX hX rfl) (evt_look (ac_tr (ac_lend (i := 8) rfl) (ac_tr (ac_see (i := 8) (j := 11) rfl rfl (.s (.s .z))) (ac_tr (ac_see (i := 8) (j := 10) rfl rfl (.s .z)) (ac_tr (ac_see (i := 8) (j := 9) rfl rfl .z) (ac_shut (i := 8) rfl))))) (EvW.t (evw_or (evt_not (evt_of (ev_call (md' := .sh) ok.toOk (fn__law_owned X) (by decide) (j := 7) rfl .sh (eva_cons (md := .sh) (ev_vsh ok.toOk (i := 10) (j := 10) rfl rfl rfl) (eva_cons (md := .sh) (ev_vsh ok.toOk (i := 4) (j := 4) rfl rfl rfl) (eva_cons (md := .sh) (ev_lenQ (md' := .sh) ok.toOk sq_l (j := 6) rfl X.g_len (ev_vsh ok.toOk (i := 9) (j := 9) rfl rfl rfl)) eva_nil)))))) (evw_or1 (evt_not (evt_of (ev_call (md' := .sh) ok.toOk (fn__law_owned X) (by decide) (j := 7) rfl .sh (eva_cons (md := .sh) (ev_vsh ok.toOk (i := 11) (j := 11) rfl rfl rfl) (eva_cons (md := .sh) (ev_vsh ok.toOk (i := 5) (j := 5) rfl rfl rfl) (eva_cons (md := .sh) (ev_lenQ (md' := .sh) ok.toOk sq_l (j := 6) rfl X.g_len (ev_vsh ok.toOk (i := 9) (j := 9) rfl rfl rfl)) eva_nil)))))))))) (evb_ret (wkX hX rfl) .sh (by intro _; rfl) (ev_bool (md := .sh))) (evb_forF (LF := (fun (s110 : Unit) => [(sV false (tListK p.K tInt) script1), (sV false (tList tInt) numbers2), (sV false tInt s32.1), (sV false tInt s32.2), (sV false tInt wide33), (sV false tInt high40), (sV false (tList tStr) given47), (sV false (tList tStr) handed60), (sO (wPn cT q76 ws77 (waCons (wL (wL (wV tStr))) (waCons (wL (wV tInt)) (waCons (wL (wV tInt)) waNil)))) found61), (sAt ws77 0), (sAt ws77 1), (sAt ws77 2), sAny, sAny, sAny, sAny, sAny])) (s0 := ()) (dr := fun r226 => r226) ok (wkX hX rfl) (evi_range1 ok.toOk (j := 8) rfl X.g_range (ev_look (.inl flInt) (ac_tr (ac_lend (i := 8) rfl) (ac_tr (ac_see (i := 8) (j := 11) rfl rfl (.s (.s .z))) (ac_tr (ac_see (i := 8) (j := 10) rfl rfl (.s .z)) (ac_tr (ac_see (i := 8) (j := 9) rfl rfl .z) (ac_shut (i := 8) rfl))))) (ev_lenQ (md' := .sh) ok.toOk sq_l (j := 6) rfl X.g_len (ev_vsh ok.toOk (i := 9) (j := 9) rfl rfl rfl)))) (Wk.s (Wk.s (Wk.s (Wk.s (Wk.s (Wk.s (Wk.s (Wk.s (Wk.s (Wk.s (Wk.s (Wk.s (Wk.s (Wk.s (Wk.s (Wk.s (Wk.s Wk.n))))))))))))))))) (fun _ => evg_name ok (i := 12) (j := 12) rfl rfl) (fun s110 name111 => (evb_set ok (i := 13) (j := 13) rfl rfl (wkX hX rfl) .sh (ev_look (.inl flInt) (ac_tr (ac_lend (i := 8) rfl) (ac_tr (ac_see (i := 8) (j := 11) rfl rfl (.s (.s .z))) (ac_tr (ac_see (i := 8) (j := 10) rfl rfl (.s .z)) (ac_tr (ac_see (i := 8) (j := 9) rfl rfl .z) (ac_shut (i := 8) rfl))))) (ev_countI (md' := .sh) ok.toOk (ev_vsh ok.toOk (i := 10) (j := 10) rfl rfl rfl) (ev_vsh ok.toOk (i := 12) (j := 12) rfl rfl rfl))) fun count112 => (evb_set ok (i := 14) (j := 14) rfl rfl (wkX hX rfl) .sh (ev_look (.inl flInt) (ac_tr (ac_lend (i := 8) rfl) (ac_tr (ac_see (i := 8) (j := 11) rfl rfl (.s (.s .z))) (ac_tr (ac_see (i := 8) (j := 10) rfl rfl (.s .z)) (ac_tr (ac_see (i := 8) (j := 9) rfl rfl .z) (ac_shut (i := 8) rfl))))) (ev_countI (md' := .sh) ok.toOk (ev_vsh ok.toOk (i := 11) (j := 11) rfl rfl rfl) (ev_vsh ok.toOk (i := 12) (j := 12) rfl rfl rfl))) fun many115 => (evb_ifx (wkX hX rfl) (evt_look (ac_tr (ac_lend (i := 8) rfl) (ac_tr (ac_see (i := 8) (j := 11) rfl rfl (.s (.s .z))) (ac_tr (ac_see (i := 8) (j := 10) rfl rfl (.s .z)) (ac_tr (ac_see (i := 8) (j := 9) rfl rfl .z) (ac_shut (i := 8) rfl))))) (EvW.t (evw_or (evt_c ok.toOk (c_eq s_int) (ev_add (md' := .sh) ok.toOk (ev_vsh ok.toOk (i := 13) (j := 13) rfl rfl rfl) (ev_vsh ok.toOk (i := 14) (j := 14) rfl rfl rfl)) (ev_int (md := .sh))) (evw_or1 (evt_not (evt_of (ev_call (md' := .sh) ok.toOk (fn__law_formed X) (by decide) (j := 9) rfl .sh (eva_cons (md := .sh) (ev_ixQ ok.toOk sq_l (ev_vsh ok.toOk (i := 9) (j := 9) rfl rfl rfl) (ev_vsh ok.toOk (i := 12) (j := 12) rfl rfl rfl)) (eva_cons (md := .sh) (ev_vsh ok.toOk (i := 13) (j := 13) rfl rfl rfl) (eva_cons (md := .sh) (ev_vsh ok.toOk (i := 14) (j := 14) rfl rfl rfl) eva_nil)))))))))) (evb_retF (mk := fun r137 => Fl.rt r137) (wkX hX rfl) .sh (by intro _; rfl) (ev_bool (md := .sh))) (evb_ifl (wkX hX rfl) (evt_look (ac_tr (ac_lend (i := 8) rfl) (ac_tr (ac_see (i := 8) (j := 11) rfl rfl (.s (.s .z))) (ac_tr (ac_see (i := 8) (j := 10) rfl rfl (.s .z)) (ac_tr (ac_see (i := 8) (j := 9) rfl rfl .z) (ac_shut (i := 8) rfl))))) (evt_not (evt_of (ev_call (md' := .sh) ok.toOk (fn__law_hangs X) (by decide) (j := 10) rfl .sh (eva_cons (md := .sh) (ev_ixQ ok.toOk sq_l (ev_vsh ok.toOk (i := 9) (j := 9) rfl rfl rfl) (ev_vsh ok.toOk (i := 12) (j := 12) rfl rfl rfl)) (eva_cons (md := .sh) (ev_vsh ok.toOk (i := 13) (j := 13) rfl rfl rfl) eva_nil)))))) (evb_retF (mk := fun r148 => Fl.rt r148) (wkX hX rfl) .sh (by intro _; rfl) (ev_bool (md := .sh))) (evb_go (by rfl) (Wk.s (Wk.s (Wk.s (Wk.s (Wk.s (Wk.s (Wk.s (Wk.s (Wk.s (Wk.s (Wk.s (Wk.s (Wk.a (Wk.a (Wk.a (Wk.s (Wk.s Wk.n))))))))))))))))))))))) fun s152 => (evb_ifx (wkX hX rfl) (evt_look (ac_tr (ac_lend (i := 8) rfl) (ac_tr (ac_see (i := 8) (j := 11) rfl rfl (.s (.s .z))) (ac_tr (ac_see (i := 8) (j := 10) rfl rfl (.s .z)) (ac_tr (ac_see (i := 8) (j := 9) rfl rfl .z) (ac_shut (i := 8) rfl))))) (evt_not (evt_of (ev_call (md' := .sh) ok.toOk (fn__law_lies X) (by decide) (j := 11) rfl .sh (eva_cons (md := .sh) (ev_vsh ok.toOk (i := 6) (j := 6) rfl rfl rfl) (eva_cons (md := .sh) (ev_vsh ok.toOk (i := 9) (j := 9) rfl rfl rfl) (eva_cons (md := .sh) (ev_vsh ok.toOk (i := 10) (j := 10) rfl rfl rfl) (eva_cons (md := .sh) (ev_vsh ok.toOk (i := 11) (j := 11) rfl rfl rfl) eva_nil)))))))) (evb_ret (wkX hX rfl) .sh (by intro _; rfl) (ev_bool (md := .sh))) (evb_forF (LF := (fun (s172 : Unit) => [(sV false (tListK p.K tInt) script1), (sV false (tList tInt) numbers2), (sV false tInt s32.1), (sV false tInt s32.2), (sV false tInt wide33), (sV false tInt high40), (sV false (tList tStr) given47), (sV false (tList tStr) handed60), (sO (wPn cT q76 ws77 (waCons (wL (wL (wV tStr))) (waCons (wL (wV tInt)) (waCons (wL (wV tInt)) waNil)))) found61), (sAt ws77 0), (sAt ws77 1), (sAt ws77 2), sAny, sAny, sAny, sAny, sAny])) (s0 := ()) (dr := fun r224 => r224) ok (wkX hX rfl) (evi_range1 ok.toOk (j := 8) rfl X.g_range (ev_look (.inl flInt) (ac_tr (ac_lend (i := 8) rfl) (ac_tr (ac_see (i := 8) (j := 11) rfl rfl (.s (.s .z))) (ac_tr (ac_see (i := 8) (j := 10) rfl rfl (.s .z)) (ac_tr (ac_see (i := 8) (j := 9) rfl rfl .z) (ac_shut (i := 8) rfl))))) (ev_subt (md' := .sh) ok.toOk (ev_lenQ (md' := .sh) ok.toOk sq_l (j := 6) rfl X.g_len (ev_vsh ok.toOk (i := 9) (j := 9) rfl rfl rfl)) (ev_int (md := .sh))))) (Wk.s (Wk.s (Wk.s (Wk.s (Wk.s (Wk.s (Wk.s (Wk.s (Wk.s (Wk.s (Wk.s (Wk.s (Wk.s (Wk.s (Wk.s (Wk.s (Wk.s Wk.n))))))))))))))))) (fun _ => evg_name ok (i := 12) (j := 12) rfl rfl) (fun s172 name173 => (evb_set ok (i := 15) (j := 15) rfl rfl (wkX hX rfl) .sh (ev_sh (ev_look (.inr rfl) (ac_tr (ac_lend (i := 8) rfl) (ac_tr (ac_see (i := 8) (j := 11) rfl rfl (.s (.s .z))) (ac_tr (ac_see (i := 8) (j := 10) rfl rfl (.s .z)) (ac_tr (ac_see (i := 8) (j := 9) rfl rfl .z) (ac_shut (i := 8) rfl))))) (ev_call (md' := .fx) ok.toOk (fn__law_lone X) (by decide) (j := 12) rfl .fx (eva_cons (md := .sh) (ev_vsh ok.toOk (i := 10) (j := 10) rfl rfl rfl) (eva_cons (md := .sh) (ev_vsh ok.toOk (i := 11) (j := 11) rfl rfl rfl) (eva_cons (md := .sh) (ev_vsh ok.toOk (i := 12) (j := 12) rfl rfl rfl) eva_nil)))))) fun one174 => (evb_set ok (i := 16) (j := 16) rfl rfl (wkX hX rfl) .sh (ev_sh (ev_look (.inr rfl) (ac_tr (ac_lend (i := 8) rfl) (ac_tr (ac_see (i := 8) (j := 11) rfl rfl (.s (.s .z))) (ac_tr (ac_see (i := 8) (j := 10) rfl rfl (.s .z)) (ac_tr (ac_see (i := 8) (j := 9) rfl rfl .z) (ac_shut (i := 8) rfl))))) (ev_call (md' := .fx) ok.toOk (fn__law_lone X) (by decide) (j := 12) rfl .fx (eva_cons (md := .sh) (ev_vsh ok.toOk (i := 10) (j := 10) rfl rfl rfl) (eva_cons (md := .sh) (ev_vsh ok.toOk (i := 11) (j := 11) rfl rfl rfl) (eva_cons (md := .sh) (ev_add (md' := .sh) ok.toOk (ev_vsh ok.toOk (i := 12) (j := 12) rfl rfl rfl) (ev_int (md := .sh))) eva_nil)))))) fun two184 => (evb_ifl (wkX hX rfl) (EvW.t (evw_andP (pureT (m := M.bind (M.bind (M.ok one174) fun y196 => M.ok y196.1) fun y198 => M.bind (M.bind (M.ok two184) fun y197 => M.ok y197.1) fun y199 => M.ok (decide (y198 = y199))) (evt_c ok.toOk (c_eq s_int) (ev_ixA (n := 0) ok.toOk .z (ev_vsh ok.toOk (i := 15) (j := 15) rfl rfl rfl) (ev_int (md := .sh))) (ev_ixA (n := 0) ok.toOk .z (ev_vsh ok.toOk (i := 16) (j := 16) rfl rfl rfl) (ev_int (md := .sh)))) rfl) (pureW (m := M.ok ((!decide (one174.1 = (2 : Int))) && (decide (two184.2.1 < one174.2.1)))) (evw_andP (pureT (m := M.bind (M.bind (M.ok one174) fun y200 => M.ok y200.1) fun y201 => M.bind (M.ok (2 : Int)) fun y202 => M.ok (!decide (y201 = y202))) (evt_c ok.toOk (c_ne s_int) (ev_ixA (n := 0) ok.toOk .z (ev_vsh ok.toOk (i := 15) (j := 15) rfl rfl rfl) (ev_int (md := .sh))) (ev_int (md := .sh))) rfl) (pureW (m := M.bind (M.bind (M.ok one174) fun y203 => M.ok y203.2.1) fun y205 => M.bind (M.bind (M.ok two184) fun y204 => M.ok y204.2.1) fun y206 => M.ok (decide (y206 < y205))) (evw_and1 (evt_c ok.toOk c_gt (ev_ixA (n := 1) ok.toOk (.s .z) (ev_vsh ok.toOk (i := 15) (j := 15) rfl rfl rfl) (ev_int (md := .sh))) (ev_ixA (n := 1) ok.toOk (.s .z) (ev_vsh ok.toOk (i := 16) (j := 16) rfl rfl rfl) (ev_int (md := .sh))))) rfl)) rfl))) (evb_retF (mk := fun r210 => Fl.rt r210) (wkX hX rfl) .sh (by intro _; rfl) (ev_bool (md := .sh))) (evb_go (by rfl) (Wk.s (Wk.s (Wk.s (Wk.s (Wk.s (Wk.s (Wk.s (Wk.s (Wk.s (Wk.s (Wk.s (Wk.s (Wk.a (Wk.s (Wk.s (Wk.a (Wk.a Wk.n)))))))))))))))))))))) fun s213 => (evb_unpinT (i := 8) rfl (evb_retXf (mk := fun x223 => x223.1) (by intro _; rfl) (ex_call ok.toOk (fn__law_told_again X) (by decide) (j := 13) rfl (.any hX) (evxa_sh (up := (fun (d : ((List Tx) × (((List (List Tx)) × (List Int) × (List Int) × Unit) × Unit))) (w : (((List (List Tx)) × (List Int) × (List Int) × Unit) × Unit)) => (d.1, (fun (d : (((List (List Tx)) × (List Int) × (List Int) × Unit) × Unit)) (w : (((List (List Tx)) × (List Int) × (List Int) × Unit) × Unit)) => (w.1, (fun (d : Unit) (_ : Unit) => d) d.2 w.2)) d.2 w))) (md := .sh) (ev_vsh ok.toOk (i := 7) (j := 7) rfl rfl rfl) (evxa_sh (up := (fun (d : (((List (List Tx)) × (List Int) × (List Int) × Unit) × Unit)) (w : (((List (List Tx)) × (List Int) × (List Int) × Unit) × Unit)) => (w.1, (fun (d : Unit) (_ : Unit) => d) d.2 w.2))) (md := .sh) (ev_vsh ok.toOk (i := 6) (j := 6) rfl rfl rfl) (evxa_ow (up := (fun (d : Unit) (_ : Unit) => d)) (evp_name ok.toOk (i := 8) (j := 8) rfl rfl rfl) evxa_nil (by decide))))))))))))))))))))))))))))
theorem b_law {p : Pr} (X : Facts p) : Body p s_law N_law V_law G_law 6 (fun (d : ((List Int) × Unit)) => [(sV false (tListK p.K tInt) d.1), sAny, sAny, sAny, sAny, sAny, sAny, sAny, sAny, sAny, sAny, sAny, sAny, sAny, sAny, sAny, sAny]) (fun r => .rt false tBool r) r_law := fun g ok hX d => bb_law X ok hX d.1
theorem fnok_law {p : Pr} (X : Facts p) {f : Addr} {fd : FuncData} (hF : FunD p.K "law" "law" (defArgs s_law) (defBody s_law) (defScope s_law) [] [] f fd) : FnOk p.P p.w p.K p.mg p.base (L2.CX p.P p.w) 7 f fd ["script"] (spM p (aCons (tListK p.K tInt) aNil) (fun r => .rt false tBool r) c_law) := eq_law ▸ fn_rt (m := 16) hF sc_law (.cons .nil) rfl rfl (b_law X)
theorem measured_ok {rows : List Tx} {w h : Nat} (hc : Cloth rows w h) : f_measured rows = .ok ((w : Int), (h : Int), ()) := by
  obtain ⟨hh, ww, sg, w1, w2, h1, h2⟩ := hc
  have hl : rows ≠ [] := fun e => by subst e; simp at hh; omega
  obtain ⟨r0, rs, rfl⟩ := List.exists_cons_of_ne_nil hl
  have e0 : r0.length = w := ww r0 List.mem_cons_self
  refine oke ?_
  unfold f_measured
  refine okif (fun c => ?_) fun _ => ?_
  · simp only [Bool.or_eq_true, decide_eq_true_eq] at c; omega
  refine okb (P := (· = (w : Int))) ?_ fun wd e => ?_
  · rw [show getM (r0 :: rs) 0 = .ok r0 from getM_at (by omega) rfl]
    exact okv (by omega)
  subst e
  refine okif (fun c => ?_) fun _ => ?_
  · simp only [Bool.or_eq_true, decide_eq_true_eq] at c; omega
  refine okb (P := fun _ => True) (ok_forI (fun _ => True) trivial fun text ht s _ => ?_) fun _ _ => okv (by rw [hh])
  unfold f_measured_l2
  refine okif (fun c => ?_) fun _ => ?_
  · have := ww text ht
    simp only [Bool.not_eq_true', decide_eq_false_iff_not] at c; omega
  refine okb (P := fun _ => True) (ok_forI (fun _ => True) trivial fun sign hs s _ => ?_) fun _ _ => okv trivial
  unfold f_measured_l1
  refine okif (fun c => ?_) fun _ => okv trivial
  obtain ⟨n, hn, rfl⟩ := List.mem_map.mp hs
  rw [tx_hash, tx_dot] at c
  rcases sg text ht n hn with e | e <;> subst e <;> simp at c
def sgn (rows : List Tx) (j k : Int) : Nat := ((rows[j.toNat]?.getD [])[k.toNat]?).getD 0
def ovB (rows : List Tx) (w : Int) (a b : Int) : Bool := if a < w ∧ w ≤ b then sgn rows (b - w) a == 35 else if b < w ∧ w ≤ a then sgn rows (a - w) b == 46 else false
theorem sgn_or {rows : List Tx} {w h : Nat} (hc : Cloth rows w h) {j k : Int} (j0 : 0 ≤ j) (j1 : j < h) (k0 : 0 ≤ k) (k1 : k < w) : sgn rows j k = 35 ∨ sgn rows j k = 46 := by
  have hj : j.toNat < rows.length := by have := hc.hh; omega
  have hm : rows[j.toNat] ∈ rows := List.getElem_mem hj
  have hw := hc.ww _ hm
  have hk : k.toNat < rows[j.toNat].length := by omega
  have e : sgn rows j k = rows[j.toNat][k.toNat] := by
    unfold sgn
    rw [List.getElem?_eq_getElem hj]
    show (rows[j.toNat][k.toNat]?).getD 0 = _
    rw [List.getElem?_eq_getElem hk]; rfl
  rw [e]
  exact hc.sg _ hm _ (List.getElem_mem hk)
/-- two strands that cross: just one lies over -/
theorem ovB_not {rows : List Tx} {w h : Nat} (hc : Cloth rows w h) {a b : Int} (a0 : 0 ≤ a) (a1 : a < w) (b0 : (w : Int) ≤ b) (b1 : b < (w : Int) + h) : ovB rows w b a = !ovB rows w a b := by
  unfold ovB
  rw [if_neg (by omega), if_pos (by omega), if_pos (by omega)]
  rcases sgn_or hc (j := b - w) (k := a) (by omega) (by omega) a0 a1 with e | e <;> rw [e] <;> rfl
/-- over how many picks an end lies -/
def cntE (rows : List Tx) (e : Nat) : Nat := (rows.filter fun r => decide (r[e]? = some 35)).length
theorem scores_ok {rows : List Tx} {w h : Nat} (hc : Cloth rows w h) : f_scores_of rows = .ok ((List.range w).map (fun e => (cntE rows e : Int)) ++ rows.map fun r => (r.count 46 : Int)) := by
  refine oke ?_
  unfold f_scores_of
  rw [measured_ok hc, M.bind_ok]
  have hh := hc.hh
  have hw2 := hc.w2
  have hh2 := hc.h2
  show Okm (M.bind (rangeM 0 (w : Int)) _) _
  refine okb ok_range fun xs e => ?_
  subst e
  rw [show ((w : Int) - 0).toNat = w by omega]
  refine okb (ok_forR (fun i (s : List Int) => s = (List.range i).map (fun e => (cntE rows e : Int))) rfl fun i s hi e => ?_) fun s e => ?_
  · subst e
    unfold f_scores_of_l1
    refine okb (P := (· = (cntE rows i : Int))) ?_ fun y e => ?_
    · rw [comp_eq (g := fun r => if r[i]? = some 35 then some r else none) (by omega) fun r hr => ?_]
      · refine okv ?_
        show ((List.filterMap _ rows).length : Int) = _
        unfold cntE
        congr 1
        clear hc hh
        induction rows with
        | nil => rfl
        | cons r rs ih =>
          rw [List.filterMap_cons, List.filter_cons]
          by_cases hq : r[i]? = some 35
          · simp [hq, ih]
          · simp [hq, ih]
      · have hrl := hc.ww r hr
        have hlt : i < r.length := by omega
        rw [show getS r (0 + (i : Int)) = .ok [r[i]] from by rw [Int.zero_add]; exact getS_nat (by simp [hlt])]
        simp only [M.bind_ok, tx_hash]
        by_cases hq : r[i] = 35
        · simp [hq, hlt]
        · simp [hq, hlt]
    · subst e
      refine okb (ok_push (by simp; omega)) fun s e => okv ?_
      subst e
      rw [List.range_succ, List.map_append]; rfl
  · subst e
    show Okm (M.bind (rangeM 0 (h : Int)) _) _
    refine okb ok_range fun xs e => ?_
    subst e
    rw [show ((h : Int) - 0).toNat = h by omega]
    refine okb (ok_forR (fun i (s : List Int) => s = (List.range w).map (fun e => (cntE rows e : Int)) ++ (rows.take i).map fun r => (r.count 46 : Int)) (by simp) fun i s hi e => ?_) fun s e => okv ?_
    · subst e
      unfold f_scores_of_l2
      have hlt : i < rows.length := by omega
      rw [show getM rows (0 + (i : Int)) = .ok rows[i] from by rw [Int.zero_add]; exact getM_nat (by simp [hlt])]
      rw [tx_dot]
      refine okb (P := (· = (rows[i].count 46 : Int))) (okv rfl) fun y e => ?_
      subst e
      refine okb (ok_push (by simp; omega)) fun s e => okv ?_
      subst e
      rw [List.take_add_one, List.getElem?_eq_getElem hlt, List.map_append, List.append_assoc]
      rfl
    · subst e
      rw [← hh, List.take_length]
section
variable {ov : Int → Int → Bool}
theorem sum_map_add {α : Type} (f g : α → Nat) : ∀ l : List α, (l.map fun x => f x + g x).sum = (l.map f).sum + (l.map g).sum
  | [] => rfl
  | a :: r => by simp only [List.map_cons, List.sum_cons, sum_map_add f g r]; omega
theorem sum_map_congr {α : Type} {f g : α → Nat} : ∀ {l : List α}, (∀ x ∈ l, f x = g x) → (l.map f).sum = (l.map g).sum
  | [], _ => rfl
  | a :: r, h => by simp only [List.map_cons, List.sum_cons]; rw [h a List.mem_cons_self, sum_map_congr fun x hx => h x (List.mem_cons_of_mem _ hx)]
theorem sum_ind1 {α : Type} (p : α → Bool) : ∀ l : List α, (l.map fun x => if p x = true then 1 else 0).sum = l.countP p
  | [] => rfl
  | a :: r => by rw [List.map_cons, List.sum_cons, List.countP_cons, sum_ind1 p r]; omega
theorem countP_not' {α : Type} (p : α → Bool) : ∀ l : List α, l.countP p + l.countP (fun x => !p x) = l.length
  | [] => rfl
  | a :: r => by
    have := countP_not' p r
    rw [List.countP_cons, List.countP_cons, List.length_cons]
    cases p a <;> simp <;> omega
/-- each crossing once -/
theorem dbl : ∀ (S T : List Int), (∀ a ∈ S, ∀ b ∈ T, ov b a = !ov a b) → (S.map fun a => T.countP (ov a)).sum + (T.map fun b => S.countP (ov b)).sum = S.length * T.length
  | [], T, _ => by
    have : ∀ l : List Int, (l.map fun _ => 0).sum = 0 := fun l => by induction l with
      | nil => rfl
      | cons a r ih => rw [List.map_cons, List.sum_cons, ih]
    simp only [List.map_nil, List.sum_nil, List.countP_nil, List.length_nil, Nat.zero_mul, Nat.zero_add]
    exact this T
  | a :: S, T, h => by
    have ih := dbl S T fun x hx => h x (List.mem_cons_of_mem _ hx)
    have e1 : (T.map fun b => (a :: S).countP (ov b)).sum = (T.map fun b => S.countP (ov b)).sum + T.countP (fun b => ov b a) := by
      rw [← sum_ind1 (fun b => ov b a) T, ← sum_map_add]
      refine sum_map_congr fun b hb => ?_
      rw [List.countP_cons]
    have e2 : T.countP (fun b => ov b a) = T.countP (fun b => !ov a b) := List.countP_congr fun b hb => by rw [h a List.mem_cons_self b hb]
    have e3 := countP_not' (ov a) T
    rw [e1, e2, List.map_cons, List.sum_cons, List.length_cons, Nat.succ_mul]
    omega
/-- at most all -/
theorem sum_le (S T : List Int) : (S.map fun a => T.countP (ov a)).sum ≤ S.length * T.length ∧ ((S.map fun a => T.countP (ov a)).sum = S.length * T.length ↔ ∀ a ∈ S, ∀ b ∈ T, ov a b = true) := by
  induction S with
  | nil => simp
  | cons a S ih =>
    have h1 : T.countP (ov a) ≤ T.length := List.countP_le_length
    rw [List.map_cons, List.sum_cons, List.length_cons, Nat.succ_mul]
    refine ⟨by omega, fun e => ?_, fun h => ?_⟩
    · have e1 : T.countP (ov a) = T.length := by omega
      have e2 := ih.2.mp (by omega)
      intro x hx b hb
      rcases List.mem_cons.mp hx with rfl | hx
      · exact List.countP_eq_length.mp e1 b hb
      · exact e2 x hx b hb
    · have e1 : T.countP (ov a) = T.length := List.countP_eq_length.mpr fun b hb => h a List.mem_cons_self b hb
      have e2 := ih.2.mpr fun x hx => h x (List.mem_cons_of_mem _ hx)
      omega
/-- a set of ends S and picks T lies over the other ends S' and picks T' -/
def ClosedL (ov : Int → Int → Bool) (S S' T T' : List Int) : Prop := (∀ a ∈ S, ∀ b ∈ T', ov a b = true) ∧ ∀ b ∈ T, ∀ a ∈ S', ov b a = true
theorem closed_iff {S S' T T' : List Int} (hx : ∀ a ∈ S ++ S', ∀ b ∈ T ++ T', ov b a = !ov a b) :
    (S.map fun a => (T ++ T').countP (ov a)).sum + (T.map fun b => (S ++ S').countP (ov b)).sum ≤ S.length * T.length + S.length * T'.length + T.length * S'.length ∧
    ((S.map fun a => (T ++ T').countP (ov a)).sum + (T.map fun b => (S ++ S').countP (ov b)).sum = S.length * T.length + S.length * T'.length + T.length * S'.length ↔ ClosedL ov S S' T T') := by
  have e1 : (S.map fun a => (T ++ T').countP (ov a)).sum = (S.map fun a => T.countP (ov a)).sum + (S.map fun a => T'.countP (ov a)).sum := by
    rw [← sum_map_add]; exact sum_map_congr fun a _ => List.countP_append
  have e2 : (T.map fun b => (S ++ S').countP (ov b)).sum = (T.map fun b => S.countP (ov b)).sum + (T.map fun b => S'.countP (ov b)).sum := by
    rw [← sum_map_add]; exact sum_map_congr fun a _ => List.countP_append
  have d := dbl S T fun a ha b hb => hx a (List.mem_append_left _ ha) b (List.mem_append_left _ hb)
  obtain ⟨l1, l2⟩ := sum_le (ov := ov) S T'
  obtain ⟨m1, m2⟩ := sum_le (ov := ov) T S'
  rw [e1, e2]
  refine ⟨by omega, fun e => ⟨l2.mp (by omega), m2.mp (by omega)⟩, fun ⟨c1, c2⟩ => ?_⟩
  have a1 := l2.mpr c1
  have a2 := m2.mpr c2
  omega
end
theorem countP_up {α : Type} (p : α → Bool) (d : α) : ∀ (l : List α) (lo : Int), (upFrom lo l.length).countP (fun b => p (l[(b - lo).toNat]?.getD d)) = l.countP p
  | [], lo => rfl
  | a :: r, lo => by
    rw [List.length_cons, upFrom, List.countP_cons, List.countP_cons, ← countP_up p d r (lo + 1)]
    congr 1
    · refine List.countP_congr fun b hb => ?_
      have := upFrom_mem.mp hb
      rw [show (b - lo).toNat = (b - (lo + 1)).toNat + 1 by omega, List.getElem?_cons_succ]
    · rw [show (lo - lo).toNat = 0 by omega]; rfl
/-- the first ones of a falling list sum to most -/
theorem top_most {f : Int → Nat} : ∀ {l : List Int} {A B : List Int}, l.Pairwise (fun p q => f q ≤ f p) → (A ++ B).Perm l → (A.map f).sum ≤ ((l.take A.length).map f).sum := by
  intro l
  induction l with
  | nil =>
    intro A B _ hp
    have : A ++ B = [] := List.perm_nil.mp hp
    rw [(List.append_eq_nil_iff.mp this).1]; simp
  | cons x l ih =>
    intro A B hs hp
    obtain ⟨h1, h2⟩ := List.pairwise_cons.mp hs
    cases A with
    | nil => simp
    | cons a A =>
      by_cases hx : x ∈ a :: A
      · have p1 : (a :: A).Perm (x :: (a :: A).erase x) := List.perm_cons_erase hx
        have p2 : ((a :: A).erase x ++ B).Perm l := by
          have : (x :: ((a :: A).erase x ++ B)).Perm (x :: l) := (List.Perm.append_right B p1).symm.trans hp
          exact (List.perm_cons x).mp this
        have := ih h2 p2
        have e1 : ((a :: A).map f).sum = f x + (((a :: A).erase x).map f).sum := by
          rw [(p1.map f).sum_nat, List.map_cons, List.sum_cons]
        have e2 : ((a :: A).erase x).length = A.length := by have := List.length_erase_of_mem hx; simpa using this
        rw [e1, List.length_cons, List.take_succ_cons, List.map_cons, List.sum_cons, ← e2]
        omega
      · have hxB : x ∈ B := by
          have : x ∈ (a :: A) ++ B := hp.mem_iff.mpr List.mem_cons_self
          rcases List.mem_append.mp this with h | h
          · exact absurd h hx
          · exact h
        have hax : f a ≤ f x := by
          have : a ∈ x :: l := hp.mem_iff.mp (by simp)
          rcases List.mem_cons.mp this with h | h
          · rw [h]; exact Nat.le_refl _
          · exact h1 a h
        have p2 : (A ++ (a :: B.erase x)).Perm l := by
          have q1 : ((a :: A) ++ B).Perm (x :: (A ++ (a :: B.erase x))) := by
            have b1 : B.Perm (x :: B.erase x) := List.perm_cons_erase hxB
            have b2 : ((a :: A) ++ B).Perm ((a :: A) ++ (x :: B.erase x)) := List.Perm.append_left _ b1
            refine b2.trans ?_
            have b3 : ((a :: A) ++ (x :: B.erase x)).Perm (x :: ((a :: A) ++ B.erase x)) := List.perm_middle
            refine b3.trans ((List.perm_cons x).mpr ?_)
            exact (List.perm_middle (l₁ := A) (a := a) (l₂ := B.erase x)).symm
          exact (List.perm_cons x).mp (q1.symm.trans hp)
        have := ih h2 p2
        rw [List.map_cons, List.sum_cons, List.length_cons, List.take_succ_cons, List.map_cons, List.sum_cons]
        omega
theorem Cloth.pos {rows : List Tx} {w h : Nat} (hc : Cloth rows w h) : 1 ≤ w ∧ w ≤ 40 ∧ 1 ≤ h ∧ h ≤ 40 ∧ rows.length = h := ⟨hc.w1, hc.w2, hc.h1, hc.h2, hc.hh⟩
/-- the counts of a cloth's strands -/
def cntL (rows : List Tx) (w : Nat) : List Int := (List.range w).map (fun e => (cntE rows e : Int)) ++ rows.map fun r => (r.count 46 : Int)
/-- over how many strands a strand lies -/
def scN (rows : List Tx) (w h : Nat) (a : Int) : Nat := if a < w then (upFrom w h).countP (ovB rows w a) else (upFrom 0 w).countP (ovB rows w a)
theorem cntL_len {rows : List Tx} {w h : Nat} (hc : Cloth rows w h) : (cntL rows w).length = w + h := by unfold cntL; have := hc.hh; simp; omega
theorem cntL_at {rows : List Tx} {w h : Nat} (hc : Cloth rows w h) {a : Int} (a0 : 0 ≤ a) (a1 : a < (w : Int) + h) : (cntL rows w)[a.toNat]? = some (scN rows w h a : Int) := by
  have hh := hc.hh
  unfold cntL scN
  by_cases c : a < w
  · rw [if_pos c, List.getElem?_append_left (by simp; omega), List.getElem?_map, List.getElem?_range (by omega)]
    show some ((cntE rows a.toNat : Nat) : Int) = _
    refine congrArg (fun n : Nat => some (n : Int)) ?_
    unfold cntE
    rw [← List.countP_eq_length_filter, ← countP_up (fun r : Tx => decide (r[a.toNat]? = some 35)) [] rows w, hh]
    refine List.countP_congr fun b hb => ?_
    have hb := upFrom_mem.mp hb
    unfold ovB
    rw [if_pos (by omega)]
    have hs := sgn_or hc (j := b - w) (k := a) (by omega) (by omega) a0 c
    unfold sgn at hs ⊢
    cases q : (rows[(b - (w : Int)).toNat]?.getD [])[a.toNat]? with
    | none => rw [q] at hs; simp at hs
    | some c' => rw [decide_eq_true_eq]; simp
  · rw [if_neg c, List.getElem?_append_right (by simp; omega), List.getElem?_map]
    have hlt : a.toNat - ((List.range w).map fun e => (cntE rows e : Int)).length < rows.length := by simp; omega
    rw [List.getElem?_eq_getElem hlt]
    show some ((List.count 46 (rows[a.toNat - ((List.range w).map fun e => (cntE rows e : Int)).length]'hlt) : Nat) : Int) = _
    refine congrArg (fun n : Nat => some (n : Int)) ?_
    have hw := hc.ww _ (List.getElem_mem hlt)
    rw [List.count_eq_countP, ← countP_up (fun c : Nat => c == 46) 0 _ 0, hw]
    refine List.countP_congr fun b hb => ?_
    have hb := upFrom_mem.mp hb
    unfold ovB
    rw [if_neg (by omega), if_pos (by omega)]
    unfold sgn
    rw [show (a - (w : Int)).toNat = a.toNat - ((List.range w).map fun e => (cntE rows e : Int)).length by simp, List.getElem?_eq_getElem hlt]
    show _ ↔ (((rows[a.toNat - ((List.range w).map fun e => (cntE rows e : Int)).length])[b.toNat]?).getD 0 == 46) = true
    rw [Int.sub_zero]
theorem sortKey_perm (cs : List Int) (lo hi : Int) : (sortKey cs lo hi).Perm (upFrom lo (hi - lo).toNat) := List.mergeSort_perm _ _
theorem sortKey_sorted (cs : List Int) (lo hi : Int) : (sortKey cs lo hi).Pairwise (fun p q => keyC cs p < keyC cs q ∨ (keyC cs p = keyC cs q ∧ p ≤ q)) := by
  refine (List.pairwise_mergeSort (le := fun p q => decide (keyC cs p < keyC cs q ∨ (keyC cs p = keyC cs q ∧ p ≤ q))) (fun a b c h1 h2 => ?_) (fun a b => ?_) _).imp fun {a b} h => by simpa using h
  · simp only [decide_eq_true_eq] at *; omega
  · simp only [Bool.or_eq_true, decide_eq_true_eq]; omega
/-- the ends, the picks, those that lie over more come first -/
def eL (rows : List Tx) (w : Nat) : List Int := sortKey (cntL rows w) 0 w
def pL (rows : List Tx) (w h : Nat) : List Int := sortKey (cntL rows w) w (w + h)
section
variable {rows : List Tx} {w h : Nat}
theorem eL_perm : (eL rows w).Perm (upFrom 0 w) := by have := sortKey_perm (cntL rows w) 0 w; rwa [show ((w : Int) - 0).toNat = w by omega] at this
theorem pL_perm : (pL rows w h).Perm (upFrom w h) := by have := sortKey_perm (cntL rows w) w (w + h); rwa [show ((w : Int) + h - w).toNat = h by omega] at this
theorem eL_len : (eL rows w).length = w := by rw [eL_perm.length_eq, upFrom_len]
theorem pL_len : (pL rows w h).length = h := by rw [pL_perm.length_eq, upFrom_len]
theorem eL_mem {a : Int} : a ∈ eL rows w ↔ 0 ≤ a ∧ a < w := by rw [eL_perm.mem_iff, upFrom_mem]; omega
theorem pL_mem {a : Int} : a ∈ pL rows w h ↔ (w : Int) ≤ a ∧ a < (w : Int) + h := by rw [pL_perm.mem_iff, upFrom_mem]
theorem keyC_at (hc : Cloth rows w h) {a : Int} (a0 : 0 ≤ a) (a1 : a < (w : Int) + h) : keyC (cntL rows w) a = -(scN rows w h a : Int) := by
  unfold keyC; rw [cntL_at hc a0 a1]; rfl
theorem eL_fall (hc : Cloth rows w h) : (eL rows w).Pairwise (fun p q => scN rows w h q ≤ scN rows w h p ∧ (scN rows w h p = scN rows w h q → p ≤ q)) := by
  have := hc.pos
  refine (List.Pairwise.and_mem.mp (sortKey_sorted (cntL rows w) 0 w)).imp fun {p q} ⟨hp, hq, h'⟩ => ?_
  have h1 := eL_mem.mp hp
  have h2 := eL_mem.mp hq
  rw [keyC_at hc h1.1 (by omega), keyC_at hc h2.1 (by omega)] at h'
  omega
theorem pL_fall (hc : Cloth rows w h) : (pL rows w h).Pairwise (fun p q => scN rows w h q ≤ scN rows w h p ∧ (scN rows w h p = scN rows w h q → p ≤ q)) := by
  have := hc.pos
  refine (List.Pairwise.and_mem.mp (sortKey_sorted (cntL rows w) w (w + h))).imp fun {p q} ⟨hp, hq, h'⟩ => ?_
  have h1 := pL_mem.mp hp
  have h2 := pL_mem.mp hq
  rw [keyC_at hc (by omega) h1.2, keyC_at hc (by omega) h2.2] at h'
  omega
theorem cross (hc : Cloth rows w h) : ∀ a ∈ eL rows w, ∀ b ∈ pL rows w h, ovB rows w b a = !ovB rows w a b := fun a ha b hb => by
  have h1 := eL_mem.mp ha
  have h2 := pL_mem.mp hb
  exact ovB_not hc h1.1 h1.2 h2.1 h2.2
theorem scN_end {a : Int} (ha : a ∈ eL rows w) : scN rows w h a = (pL rows w h).countP (ovB rows w a) := by
  unfold scN
  rw [if_pos (eL_mem.mp ha).2, pL_perm.countP_eq]
theorem scN_pick {b : Int} (hb : b ∈ pL rows w h) : scN rows w h b = (eL rows w).countP (ovB rows w b) := by
  unfold scN
  rw [if_neg (by have := (pL_mem.mp hb).1; omega), eL_perm.countP_eq]
/-- the first s ends and the first t picks lie over all others -/
def Top (rows : List Tx) (w h : Nat) (s t : Nat) : Prop := ClosedL (ovB rows w) ((eL rows w).take s) ((eL rows w).drop s) ((pL rows w h).take t) ((pL rows w h).drop t)
/-- sets of ends and picks, by the sum of their counts -/
theorem set_iff (hc : Cloth rows w h) {S S' T T' : List Int} (he : (S ++ S').Perm (eL rows w)) (hp : (T ++ T').Perm (pL rows w h)) :
    (S.map (scN rows w h)).sum + (T.map (scN rows w h)).sum + S.length * T.length ≤ S.length * h + T.length * w ∧
    ((S.map (scN rows w h)).sum + (T.map (scN rows w h)).sum + S.length * T.length = S.length * h + T.length * w ↔ ClosedL (ovB rows w) S S' T T') := by
  have le := he.length_eq
  have lp := hp.length_eq
  rw [List.length_append, eL_len] at le
  rw [List.length_append, pL_len] at lp
  obtain ⟨k1, k2⟩ := closed_iff (ov := ovB rows w) (S := S) (S' := S') (T := T) (T' := T') fun a ha b hb => cross hc a (he.mem_iff.mp ha) b (hp.mem_iff.mp hb)
  have e1 : (S.map (scN rows w h)).sum = (S.map fun a => (T ++ T').countP (ovB rows w a)).sum := sum_map_congr fun a ha => by rw [scN_end (he.mem_iff.mp (List.mem_append_left _ ha)), hp.countP_eq]
  have e2 : (T.map (scN rows w h)).sum = (T.map fun b => (S ++ S').countP (ovB rows w b)).sum := sum_map_congr fun b hb => by rw [scN_pick (hp.mem_iff.mp (List.mem_append_left _ hb)), he.countP_eq]
  rw [e1, e2]
  have m1 : S.length * h = S.length * T.length + S.length * T'.length := by rw [← lp, Nat.mul_add]
  have m2 : T.length * w = S.length * T.length + T.length * S'.length := by rw [← le, Nat.mul_add, Nat.mul_comm T.length S.length]
  rw [m1, m2]
  refine ⟨by omega, ?_⟩
  rw [← k2]
  omega
theorem top_iff (hc : Cloth rows w h) {s t : Nat} (hs : s ≤ w) (ht : t ≤ h) : (((eL rows w).take s).map (scN rows w h)).sum + (((pL rows w h).take t).map (scN rows w h)).sum + s * t = s * h + t * w ↔ Top rows w h s t := by
  have k := (set_iff hc (S := (eL rows w).take s) (S' := (eL rows w).drop s) (T := (pL rows w h).take t) (T' := (pL rows w h).drop t) (by rw [List.take_append_drop]) (by rw [List.take_append_drop])).2
  rw [List.length_take, List.length_take, eL_len, pL_len, Nat.min_eq_left hs, Nat.min_eq_left ht] at k
  exact k
/-- any set that lies over all others has the size of a top -/
theorem top_of_set (hc : Cloth rows w h) {S S' T T' : List Int} (he : (S ++ S').Perm (eL rows w)) (hp : (T ++ T').Perm (pL rows w h)) (hcl : ClosedL (ovB rows w) S S' T T') : Top rows w h S.length T.length := by
  have le := he.length_eq
  have lp := hp.length_eq
  rw [List.length_append, eL_len] at le
  rw [List.length_append, pL_len] at lp
  have k1 := (set_iff hc he hp).2.mpr hcl
  have k2 := (set_iff hc (S := (eL rows w).take S.length) (S' := (eL rows w).drop S.length) (T := (pL rows w h).take T.length) (T' := (pL rows w h).drop T.length) (by rw [List.take_append_drop]) (by rw [List.take_append_drop])).1
  rw [List.length_take, List.length_take, eL_len, pL_len, Nat.min_eq_left (by omega), Nat.min_eq_left (by omega)] at k2
  have g1 := top_most (f := scN rows w h) ((eL_fall hc).imp fun h => h.1) he
  have g2 := top_most (f := scN rows w h) ((pL_fall hc).imp fun h => h.1) hp
  exact (top_iff hc (by omega) (by omega)).mp (by omega)
theorem top_zero : Top rows w h 0 0 := ⟨fun a ha => by simp at ha, fun b hb => by simp at hb⟩
theorem top_all : Top rows w h w h := ⟨fun a _ b hb => by rw [List.drop_of_length_le (by rw [pL_len]; exact Nat.le_refl _)] at hb; simp at hb, fun b _ a ha => by rw [List.drop_of_length_le (by rw [eL_len]; exact Nat.le_refl _)] at ha; simp at ha⟩
theorem eL_at {s : Nat} (hs : s < w) : ∃ a, (eL rows w)[s]? = some a := ⟨(eL rows w)[s]'(by rw [eL_len]; exact hs), List.getElem?_eq_getElem _⟩
theorem pL_at {t : Nat} (ht : t < h) : ∃ b, (pL rows w h)[t]? = some b := ⟨(pL rows w h)[t]'(by rw [pL_len]; exact ht), List.getElem?_eq_getElem _⟩
theorem mem_take_of {α : Type} {l : List α} {i n : Nat} {x : α} (h : l[i]? = some x) (hi : i < n) : x ∈ l.take n := List.mem_iff_getElem?.mpr ⟨i, by rw [List.getElem?_take_of_lt hi]; exact h⟩
theorem mem_drop_of {α : Type} {l : List α} {i n : Nat} {x : α} (h : l[i]? = some x) (hi : n ≤ i) : x ∈ l.drop n := List.mem_iff_getElem?.mpr ⟨i - n, by rw [List.getElem?_drop, show n + (i - n) = i by omega]; exact h⟩
theorem of_mem_take {α : Type} {l : List α} {n : Nat} {x : α} (h : x ∈ l.take n) : ∃ i, i < n ∧ l[i]? = some x := by
  obtain ⟨i, hi⟩ := List.mem_iff_getElem?.mp h
  by_cases q : i < n
  · rw [List.getElem?_take_of_lt q] at hi; exact ⟨i, q, hi⟩
  · rw [List.getElem?_take_eq_none (by omega)] at hi; cases hi
/-- two tops: one is in the other -/
theorem top_chain (hc : Cloth rows w h) {s t s' t' : Nat} (h1 : Top rows w h s t) (h2 : Top rows w h s' t') (hs : s < s') (hs' : s' ≤ w) (ht : t ≤ h) : t ≤ t' := by
  refine Nat.le_of_not_lt fun q => ?_
  obtain ⟨a, ha⟩ := eL_at (rows := rows) (w := w) (s := s) (by omega)
  obtain ⟨b, hb⟩ := pL_at (rows := rows) (w := w) (h := h) (t := t') (by omega)
  have g1 := h1.2 b (mem_take_of hb q) a (mem_drop_of ha (Nat.le_refl _))
  have g2 := h2.1 a (mem_take_of ha hs) b (mem_drop_of hb (Nat.le_refl _))
  rw [cross hc a (List.mem_of_getElem? ha) b (List.mem_of_getElem? hb), g2] at g1
  cases g1
end
def preI (l : List Int) : List Int := (List.range (l.length + 1)).map fun i => (l.take i).sum
theorem preI_len {l : List Int} : (preI l).length = l.length + 1 := by unfold preI; simp
theorem preI_snoc (l : List Int) (x : Int) : preI (l ++ [x]) = preI l ++ [l.sum + x] := by
  unfold preI
  rw [List.length_append, List.length_singleton, List.range_succ, List.map_append]
  congr 1
  · refine List.map_congr_left fun i hi => ?_
    rw [List.mem_range] at hi
    rw [List.take_append_of_le_length (by omega)]
  · rw [List.map_singleton, List.take_of_length_le (by simp), List.sum_append]; simp
theorem preI_last (l : List Int) : (preI l).getLast? = some l.sum := by
  unfold preI
  rw [List.range_succ, List.map_append, List.map_singleton, List.getLast?_concat, List.take_length]
theorem preI_at (l : List Int) {i : Nat} (h : i ≤ l.length) : (preI l)[i]? = some (l.take i).sum := by
  unfold preI
  rw [List.getElem?_map, List.getElem?_range (by omega)]; rfl
theorem runs_ok {cs line : List Int} (hl : line.length < 100000) (h : ∀ a ∈ line, 0 ≤ a ∧ a < cs.length) : f_running_sums cs line = .ok (preI (line.map fun a => cs[a.toNat]?.getD 0)) := by
  refine oke ?_
  unfold f_running_sums
  show Okm (M.bind (forM (f_running_sums_l1 cs) [0] line) _) _
  refine okb (ok_for (fun i (s : List Int) => s = preI ((line.take i).map fun a => cs[a.toNat]?.getD 0)) (by simp; rfl) fun i a s ha e => ?_) fun s e => okv (by rw [e, List.take_length])
  subst e
  have hlt := (List.getElem?_eq_some_iff.mp ha).1
  obtain ⟨h0, h1⟩ := h a (List.mem_of_getElem? ha)
  unfold f_running_sums_l1
  rw [getM_last (preI_last _)]
  refine okb (P := (· = ((line.take i).map fun a => cs[a.toNat]?.getD 0).sum + cs[a.toNat]?.getD 0)) ?_ fun y e => ?_
  · rw [M.bind_ok]
    refine okb (ok_get h0 h1) fun v hv => okv ?_
    rw [hv]; rfl
  · subst e
    refine okb (ok_push (by rw [preI_len, List.length_map, List.length_take]; omega)) fun s e => okv ?_
    rw [e, List.take_succ, ha, List.map_append, ← preI_snoc]
    rfl
/-- the condition that is asked -/
def TopC (rows : List Tx) (w h s t : Nat) : Prop := (((eL rows w).take s).map (scN rows w h)).sum + (((pL rows w h).take t).map (scN rows w h)).sum + s * t = s * h + t * w
instance {rows : List Tx} {w h s t : Nat} : Decidable (TopC rows w h s t) := by unfold TopC; infer_instance
abbrev P2 := Int × Int × Unit
def p2 (s t : Nat) : P2 := ((s : Int), (t : Int), ())
/-- a row of the tops -/
def tlRow (rows : List Tx) (w h : Nat) (s n : Nat) : List P2 := ((List.range n).filter fun t => decide (TopC rows w h s t)).map (p2 s)
/-- the tops -/
def tl (rows : List Tx) (w h : Nat) (m : Nat) : List P2 := (List.range m).flatMap fun s => tlRow rows w h s (h + 1)
def PE (rows : List Tx) (w h : Nat) : List Int := preI ((eL rows w).map fun a => (scN rows w h a : Int))
def PP (rows : List Tx) (w h : Nat) : List Int := preI ((pL rows w h).map fun a => (scN rows w h a : Int))
theorem sum_cast (f : Int → Nat) : ∀ l : List Int, (l.map fun a => (f a : Int)).sum = ((l.map f).sum : Nat)
  | [] => rfl
  | a :: r => by rw [List.map_cons, List.sum_cons, sum_cast f r, List.map_cons, List.sum_cons]; omega
section
variable {rows : List Tx} {w h : Nat}
theorem tlRow_len {s n : Nat} : (tlRow rows w h s n).length ≤ n := by
  unfold tlRow
  rw [List.length_map]
  exact Nat.le_trans (List.length_filter_le _ _) (by rw [List.length_range]; exact Nat.le_refl _)
theorem tl_succ {m : Nat} : tl rows w h (m + 1) = tl rows w h m ++ tlRow rows w h m (h + 1) := by
  unfold tl; rw [List.range_succ, List.flatMap_append]; simp
theorem tl_len : ∀ {m : Nat}, (tl rows w h m).length ≤ m * (h + 1)
  | 0 => by simp [tl]
  | m + 1 => by rw [tl_succ, List.length_append, Nat.succ_mul]; have := tl_len (m := m); have := tlRow_len (rows := rows) (w := w) (h := h) (s := m) (n := h + 1); omega
theorem tlRow_succ {s n : Nat} : tlRow rows w h s (n + 1) = tlRow rows w h s n ++ if TopC rows w h s n then [p2 s n] else [] := by
  unfold tlRow
  rw [List.range_succ, List.filter_append, List.map_append]
  congr 1
  by_cases c : TopC rows w h s n <;> simp [c]
theorem PE_at {s : Nat} (hs : s ≤ w) : getM (PE rows w h) (s : Int) = .ok ((((eL rows w).take s).map (scN rows w h)).sum : Nat) := by
  refine getM_nat ?_
  unfold PE
  rw [preI_at _ (by rw [List.length_map, eL_len]; exact hs), ← List.map_take, sum_cast]
theorem PP_at {t : Nat} (ht : t ≤ h) : getM (PP rows w h) (t : Int) = .ok ((((pL rows w h).take t).map (scN rows w h)).sum : Nat) := by
  refine getM_nat ?_
  unfold PP
  rw [preI_at _ (by rw [List.length_map, pL_len]; exact ht), ← List.map_take, sum_cast]
theorem topC_int {s t : Nat} : TopC rows w h s t ↔ ((((eL rows w).take s).map (scN rows w h)).sum : Nat) + ((((pL rows w h).take t).map (scN rows w h)).sum : Nat) = (s : Int) * (h : Int) + (t : Int) * (w : Int) - (s : Int) * (t : Int) := by
  unfold TopC
  constructor
  · intro e
    have : ((((((eL rows w).take s).map (scN rows w h)).sum + (((pL rows w h).take t).map (scN rows w h)).sum + s * t : Nat)) : Int) = ((s * h + t * w : Nat) : Int) := by rw [e]
    push_cast at this
    omega
  · intro e
    have : ((((((eL rows w).take s).map (scN rows w h)).sum + (((pL rows w h).take t).map (scN rows w h)).sum + s * t : Nat)) : Int) = ((s * h + t * w : Nat) : Int) := by
      push_cast
      omega
    exact Int.ofNat.inj this
/-- two nested loops that gather the tops -/
theorem tops_loop {f2 : List P2 → Int → M (List P2)} {f1 : Int → List P2 → Int → M (List P2)} (hw : w ≤ 40) (hh : h ≤ 40)
    (e2 : ∀ s k, f2 s k = M.bind (rangeM 0 ((h : Int) + 1)) fun xs => M.bind (forM (f1 k) s xs) fun s => M.ok s)
    (e1 : ∀ (s t : Nat), s ≤ w → t ≤ h → ∀ acc : List P2, acc.length < 10000 → f1 (s : Int) acc (t : Int) = .ok (if TopC rows w h s t then acc ++ [p2 s t] else acc)) :
    forM f2 [] (upFrom 0 (w + 1)) = .ok (tl rows w h (w + 1)) := by
  refine oke (ok_forR (fun i (s : List P2) => s = tl rows w h i) rfl fun i s hi e => ?_)
  subst e
  rw [e2]
  refine okb (ok_range) fun xs e => ?_
  subst e
  rw [show ((h : Int) + 1 - 0).toNat = h + 1 by omega]
  refine okb (ok_forR (fun j (s : List P2) => s = tl rows w h i ++ tlRow rows w h i j) (by simp [tlRow]) fun j s hj e => ?_) fun s e => okv (by rw [e, ← tl_succ])
  subst e
  rw [Int.zero_add, Int.zero_add, e1 i j (by omega) (by omega) _ ?_]
  · refine okv ?_
    rw [tlRow_succ]
    by_cases c : TopC rows w h i j <;> simp [c]
  · rw [List.length_append]
    have h1 := tl_len (rows := rows) (w := w) (h := h) (m := i)
    have h2 := tlRow_len (rows := rows) (w := w) (h := h) (s := i) (n := j)
    have h3 : i * (h + 1) ≤ 40 * (40 + 1) := Nat.mul_le_mul (by omega) (by omega)
    omega
theorem natAbs_lt {n : Nat} (h : n ≤ 40) : ((n : Int)).natAbs < 2 ^ 64 := by
  have : n < 2 ^ 64 := by omega
  simpa using this
theorem tops_ok (hc : Cloth rows w h) : f_tops_of rows = .ok (tl rows w h (w + 1)) := by
  have hw2 := hc.w2
  have hh2 := hc.h2
  have hcl := cntL_len hc
  unfold f_tops_of
  rw [measured_ok hc, M.bind_ok, show f_scores_of rows = .ok (cntL rows w) from scores_ok hc, M.bind_ok]
  show (M.bind (M.bind (sortKeyM (cntL rows w) 0 (w : Int)) _) _) = _
  have s1 : sortKeyM (cntL rows w) 0 (w : Int) = .ok (eL rows w) := if_pos ⟨by omega, by omega, by omega, by omega, by omega⟩
  have s2 : sortKeyM (cntL rows w) (w : Int) ((w : Int) + (h : Int)) = .ok (pL rows w h) := if_pos ⟨by omega, by omega, by omega, by omega, by omega⟩
  rw [s1, M.bind_ok, runs_ok (by rw [eL_len]; omega) fun a ha => by have := eL_mem.mp ha; omega, M.bind_ok]
  show (M.bind (M.bind (sortKeyM (cntL rows w) (w : Int) ((w : Int) + (h : Int))) _) _) = _
  rw [s2, M.bind_ok, runs_ok (by rw [pL_len]; omega) fun a ha => by have := pL_mem.mp ha; omega, M.bind_ok]
  have p1 : (eL rows w).map (fun a => (cntL rows w)[a.toNat]?.getD 0) = (eL rows w).map fun a => (scN rows w h a : Int) := List.map_congr_left fun a ha => by
    have := eL_mem.mp ha
    rw [cntL_at hc this.1 (by omega)]; rfl
  have p2' : (pL rows w h).map (fun a => (cntL rows w)[a.toNat]?.getD 0) = (pL rows w h).map fun a => (scN rows w h a : Int) := List.map_congr_left fun a ha => by
    have := pL_mem.mp ha
    rw [cntL_at hc (by omega) this.2]; rfl
  rw [p1, p2']
  show M.bind (rangeM 0 ((w : Int) + 1)) _ = _
  rw [range_eq, M.bind_ok, show ((w : Int) + 1 - 0).toNat = w + 1 by omega]
  show M.bind (forM (f_tops_of_l2 ((w : Int), (h : Int), ()) (PE rows w h) (PP rows w h)) [] _) _ = _
  rw [tops_loop (f2 := f_tops_of_l2 ((w : Int), (h : Int), ()) (PE rows w h) (PP rows w h)) (f1 := f_tops_of_l1 ((w : Int), (h : Int), ()) (PE rows w h) (PP rows w h)) hw2 hh2 (fun s k => rfl) fun s t hs ht acc ha => ?_]
  · rfl
  · refine oke ?_
    unfold f_tops_of_l1
    refine okb (P := (· = decide (TopC rows w h s t))) ?_ fun c e => ?_
    · rw [PE_at hs, PP_at ht]
      refine okb (P := (· = (((((eL rows w).take s).map (scN rows w h)).sum : Nat) : Int) + ((((pL rows w h).take t).map (scN rows w h)).sum : Nat))) (okv rfl) fun y e => ?_
      subst e
      refine okb (P := (· = (s : Int) * (h : Int) + (t : Int) * (w : Int) - (s : Int) * (t : Int))) ?_ fun y e => okv ?_
      · refine okb (okb (ok_mul 64 64 (natAbs_lt (by omega)) (natAbs_lt (by omega))) fun a e1 => okb (P := (· = (t : Int) * (w : Int))) (ok_mul 64 64 (natAbs_lt (by omega)) (natAbs_lt (by omega))) fun b e2 => okv (P := (· = (s : Int) * (h : Int) + (t : Int) * (w : Int))) ?_) fun y e => okb (ok_mul 64 64 (natAbs_lt (by omega)) (natAbs_lt (by omega))) fun b e2 => okv ?_
        · rw [e1, e2]
        · rw [e, e2]
      · subst e
        rw [decide_eq_decide]
        exact topC_int.symm
    · subst e
      by_cases c : TopC rows w h s t
      · simp only [c, decide_true, if_true]
        refine okb (ok_push (by omega)) fun s e => okv ?_
        rw [e]; rfl
      · simp only [c, decide_false, Bool.false_eq_true, if_false]
        exact okv rfl
def Lex (p q : P2) : Prop := p.1 < q.1 ∨ (p.1 = q.1 ∧ p.2.1 < q.2.1)
theorem mem_tl (hc : Cloth rows w h) {x : P2} : x ∈ tl rows w h (w + 1) ↔ ∃ s t, s ≤ w ∧ t ≤ h ∧ x = p2 s t ∧ Top rows w h s t := by
  unfold tl tlRow
  simp only [List.mem_flatMap, List.mem_range, List.mem_map, List.mem_filter, decide_eq_true_eq]
  constructor
  · rintro ⟨s, hs, t, ⟨ht, hT⟩, rfl⟩
    exact ⟨s, t, by omega, by omega, rfl, (top_iff hc (by omega) (by omega)).mp hT⟩
  · rintro ⟨s, t, hs, ht, rfl, hT⟩
    exact ⟨s, by omega, t, ⟨by omega, (top_iff hc hs ht).mpr hT⟩, rfl⟩
theorem tl_sorted : ∀ m, (tl rows w h m).Pairwise Lex ∧ ∀ x ∈ tl rows w h m, x.1 < (m : Int)
  | 0 => ⟨by simp [tl], by simp [tl]⟩
  | m + 1 => by
    obtain ⟨i1, i2⟩ := tl_sorted m
    have r1 : ∀ n, (tlRow rows w h m n).Pairwise Lex ∧ ∀ x ∈ tlRow rows w h m n, x.1 = (m : Int) ∧ x.2.1 < (n : Int) := fun n => by
      induction n with
      | zero => exact ⟨by simp [tlRow], by simp [tlRow]⟩
      | succ n ih =>
        rw [tlRow_succ]
        by_cases c : TopC rows w h m n
        · rw [if_pos c]
          refine ⟨List.pairwise_append.mpr ⟨ih.1, List.pairwise_singleton _ _, fun a ha b hb => ?_⟩, fun x hx => ?_⟩
          · rw [List.mem_singleton.mp hb]
            have := ih.2 a ha
            exact .inr ⟨this.1, this.2⟩
          · rcases List.mem_append.mp hx with hx | hx
            · have := ih.2 x hx; exact ⟨this.1, by omega⟩
            · rw [List.mem_singleton.mp hx]; exact ⟨rfl, by show (n : Int) < ((n + 1 : Nat) : Int); omega⟩
        · rw [if_neg c, List.append_nil]
          exact ⟨ih.1, fun x hx => by have := ih.2 x hx; exact ⟨this.1, by omega⟩⟩
    rw [tl_succ]
    refine ⟨List.pairwise_append.mpr ⟨i1, (r1 _).1, fun a ha b hb => .inl ?_⟩, fun x hx => ?_⟩
    · have := i2 a ha
      have := ((r1 _).2 b hb).1
      omega
    · rcases List.mem_append.mp hx with hx | hx
      · have := i2 x hx; omega
      · have := ((r1 _).2 x hx).1; omega
theorem tl_lt {i j : Nat} {p q : P2} (hij : i < j) (hp : (tl rows w h (w + 1))[i]? = some p) (hq : (tl rows w h (w + 1))[j]? = some q) : Lex p q := by
  obtain ⟨l1, rfl⟩ := List.getElem?_eq_some_iff.mp hp
  obtain ⟨l2, rfl⟩ := List.getElem?_eq_some_iff.mp hq
  exact List.pairwise_iff_getElem.mp (tl_sorted (w + 1)).1 i j l1 l2 hij
/-- the first top, the last top -/
theorem tl_first (hc : Cloth rows w h) : (tl rows w h (w + 1))[0]? = some (p2 0 0) := by
  have hm : p2 0 0 ∈ tl rows w h (w + 1) := (mem_tl hc).mpr ⟨0, 0, Nat.zero_le _, Nat.zero_le _, rfl, top_zero⟩
  obtain ⟨i, hi⟩ := List.mem_iff_getElem?.mp hm
  by_cases c : i = 0
  · rw [c] at hi; exact hi
  · have hl := (List.getElem?_eq_some_iff.mp hi).1
    have h0 : (tl rows w h (w + 1))[0]? = some (tl rows w h (w + 1))[0] := List.getElem?_eq_getElem (by omega)
    have lx := tl_lt (by omega) h0 hi
    obtain ⟨s, t, hs, ht, e, _⟩ := (mem_tl hc).mp (List.mem_of_getElem? h0)
    rw [e] at lx
    unfold Lex p2 at lx
    simp only at lx
    omega
theorem tl_last (hc : Cloth rows w h) : (tl rows w h (w + 1)).getLast? = some (p2 w h) := by
  have hm : p2 w h ∈ tl rows w h (w + 1) := (mem_tl hc).mpr ⟨w, h, Nat.le_refl _, Nat.le_refl _, rfl, top_all⟩
  obtain ⟨i, hi⟩ := List.mem_iff_getElem?.mp hm
  have hl := (List.getElem?_eq_some_iff.mp hi).1
  rw [List.getLast?_eq_getElem?]
  by_cases c : i = (tl rows w h (w + 1)).length - 1
  · rw [← c]; exact hi
  · have h0 : (tl rows w h (w + 1))[(tl rows w h (w + 1)).length - 1]? = some (tl rows w h (w + 1))[(tl rows w h (w + 1)).length - 1] := List.getElem?_eq_getElem (by omega)
    have lx := tl_lt (by omega) hi h0
    obtain ⟨s, t, hs, ht, e, _⟩ := (mem_tl hc).mp (List.mem_of_getElem? h0)
    rw [e] at lx
    unfold Lex p2 at lx
    simp only at lx
    omega
theorem tl_two (hc : Cloth rows w h) : 2 ≤ (tl rows w h (w + 1)).length := by
  have hw := hc.w1
  have h1 := tl_first hc
  have h2 := tl_last hc
  have hl := (List.getElem?_eq_some_iff.mp h1).1
  rw [List.getLast?_eq_getElem?] at h2
  by_cases c : (tl rows w h (w + 1)).length = 1
  · rw [c] at h2
    rw [h1] at h2
    have := congrArg (fun o => o.map fun x : P2 => x.1) h2
    simp [p2] at this
    omega
  · omega
/-- two tops that follow each other -/
theorem tl_next (hc : Cloth rows w h) {k : Nat} {p q : P2} (hp : (tl rows w h (w + 1))[k]? = some p) (hq : (tl rows w h (w + 1))[k + 1]? = some q) :
    ∃ s t s' t', p = p2 s t ∧ q = p2 s' t' ∧ s ≤ s' ∧ t ≤ t' ∧ s' ≤ w ∧ t' ≤ h ∧ Top rows w h s t ∧ Top rows w h s' t' ∧ ¬ (s' = s ∧ t' = t) ∧
      (∀ x y, s ≤ x → x ≤ s' → t ≤ y → y ≤ t' → Top rows w h x y → (x = s ∧ y = t) ∨ (x = s' ∧ y = t')) := by
  obtain ⟨s, t, hs, ht, rfl, hT⟩ := (mem_tl hc).mp (List.mem_of_getElem? hp)
  obtain ⟨s', t', hs', ht', rfl, hT'⟩ := (mem_tl hc).mp (List.mem_of_getElem? hq)
  have lx := tl_lt (Nat.lt_succ_self k) hp hq
  unfold Lex p2 at lx
  simp only at lx
  have hle : s ≤ s' := by omega
  have hlt : t ≤ t' := by
    by_cases c : s < s'
    · exact top_chain hc hT hT' c hs' ht
    · omega
  refine ⟨s, t, s', t', rfl, rfl, hle, hlt, hs', ht', hT, hT', by omega, fun x y x0 x1 y0 y1 hxy => ?_⟩
  obtain ⟨m, hm⟩ := List.mem_iff_getElem?.mp ((mem_tl hc).mpr ⟨x, y, by omega, by omega, rfl, hxy⟩)
  by_cases c1 : m < k
  · have := tl_lt c1 hm hp
    unfold Lex p2 at this
    simp only at this
    omega
  · by_cases c2 : k + 1 < m
    · have := tl_lt c2 hq hm
      unfold Lex p2 at this
      simp only at this
      omega
    · by_cases c3 : m = k
      · rw [c3, hp] at hm
        have := Option.some.inj hm
        unfold p2 at this
        simp only [Prod.mk.injEq] at this
        left; omega
      · rw [show m = k + 1 by omega, hq] at hm
        have := Option.some.inj hm
        unfold p2 at this
        simp only [Prod.mk.injEq] at this
        right; omega
end
/-- loops that ask all -/
theorem forF_chk {α ρ : Type} {f : Unit → α → M (Fl Unit ρ)} {b : α → Bool} {r : ρ} : ∀ {xs : List α}, (∀ x ∈ xs, f () x = .ok (if b x = true then Fl.nx () else Fl.rt r)) → forF f () xs = .ok (if xs.all b = true then Fl.nx () else Fl.rt r)
  | [], _ => rfl
  | x :: xs, h => by
    show (f () x).bind (Fl.el (fun s => forF f s xs) fun q => .ok (.rt q)) = _
    rw [h x List.mem_cons_self]
    cases hb : b x with
    | true =>
      show forF f () xs = _
      rw [forF_chk fun y hy => h y (List.mem_cons_of_mem _ hy), List.all_cons, hb]; rfl
    | false =>
      rw [List.all_cons, hb]; rfl
theorem sortI_perm (l : List Int) : (sortI l).Perm l := List.mergeSort_perm _ _
theorem sortI_sorted (l : List Int) : (sortI l).Pairwise (· ≤ ·) := by
  refine (List.pairwise_mergeSort (le := fun a b => decide (a ≤ b)) (fun a b c h1 h2 => ?_) (fun a b => ?_) l).imp fun h => by simpa using h
  · simp only [decide_eq_true_eq] at *; omega
  · simp only [Bool.or_eq_true, decide_eq_true_eq]; omega
theorem sortI_strict {l : List Int} (h : l.Nodup) : (sortI l).Pairwise (· < ·) := by
  have h1 := sortI_sorted l
  have h2 : (sortI l).Nodup := (sortI_perm l).nodup_iff.mpr h
  exact (List.Pairwise.and h1 h2).imp fun {a b} ⟨x, y⟩ => by omega
theorem upFrom_nodup {lo : Int} {n : Nat} : (upFrom lo n).Nodup := by
  induction n generalizing lo with
  | zero => exact List.nodup_nil
  | succ n ih =>
    rw [upFrom]
    refine List.nodup_cons.mpr ⟨fun h => ?_, ih⟩
    have := upFrom_mem.mp h
    omega
structure Part (n : Nat) (LY : List (List Int)) : Prop where
  perm : LY.flatten.Perm (upFrom 0 n)
  ne : ∀ l ∈ LY, l ≠ []
  up : ∀ l ∈ LY, l.Pairwise (· < ·)
section
variable {n : Nat} {LY : List (List Int)}
theorem Part.mem (P : Part n LY) {x : Int} : (∃ l ∈ LY, x ∈ l) ↔ 0 ≤ x ∧ x < n := by
  rw [← List.mem_flatten, P.perm.mem_iff, upFrom_mem]; omega
theorem Part.nodup (P : Part n LY) : LY.flatten.Nodup := P.perm.nodup_iff.mpr upFrom_nodup
theorem flat_len_ne : ∀ {LY : List (List Int)}, (∀ l ∈ LY, l ≠ []) → LY.length ≤ LY.flatten.length
  | [], _ => by simp
  | l :: r, h => by
    have := flat_len_ne fun x hx => h x (List.mem_cons_of_mem _ hx)
    have := List.length_pos_iff.mpr (h l List.mem_cons_self)
    rw [List.length_cons, List.flatten_cons, List.length_append]; omega
theorem Part.len (P : Part n LY) : LY.length ≤ n := by
  have := flat_len_ne P.ne
  rw [P.perm.length_eq, upFrom_len] at this
  exact this
/-- the layer of a strand -/
def pk (LY : List (List Int)) (x : Int) : Nat := LY.findIdx fun l => decide (x ∈ l)
theorem Part.pk_eq (P : Part n LY) {k : Nat} {l : List Int} {x : Int} (hl : LY[k]? = some l) (hx : x ∈ l) : pk LY x = k := by
  obtain ⟨hk, e⟩ := List.getElem?_eq_some_iff.mp hl
  have h1 : pk LY x < LY.length := List.findIdx_lt_length_of_exists ⟨l, List.mem_of_getElem? hl, by simpa using hx⟩
  have h2 : decide (x ∈ LY[pk LY x]) = true := List.findIdx_getElem (w := h1)
  rw [decide_eq_true_eq] at h2
  have hd := (List.pairwise_flatten.mp P.nodup).2
  rcases Nat.lt_trichotomy (pk LY x) k with c | c | c
  · exact absurd rfl (List.pairwise_iff_getElem.mp hd _ _ h1 hk c x h2 x (e ▸ hx))
  · exact c
  · exact absurd rfl (List.pairwise_iff_getElem.mp hd _ _ hk h1 c x (e ▸ hx) x h2)
theorem Part.pk_get (P : Part n LY) {x : Int} (h0 : 0 ≤ x) (h1 : x < n) : ∃ l, LY[pk LY x]? = some l ∧ x ∈ l := by
  obtain ⟨l, hl, hx⟩ := P.mem.mpr ⟨h0, h1⟩
  obtain ⟨k, hk⟩ := List.mem_iff_getElem?.mp hl
  exact ⟨l, by rw [P.pk_eq hk hx]; exact hk, hx⟩
theorem flat_tk {k : Nat} {l : List Int} (hl : LY[k]? = some l) : (LY.take (k + 1)).flatten = (LY.take k).flatten ++ l := by
  rw [List.take_succ, hl, List.flatten_append]; simp
theorem Part.bnd (P : Part n LY) {k : Nat} {l : List Int} {x : Int} (hl : LY[k]? = some l) (hx : x ∈ l) : 0 ≤ x ∧ x < n := P.mem.mp ⟨l, List.mem_of_getElem? hl, hx⟩
end
def seg (l : List Int) (a b : Nat) : List Int := (l.drop a).take (b - a)
theorem mem_seg {l : List Int} {a b : Nat} {x : Int} : x ∈ seg l a b ↔ ∃ i, a ≤ i ∧ i < b ∧ l[i]? = some x := by
  unfold seg
  constructor
  · intro h
    obtain ⟨i, hi, e⟩ := of_mem_take h
    rw [List.getElem?_drop] at e
    exact ⟨a + i, by omega, by omega, e⟩
  · rintro ⟨i, h1, h2, e⟩
    exact mem_take_of (i := i - a) (by rw [List.getElem?_drop, show a + (i - a) = i by omega]; exact e) (by omega)
theorem seg_len {l : List Int} {a b : Nat} (h1 : a ≤ b) (h2 : b ≤ l.length) : (seg l a b).length = b - a := by
  unfold seg; rw [List.length_take, List.length_drop]; omega
theorem take_seg {l : List Int} {a b : Nat} (h : a ≤ b) : l.take b = l.take a ++ seg l a b := by
  unfold seg
  rw [← List.take_append_drop a (l.take b), List.take_take, Nat.min_eq_left h, List.drop_take]
def lyOf (rows : List Tx) (w h : Nat) (p q : P2) : List Int := sortI (seg (eL rows w) p.1.toNat q.1.toNat ++ seg (pL rows w h) p.2.1.toNat q.2.1.toNat)
def lyGo (rows : List Tx) (w h : Nat) : P2 → List P2 → List (List Int)
  | _, [] => []
  | p, q :: r => lyOf rows w h p q :: lyGo rows w h q r
/-- the layers -/
def lays (rows : List Tx) (w h : Nat) : List (List Int) := lyGo rows w h (p2 0 0) (tl rows w h (w + 1)).tail
section
variable {rows : List Tx} {w h : Nat}
theorem lyGo_len : ∀ {l : List P2} {p : P2}, (lyGo rows w h p l).length = l.length
  | [], _ => rfl
  | q :: r, _ => by rw [lyGo, List.length_cons, List.length_cons, lyGo_len]
theorem lyGo_at : ∀ {l : List P2} {p : P2} {k : Nat}, (lyGo rows w h p l)[k]? = ((p :: l)[k]?).bind fun a => ((p :: l)[k + 1]?).map fun b => lyOf rows w h a b
  | [], p, k => by rw [lyGo, List.getElem?_cons_succ]; cases k <;> simp
  | q :: r, p, 0 => by simp [lyGo]
  | q :: r, p, k + 1 => by rw [lyGo, List.getElem?_cons_succ, lyGo_at]; simp only [List.getElem?_cons_succ]
theorem tl_cons (hc : Cloth rows w h) : p2 0 0 :: (tl rows w h (w + 1)).tail = tl rows w h (w + 1) := by
  have := tl_first hc
  cases e : tl rows w h (w + 1) with
  | nil => rw [e] at this; cases this
  | cons a r => rw [e] at this; cases this; rfl
theorem lays_len (hc : Cloth rows w h) : (lays rows w h).length + 1 = (tl rows w h (w + 1)).length := by
  unfold lays; rw [lyGo_len, List.length_tail]; have := tl_two hc; omega
theorem lays_at (hc : Cloth rows w h) {k : Nat} : (lays rows w h)[k]? = ((tl rows w h (w + 1))[k]?).bind fun a => ((tl rows w h (w + 1))[k + 1]?).map fun b => lyOf rows w h a b := by
  unfold lays; rw [lyGo_at, tl_cons hc]
structure LaySpec (rows : List Tx) (w h k : Nat) (l : List Int) (s t s' t' : Nat) : Prop where
  at1 : (tl rows w h (w + 1))[k]? = some (p2 s t)
  at2 : (tl rows w h (w + 1))[k + 1]? = some (p2 s' t')
  s1 : s ≤ s'
  t1 : t ≤ t'
  s2 : s' ≤ w
  t2 : t' ≤ h
  T1 : Top rows w h s t
  T2 : Top rows w h s' t'
  ne : ¬ (s' = s ∧ t' = t)
  no : ∀ x y, s ≤ x → x ≤ s' → t ≤ y → y ≤ t' → Top rows w h x y → (x = s ∧ y = t) ∨ (x = s' ∧ y = t')
  eq : l = sortI (seg (eL rows w) s s' ++ seg (pL rows w h) t t')
theorem lay_spec (hc : Cloth rows w h) {k : Nat} {l : List Int} (hl : (lays rows w h)[k]? = some l) : ∃ s t s' t', LaySpec rows w h k l s t s' t' := by
  rw [lays_at hc] at hl
  obtain ⟨p, hp, hl⟩ := Option.bind_eq_some_iff.mp hl
  obtain ⟨q, hq, hl⟩ := Option.map_eq_some_iff.mp hl
  obtain ⟨s, t, s', t', rfl, rfl, a1, a2, a3, a4, a5, a6, a7, a8⟩ := tl_next hc hp hq
  exact ⟨s, t, s', t', hp, hq, a1, a2, a3, a4, a5, a6, a7, a8, hl.symm⟩
variable {k : Nat} {l : List Int} {s t s' t' : Nat}
theorem LaySpec.mem (S : LaySpec rows w h k l s t s' t') {x : Int} : x ∈ l ↔ (∃ i, s ≤ i ∧ i < s' ∧ (eL rows w)[i]? = some x) ∨ (∃ j, t ≤ j ∧ j < t' ∧ (pL rows w h)[j]? = some x) := by
  rw [S.eq, (sortI_perm _).mem_iff, List.mem_append, mem_seg, mem_seg]
theorem LaySpec.len (S : LaySpec rows w h k l s t s' t') : l.length = (s' - s) + (t' - t) := by
  have := S.s1; have := S.t1; have := S.s2; have := S.t2
  rw [S.eq, (sortI_perm _).length_eq, List.length_append, seg_len S.s1 (by rw [eL_len]; exact S.s2), seg_len S.t1 (by rw [pL_len]; exact S.t2)]
theorem eL_nodup : (eL rows w).Nodup := eL_perm.nodup_iff.mpr upFrom_nodup
theorem pL_nodup : (pL rows w h).Nodup := pL_perm.nodup_iff.mpr upFrom_nodup
theorem seg_sub {l : List Int} {a b : Nat} : (seg l a b).Sublist l := (List.take_sublist _ _).trans (List.drop_sublist _ _)
theorem lays_flat (hc : Cloth rows w h) : ∀ k, k ≤ (lays rows w h).length → ∃ s t, (tl rows w h (w + 1))[k]? = some (p2 s t) ∧ (((lays rows w h).take k).flatten).Perm ((eL rows w).take s ++ (pL rows w h).take t)
  | 0, _ => ⟨0, 0, tl_first hc, by simp⟩
  | k + 1, hk => by
    obtain ⟨s, t, h1, h2⟩ := lays_flat hc k (by omega)
    obtain ⟨l, hl⟩ : ∃ l, (lays rows w h)[k]? = some l := ⟨_, List.getElem?_eq_getElem (by omega)⟩
    obtain ⟨a, b, s', t', S⟩ := lay_spec hc hl
    have e : p2 a b = p2 s t := Option.some.inj (S.at1.symm.trans h1)
    unfold p2 at e
    simp only [Prod.mk.injEq] at e
    have ea : a = s := by omega
    have eb : b = t := by omega
    subst ea; subst eb
    refine ⟨s', t', S.at2, ?_⟩
    rw [flat_tk hl, take_seg S.s1, take_seg S.t1, S.eq]
    refine (List.Perm.append h2 (sortI_perm _)).trans ?_
    rw [List.append_assoc, List.append_assoc]
    refine List.Perm.append_left _ ?_
    rw [← List.append_assoc, ← List.append_assoc]
    exact List.Perm.append_right _ List.perm_append_comm
theorem lays_part (hc : Cloth rows w h) : Part (w + h) (lays rows w h) := by
  refine ⟨?_, fun l hl => ?_, fun l hl => ?_⟩
  · obtain ⟨s, t, h1, h2⟩ := lays_flat hc _ (Nat.le_refl _)
    rw [List.take_length] at h2
    have hlast := tl_last hc
    rw [List.getLast?_eq_getElem?, ← lays_len hc, Nat.add_sub_cancel, h1] at hlast
    have e := Option.some.inj hlast
    unfold p2 at e
    simp only [Prod.mk.injEq] at e
    have es : s = w := by omega
    have et : t = h := by omega
    rw [es, et, List.take_of_length_le (by rw [eL_len]; exact Nat.le_refl _), List.take_of_length_le (by rw [pL_len]; exact Nat.le_refl _)] at h2
    refine h2.trans ((List.Perm.append eL_perm pL_perm).trans ?_)
    rw [show upFrom 0 (w + h) = upFrom 0 w ++ upFrom w h from ?_]
    refine List.ext_getElem? fun i => ?_
    rw [upFrom_get]
    by_cases c : i < w
    · rw [List.getElem?_append_left (by rw [upFrom_len]; exact c), upFrom_get, if_pos c, if_pos (by omega)]
    · rw [List.getElem?_append_right (by rw [upFrom_len]; omega), upFrom_get, upFrom_len]
      by_cases d : i < w + h
      · rw [if_pos d, if_pos (by omega)]; congr 1; omega
      · rw [if_neg d, if_neg (by omega)]
  · obtain ⟨k, hk⟩ := List.mem_iff_getElem?.mp hl
    obtain ⟨s, t, s', t', S⟩ := lay_spec hc hk
    have a1 := S.len
    have a2 := S.ne
    have a3 := S.s1
    have a4 := S.t1
    intro e
    rw [e, List.length_nil] at a1
    omega
  · obtain ⟨k, hk⟩ := List.mem_iff_getElem?.mp hl
    obtain ⟨s, t, s', t', S⟩ := lay_spec hc hk
    rw [S.eq]
    refine sortI_strict (List.nodup_append.mpr ⟨eL_nodup.sublist seg_sub, pL_nodup.sublist seg_sub, fun a ha b hb => ?_⟩)
    have h1 := eL_mem.mp (seg_sub.subset ha)
    have h2 := pL_mem.mp (seg_sub.subset hb)
    omega
theorem tl_mono (hc : Cloth rows w h) {i j : Nat} {s t s' t' : Nat} (hij : i ≤ j) (h1 : (tl rows w h (w + 1))[i]? = some (p2 s t)) (h2 : (tl rows w h (w + 1))[j]? = some (p2 s' t')) : s ≤ s' ∧ t ≤ t' := by
  have tp : ∀ {i s t : Nat}, (tl rows w h (w + 1))[i]? = some (p2 s t) → s ≤ w ∧ t ≤ h ∧ Top rows w h s t := fun {i s t} hi => by
    obtain ⟨a, b, h1, h2, e, hT⟩ := (mem_tl hc).mp (List.mem_of_getElem? hi)
    unfold p2 at e
    simp only [Prod.mk.injEq] at e
    rw [show s = a by omega, show t = b by omega]
    exact ⟨h1, h2, hT⟩
  by_cases c : i = j
  · subst c
    have e := Option.some.inj (h1.symm.trans h2)
    unfold p2 at e
    simp only [Prod.mk.injEq] at e
    omega
  · have lx := tl_lt (show i < j by omega) h1 h2
    unfold Lex p2 at lx
    simp only at lx
    obtain ⟨a1, a2, a3⟩ := tp h1
    obtain ⟨b1, b2, b3⟩ := tp h2
    by_cases d : s < s'
    · exact ⟨by omega, top_chain hc a3 b3 d b1 a2⟩
    · omega
/-- a strand of a higher layer lies over those of lower ones that it meets -/
theorem lay_over (hc : Cloth rows w h) {k' : Nat} {l' : List Int} (hk : (lays rows w h)[k]? = some l) (hk' : (lays rows w h)[k']? = some l') (hlt : k < k') {x y : Int} (hx : x ∈ l) (hy : y ∈ l') (hxy : (x < w) ≠ (y < w)) : ovB rows w x y = true := by
  obtain ⟨s, t, s1, t1, S⟩ := lay_spec hc hk
  obtain ⟨s2, t2, s3, t3, S'⟩ := lay_spec hc hk'
  obtain ⟨m1, m2⟩ := tl_mono hc (show k + 1 ≤ k' by omega) S.at2 S'.at1
  rcases S.mem.mp hx with ⟨i, i0, i1, ei⟩ | ⟨i, i0, i1, ei⟩ <;> rcases S'.mem.mp hy with ⟨j, j0, j1, ej⟩ | ⟨j, j0, j1, ej⟩
  · have h1 := eL_mem.mp (List.mem_of_getElem? ei)
    have h2 := eL_mem.mp (List.mem_of_getElem? ej)
    exact absurd (propext ⟨fun _ => h2.2, fun _ => h1.2⟩) hxy
  · exact S.T2.1 x (mem_take_of ei i1) y (mem_drop_of ej (by omega))
  · exact S.T2.2 x (mem_take_of ei i1) y (mem_drop_of ej (by omega))
  · have h1 := pL_mem.mp (List.mem_of_getElem? ei)
    have h2 := pL_mem.mp (List.mem_of_getElem? ej)
    exact absurd (propext ⟨fun _ => by omega, fun _ => by omega⟩) hxy
/-- two single strands of one kind, one under the other -/
theorem lay_single (hc : Cloth rows w h) {x y : Int} (hk : (lays rows w h)[k]? = some [x]) (hk' : (lays rows w h)[k + 1]? = some [y]) (hxy : (x < w) ↔ (y < w)) : x ≤ y := by
  obtain ⟨s, t, s1, t1, S⟩ := lay_spec hc hk
  obtain ⟨s2, t2, s3, t3, S'⟩ := lay_spec hc hk'
  have e := Option.some.inj (S.at2.symm.trans S'.at1)
  unfold p2 at e
  simp only [Prod.mk.injEq] at e
  have ea : s2 = s1 := by omega
  have eb : t2 = t1 := by omega
  subst ea; subst eb
  have l1 := S.len
  have l2 := S'.len
  rw [List.length_singleton] at l1 l2
  have q1 := S.s1; have q2 := S.t1; have q3 := S'.s1; have q4 := S'.t1
  rcases S.mem.mp (List.mem_singleton_self x) with ⟨i, i0, i1, ei⟩ | ⟨i, i0, i1, ei⟩ <;> rcases S'.mem.mp (List.mem_singleton_self y) with ⟨j, j0, j1, ej⟩ | ⟨j, j0, j1, ej⟩
  · have hi := List.getElem?_eq_some_iff.mp ei
    have hj := List.getElem?_eq_some_iff.mp ej
    have f := List.pairwise_iff_getElem.mp (eL_fall hc) i j hi.1 hj.1 (by omega)
    rw [hi.2, hj.2] at f
    refine f.2 ?_
    have cnt : ∀ {i : Nat} {a : Int} {s t s' t' : Nat}, (eL rows w)[i]? = some a → s ≤ i → i < s' → t = t' → Top rows w h s t → Top rows w h s' t' → scN rows w h a = h - t := fun {i a s t s' t'} ea b0 b1 ht T T' => by
      subst ht
      rw [scN_end (h := h) (List.mem_of_getElem? ea)]
      conv => lhs; rw [← List.take_append_drop t (pL rows w h)]
      rw [List.countP_append]
      have z1 : ((pL rows w h).take t).countP (ovB rows w a) = 0 := List.countP_eq_zero.mpr fun b hb => by
        have := T.2 b hb a (mem_drop_of ea b0)
        rw [cross hc a (List.mem_of_getElem? ea) b (List.mem_of_mem_take hb)] at this
        intro h'
        rw [h'] at this; cases this
      have z2 : ((pL rows w h).drop t).countP (ovB rows w a) = h - t := by
        rw [List.countP_eq_length.mpr fun b hb => T'.1 a (mem_take_of ea b1) b hb, List.length_drop, pL_len]
      rw [z1, z2]; omega
    have tt : t = t2 := by omega
    have tt' : t2 = t3 := by omega
    rw [cnt ei i0 i1 tt S.T1 S.T2, cnt ej j0 j1 tt' S'.T1 S'.T2, tt]
  · have h1 := eL_mem.mp (List.mem_of_getElem? ei)
    have h2 := pL_mem.mp (List.mem_of_getElem? ej)
    omega
  · have h1 := pL_mem.mp (List.mem_of_getElem? ei)
    have h2 := eL_mem.mp (List.mem_of_getElem? ej)
    omega
  · have hi := List.getElem?_eq_some_iff.mp ei
    have hj := List.getElem?_eq_some_iff.mp ej
    have f := List.pairwise_iff_getElem.mp (pL_fall hc) i j hi.1 hj.1 (by omega)
    rw [hi.2, hj.2] at f
    refine f.2 ?_
    have cnt : ∀ {i : Nat} {b : Int} {s t s' t' : Nat}, (pL rows w h)[i]? = some b → t ≤ i → i < t' → s = s' → Top rows w h s t → Top rows w h s' t' → scN rows w h b = w - s := fun {i b s t s' t'} eb b0 b1 hs T T' => by
      subst hs
      rw [scN_pick (List.mem_of_getElem? eb)]
      conv => lhs; rw [← List.take_append_drop s (eL rows w)]
      rw [List.countP_append]
      have z1 : ((eL rows w).take s).countP (ovB rows w b) = 0 := List.countP_eq_zero.mpr fun a ha => by
        have := T.1 a ha b (mem_drop_of eb b0)
        rw [cross hc a (List.mem_of_mem_take ha) b (List.mem_of_getElem? eb), this]; simp
      have z2 : ((eL rows w).drop s).countP (ovB rows w b) = w - s := by
        rw [List.countP_eq_length.mpr fun a ha => T'.2 b (mem_take_of eb b1) a ha, List.length_drop, eL_len]
      rw [z1, z2]; omega
    have ss : s = s2 := by omega
    have ss' : s2 = s3 := by omega
    rw [cnt ei i0 i1 ss S.T1 S.T2, cnt ej j0 j1 ss' S'.T1 S'.T2, ss]
theorem layers_ok (hc : Cloth rows w h) : f_layers_of rows = .ok (lays rows w h) := by
  have hw2 := hc.w2
  have hh2 := hc.h2
  have hcl := cntL_len hc
  unfold f_layers_of
  rw [measured_ok hc, M.bind_ok, show f_scores_of rows = .ok (cntL rows w) from scores_ok hc, M.bind_ok]
  have s1 : sortKeyM (cntL rows w) 0 (w : Int) = .ok (eL rows w) := if_pos ⟨by omega, by omega, by omega, by omega, by omega⟩
  have s2 : sortKeyM (cntL rows w) (w : Int) ((w : Int) + (h : Int)) = .ok (pL rows w h) := if_pos ⟨by omega, by omega, by omega, by omega, by omega⟩
  show (M.bind (sortKeyM (cntL rows w) 0 (w : Int)) fun e => M.bind (sortKeyM (cntL rows w) (w : Int) ((w : Int) + (h : Int))) _) = _
  rw [s1, M.bind_ok, s2, M.bind_ok]
  show M.bind (M.bind (f_tops_of rows) _) _ = _
  rw [tops_ok hc, M.bind_ok, M.bind_ok]
  have hcut : cutL (tl rows w h (w + 1)) (some 1) none = (tl rows w h (w + 1)).tail := by
    rw [cut_from (by omega) (by have := tl_two hc; omega)]
    exact List.drop_one
  rw [hcut]
  have hall : ∀ x ∈ (tl rows w h (w + 1)).tail, ∃ s t, s ≤ w ∧ t ≤ h ∧ x = p2 s t := fun x hx => by
    obtain ⟨s, t, h1, h2, e, _⟩ := (mem_tl hc).mp (List.mem_of_mem_tail hx)
    exact ⟨s, t, h1, h2, e⟩
  have hmono : (p2 0 0 :: (tl rows w h (w + 1)).tail).Pairwise (fun p q => p.1.toNat ≤ q.1.toNat ∧ p.2.1.toNat ≤ q.2.1.toNat) := by
    rw [tl_cons hc]
    refine List.pairwise_iff_getElem.mpr fun i j hi hj hij => ?_
    have e1 := List.getElem?_eq_getElem hi
    have e2 := List.getElem?_eq_getElem hj
    obtain ⟨s, t, _, _, f1, _⟩ := (mem_tl hc).mp (List.mem_of_getElem? e1)
    obtain ⟨s', t', _, _, f2, _⟩ := (mem_tl hc).mp (List.mem_of_getElem? e2)
    rw [f1] at e1 ⊢
    rw [f2] at e2 ⊢
    obtain ⟨m1, m2⟩ := tl_mono hc (Nat.le_of_lt hij) e1 e2
    unfold p2
    exact ⟨by simp only; omega, by simp only; omega⟩
  have hlen : (tl rows w h (w + 1)).tail.length < 10000 := by
    rw [List.length_tail]
    have h3 := tl_len (rows := rows) (w := w) (h := h) (m := w + 1)
    have h4 : (w + 1) * (h + 1) ≤ 41 * 41 := Nat.mul_le_mul (by omega) (by omega)
    omega
  have key : ∀ (L : List P2) (p : P2) (acc : List (List Int)), (∃ s t, s ≤ w ∧ t ≤ h ∧ p = p2 s t) → (∀ x ∈ L, ∃ s t, s ≤ w ∧ t ≤ h ∧ x = p2 s t) → (p :: L).Pairwise (fun p q => p.1.toNat ≤ q.1.toNat ∧ p.2.1.toNat ≤ q.2.1.toNat) → acc.length + L.length < 10000 →
      Okm (forM (f_layers_of_l1 (eL rows w) (pL rows w h)) (acc, p) L) (fun r => r.1 = acc ++ lyGo rows w h p L) := by
    intro L
    induction L with
    | nil => intro p acc _ _ _ _; exact okv (by simp [lyGo])
    | cons q r ih =>
      intro p acc hp hx hm hlen
      have hq := hx q List.mem_cons_self
      obtain ⟨s, t, a1, a2, rfl⟩ := hp
      obtain ⟨s', t', b1, b2, rfl⟩ := hq
      obtain ⟨m1, m2⟩ := List.pairwise_cons.mp hm
      have mm := m1 _ List.mem_cons_self
      have e1 : s ≤ s' := by have := mm.1; unfold p2 at this; simp only at this; omega
      have e2 : t ≤ t' := by have := mm.2; unfold p2 at this; simp only at this; omega
      show Okm (M.bind (f_layers_of_l1 (eL rows w) (pL rows w h) (acc, p2 s t) (p2 s' t')) fun s => forM (f_layers_of_l1 (eL rows w) (pL rows w h)) s r) _
      unfold f_layers_of_l1
      have c1 : cutL (eL rows w) (some (p2 s t).1) (some (p2 s' t').1) = seg (eL rows w) s s' := by
        unfold seg
        rw [show (p2 s t).1 = (s : Int) from rfl, show (p2 s' t').1 = (s' : Int) from rfl, cut_mid (by omega) (by omega) (by rw [eL_len]; omega), Int.toNat_natCast, Int.toNat_natCast]
      have c2 : cutL (pL rows w h) (some (p2 s t).2.1) (some (p2 s' t').2.1) = seg (pL rows w h) t t' := by
        unfold seg
        rw [show (p2 s t).2.1 = (t : Int) from rfl, show (p2 s' t').2.1 = (t' : Int) from rfl, cut_mid (by omega) (by omega) (by rw [pL_len]; omega), Int.toNat_natCast, Int.toNat_natCast]
      refine okb (P := fun (z : List (List Int) × P2) => z = (acc ++ [lyOf rows w h (p2 s t) (p2 s' t')], p2 s' t')) ?_ fun s e => ?_
      · show Okm (M.bind (catL (cutL (eL rows w) (some (p2 s t).1) (some (p2 s' t').1)) (cutL (pL rows w h) (some (p2 s t).2.1) (some (p2 s' t').2.1))) _) _
        rw [c1, c2]
        refine okb (ok_catL (by rw [seg_len e1 (by rw [eL_len]; omega), seg_len e2 (by rw [pL_len]; omega)]; omega)) fun ly e => ?_
        subst e
        refine okb (ok_push (by show acc.length < _; simp only [List.length_cons] at hlen; omega)) fun s e => okv ?_
        rw [e]
        unfold lyOf
        rfl
      · subst e
        refine okmono (ih _ _ ⟨s', t', b1, b2, rfl⟩ (fun x hx' => hx x (List.mem_cons_of_mem _ hx')) m2 (by simp only [List.length_append, List.length_cons, List.length_nil] at hlen ⊢; omega)) fun r e => ?_
        rw [e, List.append_assoc]; rfl
  refine oke (okb (key _ (p2 0 0) [] ⟨0, 0, Nat.zero_le _, Nat.zero_le _, rfl⟩ hall hmono (by simpa using hlen)) fun s e => okv ?_)
  rw [e]; rfl
end
def ClF (rows : List Tx) (w h : Nat) (F : Int → Bool) : Prop := ∀ x y : Int, 0 ≤ x → x < w → (w : Int) ≤ y → y < (w : Int) + h → (F x = true → F y = false → ovB rows w x y = true) ∧ (F y = true → F x = false → ovB rows w y x = true)
def szE (w : Nat) (F : Int → Bool) : Nat := (upFrom 0 w).countP F
def szP (w h : Nat) (F : Int → Bool) : Nat := (upFrom w h).countP F
section
variable {rows : List Tx} {w h : Nat}
theorem top_of_F (hc : Cloth rows w h) {F : Int → Bool} (hF : ClF rows w h F) : Top rows w h (szE w F) (szP w h F) := by
  have e1 : szE w F = ((eL rows w).filter F).length := by unfold szE; rw [← eL_perm.countP_eq (p := F), List.countP_eq_length_filter]
  have e2 : szP w h F = ((pL rows w h).filter F).length := by unfold szP; rw [← pL_perm.countP_eq (p := F), List.countP_eq_length_filter]
  rw [e1, e2]
  refine top_of_set hc (S' := (eL rows w).filter fun x => !F x) (T' := (pL rows w h).filter fun x => !F x) (List.filter_append_perm F _) (List.filter_append_perm F _) ⟨fun a ha b hb => ?_, fun b hb a ha => ?_⟩
  · obtain ⟨a1, a2⟩ := List.mem_filter.mp ha
    obtain ⟨b1, b2⟩ := List.mem_filter.mp hb
    have ma := eL_mem.mp a1
    have mb := pL_mem.mp b1
    exact (hF a b ma.1 ma.2 mb.1 mb.2).1 a2 (by simpa using b2)
  · obtain ⟨a1, a2⟩ := List.mem_filter.mp ha
    obtain ⟨b1, b2⟩ := List.mem_filter.mp hb
    have ma := eL_mem.mp a1
    have mb := pL_mem.mp b1
    exact (hF a b ma.1 ma.2 mb.1 mb.2).2 b2 (by simpa using a2)
theorem not_drop {l : List Int} (hn : l.Nodup) {n : Nat} {x : Int} (h1 : x ∈ l.take n) : x ∉ l.drop n := fun h2 => by
  rw [← List.take_append_drop n l] at hn
  exact (List.nodup_append.mp hn).2.2 x h1 x h2 rfl
theorem sz_take {l : List Int} (hn : l.Nodup) {n : Nat} (h : n ≤ l.length) {F : Int → Bool} (h1 : ∀ x ∈ l.take n, F x = true) (h2 : ∀ x ∈ l.drop n, F x = false) : l.countP F = n := by
  conv => lhs; rw [← List.take_append_drop n l]
  rw [List.countP_append, List.countP_eq_length.mpr h1, List.countP_eq_zero.mpr fun x hx => by rw [h2 x hx]; simp, List.length_take]
  omega
/-- the strands of the first layers -/
def FK (rows : List Tx) (w h k : Nat) (x : Int) : Bool := decide (pk (lays rows w h) x < k)
theorem flat_pk (hc : Cloth rows w h) {k : Nat} {x : Int} (h0 : 0 ≤ x) (h1 : x < ((w + h : Nat) : Int)) : x ∈ ((lays rows w h).take k).flatten ↔ pk (lays rows w h) x < k := by
  have P := lays_part hc
  rw [List.mem_flatten]
  constructor
  · rintro ⟨l, hl, hx⟩
    obtain ⟨i, hi, e⟩ := of_mem_take hl
    rw [P.pk_eq e hx]; exact hi
  · intro q
    obtain ⟨l, e, hx⟩ := P.pk_get h0 h1
    exact ⟨l, mem_take_of e q, hx⟩
theorem FK_cl (hc : Cloth rows w h) (k : Nat) : ClF rows w h (FK rows w h k) := fun x y x0 x1 y0 y1 => by
  have P := lays_part hc
  obtain ⟨l1, a1, b1⟩ := P.pk_get (x := x) x0 (by omega)
  obtain ⟨l2, a2, b2⟩ := P.pk_get (x := y) (by omega) (by omega)
  have hx : ((x < w) ≠ (y < w)) := fun q => by
    have : x < w := x1
    rw [q] at this
    omega
  unfold FK
  simp only [decide_eq_true_eq, decide_eq_false_iff_not]
  exact ⟨fun q1 q2 => lay_over hc a1 a2 (by omega) b1 b2 hx, fun q1 q2 => lay_over hc a2 a1 (by omega) b2 b1 (Ne.symm hx)⟩
theorem FK_split (hc : Cloth rows w h) {k s t : Nat} (hk : (tl rows w h (w + 1))[k]? = some (p2 s t)) :
    (∀ x ∈ (eL rows w).take s, pk (lays rows w h) x < k) ∧ (∀ x ∈ (eL rows w).drop s, k ≤ pk (lays rows w h) x) ∧ (∀ x ∈ (pL rows w h).take t, pk (lays rows w h) x < k) ∧ (∀ x ∈ (pL rows w h).drop t, k ≤ pk (lays rows w h) x) := by
  have hlt := (List.getElem?_eq_some_iff.mp hk).1
  have hll := lays_len hc
  obtain ⟨a, b, h1, h2⟩ := lays_flat hc k (by omega)
  have e := Option.some.inj (h1.symm.trans hk)
  unfold p2 at e
  simp only [Prod.mk.injEq] at e
  rw [show a = s by omega, show b = t by omega] at h2
  refine ⟨fun x hx => ?_, fun x hx => ?_, fun x hx => ?_, fun x hx => ?_⟩
  · have m := eL_mem.mp (List.mem_of_mem_take hx)
    exact (flat_pk hc m.1 (by omega)).mp (h2.mem_iff.mpr (List.mem_append_left _ hx))
  · have m := eL_mem.mp (List.mem_of_mem_drop hx)
    refine Nat.le_of_not_lt fun q => ?_
    have := h2.mem_iff.mp ((flat_pk hc m.1 (by omega)).mpr q)
    rcases List.mem_append.mp this with q | q
    · exact not_drop eL_nodup q hx
    · have := pL_mem.mp (List.mem_of_mem_take q); omega
  · have m := pL_mem.mp (List.mem_of_mem_take hx)
    exact (flat_pk hc (by omega) (by omega)).mp (h2.mem_iff.mpr (List.mem_append_right _ hx))
  · have m := pL_mem.mp (List.mem_of_mem_drop hx)
    refine Nat.le_of_not_lt fun q => ?_
    have := h2.mem_iff.mp ((flat_pk hc (by omega) (by omega)).mpr q)
    rcases List.mem_append.mp this with q | q
    · have := eL_mem.mp (List.mem_of_mem_take q); omega
    · exact not_drop pL_nodup q hx
theorem tl_bnd (hc : Cloth rows w h) {k s t : Nat} (hk : (tl rows w h (w + 1))[k]? = some (p2 s t)) : s ≤ w ∧ t ≤ h ∧ Top rows w h s t := by
  obtain ⟨a, b, h1, h2, e, hT⟩ := (mem_tl hc).mp (List.mem_of_getElem? hk)
  unfold p2 at e
  simp only [Prod.mk.injEq] at e
  rw [show s = a by omega, show t = b by omega]
  exact ⟨h1, h2, hT⟩
theorem FK_sz (hc : Cloth rows w h) {k s t : Nat} (hk : (tl rows w h (w + 1))[k]? = some (p2 s t)) : szE w (FK rows w h k) = s ∧ szP w h (FK rows w h k) = t := by
  obtain ⟨h1, h2, h3, h4⟩ := FK_split hc hk
  obtain ⟨b1, b2, _⟩ := tl_bnd hc hk
  unfold szE szP
  rw [← eL_perm.countP_eq (l₁ := eL rows w), ← pL_perm.countP_eq (l₁ := pL rows w h)]
  exact ⟨sz_take eL_nodup (by rw [eL_len]; exact b1) (fun x hx => decide_eq_true (h1 x hx)) fun x hx => decide_eq_false (by have := h2 x hx; omega),
    sz_take pL_nodup (by rw [pL_len]; exact b2) (fun x hx => decide_eq_true (h3 x hx)) fun x hx => decide_eq_false (by have := h4 x hx; omega)⟩
theorem sz_le {F G : Int → Bool} (hFG : ∀ x : Int, 0 ≤ x → x < ((w + h : Nat) : Int) → F x = true → G x = true) : szE w F ≤ szE w G ∧ szP w h F ≤ szP w h G :=
  ⟨List.countP_mono_left fun x hx => hFG x (by have := upFrom_mem.mp hx; omega) (by have := upFrom_mem.mp hx; omega), List.countP_mono_left fun x hx => hFG x (by have := upFrom_mem.mp hx; omega) (by have := upFrom_mem.mp hx; omega)⟩
end
section
end
def Cr (w h : Nat) (x y : Int) : Prop := (0 ≤ x ∧ x < w ∧ (w : Int) ≤ y ∧ y < (w : Int) + h) ∨ (0 ≤ y ∧ y < w ∧ (w : Int) ≤ x ∧ x < (w : Int) + h)
section
variable {rows rows' : List Tx} {w h : Nat}
theorem Cr.symm {x y : Int} (c : Cr w h x y) : Cr w h y x := Or.symm c
theorem ovB_cr (hc : Cloth rows w h) {x y : Int} (c : Cr w h x y) : ovB rows w y x = !ovB rows w x y := by
  rcases c with ⟨a, b, c, d⟩ | ⟨a, b, c, d⟩
  · exact ovB_not hc a b c d
  · rw [ovB_not hc a b c d, Bool.not_not]
theorem ClF.gen {F : Int → Bool} (hF : ClF rows w h F) {x y : Int} (c : Cr w h x y) (h1 : F x = true) (h2 : F y = false) : ovB rows w x y = true := by
  rcases c with ⟨a, b, c, d⟩ | ⟨a, b, c, d⟩
  · exact (hF x y a b c d).1 h1 h2
  · exact (hF y x a b c d).2 h1 h2
theorem ClF.of {F : Int → Bool} (hF : ∀ x y, Cr w h x y → F x = true → F y = false → ovB rows w x y = true) : ClF rows w h F := fun x y a b c d =>
  ⟨hF x y (.inl ⟨a, b, c, d⟩), hF y x (.inr ⟨a, b, c, d⟩)⟩
theorem pk_over (hc : Cloth rows w h) {x y : Int} (c : Cr w h x y) (hlt : pk (lays rows w h) x < pk (lays rows w h) y) : ovB rows w x y = true := by
  have cl := FK_cl hc (pk (lays rows w h) y)
  exact cl.gen c (decide_eq_true hlt) (decide_eq_false (Nat.lt_irrefl _))
theorem countP_same {p q : Int → Bool} : ∀ {l : List Int}, (∀ x ∈ l, p x = true → q x = true) → l.countP q ≤ l.countP p → ∀ x ∈ l, q x = true → p x = true
  | [], _, _ => fun x hx => by cases hx
  | a :: r, h, hle => by
    have h' : ∀ x ∈ r, p x = true → q x = true := fun x hx => h x (List.mem_cons_of_mem _ hx)
    have hm : r.countP p ≤ r.countP q := List.countP_mono_left h'
    rw [List.countP_cons, List.countP_cons] at hle
    have ha := h a List.mem_cons_self
    intro x hx hq
    rcases List.mem_cons.mp hx with rfl | hx
    · cases z : p x with
      | true => rfl
      | false => rw [hq, z] at hle; simp at hle; omega
    · refine countP_same h' ?_ x hx hq
      cases z : p a <;> cases z2 : q a <;> simp [z, z2] at hle ha <;> omega
/-- a closed set takes a layer whole or not at all -/
theorem irred (hc : Cloth rows w h) {k : Nat} (hk : k < (lays rows w h).length) {F : Int → Bool} (hG : ClF rows w h (fun x => decide (pk (lays rows w h) x < k ∨ (pk (lays rows w h) x = k ∧ F x = true)))) :
    (∀ x : Int, 0 ≤ x → x < ((w + h : Nat) : Int) → pk (lays rows w h) x = k → F x = false) ∨ (∀ x : Int, 0 ≤ x → x < ((w + h : Nat) : Int) → pk (lays rows w h) x = k → F x = true) := by
  obtain ⟨l, hl⟩ : ∃ l, (lays rows w h)[k]? = some l := ⟨_, List.getElem?_eq_getElem hk⟩
  obtain ⟨s, t, s', t', S⟩ := lay_spec hc hl
  obtain ⟨e1, e2⟩ := FK_sz hc S.at1
  obtain ⟨f1, f2⟩ := FK_sz hc S.at2
  have hT := top_of_F hc hG
  generalize hGd : (fun x => decide (pk (lays rows w h) x < k ∨ (pk (lays rows w h) x = k ∧ F x = true))) = G at hG hT
  have m1 : ∀ x : Int, FK rows w h k x = true → G x = true := fun x q => by
    rw [← hGd]; unfold FK at q; rw [decide_eq_true_eq] at q; exact decide_eq_true (.inl q)
  have m2 : ∀ x : Int, G x = true → FK rows w h (k + 1) x = true := fun x q => by
    rw [← hGd, decide_eq_true_eq] at q
    exact decide_eq_true (by omega)
  obtain ⟨a1, a2⟩ := sz_le (w := w) (h := h) fun x _ _ => m1 x
  obtain ⟨b1, b2⟩ := sz_le (w := w) (h := h) fun x _ _ => m2 x
  rw [e1] at a1; rw [e2] at a2; rw [f1] at b1; rw [f2] at b2
  have inr : ∀ x : Int, 0 ≤ x → x < ((w + h : Nat) : Int) → x ∈ upFrom 0 w ∨ x ∈ upFrom w h := fun x x0 x1 => by
    rw [upFrom_mem, upFrom_mem]; omega
  rcases S.no _ _ a1 b1 a2 b2 hT with ⟨q1, q2⟩ | ⟨q1, q2⟩
  · refine .inl fun x x0 x1 hx => ?_
    have hle : ∀ y, G y = true → (y ∈ upFrom 0 w ∨ y ∈ upFrom w h) → FK rows w h k y = true := fun y hy hm => by
      rcases hm with hm | hm
      · exact countP_same (p := FK rows w h k) (q := G) (fun y _ => m1 y) (by unfold szE at q1 e1; rw [q1, e1]; exact Nat.le_refl _) y hm hy
      · exact countP_same (p := FK rows w h k) (q := G) (fun y _ => m1 y) (by unfold szP at q2 e2; rw [q2, e2]; exact Nat.le_refl _) y hm hy
    cases z : F x with
    | false => rfl
    | true =>
      have := hle x (by rw [← hGd]; exact decide_eq_true (.inr ⟨hx, z⟩)) (inr x x0 x1)
      unfold FK at this
      rw [decide_eq_true_eq] at this
      omega
  · refine .inr fun x x0 x1 hx => ?_
    have hle : ∀ y, FK rows w h (k + 1) y = true → (y ∈ upFrom 0 w ∨ y ∈ upFrom w h) → G y = true := fun y hy hm => by
      rcases hm with hm | hm
      · exact countP_same (p := G) (q := FK rows w h (k + 1)) (fun y _ => m2 y) (by unfold szE at q1 f1; rw [q1, f1]; exact Nat.le_refl _) y hm hy
      · exact countP_same (p := G) (q := FK rows w h (k + 1)) (fun y _ => m2 y) (by unfold szP at q2 f2; rw [q2, f2]; exact Nat.le_refl _) y hm hy
    have := hle x (decide_eq_true (by omega)) (inr x x0 x1)
    rw [← hGd, decide_eq_true_eq] at this
    rcases this with q | q
    · omega
    · exact q.2
theorem Cr.rng {x y : Int} (c : Cr w h x y) : 0 ≤ x ∧ x < ((w + h : Nat) : Int) ∧ 0 ≤ y ∧ y < ((w + h : Nat) : Int) := by
  rcases c with ⟨a, b, c, d⟩ | ⟨a, b, c, d⟩ <;> omega
end
structure IsLay (rows : List Tx) (w h : Nat) (LY : List (List Int)) : Prop where
  part : Part (w + h) LY
  cl : ∀ k, ClF rows w h (fun x => decide (x ∈ (LY.take k).flatten))
  irr : ∀ (k : Nat) (l : List Int), LY[k]? = some l → ∀ F : Int → Bool, ClF rows w h (fun x => decide (x ∈ (LY.take k).flatten ∨ (x ∈ l ∧ F x = true))) → (∀ x ∈ l, F x = false) ∨ (∀ x ∈ l, F x = true)
  ord : ∀ (k : Nat) (x y : Int), LY[k]? = some [x] → LY[k + 1]? = some [y] → (x < (w : Int) ↔ y < (w : Int)) → x < y
section
variable {rows : List Tx} {w h : Nat}
theorem ClF.congr {F G : Int → Bool} (hF : ClF rows w h F) (h' : ∀ x : Int, 0 ≤ x → x < ((w + h : Nat) : Int) → G x = F x) : ClF rows w h G := ClF.of fun x y c q1 q2 => by
  have r := c.rng
  rw [h' x r.1 r.2.1] at q1
  rw [h' y r.2.2.1 r.2.2.2] at q2
  exact hF.gen c q1 q2
theorem lays_is (hc : Cloth rows w h) : IsLay rows w h (lays rows w h) := by
  have P := lays_part hc
  refine ⟨P, fun k => ?_, fun k l hl F hF => ?_, fun k x y hx hy hxy => ?_⟩
  · refine (FK_cl hc k).congr fun x x0 x1 => ?_
    unfold FK
    rw [decide_eq_decide]; exact flat_pk hc x0 x1
  · have hk := (List.getElem?_eq_some_iff.mp hl).1
    have mm : ∀ x : Int, 0 ≤ x → x < ((w + h : Nat) : Int) → (x ∈ l ↔ pk (lays rows w h) x = k) := fun x x0 x1 => by
      refine ⟨P.pk_eq hl, fun e => ?_⟩
      obtain ⟨l', e', hx⟩ := P.pk_get x0 x1
      rw [e, hl] at e'
      cases e'; exact hx
    have hG : ClF rows w h (fun x => decide (pk (lays rows w h) x < k ∨ (pk (lays rows w h) x = k ∧ F x = true))) := hF.congr fun x x0 x1 => by
      rw [decide_eq_decide, flat_pk hc x0 x1, mm x x0 x1]
    rcases irred hc hk hG with q | q
    · exact .inl fun x hx => by have b := P.bnd hl hx; exact q x b.1 b.2 (P.pk_eq hl hx)
    · exact .inr fun x hx => by have b := P.bnd hl hx; exact q x b.1 b.2 (P.pk_eq hl hx)
  · have h1 := lay_single hc hx hy hxy
    have h2 := P.pk_eq hx (List.mem_singleton_self x)
    have h3 := P.pk_eq hy (List.mem_singleton_self y)
    by_cases e : x = y
    · rw [e, h3] at h2; omega
    · omega
variable {LY LY' : List (List Int)}
theorem strict_ext {A B : List Int} (hA : A.Pairwise (· < ·)) (hB : B.Pairwise (· < ·)) (h : ∀ x, x ∈ A ↔ x ∈ B) : A = B := by
  have nd : ∀ {A : List Int}, A.Pairwise (· < ·) → A.Nodup := fun h => h.imp fun q e => by omega
  exact List.Perm.eq_of_pairwise (le := (· < ·)) (fun x y _ _ h1 h2 => by omega) hA hB ((List.perm_ext_iff_of_nodup (nd hA) (nd hB)).mpr h)
end
structure Pre (rows : List Tx) (w h : Nat) (D : List (List Int)) : Prop where
  nd : D.flatten.Nodup
  rng : ∀ x ∈ D.flatten, 0 ≤ x ∧ x < ((w + h : Nat) : Int)
  ne : ∀ l ∈ D, l ≠ []
  up : ∀ l ∈ D, l.Pairwise (· < ·)
  cl : ∀ k, ClF rows w h (fun x => decide (x ∈ (D.take k).flatten))
  irr : ∀ (k : Nat) (l : List Int), D[k]? = some l → ∀ F : Int → Bool, ClF rows w h (fun x => decide (x ∈ (D.take k).flatten ∨ (x ∈ l ∧ F x = true))) → (∀ x ∈ l, F x = false) ∨ (∀ x ∈ l, F x = true)
  ord : ∀ (k : Nat) (x y : Int), D[k]? = some [x] → D[k + 1]? = some [y] → (x < (w : Int) ↔ y < (w : Int)) → x < y
section
variable {rows : List Tx} {w h : Nat} {D : List (List Int)}
theorem Pre.nil : Pre rows w h [] := ⟨by simp, by simp, by simp, by simp, fun k => ClF.of fun x y c q => by simp at q, fun k l hl => by simp at hl, fun k x y hx => by simp at hx⟩
end
section
variable {rows : List Tx} {w h : Nat} {LB D : List (List Int)} {rk : Int → Nat}
theorem Pre.take (P : Pre rows w h D) (n : Nat) : Pre rows w h (D.take n) := by
  have e : D.flatten = (D.take n).flatten ++ (D.drop n).flatten := by rw [← List.flatten_append, List.take_append_drop]
  refine ⟨?_, fun x hx => P.rng x (by rw [e]; exact List.mem_append_left _ hx), fun l hl => P.ne l (List.mem_of_mem_take hl), fun l hl => P.up l (List.mem_of_mem_take hl), fun k => ?_, fun k l hl => ?_, fun k x y hx hy hxy => ?_⟩
  · have := P.nd; rw [e] at this; exact (List.nodup_append.mp this).1
  · rw [List.take_take]; exact P.cl _
  · have hk := (List.getElem?_eq_some_iff.mp hl).1
    rw [List.length_take] at hk
    rw [List.getElem?_take_of_lt (by omega)] at hl
    rw [List.take_take, Nat.min_eq_left (by omega)]
    exact P.irr k l hl
  · have hk := (List.getElem?_eq_some_iff.mp hy).1
    rw [List.length_take] at hk
    rw [List.getElem?_take_of_lt (by omega)] at hx hy
    exact P.ord k x y hx hy hxy
end
section
variable {rows : List Tx} {w h : Nat}
theorem sgn_end (hc : Cloth rows w h) {j k : Nat} (hj : j < h) (hk : k < w) : ∃ r c, rows[j]? = some r ∧ r[k]? = some c ∧ ovB rows w (k : Int) ((w : Int) + j) = decide (c = 35) := by
  have hh := hc.hh
  obtain ⟨r, hr⟩ : ∃ r, rows[j]? = some r := ⟨_, List.getElem?_eq_getElem (by omega)⟩
  have hrw := hc.ww r (List.mem_of_getElem? hr)
  obtain ⟨c, hcc⟩ : ∃ c, r[k]? = some c := ⟨_, List.getElem?_eq_getElem (by omega)⟩
  refine ⟨r, c, hr, hcc, ?_⟩
  unfold ovB
  rw [if_pos (by omega)]
  unfold sgn
  rw [show ((w : Int) + (j : Int) - (w : Int)).toNat = j by omega, hr, Option.getD_some, Int.toNat_natCast, hcc, Option.getD_some, Bool.eq_iff_iff]
  simp
theorem getB {s : List Bool} {i : Nat} (hi : i < s.length) : ∃ b, s[i]? = some b := ⟨_, List.getElem?_eq_getElem hi⟩
end
theorem numbers_ok {script : List Int} {many : Int} (hl : script.length ≤ 63) (h1 : 63 ≤ many) (h2 : many ≤ 1000) : Okm (f_law_numbers script many) (fun ns => ns.length = many.toNat ∧ ∀ x ∈ ns, 0 ≤ x ∧ x < 1000000) := by
  unfold f_law_numbers
  show Okm (M.bind (if (decide ((0 : Int) < (script.length : Int))) = true then M.bind (M.bind (M.bind (getM script (0 : Int)) fun y12 => M.ok (y12 % (2147483646 : Int))) fun y14 => M.ok ((1 : Int) + y14)) fun step9 => M.ok step9 else M.ok 1) _) _
  refine okb (P := fun _ => True) (okif (fun c => ?_) fun _ => okv trivial) fun st _ => ?_
  · rw [decide_eq_true_eq] at c
    exact okb (P := fun _ => True) (okb (P := fun _ => True) (okb (ok_get (by omega) (by omega)) fun _ _ => okv trivial) fun _ _ => okv trivial) fun _ _ => okv trivial
  refine okb ok_range fun xs e => ?_
  subst e
  refine okb (ok_forR (fun i (s : List Int × Int) => s.1.length = i ∧ ∀ x ∈ s.1, 0 ≤ x ∧ x < 1000000) ⟨rfl, fun x hx => nomatch hx⟩ fun i s hi ⟨a1, a2⟩ => ?_) fun s ⟨a1, a2⟩ => ?_
  · unfold f_law_numbers_l1
    refine okb (ok_push (by omega)) fun s' e => okv ?_
    subst e
    refine ⟨by simp [a1], fun x hx => (List.mem_append.mp hx).elim (a2 x) fun h => ?_⟩
    rw [List.mem_singleton.mp h]
    omega
  refine okb ok_range fun xs e => ?_
  subst e
  refine okb (ok_forR (fun i (s : List Int) => s.length = many.toNat ∧ ∀ x ∈ s, 0 ≤ x ∧ x < 1000000) ⟨by rw [a1]; omega, a2⟩ fun i s hi ⟨b1, b2⟩ => ?_) fun s hs => okv hs
  unfold f_law_numbers_l2
  have m0 := Int.emod_nonneg (0 + (i : Int)) (show many ≠ 0 by omega)
  have m1 := Int.emod_lt_of_pos (0 + (i : Int)) (show 0 < many by omega)
  rw [oke (ok_mod (by omega : 0 < many)), M.bind_ok]
  refine okb (P := fun v => 0 ≤ v ∧ v < (1000000 : Int)) ?_ fun v hv => ?_
  · refine okb (P := fun _ => True) (okb (ok_get m0 (by omega)) fun a _ => okb (ok_get (by omega) (by omega)) fun b _ => okv trivial) fun a _ => okv ⟨by omega, by omega⟩
  rw [M.bind_ok]
  refine okb (ok_set m0 (by omega)) fun s' e => okv ?_
  subst e
  refine ⟨by rw [List.length_set]; exact b1, fun x hx => ?_⟩
  rcases List.mem_or_eq_of_mem_set hx with hx | hx
  · exact b2 x hx
  · subst hx; exact hv
theorem take_count {l : List Int} {i : Nat} {x n : Int} (h : l[i]? = some x) : (l.take (i + 1)).count n = (l.take i).count n + if x = n then 1 else 0 := by
  rw [List.take_add_one, h, List.count_append]
  by_cases e : x = n
  · subst e; simp
  · simp [e]
/-- where a number stands -/
def posL (l : List Int) (n : Int) (i : Nat) : List Nat := (List.range i).filter fun k => decide (l[k]? = some n)
theorem pos_ok {l : List Int} {n : Int} : ∀ {i : Nat}, i ≤ l.length → (posL l n i).length = (l.take i).count n ∧ ∀ a k, (posL l n i)[a]? = some k → k < i ∧ l[k]? = some n ∧ (l.take k).count n = a
  | 0, _ => ⟨by simp [posL], fun a k h => by simp [posL] at h⟩
  | i + 1, hi => by
    obtain ⟨h1, h2⟩ := pos_ok (l := l) (n := n) (i := i) (by omega)
    have hx : l[i]? = some (l[i]'(by omega)) := by simp
    generalize (l[i]'(by omega)) = x at hx
    have e : posL l n (i + 1) = posL l n i ++ if x = n then [i] else [] := by
      unfold posL
      rw [List.range_succ, List.filter_append]
      congr 1
      by_cases e : x = n
      · simp [hx, e]
      · simp [hx, e]
    rw [e, take_count hx, ← h1]
    by_cases c : x = n
    · subst c
      refine ⟨by simp, fun a k hk => ?_⟩
      rw [if_pos rfl] at hk
      by_cases ha : a < (posL l x i).length
      · rw [List.getElem?_append_left ha] at hk
        obtain ⟨q1, q2, q3⟩ := h2 a k hk
        exact ⟨by omega, q2, q3⟩
      · have hk2 := (List.getElem?_eq_some_iff.mp hk).1
        simp at hk2
        have : a = (posL l x i).length := by omega
        subst this
        rw [List.getElem?_append_right (Nat.le_refl _), Nat.sub_self] at hk
        have hk : i = k := by simpa using hk
        subst hk
        exact ⟨by omega, hx, h1.symm⟩
    · refine ⟨by simp [c], fun a k hk => ?_⟩
      rw [if_neg c, List.append_nil] at hk
      obtain ⟨q1, q2, q3⟩ := h2 a k hk
      exact ⟨by omega, q2, q3⟩
def PcP (rows : List Tx) (w h : Nat) : Prop := rows.length = h ∧ ∀ r ∈ rows, r.length = w ∧ ∀ c ∈ r, c = 35 ∨ c = 46
/-- what is laid together -/
structure Laying (pieces : List (List Tx)) (ends picks : List Int) : Prop where
  e1 : 1 ≤ ends.length
  e2 : ends.length ≤ 40
  p1 : 1 ≤ picks.length
  p2 : picks.length ≤ 40
  en : ∀ x ∈ ends, 0 ≤ x ∧ x < pieces.length
  pn : ∀ x ∈ picks, 0 ≤ x ∧ x < pieces.length
  pc : ∀ (n : Nat) (P : List Tx), pieces[n]? = some P → PcP P (ends.count (n : Int)) (picks.count (n : Int))
  ml : pieces.length ≤ 1000
theorem count_lt {l : List Int} {i : Nat} {x : Int} (h : l[i]? = some x) : (l.take i).count x < l.count x := by
  have e := take_count (n := x) h
  rw [if_pos rfl] at e
  have h2 : (l.take (i + 1)).count x ≤ l.count x := (List.take_sublist _ _).count_le _
  omega
/-- the sign at a crossing -/
def chr (pieces : List (List Tx)) (ends picks : List Int) (j k : Nat) : Nat :=
  if ends[k]?.getD 0 = picks[j]?.getD 0 then ((((pieces[(ends[k]?.getD 0).toNat]?.getD [])[(picks.take j).count (picks[j]?.getD 0)]?).getD [])[(ends.take k).count (ends[k]?.getD 0)]?).getD 0
  else if ends[k]?.getD 0 < picks[j]?.getD 0 then 35 else 46
def LaidP (pieces : List (List Tx)) (ends picks : List Int) (found : List Tx) : Prop := found.length = picks.length ∧ ∀ j, j < picks.length → ∃ t, found[j]? = some t ∧ t.length = ends.length ∧ ∀ k, k < ends.length → t[k]? = some (chr pieces ends picks j k)
theorem posL_up {l : List Int} {n : Int} {i : Nat} : (posL l n i).Pairwise (· < ·) := by
  unfold posL
  exact List.Pairwise.filter _ List.pairwise_lt_range
theorem mem_posL {l : List Int} {n : Int} {i k : Nat} : k ∈ posL l n i ↔ k < i ∧ l[k]? = some n := by
  unfold posL
  rw [List.mem_filter, List.mem_range, decide_eq_true_eq]
theorem posL_rank {l : List Int} {n : Int} {k : Nat} (hk : l[k]? = some n) : (posL l n l.length)[(l.take k).count n]? = some k := by
  have hlt := (List.getElem?_eq_some_iff.mp hk).1
  obtain ⟨a, ha⟩ := List.mem_iff_getElem?.mp (mem_posL.mpr ⟨hlt, hk⟩)
  have := ((pos_ok (l := l) (n := n) (Nat.le_refl _)).2 a k ha).2.2
  rw [this]; exact ha
theorem posL_len {l : List Int} {n : Int} : (posL l n l.length).length = l.count n := by
  have := (pos_ok (l := l) (n := n) (Nat.le_refl _)).1
  rwa [List.take_length] at this
section
variable {pieces : List (List Tx)} {ends picks : List Int} {found : List Tx}
theorem laid_chr (L : Laying pieces ends picks) {j k : Nat} (hj : j < picks.length) (hk : k < ends.length) : chr pieces ends picks j k = 35 ∨ chr pieces ends picks j k = 46 := by
  obtain ⟨x, hx⟩ : ∃ x, ends[k]? = some x := ⟨_, List.getElem?_eq_getElem hk⟩
  obtain ⟨y, hy⟩ : ∃ y, picks[j]? = some y := ⟨_, List.getElem?_eq_getElem hj⟩
  unfold chr
  rw [hx, hy, Option.getD_some, Option.getD_some]
  by_cases c : x = y
  · subst c
    rw [if_pos rfl]
    have bx := L.en x (List.mem_of_getElem? hx)
    obtain ⟨P, hP⟩ : ∃ P, pieces[x.toNat]? = some P := ⟨_, List.getElem?_eq_getElem (by omega)⟩
    have pc := L.pc x.toNat P hP
    rw [show ((x.toNat : Nat) : Int) = x by omega] at pc
    have c1 := count_lt hx
    have c2 := count_lt hy
    obtain ⟨r, hr⟩ : ∃ r, P[(picks.take j).count x]? = some r := ⟨_, List.getElem?_eq_getElem (by rw [pc.1]; exact c2)⟩
    have pr := pc.2 r (List.mem_of_getElem? hr)
    obtain ⟨d, hd⟩ : ∃ d, r[(ends.take k).count x]? = some d := ⟨_, List.getElem?_eq_getElem (by rw [pr.1]; exact c1)⟩
    rw [hP, Option.getD_some, hr, Option.getD_some, hd, Option.getD_some]
    exact pr.2 d (List.mem_of_getElem? hd)
  · rw [if_neg c]
    split
    · exact .inl rfl
    · exact .inr rfl
theorem laid_cloth (L : Laying pieces ends picks) (hf : LaidP pieces ends picks found) : Cloth found ends.length picks.length := by
  have key : ∀ r ∈ found, r.length = ends.length ∧ ∀ c ∈ r, c = 35 ∨ c = 46 := fun r hr => by
    obtain ⟨j, hj⟩ := List.mem_iff_getElem?.mp hr
    have hjl := (List.getElem?_eq_some_iff.mp hj).1
    obtain ⟨t, e1, e2, e3⟩ := hf.2 j (by rw [← hf.1]; exact hjl)
    rw [e1] at hj; cases hj
    refine ⟨e2, fun c hcc => ?_⟩
    obtain ⟨k, hk⟩ := List.mem_iff_getElem?.mp hcc
    have hkl := (List.getElem?_eq_some_iff.mp hk).1
    rw [e3 k (by omega)] at hk
    cases hk
    exact laid_chr L (by rw [← hf.1]; exact hjl) (by omega)
  exact ⟨hf.1, fun r hr => (key r hr).1, fun r hr => (key r hr).2, L.e1, L.e2, L.p1, L.p2⟩
/-- the piece that owns a strand -/
def owner (ends picks : List Int) (y : Int) : Nat := if y < (ends.length : Int) then (ends[y.toNat]?.getD 0).toNat else (picks[(y - (ends.length : Int)).toNat]?.getD 0).toNat
theorem owner_end {k : Nat} {x : Int} (hx : ends[k]? = some x) : owner ends picks (k : Int) = x.toNat := by
  have hk := (List.getElem?_eq_some_iff.mp hx).1
  unfold owner
  rw [if_pos (by omega), Int.toNat_natCast, hx]; rfl
theorem owner_pick {j : Nat} {x : Int} (hx : picks[j]? = some x) : owner ends picks ((ends.length : Int) + j) = x.toNat := by
  unfold owner
  rw [if_neg (by omega), show ((ends.length : Int) + (j : Int) - (ends.length : Int)).toNat = j by omega, hx]; rfl
def lyr (ends picks : List Int) (n : Nat) : List Int := (posL ends n ends.length).map (fun k : Nat => (k : Int)) ++ (posL picks n picks.length).map fun k : Nat => (ends.length : Int) + (k : Int)
theorem mem_lyr (L : Laying pieces ends picks) {n : Nat} {y : Int} : y ∈ lyr ends picks n ↔ 0 ≤ y ∧ y < ((ends.length + picks.length : Nat) : Int) ∧ owner ends picks y = n := by
  unfold lyr
  rw [List.mem_append, List.mem_map, List.mem_map]
  constructor
  · rintro (⟨k, hk, rfl⟩ | ⟨k, hk, rfl⟩)
    · obtain ⟨h1, h2⟩ := mem_posL.mp hk
      exact ⟨by omega, by omega, by rw [owner_end h2]; omega⟩
    · obtain ⟨h1, h2⟩ := mem_posL.mp hk
      exact ⟨by omega, by omega, by rw [owner_pick h2]; omega⟩
  · rintro ⟨y0, y1, e⟩
    by_cases c : y < (ends.length : Int)
    · obtain ⟨k, rfl⟩ := Int.eq_ofNat_of_zero_le y0
      obtain ⟨x, hx⟩ : ∃ x, ends[k]? = some x := ⟨_, List.getElem?_eq_getElem (by omega)⟩
      have := L.en x (List.mem_of_getElem? hx)
      rw [owner_end hx] at e
      exact .inl ⟨k, mem_posL.mpr ⟨by omega, by rw [hx]; congr 1; omega⟩, rfl⟩
    · obtain ⟨j, hj⟩ := Int.eq_ofNat_of_zero_le (a := y - (ends.length : Int)) (by omega)
      have hy : y = (ends.length : Int) + j := by omega
      subst hy
      obtain ⟨x, hx⟩ : ∃ x, picks[j]? = some x := ⟨_, List.getElem?_eq_getElem (by omega)⟩
      have := L.pn x (List.mem_of_getElem? hx)
      rw [owner_pick hx] at e
      exact .inr ⟨j, mem_posL.mpr ⟨by omega, by rw [hx]; congr 1; omega⟩, rfl⟩
theorem lyr_up {n : Nat} : (lyr ends picks n).Pairwise (· < ·) := by
  unfold lyr
  refine List.pairwise_append.mpr ⟨List.pairwise_map.mpr (posL_up.imp fun q => by omega), List.pairwise_map.mpr (posL_up.imp fun q => by omega), fun a ha b hb => ?_⟩
  obtain ⟨k, hk, rfl⟩ := List.mem_map.mp ha
  obtain ⟨j, hj, rfl⟩ := List.mem_map.mp hb
  have := (mem_posL.mp hk).1
  omega
theorem lyr_len {n : Nat} : (lyr ends picks n).length = ends.count (n : Int) + picks.count (n : Int) := by
  unfold lyr
  rw [List.length_append, List.length_map, List.length_map, posL_len, posL_len]
def LO (ends picks : List Int) (m : Nat) : List (List Int) := (List.range m).map (lyr ends picks)
end
section
variable {pieces : List (List Tx)} {ends picks : List Int} {found : List Tx}
theorem set_loop {f : List Int → Int → M (List Int)} {v : Int} (hf : ∀ s e, f s e = M.bind (setM s e v) fun s => M.ok s) {ks : List Nat} {s0 : List Int} (hk : ∀ k ∈ ks, k < s0.length) :
    Okm (forM f s0 (ks.map fun k : Nat => (k : Int))) (fun s => s.length = s0.length ∧ ∀ p : Nat, s[p]? = if p ∈ ks then some v else s0[p]?) := by
  have key := ok_for (f := f) (s0 := s0) (xs := ks.map fun k : Nat => (k : Int)) (fun i s => s.length = s0.length ∧ ∀ p : Nat, s[p]? = if p ∈ ks.take i then some v else s0[p]?) ⟨rfl, fun p => by simp⟩ fun i x s hx ⟨a1, a2⟩ => ?_
  · refine okmono key fun s ⟨b1, b2⟩ => ⟨b1, fun p => ?_⟩
    rw [b2, List.length_map, List.take_length]
  · rw [List.getElem?_map] at hx
    obtain ⟨k, hk', e⟩ := Option.map_eq_some_iff.mp hx
    subst e
    have hlt := hk k (List.mem_of_getElem? hk')
    rw [hf]
    refine okb (ok_set (by omega) (by omega)) fun s' e => okv ?_
    subst e
    refine ⟨by rw [List.length_set]; exact a1, fun p => ?_⟩
    rw [List.take_succ, hk', Int.toNat_natCast]
    by_cases q : k = p
    · subst q
      rw [List.getElem?_set_self (by omega), if_pos (by simp)]
    · rw [List.getElem?_set_ne q, a2]
      by_cases z : p ∈ ks.take i
      · rw [if_pos z, if_pos (List.mem_append_left _ z)]
      · rw [if_neg z, if_neg fun h => (List.mem_append.mp h).elim z fun h => by simp at h; exact q h.symm]
/-- the owners that are told so far -/
def told (l : List Int) (n : Nat) : List Int := l.map fun x => if x < (n : Int) then x else 0
theorem told_step {l s : List Int} {n : Nat} (h1 : s.length = (told l n).length) (h2 : ∀ p : Nat, s[p]? = if p ∈ posL l n l.length then some (n : Int) else (told l n)[p]?) : s = told l (n + 1) := by
  refine List.ext_getElem? fun p => ?_
  rw [h2]
  unfold told
  rw [List.getElem?_map, List.getElem?_map]
  cases q : l[p]? with
  | none =>
    rw [if_neg fun z => by have := (mem_posL.mp z).2; rw [q] at this; cases this]; rfl
  | some x =>
    have hp := (List.getElem?_eq_some_iff.mp q).1
    by_cases e : x = (n : Int)
    · subst e
      rw [if_pos (mem_posL.mpr ⟨hp, q⟩)]
      show some (n : Int) = some (if (n : Int) < ((n + 1 : Nat) : Int) then (n : Int) else 0)
      rw [if_pos (by omega)]
    · rw [if_neg fun z => by have := (mem_posL.mp z).2; rw [q] at this; exact e (Option.some.inj this)]
      show some (if x < (n : Int) then x else 0) = some (if x < ((n + 1 : Nat) : Int) then x else 0)
      by_cases c : x < (n : Int)
      · rw [if_pos c, if_pos (by omega)]
      · rw [if_neg c, if_neg (by omega)]
theorem flat_chars {α : Type} (f : α → Nat) : ∀ l : List α, (l.map fun k => [f k]).flatten = l.map f ∧ ((l.map fun k => [f k]).map List.length).sum = l.length
  | [] => ⟨rfl, rfl⟩
  | a :: r => by
    obtain ⟨h1, h2⟩ := flat_chars f r
    refine ⟨by rw [List.map_cons, List.flatten_cons, h1]; rfl, ?_⟩
    rw [List.map_cons, List.map_cons, List.sum_cons, h2]; simp only [List.length_cons, List.length_nil]; omega
theorem fm_congr {α β : Type} {f g : α → Option β} : ∀ {l : List α}, (∀ x ∈ l, f x = g x) → l.filterMap f = l.filterMap g
  | [], _ => rfl
  | a :: r, h => by rw [List.filterMap_cons, List.filterMap_cons, h a List.mem_cons_self, fm_congr fun x hx => h x (List.mem_cons_of_mem _ hx)]
/-- a piece cut out again -/
theorem cut_ok (L : Laying pieces ends picks) (hf : LaidP pieces ends picks found) {n : Nat} {P : List Tx} (hP : pieces[n]? = some P) : f_cut_out found ((posL ends n ends.length).map fun k : Nat => (k : Int)) ((posL picks n picks.length).map fun k : Nat => (k : Int)) = .ok P := by
  have pc := L.pc n P hP
  have e40 : ends.count (n : Int) ≤ 40 := Nat.le_trans List.count_le_length L.e2
  have p40 : picks.count (n : Int) ≤ 40 := Nat.le_trans List.count_le_length L.p2
  unfold f_cut_out
  rw [comp_map (g := fun j : Int => (posL ends n ends.length).map fun k => chr pieces ends picks j.toNat k) (by rw [List.length_map, posL_len]; omega) fun j hj => ?_]
  · refine congrArg M.ok (List.ext_getElem? fun b => ?_)
    rw [List.getElem?_map, List.getElem?_map]
    cases hb : (posL picks n picks.length)[b]? with
    | none =>
      rw [List.getElem?_eq_none_iff, posL_len] at hb
      rw [List.getElem?_eq_none (by rw [pc.1]; exact hb)]; rfl
    | some j =>
      obtain ⟨j1, j2, j3⟩ := (pos_ok (l := picks) (n := n) (Nat.le_refl _)).2 b j hb
      have hbl := (List.getElem?_eq_some_iff.mp hb).1
      rw [posL_len] at hbl
      obtain ⟨r, hr⟩ : ∃ r, P[b]? = some r := ⟨_, List.getElem?_eq_getElem (by rw [pc.1]; exact hbl)⟩
      have pr := pc.2 r (List.mem_of_getElem? hr)
      rw [hr]
      show some ((posL ends n ends.length).map fun k => chr pieces ends picks ((j : Int)).toNat k) = some r
      refine congrArg some (List.ext_getElem? fun a => ?_)
      rw [List.getElem?_map, Int.toNat_natCast]
      cases ha : (posL ends n ends.length)[a]? with
      | none =>
        rw [List.getElem?_eq_none_iff, posL_len] at ha
        rw [List.getElem?_eq_none (by rw [pr.1]; exact ha)]; rfl
      | some k =>
        obtain ⟨k1, k2, k3⟩ := (pos_ok (l := ends) (n := n) (Nat.le_refl _)).2 a k ha
        have hal := (List.getElem?_eq_some_iff.mp ha).1
        rw [posL_len] at hal
        show some (chr pieces ends picks j k) = r[a]?
        unfold chr
        rw [k2, j2, Option.getD_some, if_pos rfl, k3, j3, Int.toNat_natCast, hP, Option.getD_some, hr, Option.getD_some, List.getElem?_eq_getElem (by rw [pr.1]; exact hal)]; rfl
  · obtain ⟨j', hj', rfl⟩ := List.mem_map.mp hj
    have hjl := (mem_posL.mp hj').1
    obtain ⟨t, e1, e2, e3⟩ := hf.2 j' hjl
    rw [getM_nat e1, M.bind_ok]
    unfold f_row_cut
    rw [comp_map (g := fun e : Int => [chr pieces ends picks j' e.toNat]) (by rw [List.length_map, posL_len]; omega) fun e he => ?_, M.bind_ok, tx_nil, Int.toNat_natCast]
    · rw [List.map_map]
      obtain ⟨f1, f2⟩ := flat_chars (fun k => chr pieces ends picks j' k) (posL ends n ends.length)
      have fe : ((posL ends n ends.length).map ((fun e : Int => [chr pieces ends picks j' e.toNat]) ∘ fun k : Nat => (k : Int))) = (posL ends n ends.length).map fun k => [chr pieces ends picks j' k] := List.map_congr_left fun k _ => by show [chr pieces ends picks j' ((k : Int)).toNat] = _; rw [Int.toNat_natCast]
      rw [fe, oke (ok_join (by rw [f2, posL_len]; omega)), f1]
      rfl
    · obtain ⟨k, hk, rfl⟩ := List.mem_map.mp he
      have hkl := (mem_posL.mp hk).1
      rw [getS_nat (e3 k hkl), M.bind_ok, Int.toNat_natCast]
theorem warps_eq {n : Nat} : (lyr ends picks n).filterMap (fun s => if decide (s < (ends.length : Int)) = true then some s else none) = (posL ends n ends.length).map fun k : Nat => (k : Int) := by
  unfold lyr
  rw [List.filterMap_append, List.filterMap_map, List.filterMap_map]
  have e1 : (posL ends n ends.length).filterMap ((fun s : Int => if decide (s < (ends.length : Int)) = true then some s else none) ∘ fun k : Nat => (k : Int)) = (posL ends n ends.length).map fun k : Nat => (k : Int) := by
    rw [← List.filterMap_eq_map]
    refine fm_congr fun k hk => ?_
    have := (mem_posL.mp hk).1
    show (if decide ((k : Int) < (ends.length : Int)) = true then some (k : Int) else none) = some (k : Int)
    rw [if_pos (decide_eq_true (by omega))]
  have e2 : (posL picks n picks.length).filterMap ((fun s : Int => if decide (s < (ends.length : Int)) = true then some s else none) ∘ fun k : Nat => (ends.length : Int) + (k : Int)) = [] := by
    rw [List.filterMap_eq_nil_iff]
    intro k _
    show (if decide ((ends.length : Int) + (k : Int) < (ends.length : Int)) = true then some _ else none) = none
    rw [if_neg (by rw [decide_eq_true_eq]; omega)]
  rw [e1, e2, List.append_nil]
theorem wefts_eq {n : Nat} : (lyr ends picks n).filterMap (fun s => if decide ((ends.length : Int) ≤ s) = true then some (s - (ends.length : Int)) else none) = (posL picks n picks.length).map fun k : Nat => (k : Int) := by
  unfold lyr
  rw [List.filterMap_append, List.filterMap_map, List.filterMap_map]
  have e1 : (posL ends n ends.length).filterMap ((fun s : Int => if decide ((ends.length : Int) ≤ s) = true then some (s - (ends.length : Int)) else none) ∘ fun k : Nat => (k : Int)) = [] := by
    rw [List.filterMap_eq_nil_iff]
    intro k hk
    have := (mem_posL.mp hk).1
    show (if decide ((ends.length : Int) ≤ (k : Int)) = true then some _ else none) = none
    rw [if_neg (by rw [decide_eq_true_eq]; omega)]
  have e2 : (posL picks n picks.length).filterMap ((fun s : Int => if decide ((ends.length : Int) ≤ s) = true then some (s - (ends.length : Int)) else none) ∘ fun k : Nat => (ends.length : Int) + (k : Int)) = (posL picks n picks.length).map fun k : Nat => (k : Int) := by
    rw [← List.filterMap_eq_map]
    refine fm_congr fun k hk => ?_
    show (if decide ((ends.length : Int) ≤ (ends.length : Int) + (k : Int)) = true then some ((ends.length : Int) + (k : Int) - (ends.length : Int)) else none) = some (k : Int)
    rw [if_pos (decide_eq_true (by omega))]
    congr 1; omega
  rw [e1, e2, List.nil_append]
theorem apart_gen (L : Laying pieces ends picks) (hf : LaidP pieces ends picks found) (hly : lays found ends.length picks.length = LO ends picks pieces.length) :
    f_taken_apart found = .ok (pieces, ends, picks, ()) := by
  have hc := laid_cloth L hf
  have hml := L.ml
  have he2 := L.e2
  have hp2 := L.p2
  refine oke ?_
  unfold f_taken_apart
  rw [measured_ok hc, M.bind_ok]
  show Okm (M.bind (repM [0] (ends.length : Int)) _) _
  refine okb (ok_rep1 (by omega) (by omega)) fun E0 e => ?_
  subst e
  show Okm (M.bind (repM [0] (picks.length : Int)) _) _
  refine okb (ok_rep1 (by omega) (by omega)) fun P0 e => ?_
  subst e
  rw [layers_ok hc, M.bind_ok, hly, Int.toNat_natCast, Int.toNat_natCast]
  have told0 : ∀ l : List Int, (∀ x ∈ l, 0 ≤ x) → List.replicate l.length (0 : Int) = told l 0 := fun l hl => by
    unfold told
    refine (List.eq_replicate_iff.mpr ⟨by rw [List.length_map], fun b hb => ?_⟩).symm
    obtain ⟨x, hx, rfl⟩ := List.mem_map.mp hb
    have := hl x hx
    rw [if_neg (by omega)]
  rw [told0 ends fun x hx => (L.en x hx).1, told0 picks fun x hx => (L.pn x hx).1]
  refine okb (ok_for (fun n (s : List (List Tx) × List Int × List Int) => s = (pieces.take n, told ends n, told picks n)) rfl fun n l s hl e => ?_) fun s e => okv ?_
  · subst e
    unfold LO at hl
    have hn := (List.getElem?_eq_some_iff.mp hl).1
    rw [List.length_map, List.length_range] at hn
    rw [List.getElem?_map, List.getElem?_range hn] at hl
    have hl : lyr ends picks n = l := Option.some.inj hl
    subst hl
    have hll : (lyr ends picks n).length ≤ 80 := by
      rw [lyr_len]
      have := List.count_le_length (a := (n : Int)) (l := ends)
      have := List.count_le_length (a := (n : Int)) (l := picks)
      omega
    obtain ⟨P, hP⟩ : ∃ P, pieces[n]? = some P := ⟨_, List.getElem?_eq_getElem hn⟩
    have htl : (pieces.take n).length = n := by rw [List.length_take]; omega
    unfold f_taken_apart_l3
    show Okm (M.bind (compM (fun s => if decide (s < (ends.length : Int)) = true then M.ok (some s) else M.ok none) (lyr ends picks n)) fun warps => M.bind (compM (fun s => if decide ((ends.length : Int) ≤ s) = true then M.ok (some (s - (ends.length : Int))) else M.ok none) (lyr ends picks n)) _) _
    rw [comp_eq (g := fun s => if decide (s < (ends.length : Int)) = true then some s else none) (by omega) fun s _ => by split <;> rfl, M.bind_ok, warps_eq,
      comp_eq (g := fun s => if decide ((ends.length : Int) ≤ s) = true then some (s - (ends.length : Int)) else none) (by omega) fun s _ => by split <;> rfl, M.bind_ok, wefts_eq]
    refine okb (set_loop (v := ((pieces.take n).length : Int)) (s0 := told ends n) (fun s e => rfl) fun k hk => by unfold told; rw [List.length_map]; exact (mem_posL.mp hk).1) fun E ⟨e1, e2⟩ => ?_
    rw [htl] at e2
    have hE := told_step e1 e2
    subst hE
    refine okb (set_loop (v := ((pieces.take n).length : Int)) (s0 := told picks n) (fun s e => rfl) fun k hk => by unfold told; rw [List.length_map]; exact (mem_posL.mp hk).1) fun Pk ⟨g1, g2⟩ => ?_
    rw [htl] at g2
    have hPk := told_step g1 g2
    subst hPk
    rw [cut_ok L hf hP, M.bind_ok]
    refine okb (ok_push (by show (pieces.take n).length < _; omega)) fun s e => okv ?_
    rw [e]
    show (pieces.take n ++ [P], _, _) = _
    rw [List.take_succ, hP]; rfl
  · subst e
    have hLO : (LO ends picks pieces.length).length = pieces.length := by unfold LO; rw [List.length_map, List.length_range]
    have tl : ∀ l : List Int, (∀ x ∈ l, x < (pieces.length : Int)) → told l pieces.length = l := fun l hl => by
      unfold told
      conv => rhs; rw [← List.map_id l]
      exact List.map_congr_left fun x hx => if_pos (hl x hx)
    rw [hLO, List.take_length, tl ends fun x hx => (L.en x hx).2, tl picks fun x hx => (L.pn x hx).2]
end
section
variable {rows : List Tx} {w h : Nat}
def ENs (rows : List Tx) (w h : Nat) : List Int := (List.range w).map fun e : Nat => (pk (lays rows w h) (e : Int) : Int)
def PKs (rows : List Tx) (w h : Nat) : List Int := (List.range h).map fun p : Nat => (pk (lays rows w h) ((w : Int) + (p : Int)) : Int)
def PC1 (rows : List Tx) (w h m : Nat) : List Tx := (posL (PKs rows w h) m (PKs rows w h).length).map fun j : Nat => (posL (ENs rows w h) m (ENs rows w h).length).map fun k : Nat => sgn rows (j : Int) (k : Int)
def PCs (rows : List Tx) (w h : Nat) : List (List Tx) := (List.range (lays rows w h).length).map fun m : Nat => PC1 rows w h m
theorem en_len : (ENs rows w h).length = w := by unfold ENs; rw [List.length_map, List.length_range]
theorem pks_len : (PKs rows w h).length = h := by unfold PKs; rw [List.length_map, List.length_range]
theorem pcs_len : (PCs rows w h).length = (lays rows w h).length := by unfold PCs; rw [List.length_map, List.length_range]
theorem en_at {k : Nat} (hk : k < w) : (ENs rows w h)[k]? = some (pk (lays rows w h) (k : Int) : Int) := by unfold ENs; rw [List.getElem?_map, List.getElem?_range hk]; rfl
theorem pks_at {j : Nat} (hj : j < h) : (PKs rows w h)[j]? = some (pk (lays rows w h) ((w : Int) + (j : Int)) : Int) := by unfold PKs; rw [List.getElem?_map, List.getElem?_range hj]; rfl
theorem pcs_at {m : Nat} (hm : m < (lays rows w h).length) : (PCs rows w h)[m]? = some (PC1 rows w h m) := by unfold PCs; rw [List.getElem?_map, List.getElem?_range hm]; rfl
theorem pk_lt (hc : Cloth rows w h) {x : Int} (x0 : 0 ≤ x) (x1 : x < ((w + h : Nat) : Int)) : pk (lays rows w h) x < (lays rows w h).length := by
  obtain ⟨l, e, _⟩ := (lays_part hc).pk_get x0 x1
  exact (List.getElem?_eq_some_iff.mp e).1
/-- a crossing's sign -/
theorem cell35 (hc : Cloth rows w h) {j k : Nat} (hj : j < h) (hk : k < w) : ∃ r c, rows[j]? = some r ∧ r[k]? = some c ∧ r.length = w ∧ (c = 35 ∨ c = 46) ∧ sgn rows (j : Int) (k : Int) = c ∧ ovB rows w (k : Int) ((w : Int) + j) = decide (c = 35) := by
  obtain ⟨r, c, hr, hcc, ho⟩ := sgn_end hc hj hk
  refine ⟨r, c, hr, hcc, hc.ww r (List.mem_of_getElem? hr), hc.sg r (List.mem_of_getElem? hr) c (List.mem_of_getElem? hcc), ?_, ho⟩
  unfold sgn
  rw [Int.toNat_natCast, Int.toNat_natCast, hr, Option.getD_some, hcc, Option.getD_some]
theorem laying35 (hc : Cloth rows w h) : Laying (PCs rows w h) (ENs rows w h) (PKs rows w h) := by
  have h1 := hc.h1
  have w1 := hc.w1
  have h2 := hc.h2
  have w2 := hc.w2
  refine ⟨by rw [en_len]; omega, by rw [en_len]; omega, by rw [pks_len]; omega, by rw [pks_len]; omega, fun x hx => ?_, fun x hx => ?_, fun m P hP => ?_, ?_⟩
  · unfold ENs at hx
    obtain ⟨k, hk, rfl⟩ := List.mem_map.mp hx
    have := List.mem_range.mp hk
    have := pk_lt hc (x := (k : Int)) (by omega) (by omega)
    rw [pcs_len]
    omega
  · unfold PKs at hx
    obtain ⟨k, hk, rfl⟩ := List.mem_map.mp hx
    have := List.mem_range.mp hk
    have := pk_lt hc (x := (w : Int) + (k : Int)) (by omega) (by omega)
    rw [pcs_len]
    omega
  · have hm := (List.getElem?_eq_some_iff.mp hP).1
    rw [pcs_len] at hm
    rw [pcs_at hm] at hP
    cases hP
    unfold PC1
    refine ⟨by rw [List.length_map, posL_len], fun r hr => ?_⟩
    obtain ⟨j, hj, rfl⟩ := List.mem_map.mp hr
    refine ⟨by rw [List.length_map, posL_len], fun c hcc => ?_⟩
    obtain ⟨k, hk, rfl⟩ := List.mem_map.mp hcc
    have hj := (mem_posL.mp hj).1
    have hk := (mem_posL.mp hk).1
    rw [pks_len] at hj
    rw [en_len] at hk
    obtain ⟨r, c, _, _, _, q, e, _⟩ := cell35 hc hj hk
    rw [e]; exact q
  · rw [pcs_len]
    have := (lays_part hc).len
    omega
/-- where a strand stands in its piece -/
theorem pc_cell (hc : Cloth rows w h) {j k : Nat} (hj : j < h) (hk : k < w) (e : pk (lays rows w h) (k : Int) = pk (lays rows w h) ((w : Int) + (j : Int))) :
    ∃ r, (PC1 rows w h (pk (lays rows w h) (k : Int)))[((PKs rows w h).take j).count (pk (lays rows w h) (k : Int) : Int)]? = some r ∧ r[((ENs rows w h).take k).count (pk (lays rows w h) (k : Int) : Int)]? = some (sgn rows (j : Int) (k : Int)) := by
  have r1 := posL_rank (en_at (rows := rows) (h := h) hk)
  have r2 := posL_rank (l := PKs rows w h) (n := (pk (lays rows w h) (k : Int) : Int)) (k := j) (by rw [pks_at hj, e])
  unfold PC1
  rw [List.getElem?_map, r2]
  refine ⟨_, rfl, ?_⟩
  rw [List.getElem?_map, r1]; rfl
theorem chr35 (hc : Cloth rows w h) {j k : Nat} (hj : j < h) (hk : k < w) : chr (PCs rows w h) (ENs rows w h) (PKs rows w h) j k = sgn rows (j : Int) (k : Int) := by
  obtain ⟨r, c, hr, hcc, hrl, hs, e, ho⟩ := cell35 hc hj hk
  have cr : Cr w h (k : Int) ((w : Int) + j) := .inl ⟨by omega, by omega, by omega, by omega⟩
  unfold chr
  rw [en_at hk, pks_at hj, Option.getD_some, Option.getD_some]
  by_cases q : pk (lays rows w h) (k : Int) = pk (lays rows w h) ((w : Int) + (j : Int))
  · obtain ⟨r', a1, a2⟩ := pc_cell hc hj hk q
    rw [if_pos (by omega), Int.toNat_natCast, pcs_at (pk_lt hc (by omega) (by omega)), Option.getD_some, ← q, a1, Option.getD_some, a2, Option.getD_some]
  · rw [if_neg (by omega)]
    by_cases c1 : pk (lays rows w h) (k : Int) < pk (lays rows w h) ((w : Int) + (j : Int))
    · rw [if_pos (by omega), e]
      have := pk_over hc cr c1
      rw [ho, decide_eq_true_eq] at this
      exact this.symm
    · rw [if_neg (by omega), e]
      have := pk_over hc cr.symm (by omega)
      rw [ovB_cr hc cr, ho] at this
      have hn : c ≠ 35 := fun z => by rw [z] at this; cases this
      exact (hs.resolve_left hn).symm
theorem laid35 (hc : Cloth rows w h) : LaidP (PCs rows w h) (ENs rows w h) (PKs rows w h) rows := by
  have hh := hc.hh
  refine ⟨by rw [pks_len]; exact hh, fun j hj => ?_⟩
  rw [pks_len] at hj
  rw [en_len]
  obtain ⟨t, ht⟩ : ∃ t, rows[j]? = some t := ⟨_, List.getElem?_eq_getElem (by omega)⟩
  refine ⟨t, ht, hc.ww t (List.mem_of_getElem? ht), fun k hk => ?_⟩
  obtain ⟨r, c, hr, hcc, _, _, e, _⟩ := cell35 hc hj hk
  rw [ht] at hr; cases hr
  rw [chr35 hc hj hk, e]; exact hcc
theorem owner35 {y : Int} (y0 : 0 ≤ y) (y1 : y < ((w + h : Nat) : Int)) : owner (ENs rows w h) (PKs rows w h) y = pk (lays rows w h) y := by
  by_cases c : y < (w : Int)
  · obtain ⟨k, rfl⟩ := Int.eq_ofNat_of_zero_le y0
    rw [owner_end (en_at (by omega)), Int.toNat_natCast]
  · obtain ⟨j, hj⟩ := Int.eq_ofNat_of_zero_le (a := y - (w : Int)) (by omega)
    have hy : y = (w : Int) + j := by omega
    subst hy
    have := owner_pick (ends := ENs rows w h) (pks_at (rows := rows) (w := w) (h := h) (j := j) (by omega))
    rw [en_len] at this
    rw [this, Int.toNat_natCast]
theorem lay35 (hc : Cloth rows w h) {m : Nat} {l : List Int} (hl : (lays rows w h)[m]? = some l) : l = lyr (ENs rows w h) (PKs rows w h) m := by
  have P := lays_part hc
  refine strict_ext (P.up l (List.mem_of_getElem? hl)) lyr_up fun x => ?_
  rw [mem_lyr (laying35 hc), en_len, pks_len]
  constructor
  · intro hx
    have b := P.bnd hl hx
    exact ⟨b.1, b.2, by rw [owner35 b.1 b.2]; exact P.pk_eq hl hx⟩
  · rintro ⟨x0, x1, e⟩
    rw [owner35 x0 x1] at e
    obtain ⟨l', e', hx⟩ := P.pk_get x0 x1
    rw [e, hl] at e'; cases e'; exact hx
theorem lays35 (hc : Cloth rows w h) : lays rows w h = LO (ENs rows w h) (PKs rows w h) (PCs rows w h).length := by
  refine List.ext_getElem? fun m => ?_
  unfold LO
  rw [pcs_len, List.getElem?_map]
  by_cases hm : m < (lays rows w h).length
  · have hl : (lays rows w h)[m]? = some ((lays rows w h)[m]) := List.getElem?_eq_getElem hm
    rw [List.getElem?_range hm, hl]
    exact congrArg some (lay35 hc hl)
  · rw [List.getElem?_eq_none (by omega), List.getElem?_eq_none (by rw [List.length_range]; omega)]; rfl
theorem apart35 (hc : Cloth rows w h) : f_taken_apart rows = .ok (PCs rows w h, ENs rows w h, PKs rows w h, ()) := apart_gen (laying35 hc) (laid35 hc) (by rw [en_len, pks_len]; exact lays35 hc)
theorem cnt35 (hc : Cloth rows w h) {m : Nat} {l : List Int} (hl : (lays rows w h)[m]? = some l) : (ENs rows w h).count (m : Int) + (PKs rows w h).count (m : Int) = l.length := by
  rw [lay35 hc hl, lyr_len]
end
theorem cnt_set : ∀ {s : List Bool} {i : Nat} {b : Bool}, s[i]? = some b → (s.set i true).count true = s.count true + if b = true then 0 else 1
  | [], i, b, h => by simp at h
  | x :: s, 0, b, h => by
    have e : x = b := by simpa using h
    subst e
    cases x <;> simp
  | x :: s, i + 1, b, h => by
    rw [List.set_cons_succ, List.count_cons, List.count_cons, cnt_set (s := s) (i := i) (b := b) (by simpa using h)]; omega
theorem set_tt {s : List Bool} {i : Nat} (h : s[i]? = some true) : s.set i true = s := by
  refine List.ext_getElem? fun p => ?_
  by_cases e : i = p
  · subst e; rw [List.getElem?_set_self (List.getElem?_eq_some_iff.mp h).1, h]
  · rw [List.getElem?_set_ne e]
def Cond (al : Nat → Nat → Bool) (cw : Nat) (s : List Bool) (b a : Nat) : Prop := (al b a = true → s[a]? = some true → s[cw + b]? = some true) ∧ (al b a = false → s[cw + b]? = some true → s[a]? = some true)
def Clo (al : Nat → Nat → Bool) (cw ch : Nat) (s : List Bool) : Prop := ∀ b a, b < ch → a < cw → Cond al cw s b a
structure Kp (al : Nat → Nat → Bool) (cw ch : Nat) (s0 : List Bool) (j k : Nat) (s : List Bool) : Prop where
  len : s.length = cw + ch
  up : ∀ i : Nat, s0[i]? = some true → s[i]? = some true
  st : (s = s0 ∧ ∀ b a, b < ch → a < cw → (b < j ∨ (b = j ∧ a < k)) → Cond al cw s0 b a) ∨ (¬ Clo al cw ch s0 ∧ s0.count true + 1 ≤ s.count true)
theorem kstep {al : Nat → Nat → Bool} {cw ch : Nat} {s0 s : List Bool} {j k : Nat} (K : Kp al cw ch s0 j k s) (hj : j < ch) (hk : k < cw) {src dst : Nat} {bs : Bool} (hs : s[src]? = some bs) (hd : dst < cw + ch) (hC : ∀ u : List Bool, Cond al cw u j k ↔ (u[src]? = some true → u[dst]? = some true)) :
    Kp al cw ch s0 j (k + 1) (if bs = true then s.set dst true else s) := by
  obtain ⟨l, up, st⟩ := K
  have ext : ∀ {u : List Bool}, (∀ b a, b < ch → a < cw → (b < j ∨ (b = j ∧ a < k)) → Cond al cw u b a) → Cond al cw u j k → ∀ b a, b < ch → a < cw → (b < j ∨ (b = j ∧ a < k + 1)) → Cond al cw u b a := fun {u} c c0 b a hb ha h => by
    rcases h with h | ⟨h1, h2⟩
    · exact c b a hb ha (.inl h)
    · by_cases e : a = k
      · subst e; subst h1; exact c0
      · exact c b a hb ha (.inr ⟨h1, by omega⟩)
  cases bs with
  | false =>
    rw [if_neg Bool.false_ne_true]
    refine ⟨l, up, st.imp (fun ⟨e, c⟩ => ⟨e, ext c ?_⟩) id⟩
    rw [hC]
    intro q
    rw [← e, hs] at q; cases q
  | true =>
    rw [if_pos rfl]
    obtain ⟨d, hdd⟩ := getB (s := s) (i := dst) (by omega)
    cases d with
    | true =>
      rw [set_tt hdd]
      refine ⟨l, up, st.imp (fun ⟨e, c⟩ => ⟨e, ext c ?_⟩) id⟩
      rw [hC]
      intro _
      rw [← e]; exact hdd
    | false =>
      have hcn := cnt_set hdd
      rw [if_neg Bool.false_ne_true] at hcn
      refine ⟨by rw [List.length_set]; exact l, fun i hi => ?_, .inr ?_⟩
      · by_cases e : dst = i
        · subst e; rw [List.getElem?_set_self (by omega)]
        · rw [List.getElem?_set_ne e]; exact up i hi
      · rcases st with ⟨e, c⟩ | ⟨n, c⟩
        · subst e
          refine ⟨fun z => ?_, by omega⟩
          have := (hC s).mp (z j k hj hk) hs
          rw [hdd] at this; cases this
        · exact ⟨n, by omega⟩
theorem reach35 {P : List Tx} {cw ch : Nat} (hp : PcP P cw ch) (h1 : 1 ≤ cw + ch) (h2 : cw + ch ≤ 100) (fw : Bool) {al : Nat → Nat → Bool} (hal : ∀ b a r c, P[b]? = some r → r[a]? = some c → al b a = decide (decide (c = 35) = fw)) :
    Okm (f_law_reached P (cw : Int) fw) (fun r => ∃ s : List Bool, s.length = cw + ch ∧ s[0]? = some true ∧ Clo al cw ch s ∧ r = s.all id) := by
  unfold f_law_reached
  rw [hp.1]
  show Okm (M.bind (M.bind (rangeM 0 ((cw : Int) + (ch : Int))) _) _) _
  rw [range_eq, M.bind_ok, show ((cw : Int) + (ch : Int) - 0).toNat = cw + ch by omega, comp_map (g := fun s => decide (s = 0)) (by rw [upFrom_len]; omega) fun s _ => rfl, M.bind_ok]
  have z0 : ((upFrom 0 (cw + ch)).map fun s : Int => decide (s = 0))[0]? = some true := by
    rw [List.getElem?_map, upFrom_get, if_pos (by omega)]; rfl
  refine okb (P := fun s : List Bool => s.length = cw + ch ∧ s[0]? = some true ∧ (Clo al cw ch s ∨ (cw + ch) + 1 ≤ s.count true)) (ok_forR (fun t (s : List Bool) => s.length = cw + ch ∧ s[0]? = some true ∧ (Clo al cw ch s ∨ t + 1 ≤ s.count true)) ⟨by rw [List.length_map, upFrom_len], z0, .inr (List.count_pos_iff.mpr (List.mem_of_getElem? z0))⟩ fun t s0 _ ⟨l0, y0, q0⟩ => ?_) fun s ⟨l, y, q⟩ => okv ⟨s, l, y, ?_, rfl⟩
  · unfold f_law_reached_l3
    rw [hp.1, range_eq, M.bind_ok, show ((ch : Int) - 0).toNat = ch by omega]
    refine okb (P := Kp al cw ch s0 ch 0) (ok_forR (fun j s => Kp al cw ch s0 j 0 s) ⟨l0, fun i hi => hi, .inl ⟨rfl, fun b a _ _ h => by omega⟩⟩ fun j s hj K => ?_) fun s ⟨l, up, st⟩ => okv ⟨l, up 0 y0, ?_⟩
    · unfold f_law_reached_l2
      rw [range_eq, M.bind_ok, show ((cw : Int) - 0).toNat = cw by omega]
      refine okb (P := Kp al cw ch s0 j cw) (ok_forR (fun k s => Kp al cw ch s0 j k s) K fun k s hk K => ?_) fun s ⟨l, up, st⟩ => okv ⟨l, up, st.imp (fun ⟨e, c⟩ => ⟨e, fun b a hb ha h => c b a hb ha (by omega)⟩) id⟩
      obtain ⟨r, hr⟩ : ∃ r, P[j]? = some r := ⟨_, List.getElem?_eq_getElem (by rw [hp.1]; exact hj)⟩
      have pr := hp.2 r (List.mem_of_getElem? hr)
      obtain ⟨c, hcc⟩ : ∃ c, r[k]? = some c := ⟨_, List.getElem?_eq_getElem (by omega)⟩
      have ha := hal j k r c hr hcc
      have hl := K.len
      unfold f_law_reached_l1
      rw [show (0 : Int) + (j : Int) = (j : Int) by omega, show (0 : Int) + (k : Int) = (k : Int) by omega, getM_nat hr, M.bind_ok, getS_nat hcc, M.bind_ok, M.bind_ok, tx_hash]
      have ec : decide (([c] : Tx) = [35]) = decide (c = 35) := by rw [decide_eq_decide]; simp
      rw [ec]
      obtain ⟨bk, hbk⟩ := getB (s := s) (i := k) (by omega)
      show Okm (M.bind (if decide (decide (c = 35) = fw) = true then getM s (k : Int) else M.ok false) _) _
      rw [← ha]
      cases hb : al j k with
      | true =>
        rw [if_pos rfl, getM_nat hbk, M.bind_ok]
        refine okb (P := Kp al cw ch s0 j (k + 1)) ?_ fun s' K' => ?_
        · have K' := kstep K hj hk hbk (dst := cw + j) (by omega) fun u => ⟨fun q => q.1 hb, fun q => ⟨fun _ => q, fun z => by rw [hb] at z; cases z⟩⟩
          cases bk with
          | true =>
            rw [if_pos rfl]
            rw [show (cw : Int) + (j : Int) = ((cw + j : Nat) : Int) by omega]
            refine okb (ok_set (by omega) (by omega)) fun s' e => okv ?_
            subst e
            rw [Int.toNat_natCast]
            exact K'
          | false => rw [if_neg Bool.false_ne_true]; exact okv K'
        · show Okm (M.bind (if (!true) = true then _ else M.ok false) _) _
          rw [if_neg (by decide), M.bind_ok, if_neg Bool.false_ne_true]
          exact okv K'
      | false =>
        rw [if_neg Bool.false_ne_true, M.bind_ok, if_neg Bool.false_ne_true, M.bind_ok]
        show Okm (M.bind (if (!false) = true then getM s ((cw : Int) + (j : Int)) else _) _) _
        rw [if_pos (show (!false) = true from rfl)]
        obtain ⟨bj, hbj⟩ := getB (s := s) (i := cw + j) (by omega)
        rw [show (cw : Int) + (j : Int) = ((cw + j : Nat) : Int) by omega, getM_nat hbj, M.bind_ok]
        have K' := kstep K hj hk hbj (dst := k) (by omega) fun u => ⟨fun q => q.2 hb, fun q => ⟨(fun z => by rw [hb] at z; cases z), fun _ => q⟩⟩
        cases bj with
        | true =>
          rw [if_pos rfl]
          refine okb (ok_set (by omega) (by omega)) fun s' e => okv ?_
          subst e
          rw [Int.toNat_natCast]
          exact K'
        | false => rw [if_neg Bool.false_ne_true]; exact okv K'
    · rcases st with ⟨e, c⟩ | ⟨n, c⟩
      · exact .inl fun b a hb ha => by rw [e]; exact c b a hb ha (.inl hb)
      · rcases q0 with q0 | q0
        · exact absurd q0 n
        · exact .inr (by omega)
  · rcases q with q | q
    · exact q
    · have := List.count_le_length (a := true) (l := s)
      omega
section
variable {rows : List Tx} {w h : Nat}
/-- whether a strand of a piece is seen -/
def sn35 (rows : List Tx) (w h m : Nat) (s : List Bool) (x : Int) : Bool := if x < (w : Int) then (s[((ENs rows w h).take x.toNat).count (m : Int)]?).getD false else (s[(ENs rows w h).count (m : Int) + ((PKs rows w h).take (x - (w : Int)).toNat).count (m : Int)]?).getD false
theorem sn_end {m : Nat} {s : List Bool} {k : Nat} (hk : k < w) : sn35 rows w h m s (k : Int) = (s[((ENs rows w h).take k).count (m : Int)]?).getD false := by
  unfold sn35
  rw [if_pos (by omega), Int.toNat_natCast]
theorem sn_pick {m : Nat} {s : List Bool} {j : Nat} : sn35 rows w h m s ((w : Int) + (j : Int)) = (s[(ENs rows w h).count (m : Int) + ((PKs rows w h).take j).count (m : Int)]?).getD false := by
  unfold sn35
  rw [if_neg (by omega), show ((w : Int) + (j : Int) - (w : Int)).toNat = j by omega]
theorem tt_of {s : List Bool} {i : Nat} : (s[i]?).getD false = true ↔ s[i]? = some true := by
  cases s[i]? with
  | none => simp
  | some b => simp
/-- all strands of a piece are reached -/
theorem hang35 (hc : Cloth rows w h) {m : Nat} {l : List Int} (hl : (lays rows w h)[m]? = some l) (fw : Bool) : f_law_reached (PC1 rows w h m) (((ENs rows w h).count (m : Int) : Nat) : Int) fw = .ok true := by
  have L := laying35 hc
  have hm := (List.getElem?_eq_some_iff.mp hl).1
  have hp := L.pc m _ (pcs_at hm)
  have P := lays_part hc
  have w2 := hc.w2
  have h2 := hc.h2
  have hlen := cnt35 hc hl
  have hne : 1 ≤ l.length := List.length_pos_iff.mpr (P.ne l (List.mem_of_getElem? hl))
  have c1 : (ENs rows w h).count (m : Int) ≤ 40 := Nat.le_trans List.count_le_length (by rw [en_len]; exact w2)
  have c2 : (PKs rows w h).count (m : Int) ≤ 40 := Nat.le_trans List.count_le_length (by rw [pks_len]; exact h2)
  refine oke (okmono (reach35 hp (by omega) (by omega) fw (al := fun b a => decide (decide ((((PC1 rows w h m)[b]?.getD [])[a]?).getD 0 = 35) = fw)) fun b a r c hr hcc => by rw [hr, Option.getD_some, hcc, Option.getD_some]) fun r ⟨s, sl, s0, hclo, hr⟩ => ?_)
  subst hr
  -- the sign of a crossing in the piece
  have key : ∀ j k : Nat, j < h → k < w → pk (lays rows w h) (k : Int) = m → pk (lays rows w h) ((w : Int) + (j : Int)) = m →
      Cond (fun b a => decide (decide ((((PC1 rows w h m)[b]?.getD [])[a]?).getD 0 = 35) = fw)) ((ENs rows w h).count (m : Int)) s (((PKs rows w h).take j).count (m : Int)) (((ENs rows w h).take k).count (m : Int)) ∧
      decide (decide ((((PC1 rows w h m)[((PKs rows w h).take j).count (m : Int)]?.getD [])[((ENs rows w h).take k).count (m : Int)]?).getD 0 = 35) = fw) = decide (ovB rows w (k : Int) ((w : Int) + (j : Int)) = fw) := fun j k hj hk ek ej => by
    have e1 : (ENs rows w h)[k]? = some (m : Int) := by rw [en_at hk, ek]
    have e2 : (PKs rows w h)[j]? = some (m : Int) := by rw [pks_at hj, ej]
    refine ⟨hclo _ _ (count_lt e2) (count_lt e1), ?_⟩
    obtain ⟨r', a1, a2⟩ := pc_cell hc hj hk (ek.trans ej.symm)
    obtain ⟨r, c, _, _, _, _, es, ho⟩ := cell35 hc hj hk
    rw [ek] at a1 a2
    rw [a1, Option.getD_some, a2, Option.getD_some, es, ho]
  -- the strands that are not reached, or that are
  have hG : ClF rows w h (fun x => decide (pk (lays rows w h) x < m ∨ (pk (lays rows w h) x = m ∧ (sn35 rows w h m s x != fw) = true))) := ClF.of fun x y c hx hy => by
    rw [decide_eq_true_eq] at hx
    rw [decide_eq_false_iff_not] at hy
    have ny : ¬ pk (lays rows w h) y < m := fun z => hy (.inl z)
    rcases hx with hx | ⟨hx, fx⟩
    · exact pk_over hc c (by omega)
    by_cases ey : pk (lays rows w h) y = m
    · have fy : (sn35 rows w h m s y != fw) = false := by
        cases z : (sn35 rows w h m s y != fw) with
        | false => rfl
        | true => exact absurd (.inr ⟨ey, z⟩) hy
      rcases c with ⟨x0, x1, y0, y1⟩ | ⟨y0, y1, x0, x1⟩
      · obtain ⟨k, rfl⟩ := Int.eq_ofNat_of_zero_le x0
        obtain ⟨j, hj⟩ := Int.eq_ofNat_of_zero_le (a := y - (w : Int)) (by omega)
        have hyj : y = (w : Int) + j := by omega
        subst hyj
        obtain ⟨cd, ca⟩ := key j k (by omega) (by omega) hx ey
        rw [sn_end (by omega)] at fx
        rw [sn_pick] at fy
        unfold Cond at cd
        simp only [ca] at cd
        simp only [← tt_of] at cd
        generalize (s[((ENs rows w h).take k).count (m : Int)]?).getD false = u at cd fx
        generalize (s[(ENs rows w h).count (m : Int) + ((PKs rows w h).take j).count (m : Int)]?).getD false = v at cd fy
        generalize ovB rows w (k : Int) ((w : Int) + (j : Int)) = o at cd
        revert cd fx fy
        cases fw <;> cases u <;> cases v <;> cases o <;> decide
      · obtain ⟨k, rfl⟩ := Int.eq_ofNat_of_zero_le y0
        obtain ⟨j, hj⟩ := Int.eq_ofNat_of_zero_le (a := x - (w : Int)) (by omega)
        have hxj : x = (w : Int) + j := by omega
        subst hxj
        have c : Cr w h (k : Int) ((w : Int) + j) := .inl ⟨by omega, by omega, by omega, by omega⟩
        rw [ovB_cr hc c]
        obtain ⟨cd, ca⟩ := key j k (by omega) (by omega) ey hx
        rw [sn_pick] at fx
        rw [sn_end (by omega)] at fy
        unfold Cond at cd
        simp only [ca] at cd
        simp only [← tt_of] at cd
        generalize (s[((ENs rows w h).take k).count (m : Int)]?).getD false = u at cd fy
        generalize (s[(ENs rows w h).count (m : Int) + ((PKs rows w h).take j).count (m : Int)]?).getD false = v at cd fx
        generalize ovB rows w (k : Int) ((w : Int) + (j : Int)) = o at cd
        revert cd fx fy
        cases fw <;> cases u <;> cases v <;> cases o <;> decide
    · exact pk_over hc c (by omega)
  have hall : ∀ x : Int, 0 ≤ x → x < ((w + h : Nat) : Int) → pk (lays rows w h) x = m → sn35 rows w h m s x = true := by
    -- the first strand of the piece is seen
    obtain ⟨x0, r0, r1, r2, r3⟩ : ∃ x0 : Int, 0 ≤ x0 ∧ x0 < ((w + h : Nat) : Int) ∧ pk (lays rows w h) x0 = m ∧ sn35 rows w h m s x0 = true := by
      by_cases ce : (ENs rows w h).count (m : Int) = 0
      · obtain ⟨j, hj⟩ : ∃ j, (posL (PKs rows w h) m (PKs rows w h).length)[0]? = some j := ⟨_, List.getElem?_eq_getElem (by rw [posL_len]; omega)⟩
        obtain ⟨j1, j2, j3⟩ := (pos_ok (l := PKs rows w h) (n := m) (Nat.le_refl _)).2 0 j hj
        rw [pks_len] at j1
        rw [pks_at j1] at j2
        have ej := Option.some.inj j2
        refine ⟨(w : Int) + j, by omega, by omega, by omega, ?_⟩
        rw [sn_pick, j3, ce]
        exact tt_of.mpr s0
      · obtain ⟨k, hk⟩ : ∃ k, (posL (ENs rows w h) m (ENs rows w h).length)[0]? = some k := ⟨_, List.getElem?_eq_getElem (by rw [posL_len]; omega)⟩
        obtain ⟨j1, j2, j3⟩ := (pos_ok (l := ENs rows w h) (n := m) (Nat.le_refl _)).2 0 k hk
        rw [en_len] at j1
        rw [en_at j1] at j2
        have ej := Option.some.inj j2
        refine ⟨(k : Int), by omega, by omega, by omega, ?_⟩
        rw [sn_end j1, j3]
        exact tt_of.mpr s0
    intro x a b c
    rcases irred hc hm hG with q | q
    · have := q x0 r0 r1 r2
      have := q x a b c
      cases fw <;> simp_all
    · have := q x0 r0 r1 r2
      have := q x a b c
      cases fw <;> simp_all
  rw [List.all_eq_true]
  intro b hb
  obtain ⟨i, hi⟩ := List.mem_iff_getElem?.mp hb
  have hil := (List.getElem?_eq_some_iff.mp hi).1
  show b = true
  by_cases ci : i < (ENs rows w h).count (m : Int)
  · obtain ⟨k, hk⟩ : ∃ k, (posL (ENs rows w h) m (ENs rows w h).length)[i]? = some k := ⟨_, List.getElem?_eq_getElem (by rw [posL_len]; exact ci)⟩
    obtain ⟨j1, j2, j3⟩ := (pos_ok (l := ENs rows w h) (n := m) (Nat.le_refl _)).2 i k hk
    rw [en_len] at j1
    rw [en_at j1] at j2
    have ej := Option.some.inj j2
    have := hall (k : Int) (by omega) (by omega) (by omega)
    rw [sn_end j1, j3, hi] at this
    exact this
  · obtain ⟨j, hj⟩ : ∃ j, (posL (PKs rows w h) m (PKs rows w h).length)[i - (ENs rows w h).count (m : Int)]? = some j := ⟨_, List.getElem?_eq_getElem (by rw [posL_len]; omega)⟩
    obtain ⟨j1, j2, j3⟩ := (pos_ok (l := PKs rows w h) (n := m) (Nat.le_refl _)).2 _ j hj
    rw [pks_len] at j1
    rw [pks_at j1] at j2
    have ej := Option.some.inj j2
    have := hall ((w : Int) + j) (by omega) (by omega) (by omega)
    rw [sn_pick, j3, show (ENs rows w h).count (m : Int) + (i - (ENs rows w h).count (m : Int)) = i by omega, hi] at this
    exact this
end
theorem tx_hd : tx "#." = [35, 46] := by decide +kernel
theorem tx_dh5 : tx ".#" = [46, 35] := by decide +kernel
theorem owned35 {l : List Int} {n : Nat} (h : ∀ x ∈ l, 0 ≤ x ∧ x < (n : Int)) {c : Int} (hc : (l.length : Int) = c) : f_law_owned l c (n : Int) = .ok true := by
  unfold f_law_owned
  rw [hc, if_neg (by simp), forF_chk (b := fun _ => true) (r := false) fun x hx => ?_]
  · rw [if_pos (List.all_eq_true.mpr fun _ _ => rfl)]; rfl
  · have := h x hx
    unfold f_law_owned_l1
    rw [decide_eq_true this.1, decide_eq_true this.2]
    rfl
theorem formed35 {P : List Tx} {cw ch : Nat} (hp : PcP P cw ch) : f_law_formed P (cw : Int) (ch : Int) = .ok true := by
  unfold f_law_formed
  rw [hp.1, if_neg (by simp), forF_chk (b := fun _ => true) (r := false) fun r hr => ?_]
  · rw [if_pos (List.all_eq_true.mpr fun _ _ => rfl)]; rfl
  · have pr := hp.2 r hr
    unfold f_law_formed_l2
    rw [pr.1, if_neg (by simp), forF_chk (b := fun _ => true) (r := false) fun x hx => ?_]
    · rw [if_pos (List.all_eq_true.mpr fun _ _ => rfl)]; rfl
    · obtain ⟨c, hc, rfl⟩ := List.mem_map.mp hx
      unfold f_law_formed_l1
      rw [tx_hash, tx_dot]
      rcases pr.2 c hc with e | e <;> subst e <;> rfl
section
variable {rows : List Tx} {w h : Nat}
theorem lies35 (hc : Cloth rows w h) : f_law_lies rows (PCs rows w h) (ENs rows w h) (PKs rows w h) = .ok true := by
  have w2 := hc.w2
  have h2 := hc.h2
  unfold f_law_lies
  rw [pks_len, range_eq, M.bok, show ((h : Int) - 0).toNat = h by omega, forF_chk (b := fun _ => true) (r := false) fun j hj => ?_]
  · rw [if_pos (List.all_eq_true.mpr fun _ _ => rfl)]; rfl
  rw [upFrom_mem] at hj
  obtain ⟨j, rfl⟩ := Int.eq_ofNat_of_zero_le hj.1
  have hj : j < h := by omega
  unfold f_law_lies_l2
  rw [en_len, range_eq, M.bok, show ((w : Int) - 0).toNat = w by omega, forF_chk (b := fun _ => true) (r := false) fun k hk => ?_]
  · rw [if_pos (List.all_eq_true.mpr fun _ _ => rfl)]; rfl
  rw [upFrom_mem] at hk
  obtain ⟨k, rfl⟩ := Int.eq_ofNat_of_zero_le hk.1
  have hk : k < w := by omega
  obtain ⟨r, c, hr, hcc, hrl, hs, es, ho⟩ := cell35 hc hj hk
  have hch := chr35 hc hj hk
  rw [es] at hch
  unfold f_law_lies_l1
  rw [getM_nat (en_at hk), M.bok, getM_nat (pks_at hj), M.bok, M.bok]
  have due : (if decide (((pk (lays rows w h) (k : Int) : Nat) : Int) = ((pk (lays rows w h) ((w : Int) + (j : Int)) : Nat) : Int)) = true then M.bind (M.ok ((pk (lays rows w h) (k : Int) : Nat) : Int)) fun name20 => M.bind (M.bind (M.bind (getM (PCs rows w h) name20) fun y39 => getM y39 ((cutL (PKs rows w h) none (some (j : Int))).count name20 : Int)) fun y41 => getS y41 ((cutL (ENs rows w h) none (some (k : Int))).count name20 : Int)) fun due30 => M.ok due30 else M.bind (M.bind (M.bind (M.bind (M.ok ((pk (lays rows w h) (k : Int) : Nat) : Int)) fun y48 => M.bind (M.ok ((pk (lays rows w h) ((w : Int) + (j : Int)) : Nat) : Int)) fun y49 => M.ok (decide (y49 < y48))) fun y50 => M.ok (bInt y50)) fun y52 => getS (tx "#.") y52) fun due43 => M.ok due43) = .ok [c] := by
    unfold chr at hch
    rw [en_at hk, pks_at hj, Option.getD_some, Option.getD_some] at hch
    by_cases q : pk (lays rows w h) (k : Int) = pk (lays rows w h) ((w : Int) + (j : Int))
    · obtain ⟨r', a1, a2⟩ := pc_cell hc hj hk q
      rw [es] at a2
      rw [if_pos (decide_eq_true (by omega)), M.bok, getM_nat (pcs_at (pk_lt hc (by omega) (by omega))), M.bok, cut_to (by omega) (by rw [pks_len]; omega), cut_to (by omega) (by rw [en_len]; omega), Int.toNat_natCast, Int.toNat_natCast, getM_nat a1, M.bok, getS_nat a2, M.bok]
    · rw [if_neg (by omega)] at hch
      rw [if_neg (by simpa using fun z => q (by omega)), M.bok, M.bok, M.bok, M.bok, tx_hd]
      by_cases c1 : pk (lays rows w h) (k : Int) < pk (lays rows w h) ((w : Int) + (j : Int))
      · rw [if_pos (by omega)] at hch
        subst hch
        rw [decide_eq_false (by omega)]
        rfl
      · rw [if_neg (by omega)] at hch
        subst hch
        rw [decide_eq_true (by omega)]
        rfl
  show M.bind (if decide (((pk (lays rows w h) (k : Int) : Nat) : Int) = ((pk (lays rows w h) ((w : Int) + (j : Int)) : Nat) : Int)) = true then _ else _) _ = _
  refine (congrArg (fun m => M.bind m _) due).trans ?_
  rw [M.bok, getM_nat hr, M.bok, getS_nat hcc, M.bok, M.bok, decide_eq_true rfl]
  rfl
/-- a strand that is alone -/
theorem lone35 (hc : Cloth rows w h) {m : Nat} {l : List Int} (hl : (lays rows w h)[m]? = some l) :
    Okm (f_law_lone (ENs rows w h) (PKs rows w h) (m : Int)) (fun r => r.1 = 2 ∨ (r.1 = 0 ∧ l = [r.2.1] ∧ r.2.1 < (w : Int)) ∨ (r.1 = 1 ∧ l = [(w : Int) + r.2.1] ∧ 0 ≤ r.2.1)) := by
  have P := lays_part hc
  have hlen := cnt35 hc hl
  have one : ∀ {x : Int}, l.length = 1 → x ∈ l → l = [x] := fun {x} h1 hx => by
    obtain ⟨y, rfl⟩ := List.length_eq_one_iff.mp h1
    rw [List.mem_singleton.mp hx]
  unfold f_law_lone
  by_cases c1 : (((ENs rows w h).count (m : Int) : Nat) : Int) + (((PKs rows w h).count (m : Int) : Nat) : Int) = 1
  · rw [if_neg (by simpa using c1)]
    have l1 : l.length = 1 := by omega
    by_cases c2 : (((ENs rows w h).count (m : Int) : Nat) : Int) = 1
    · rw [if_pos (decide_eq_true c2)]
      have hm : (m : Int) ∈ ENs rows w h := List.count_pos_iff.mp (by omega)
      have hx := List.idxOf_lt_length_iff.mpr hm
      have hg : (ENs rows w h)[(ENs rows w h).idxOf (m : Int)]? = some (m : Int) := by rw [List.getElem?_eq_getElem hx]; exact congrArg some (List.getElem_idxOf hx)
      rw [en_len] at hx
      rw [en_at hx] at hg
      have e := Option.some.inj hg
      unfold indexM
      rw [if_pos hm, M.bok]
      refine okv (.inr (.inl ⟨rfl, one l1 ?_, by show (((ENs rows w h).idxOf (m : Int) : Nat) : Int) < w; omega⟩))
      obtain ⟨l', e', hx'⟩ := P.pk_get (x := (((ENs rows w h).idxOf (m : Int) : Nat) : Int)) (by omega) (by omega)
      rw [show pk (lays rows w h) (((ENs rows w h).idxOf (m : Int) : Nat) : Int) = m by omega, hl] at e'
      cases e'; exact hx'
    · rw [if_neg (by simpa using c2)]
      have hm : (m : Int) ∈ PKs rows w h := List.count_pos_iff.mp (by omega)
      have hx := List.idxOf_lt_length_iff.mpr hm
      have hg : (PKs rows w h)[(PKs rows w h).idxOf (m : Int)]? = some (m : Int) := by rw [List.getElem?_eq_getElem hx]; exact congrArg some (List.getElem_idxOf hx)
      rw [pks_len] at hx
      rw [pks_at hx] at hg
      have e := Option.some.inj hg
      unfold indexM
      rw [if_pos hm, M.bok]
      refine okv (.inr (.inr ⟨rfl, one l1 ?_, by show 0 ≤ (((PKs rows w h).idxOf (m : Int) : Nat) : Int); omega⟩))
      obtain ⟨l', e', hx'⟩ := P.pk_get (x := (w : Int) + (((PKs rows w h).idxOf (m : Int) : Nat) : Int)) (by omega) (by omega)
      rw [show pk (lays rows w h) ((w : Int) + (((PKs rows w h).idxOf (m : Int) : Nat) : Int)) = m by omega, hl] at e'
      cases e'; exact hx'
  · rw [if_pos (by simpa using c1)]
    exact okv (.inl rfl)
theorem walk_push35 : ∀ l : List (List Tx), (∀ y ∈ l, y.length < 1000000) → ∃ l', walkF (fun z : List Tx => pushM z (tx "#")) l = .ok l' ∧ l'.length = l.length
  | [], _ => ⟨[], rfl, rfl⟩
  | y :: l, h => by
    obtain ⟨l', e, hl⟩ := walk_push35 l fun z hz => h z (List.mem_cons_of_mem _ hz)
    refine ⟨(y ++ [tx "#"]) :: l', ?_, by simp [hl]⟩
    show ((pushM y (tx "#")).bind fun y => (walkF _ l).bind fun l => .ok (y :: l)) = _
    rw [oke (ok_push (h y List.mem_cons_self)), M.bok, e, M.bok]
theorem id35 {α : Type} {xs : List α} (h : xs.length ≤ 1000000) : compM (fun x : α => M.ok (some x)) xs = .ok xs := by
  have := comp_map (h := fun x : α => M.ok (some x)) (g := fun x => x) (xs := xs) h fun x _ => rfl
  rw [this]; simp
theorem told35 (hc : Cloth rows w h) : Okm (f_law_told_again rows rows (PCs rows w h, ENs rows w h, PKs rows w h, ())) (fun r => r.1 = true) := by
  have L := laying35 hc
  have h2 := hc.h2
  have ml := L.ml
  have e2 := L.e2
  have p2 := L.p2
  have pl : ∀ y ∈ PCs rows w h, y.length < 1000000 := fun y hy => by
    obtain ⟨n, hn⟩ := List.mem_iff_getElem?.mp hy
    rw [(L.pc n y hn).1]
    have : (PKs rows w h).count (n : Int) ≤ _ := List.count_le_length
    omega
  unfold f_law_told_again
  rw [id35 (by show (PCs rows w h).length ≤ _; omega), M.bok, M.bok]
  obtain ⟨l', e, hl⟩ := walk_push35 (PCs rows w h) pl
  show Okm (M.bind (walkF (fun z : List Tx => pushM z (tx "#")) (PCs rows w h)) _) _
  rw [e, M.bok]
  refine okb (ok_push (by show l'.length < _; omega)) fun l1 _ => ?_
  refine okb (ok_push (by show (ENs rows w h).length < _; omega)) fun l2 _ => ?_
  refine okb (ok_push (by show (PKs rows w h).length < _; omega)) fun l3 _ => ?_
  rw [if_pos (decide_eq_true rfl), apart35 hc, M.bok, M.bok]
  exact okv (decide_eq_true rfl)
end
theorem cloth35 {ns : List Int} {w h layered : Int} (hl : ns.length = 63) (w1 : 1 ≤ w) (w2 : w ≤ 40) (h1 : 1 ≤ h) (h2 : h ≤ 40) (l1 : 1 ≤ layered) (l2 : layered ≤ 100) : Okm (f_law_cloth ns w h layered) (fun rows => Cloth rows w.toNat h.toNat) := by
  unfold f_law_cloth
  show Okm (M.bind (rangeM 0 h) _) _
  refine okb ok_range fun xs e => ?_
  subst e
  refine okb (ok_forR (fun i (rows : List Tx) => rows.length = i ∧ ∀ r ∈ rows, r.length = w.toNat ∧ ∀ c ∈ r, c = 35 ∨ c = 46) ⟨rfl, fun r h => nomatch h⟩ fun i rows hi ⟨a1, a2⟩ => ?_) fun rows ⟨a1, a2⟩ => okv ⟨by rw [a1]; omega, fun r hr => (a2 r hr).1, fun r hr => (a2 r hr).2, by omega, by omega, by omega, by omega⟩
  unfold f_law_cloth_l2
  show Okm (M.bind (rangeM 0 w) _) _
  refine okb ok_range fun xs e => ?_
  subst e
  refine okb (ok_forR (fun j (t : Tx) => t.length = j ∧ ∀ c ∈ t, c = 35 ∨ c = 46) ⟨by rw [tx_nil]; rfl, by rw [tx_nil]; exact fun c h => nomatch h⟩ fun j t hj ⟨b1, b2⟩ => ?_) fun t ⟨b1, b2⟩ => ?_
  · unfold f_law_cloth_l1
    refine okb (P := fun v : Int => v = 0 ∨ v = 1) (okb (P := fun _ => True) (okb (P := fun _ => True) (okmono (ok_get (by omega) (by omega)) fun _ _ => trivial) fun a _ => okmono (ok_div (by omega) (by omega)) fun _ _ => trivial) fun a _ => okv (by omega)) fun bit hb => ?_
    refine okb (P := fun v : Int => v = 0 ∨ v = 1) (okif (fun c => ?_) fun _ => okv hb) fun v hv => ?_
    · rw [decide_eq_true_eq] at c
      refine okb (P := fun _ => True) (okb (P := fun _ => True) (okb (P := fun _ => True) (okmono (ok_get (by omega) (by omega)) fun _ _ => trivial) fun _ _ => okv trivial) fun a _ => okmono (ok_mod (by omega)) fun _ _ => trivial) fun up _ => ?_
      refine okb (P := fun _ => True) (okb (P := fun _ => True) (okb (P := fun _ => True) (okmono (ok_get (by omega) (by omega)) fun _ _ => trivial) fun _ _ => okv trivial) fun a _ => okmono (ok_mod (by omega)) fun _ _ => trivial) fun low _ => ?_
      refine okif (fun _ => okv ?_) fun _ => okv hb
      show bInt (decide (up < low)) = 0 ∨ bInt (decide (up < low)) = 1
      cases decide (up < low) <;> decide
    · refine okb (P := fun t => t.length = j + 1 ∧ ∀ c ∈ t, c = 35 ∨ c = 46) ?_ fun t ht => okv ht
      refine okb (P := fun q => q = [35] ∨ q = [46]) ?_ fun q hq => okmono (ok_cat (by rcases hq with e | e <;> rw [e] <;> simp <;> omega)) fun y e => ?_
      · rw [tx_dh5]
        rcases hv with e | e <;> subst e
        · exact ⟨[46], getS_at (by decide) rfl, .inr rfl⟩
        · exact ⟨[35], getS_at (by decide) rfl, .inl rfl⟩
      · subst e
        rcases hq with e | e <;> subst e
        · exact ⟨by simp [b1], fun c hc => (List.mem_append.mp hc).elim (b2 c) fun h => .inl (List.mem_singleton.mp h)⟩
        · exact ⟨by simp [b1], fun c hc => (List.mem_append.mp hc).elim (b2 c) fun h => .inr (List.mem_singleton.mp h)⟩
  · refine okb (ok_push (by omega)) fun rows' e => okv ?_
    subst e
    refine ⟨by simp [a1], fun r hr => ?_⟩
    rcases List.mem_append.mp hr with h | h
    · exact a2 r h
    · rw [List.mem_singleton.mp h]
      exact ⟨by omega, b2⟩
theorem el_nx {β ρ γ : Type} {g : β → M γ} {r : ρ → M γ} {x : β} : M.bind (M.ok (Fl.nx x)) (Fl.el g r) = g x := by
  first | rfl
theorem l1_35 {rows : List Tx} {w h : Nat} (hc : Cloth rows w h) {m : Nat} (hml : m < (lays rows w h).length) : f_law_l1 (PCs rows w h, ENs rows w h, PKs rows w h, ()) () (m : Int) = .ok (Fl.nx ()) := by
  have L := laying35 hc
  have Pt := lays_part hc
  obtain ⟨l, hl⟩ : ∃ l, (lays rows w h)[m]? = some l := ⟨_, List.getElem?_eq_getElem hml⟩
  have hp := L.pc m _ (pcs_at hml)
  have hlen := cnt35 hc hl
  have hne : 1 ≤ l.length := List.length_pos_iff.mpr (Pt.ne l (List.mem_of_getElem? hl))
  have h1 := formed35 hp
  have h2 : f_law_hangs (PC1 rows w h m) (((ENs rows w h).count (m : Int) : Nat) : Int) = .ok true := by
    unfold f_law_hangs
    rw [hang35 hc hl, M.bok, if_pos rfl, hang35 hc hl]
  have g1 := getM_nat (pcs_at hml)
  have hz : ¬ ((((ENs rows w h).count (m : Int) : Nat) : Int) + (((PKs rows w h).count (m : Int) : Nat) : Int) = 0) := by omega
  generalize PC1 rows w h m = P at *
  generalize PCs rows w h = A at *
  generalize ENs rows w h = B at *
  generalize PKs rows w h = C at *
  unfold f_law_l1
  dsimp only
  rw [if_neg (by simpa using hz), g1, M.bok, h1, M.bok, M.bok, if_neg (by simp), M.bok, h2, M.bok, M.bok, if_neg (by simp)]
theorem l2_35 {rows : List Tx} {w h : Nat} (hc : Cloth rows w h) {m : Nat} (hml : m + 1 < (lays rows w h).length) : f_law_l2 (PCs rows w h, ENs rows w h, PKs rows w h, ()) () (m : Int) = .ok (Fl.nx ()) := by
  have I := lays_is hc
  obtain ⟨l1, hl1⟩ : ∃ l, (lays rows w h)[m]? = some l := ⟨_, List.getElem?_eq_getElem (by omega)⟩
  obtain ⟨l2, hl2⟩ : ∃ l, (lays rows w h)[m + 1]? = some l := ⟨_, List.getElem?_eq_getElem (by omega)⟩
  have ll1 := lone35 hc hl1
  have ll2 := lone35 hc hl2
  have ord := I.ord m
  rw [hl1, hl2] at ord
  rw [show ((m + 1 : Nat) : Int) = (m : Int) + 1 by omega] at ll2
  generalize PCs rows w h = A at *
  generalize ENs rows w h = B at *
  generalize PKs rows w h = C at *
  unfold f_law_l2
  refine oke ?_
  dsimp only
  refine okb ll1 fun one o1 => ?_
  refine okb ll2 fun two o2 => ?_
  refine okif (fun c => ?_) fun _ => okv rfl
  rw [Bool.and_eq_true, Bool.and_eq_true, Bool.not_eq_true', decide_eq_true_eq, decide_eq_false_iff_not, decide_eq_true_eq] at c
  exfalso
  rcases o1 with e | ⟨e, f, q⟩ | ⟨e, f, q⟩ <;> rcases o2 with e' | ⟨e', f', q'⟩ | ⟨e', f', q'⟩
  · omega
  · omega
  · omega
  · omega
  · have := ord one.2.1 two.2.1 (by rw [f]) (by rw [f']) (by constructor <;> intro <;> assumption)
    omega
  · omega
  · omega
  · omega
  · have := ord ((w : Int) + one.2.1) ((w : Int) + two.2.1) (by rw [f]) (by rw [f']) (by constructor <;> intro <;> omega)
    omega
theorem all_tt {l : List Int} : l.all (fun _ => true) = true := List.all_eq_true.mpr fun _ _ => rfl
theorem rest35 {rows : List Tx} {w h : Nat} (hc : Cloth rows w h) : Okm (M.bind (f_taken_apart rows) fun found61 => if ((!true) || ((!decide ((3 : Int) = (3 : Int))) || (!decide (rows = rows)))) = true then M.ok false else if (!true) = true then M.ok false else M.bind (M.bind (M.bind (f_law_owned found61.2.1 (w : Int) (found61.1.length : Int)) fun y92 => M.ok (!y92)) fun c105 => if c105 = true then M.ok true else M.bind (f_law_owned found61.2.2.1 (h : Int) (found61.1.length : Int)) fun y103 => M.ok (!y103)) fun c227 => if c227 = true then M.ok false else M.bind (rangeM 0 (found61.1.length : Int)) fun xs151 => M.bind (forF (f_law_l1 found61) () xs151) (Fl.el (fun (s152 : Unit) => M.bind (M.bind (f_law_lies rows found61.1 found61.2.1 found61.2.2.1) fun y165 => M.ok (!y165)) fun c225 => if c225 = true then M.ok false else M.bind (rangeM 0 ((found61.1.length : Int) - (1 : Int))) fun xs212 => M.bind (forF (f_law_l2 found61) () xs212) (Fl.el (fun (s213 : Unit) => M.bind (f_law_told_again rows rows found61) fun x223 => M.ok x223.1) fun r224 => M.ok r224)) fun r226 => M.ok r226)) (· = true) := by
  have L := laying35 hc
  have ml := L.ml
  have o1 := owned35 L.en (c := (w : Int)) (by rw [en_len])
  have o2 := owned35 L.pn (c := (h : Int)) (by rw [pks_len])
  have ly := lies35 hc
  have td := told35 hc
  have pl : (PCs rows w h).length = (lays rows w h).length := pcs_len
  have k1 : ∀ m : Int, m ∈ upFrom 0 (PCs rows w h).length → f_law_l1 (PCs rows w h, ENs rows w h, PKs rows w h, ()) () m = .ok (if (fun _ : Int => true) m = true then Fl.nx () else Fl.rt false) := fun m hm => by
    rw [upFrom_mem] at hm
    obtain ⟨m, rfl⟩ := Int.eq_ofNat_of_zero_le hm.1
    rw [if_pos rfl]
    exact l1_35 hc (by omega)
  have k2 : ∀ m : Int, m ∈ upFrom 0 ((PCs rows w h).length - 1) → f_law_l2 (PCs rows w h, ENs rows w h, PKs rows w h, ()) () m = .ok (if (fun _ : Int => true) m = true then Fl.nx () else Fl.rt false) := fun m hm => by
    rw [upFrom_mem] at hm
    obtain ⟨m, rfl⟩ := Int.eq_ofNat_of_zero_le hm.1
    rw [if_pos rfl]
    exact l2_35 hc (by omega)
  rw [apart35 hc, M.bok]
  generalize PCs rows w h = A at *
  generalize ENs rows w h = B at *
  generalize PKs rows w h = C at *
  dsimp only
  rw [if_neg (by simp), if_neg (by simp), o1, M.bok, M.bok, if_neg (by simp), o2, M.bok, M.bok, if_neg (by simp), range_eq, M.bok, show ((A.length : Int) - 0).toNat = A.length by omega, forF_chk k1, all_tt, if_pos rfl, el_nx]
  rw [ly, M.bok, M.bok, if_neg (by simp), range_eq, M.bok, show ((A.length : Int) - 1 - 0).toNat = A.length - 1 by omega, forF_chk k2, all_tt, if_pos rfl, el_nx]
  exact okb td fun r hr => okv hr
theorem law_math : ∀ ns : List Int, ns.length ≤ 63 → c_law (ns, ()) = .ok true := by
  intro script hl
  show f_law script = _
  refine oke ?_
  unfold f_law
  refine okb (numbers_ok hl (by omega) (by omega)) fun ns ⟨n1, n2⟩ => ?_
  have hns : ns.length = 63 := by rw [n1]; rfl
  have g : ∀ k : Int, 0 ≤ k → k < 63 → Okm (getM ns k) (fun v => 0 ≤ v) := fun k h0 h1 => okmono (ok_get h0 (by omega)) fun v hv => (n2 v (List.mem_of_getElem? hv)).1
  refine okb (P := fun _ => True) (okb (P := fun _ => True) (okb (g 3 (by omega) (by omega)) fun v _ => okv trivial) fun v _ => okv trivial) fun c _ => ?_
  refine okb (P := fun m : Int => 1 ≤ m ∧ m ≤ 40) (okif (fun _ => okv ⟨by omega, by omega⟩) fun _ => okv ⟨by show (1 : Int) ≤ 6; omega, by show (6 : Int) ≤ 40; omega⟩) fun most ⟨m1, m2⟩ => ?_
  refine okb (P := fun v : Int => 1 ≤ v ∧ v ≤ 100) (okb (P := fun v : Int => 0 ≤ v ∧ v < 3) (okb (g 0 (by omega) (by omega)) fun v _ => okv ⟨by omega, by omega⟩) fun v hv => okv ⟨by omega, by omega⟩) fun hts ⟨t1, t2⟩ => ?_
  refine okb (P := fun _ => True) (okb (P := fun _ => True) (okb (g 3 (by omega) (by omega)) fun v _ => okv trivial) fun v _ => okv trivial) fun c _ => ?_
  refine okb (P := fun s : Int × Int => (1 ≤ s.1 ∧ s.1 ≤ 40) ∧ 1 ≤ s.2 ∧ s.2 ≤ 100) (okif (fun _ => okv ⟨⟨by show (1 : Int) ≤ 40; omega, by show (40 : Int) ≤ 40; omega⟩, by show (1 : Int) ≤ 12; omega, by show (12 : Int) ≤ 100; omega⟩) fun _ => okv ⟨⟨m1, m2⟩, t1, t2⟩) fun s ⟨⟨s1, s2⟩, s3, s4⟩ => ?_
  have sz : ∀ k : Int, 0 ≤ k → k < 63 → Okm (M.bind (M.bind (getM ns k) fun y => modM y s.1) fun y => M.ok ((1 : Int) + y)) (fun v => 1 ≤ v ∧ v ≤ 40) := fun k h0 h1 => by
    refine okb (P := fun v : Int => 0 ≤ v ∧ v < 40) (okb (g k h0 h1) fun v hv => ?_) fun v hv => okv ⟨by omega, by omega⟩
    have q0 := Int.emod_nonneg v (show s.1 ≠ 0 by omega)
    have q1 := Int.emod_lt_of_pos v (show 0 < s.1 by omega)
    exact okmono (ok_mod (by omega)) fun y e => by subst e; exact ⟨q0, by omega⟩
  refine okb (sz 1 (by omega) (by omega)) fun wide ⟨w1, w2⟩ => ?_
  refine okb (sz 2 (by omega) (by omega)) fun high ⟨h1, h2⟩ => ?_
  refine okb (cloth35 hns w1 w2 h1 h2 s3 s4) fun rows hc => ?_
  have := rest35 hc
  rw [Int.toNat_of_nonneg (by omega), Int.toNat_of_nonneg (by omega)] at this
  exact this
theorem facts_of {K : PySem.W.Frag} {h : Heap} {mg : Str → Option Value} {P : Program} {w : World} {base : Heap} (X : K.In h) (G : h.Ns mainGlobals mg) (c : He.SaysD fas dds K) (TB : LamX.TabB base mg (He.cT K ("by_count", none)).1 (He.cT K ("by_count", none)).2) : Facts ⟨P, w, K, mg, base, fun c => He.ga K (ecName c), some (He.cT K ("by_count", none)).2⟩ where
  g_all := He.free_ok X G (c.fact 19 (f := .free "all") rfl)
  g_bool := He.free_ok X G (c.fact 20 (f := .free "bool") rfl)
  g_int := He.free_ok X G (c.fact 21 (f := .free "int") rfl)
  g_isinstance := He.free_ok X G (c.fact 22 (f := .free "isinstance") rfl)
  g_len := He.free_ok X G (c.fact 23 (f := .free "len") rfl)
  g_list := He.free_ok X G (c.fact 24 (f := .free "list") rfl)
  g_range := He.free_ok X G (c.fact 25 (f := .free "range") rfl)
  g_sorted := He.free_ok X G (c.fact 26 (f := .free "sorted") rfl)
  g_str := He.free_ok X G (c.fact 27 (f := .free "str") rfl)
  g_tuple := He.free_ok X G (c.fact 28 (f := .free "tuple") rfl)
  c_MOST_STRANDS := He.int_ok X G (c.fact 29 (f := .int "MOST_STRANDS" 40) rfl)
  x_NoCloth := exF X G rfl (c.fact 30 (f := .glo "NoCloth") rfl) (c.fact 31 (f := .exc "NoCloth") rfl)
  d__law_numbers := by
    obtain ⟨fd, F⟩ := c.def_ 0 (d := ⟨("_law_numbers", none), "_law_numbers", "_law_numbers", defArgs (topS 19), defBody (topS 19), defScope (topS 19), [], []⟩) rfl
    exact ⟨_, fd, F, He.glo_ok X G (c.fact 0 (f := .glo "_law_numbers") rfl)⟩
  d__law_cloth := by
    obtain ⟨fd, F⟩ := c.def_ 1 (d := ⟨("_law_cloth", none), "_law_cloth", "_law_cloth", defArgs (topS 20), defBody (topS 20), defScope (topS 20), [], []⟩) rfl
    exact ⟨_, fd, F, He.glo_ok X G (c.fact 1 (f := .glo "_law_cloth") rfl)⟩
  d_measured := by
    obtain ⟨fd, F⟩ := c.def_ 2 (d := ⟨("measured", none), "measured", "measured", defArgs (topS 6), defBody (topS 6), defScope (topS 6), [], []⟩) rfl
    exact ⟨_, fd, F, He.glo_ok X G (c.fact 2 (f := .glo "measured") rfl)⟩
  d_scores_of := by
    obtain ⟨fd, F⟩ := c.def_ 3 (d := ⟨("scores_of", none), "scores_of", "scores_of", defArgs (topS 8), defBody (topS 8), defScope (topS 8), [], []⟩) rfl
    exact ⟨_, fd, F, He.glo_ok X G (c.fact 3 (f := .glo "scores_of") rfl)⟩
  d_by_count := by
    obtain ⟨fd, F⟩ := c.def_ 4 (d := ⟨("by_count", none), "by_count", "by_count", defArgs (topS 10), defBody (topS 10), defScope (topS 10), [], []⟩) rfl
    exact ⟨_, fd, F, He.glo_ok X G (c.fact 4 (f := .glo "by_count") rfl), _, _, code_of (q := ("by_count", none)) F, rfl, TB⟩
  d_running_sums := by
    obtain ⟨fd, F⟩ := c.def_ 5 (d := ⟨("running_sums", none), "running_sums", "running_sums", defArgs (topS 11), defBody (topS 11), defScope (topS 11), [], []⟩) rfl
    exact ⟨_, fd, F, He.glo_ok X G (c.fact 5 (f := .glo "running_sums") rfl)⟩
  d_tops_of := by
    obtain ⟨fd, F⟩ := c.def_ 6 (d := ⟨("tops_of", none), "tops_of", "tops_of", defArgs (topS 12), defBody (topS 12), defScope (topS 12), [], []⟩) rfl
    exact ⟨_, fd, F, He.glo_ok X G (c.fact 6 (f := .glo "tops_of") rfl)⟩
  d_layers_of := by
    obtain ⟨fd, F⟩ := c.def_ 7 (d := ⟨("layers_of", none), "layers_of", "layers_of", defArgs (topS 13), defBody (topS 13), defScope (topS 13), [], []⟩) rfl
    exact ⟨_, fd, F, He.glo_ok X G (c.fact 7 (f := .glo "layers_of") rfl)⟩
  d_row_cut := by
    obtain ⟨fd, F⟩ := c.def_ 8 (d := ⟨("row_cut", none), "row_cut", "row_cut", defArgs (topS 15), defBody (topS 15), defScope (topS 15), [], []⟩) rfl
    exact ⟨_, fd, F, He.glo_ok X G (c.fact 8 (f := .glo "row_cut") rfl)⟩
  d_cut_out := by
    obtain ⟨fd, F⟩ := c.def_ 9 (d := ⟨("cut_out", none), "cut_out", "cut_out", defArgs (topS 16), defBody (topS 16), defScope (topS 16), [], []⟩) rfl
    exact ⟨_, fd, F, He.glo_ok X G (c.fact 9 (f := .glo "cut_out") rfl)⟩
  d_taken_apart := by
    obtain ⟨fd, F⟩ := c.def_ 10 (d := ⟨("taken_apart", none), "taken_apart", "taken_apart", defArgs (topS 17), defBody (topS 17), defScope (topS 17), [], []⟩) rfl
    exact ⟨_, fd, F, He.glo_ok X G (c.fact 10 (f := .glo "taken_apart") rfl)⟩
  d__law_owned := by
    obtain ⟨fd, F⟩ := c.def_ 11 (d := ⟨("_law_owned", none), "_law_owned", "_law_owned", defArgs (topS 23), defBody (topS 23), defScope (topS 23), [], []⟩) rfl
    exact ⟨_, fd, F, He.glo_ok X G (c.fact 11 (f := .glo "_law_owned") rfl)⟩
  d__law_formed := by
    obtain ⟨fd, F⟩ := c.def_ 12 (d := ⟨("_law_formed", none), "_law_formed", "_law_formed", defArgs (topS 24), defBody (topS 24), defScope (topS 24), [], []⟩) rfl
    exact ⟨_, fd, F, He.glo_ok X G (c.fact 12 (f := .glo "_law_formed") rfl)⟩
  d__law_reached := by
    obtain ⟨fd, F⟩ := c.def_ 13 (d := ⟨("_law_reached", none), "_law_reached", "_law_reached", defArgs (topS 21), defBody (topS 21), defScope (topS 21), [], []⟩) rfl
    exact ⟨_, fd, F, He.glo_ok X G (c.fact 13 (f := .glo "_law_reached") rfl)⟩
  d__law_hangs := by
    obtain ⟨fd, F⟩ := c.def_ 14 (d := ⟨("_law_hangs", none), "_law_hangs", "_law_hangs", defArgs (topS 22), defBody (topS 22), defScope (topS 22), [], []⟩) rfl
    exact ⟨_, fd, F, He.glo_ok X G (c.fact 14 (f := .glo "_law_hangs") rfl)⟩
  d__law_lies := by
    obtain ⟨fd, F⟩ := c.def_ 15 (d := ⟨("_law_lies", none), "_law_lies", "_law_lies", defArgs (topS 25), defBody (topS 25), defScope (topS 25), [], []⟩) rfl
    exact ⟨_, fd, F, He.glo_ok X G (c.fact 15 (f := .glo "_law_lies") rfl)⟩
  d__law_lone := by
    obtain ⟨fd, F⟩ := c.def_ 16 (d := ⟨("_law_lone", none), "_law_lone", "_law_lone", defArgs (topS 26), defBody (topS 26), defScope (topS 26), [], []⟩) rfl
    exact ⟨_, fd, F, He.glo_ok X G (c.fact 16 (f := .glo "_law_lone") rfl)⟩
  d__law_told_again := by
    obtain ⟨fd, F⟩ := c.def_ 17 (d := ⟨("_law_told_again", none), "_law_told_again", "_law_told_again", defArgs (topS 27), defBody (topS 27), defScope (topS 27), [], []⟩) rfl
    exact ⟨_, fd, F, He.glo_ok X G (c.fact 17 (f := .glo "_law_told_again") rfl)⟩
  d_law := by
    obtain ⟨fd, F⟩ := c.def_ 18 (d := ⟨("law", none), "law", "law", defArgs (topS 28), defBody (topS 28), defScope (topS 28), [], []⟩) rfl
    exact ⟨_, fd, F, He.glo_ok X G (c.fact 18 (f := .glo "law") rfl)⟩
abbrev lawD : He.DefD := ⟨("law", none), "law", "law", defArgs (topS 28), defBody (topS 28), defScope (topS 28), [], []⟩
end Hd
open PySem PySem.W PySem.Calls PyProof.Rows
set_option maxHeartbeats 0
theorem PySem.Challenge.cw_heddle_k35_taken_apart_holds : PySem.Challenge.rw_heddle_k35_taken_apart.Holds := by
  w_on; o_law
  refine HandSHeadRun.head_any (r := OpenLaw.row PySem.Challenge.rw_heddle_k35_taken_apart) (q := view (OpenLaw.row PySem.Challenge.rw_heddle_k35_taken_apart).prog [28]) (H := Hd.hk) (ob := Hd.ob) (M := 3000) (loose := Hd.loose) (d := HandSHeadRun.topDef (OpenLaw.row PySem.Challenge.rw_heddle_k35_taken_apart).prog 28) (kwd := []) Hd.ob_eq
    (by kernel_rfl) (fun s => by kernel_rfl) Hd.run (by kernel_rfl) (by kernel_rfl) (by kernel_rfl) (by rfl) (by first | assumption | decide +kernel) (by decide +kernel) ⟨rfl, rfl, rfl, rfl, rfl, by decide +kernel⟩ ?hw ?hc
  case hw => w_witness2
  case hc =>
    refine Hd.law_endT (l := PySem.Challenge.rw_heddle_k35_taken_apart) (k := 7) (cl := Hd.c_law) rfl (by kernel_rfl) ⟨rfl, by decide, by decide⟩ ?F Hd.law_math
    intro w mg fa h Y G hmg0
    obtain ⟨K, KX, cX⟩ := Y
    have c := cX.t.d
    have hmg : mg ("law" : PySem.Str) = some (.ref fa) := by
      have e : (HandSHeadRun.topDef (OpenLaw.row PySem.Challenge.rw_heddle_k35_taken_apart).prog 28).name = ("law" : PySem.Str) := by kernel_rfl
      rw [← e]
      exact hmg0
    obtain ⟨fd, hF⟩ := c.def_ 18 (d := Hd.lawD) rfl
    have hm := He.glo_ok KX G (c.fact 18 (f := .glo "law") rfl)
    have e := hm.symm.trans hmg
    cases e
    have mem : (("by_count", none) : He.Defn) ∈ ([("by_count", none)] : List He.Defn) := List.mem_singleton_self _
    exact ⟨K, fd, fun c => He.ga K (Hd.ecName c), (He.cT K ("by_count", none)).1, (He.cT K ("by_count", none)).2, KX, cX.empty _ mem, cX.out _ mem, PySem.W.codeHd_of_K KX (cX.hd _ mem), fun s v => Hd.L2_bindsA hF s v, fun base TB => Hd.fnok_law (Hd.facts_of KX G c TB) hF⟩
