import PyProof.Rows.All
import Wide.All
import OpenK.AllK
import Wide.FinOn
import HandS.Base
import HandS.Call
import HandS.List
import HandS.Comp
import HandS.Ends
import HandS.Dict
import HandS.Iter
import HandS.Text
import HandS.Words
import HandS.WordsList
import HandS.Exc
import HandS.TryOnly
import HandS.ExcOwn
import HandS.Defaults
import HandS.Lambda
import HandS.Flow
import HandS.RaiseOp
import HandS.TryElse
import HandS.Wide
import HandS.StrMore
import HandS.StrSplit
import HandS.WordsExc
import HandS.Strs
import HandS.IsInst
import HandS.SetFor
import KE.KStateDown
import HandS.Head0
import HandS.Head1
import HandS.Head2
import HandS.HeadEnd
import HandS.HeadHook1
import HandS.HeadHook2
import PyProof.Rows.RegReprOcc
import PyProof.StrOps2
import HandS.ExcIs
import HandS.TryMany
import KE.KExcMore
import HandS.Deep
import PyProof.Draws
import PyProof.EnumMake
import PyProof.LongRange
import KE.GoesZip
import KE.GoesMore
import HandS.RevTup
import HandS.Small
import HandS.Conv
import HandS.Rev
import KE.SortKeyHeap
import HandS.Nested
import HandS.Sort
import HandS.HeadWalk
import HandS.HeadHook4
import HandS.More
import HandS.WideBits
import PyProof.ListIndexNeg
import KE.DataCmp
import KE.SortData
import HandS.Codes
import KE.KDictDisplayH
import HandS.ClsMeth
import HandS.NoneIn
import KE.KWords
import HandS.HotCalls
import PySem.Challenge.RW_heddle_k16_whole_loom
set_option Elab.async false
set_option linter.all false
set_option maxRecDepth 100000
set_option maxHeartbeats 0
set_option exponentiation.threshold 20000
set_option synthInstance.maxSize 100000
set_option synthInstance.maxHeartbeats 0
noncomputable section
namespace Hd
open PySem PySem.Spec L2
/-- the classes of refusals -/
inductive Ec where
  | weave | noRow | tooLarge | noCloth | noDraft | noStrand | noDeed | noLaying | noShuttle | noColour | noBlock | noPattern | unknown | twice
  deriving DecidableEq, Repr
/-- what a piece of the program comes to: a value, a refusal, or nothing that is promised here -/
inductive M (α : Type) where
  | ok (a : α)
  | ex (c : Ec)
  | no
def M.bind {α β : Type} : M α → (α → M β) → M β
  | .ok a, f => f a
  | .ex c, _ => .ex c
  | .no, _ => .no
/-- where nothing can be let out -/
def M.nox {α : Type} : M α → M α
  | .ok a => .ok a
  | _ => .no
@[simp] theorem M.bind_ok {α β : Type} (a : α) (f : α → M β) : M.bind (.ok a) f = f a := rfl
@[simp] theorem M.bind_ex {α β : Type} (c : Ec) (f : α → M β) : M.bind (.ex c) f = .ex c := rfl
@[simp] theorem M.bind_no {α β : Type} (f : α → M β) : M.bind .no f = .no := rfl
@[simp] theorem M.nox_ok {α : Type} (a : α) : M.nox (.ok a) = .ok a := rfl
/-- all but the tables of code objects -/
def nt : HO → Bool
  | .tbl _ => false
  | _ => true
def cl (H : Hp) : Hp := fun a => match H a with
  | some (.tbl _) => none
  | x => x
theorem cl_of {H : Hp} {a : Addr} {o : HO} (h : H a = some o) (n : nt o = true := by rfl) : cl H a = some o := by
  unfold cl; rw [h]; cases o <;> first | rfl | cases n
theorem cl_raw {H : Hp} {a : Addr} {o : HO} (h : cl H a = some o) : H a = some o := by
  unfold cl at h; split at h <;> first | exact h | cases h
theorem cl_nt {H : Hp} {a : Addr} {o : HO} (h : cl H a = some o) : nt o = true := by
  unfold cl at h
  split at h
  · cases h
  · rename_i x hx
    cases o <;> first | rfl | exact absurd h (hx _)
theorem cl_none {H : Hp} {a : Addr} (h : H a = none) : cl H a = none := by unfold cl; rw [h]
theorem cl_upd_ne {H : Hp} {a q : Addr} {o : HO} (h : a ≠ q) : cl (upd H q o) a = cl H a := by unfold cl; rw [upd_ne h]
/-- the one lambda of the program: its name -/
def lamQ : Str := "by_count.<locals>.<lambda>"
/-- a later heap: tables may have grown -/
structure Same (H H' : Hp) : Prop where
  keep : ∀ a o, H a = some o → nt o = true → H' a = some o
  fr : ∀ a, H' a = none → H a = none
  tab : ∀ P, LamX.TabS H P lamQ → LamX.TabS H' P lamQ
theorem Same.of {H H' : Hp} (h : L2.Same H H') : Same H H' := ⟨fun a o e _ => h a o e, fun a e => h.free e, fun P t => t.ext h⟩
theorem Same.refl (H : Hp) : Same H H := .of (L2.Same.refl H)
theorem Same.trans {H H1 H2 : Hp} (a : Same H H1) (b : Same H1 H2) : Same H H2 := ⟨fun x o e n => b.keep x o (a.keep x o e n) n, fun x e => a.fr x (b.fr x e), fun P t => b.tab P (a.tab P t)⟩
theorem Same.free {H H' : Hp} (s : Same H H') {l : Addr} (h : H' l = none) : H l = none := s.fr l h
theorem Same.cl {H H' : Hp} (s : Same H H') : L2.Same (cl H) (cl H') := fun a o e => cl_of (s.keep a o (cl_raw e) (cl_nt e)) (cl_nt e)
/-- a thing of one's own is written -/
theorem Same.wr {H0 H : Hp} {q : Addr} {o u : HO} (s : Same H0 H) (n0 : H0 q = none) (hq : H q = some u) (hu : ∀ φ, u ≠ .ext φ) (hn : nt u = true) : Same H0 (upd H q o) := by
  refine ⟨fun a o' e n => ?_, fun a e => ?_, fun P t => ?_⟩
  · rw [upd_ne (ne_of_none e n0)]; exact s.keep a o' e n
  · by_cases z : a = q
    · rw [z, upd_same] at e; cases e
    · rw [upd_ne z] at e; exact s.fr a e
  · obtain ⟨ps, h1, h2, h3⟩ := s.tab P t
    have np : P ≠ q := fun z => by rw [z, hq] at h1; cases h1; cases hn
    refine ⟨ps, by rw [upd_ne np]; exact h1, h2, fun pos cv hc => ?_⟩
    obtain ⟨c, e1, e2⟩ := h3 pos cv hc
    have nc : c ≠ q := fun z => by rw [z, hq] at e2; exact hu _ (Option.some.inj e2)
    exact ⟨c, e1, by rw [upd_ne nc]; exact e2⟩
/-- what may be read -/
abbrev RdR := Addr → HO → Prop
/-- data of a kind, and how a value of the program stands for it -/
structure Ty (α : Type) where
  rep : α → V → RdR → Prop
  mono : ∀ {d v} {R R' : RdR}, rep d v R → (∀ a o, R a o → R' a o) → rep d v R'
inductive Reps {α : Type} (T : Ty α) (R : RdR) : List α → List V → Prop where
  | nil : Reps T R [] []
  | cons {d ds v vs} : T.rep d v R → Reps T R ds vs → Reps T R (d :: ds) (v :: vs)
section
variable {α : Type} {T : Ty α} {R R' : RdR} {ds es : List α} {vs ws : List V}
theorem Reps.mono (h : Reps T R ds vs) (s : ∀ a o, R a o → R' a o) : Reps T R' ds vs := by
  induction h with
  | nil => exact .nil
  | cons r _ ih => exact .cons (T.mono r s) ih
theorem Reps.length (h : Reps T R ds vs) : ds.length = vs.length := by
  induction h with
  | nil => rfl
  | cons _ _ ih => simp [ih]
theorem Reps.append (h : Reps T R ds vs) (k : Reps T R es ws) : Reps T R (ds ++ es) (vs ++ ws) := by
  induction h with
  | nil => exact k
  | cons r _ ih => exact .cons r ih
theorem Reps.get (h : Reps T R ds vs) : ∀ {i : Nat} {d : α}, ds[i]? = some d → ∃ v, vs[i]? = some v ∧ T.rep d v R := by
  induction h with
  | nil => intro i d e; simp at e
  | cons r _ ih =>
    intro i d e
    cases i with
    | zero => simp at e; subst e; exact ⟨_, rfl, r⟩
    | succ i => obtain ⟨v, e1, r1⟩ := ih (i := i) (d := d) (by simpa using e); exact ⟨v, by simpa using e1, r1⟩
theorem Reps.set {d : α} {v : V} (h : Reps T R ds vs) (r : T.rep d v R) : ∀ (i : Nat), Reps T R (ds.set i d) (vs.set i v) := by
  induction h with
  | nil => intro i; exact .nil
  | cons q t ih =>
    intro i
    cases i with
    | zero => exact .cons r t
    | succ i => exact .cons q (ih i)
theorem Reps.take (h : Reps T R ds vs) : ∀ n, Reps T R (ds.take n) (vs.take n) := by
  induction h with
  | nil => intro n; simp; exact .nil
  | cons r _ ih => intro n; cases n with
    | zero => exact .nil
    | succ n => exact .cons r (ih n)
theorem Reps.drop (h : Reps T R ds vs) : ∀ n, Reps T R (ds.drop n) (vs.drop n) := by
  induction h with
  | nil => intro n; simp; exact .nil
  | cons r t ih => intro n; cases n with
    | zero => exact .cons r t
    | succ n => exact ih n
theorem Reps.dropLast (h : Reps T R ds vs) : Reps T R ds.dropLast vs.dropLast := by
  rw [List.dropLast_eq_take, List.dropLast_eq_take, h.length]; exact h.take _
end
def tInt : Ty Int := ⟨fun n v _ => v = .int n, fun h _ => h⟩
def tBool : Ty Bool := ⟨fun b v _ => v = .bl b, fun h _ => h⟩
/-- a text, as its signs -/
abbrev Tx := List Nat
def toS (x : Tx) : Str := ⟨x.toArray⟩
/-- short enough, of signs -/
def OkTx (x : Tx) : Prop := x.length ≤ sizeLine ∧ ∀ c ∈ x, c < 0x110000
def tStr : Ty Tx := ⟨fun x v _ => v = .str (toS x) ∧ OkTx x, fun h _ => h⟩
def tNone : Ty Unit := ⟨fun _ v _ => v = .non, fun h _ => h⟩
def tOpt {α : Type} (T : Ty α) : Ty (Option α) := ⟨fun d v R => match d with | none => v = .non | some d => T.rep d v R ∧ v ≠ .non, fun {d v R R'} h s => by
  cases d with
  | none => exact h
  | some d => exact ⟨T.mono h.1 s, h.2⟩⟩
def tList {α : Type} (T : Ty α) : Ty (List α) := ⟨fun ds v R => ∃ a vs, v = .ref a ∧ R a (.lst vs) ∧ Reps T R ds vs, fun ⟨a, vs, e, r, h⟩ s => ⟨a, vs, e, s _ _ r, h.mono s⟩⟩
/-- a tuple of any length -/
def tTupL {α : Type} (T : Ty α) : Ty (List α) := ⟨fun ds v R => ∃ a vs, v = .ref a ∧ R a (.tup vs) ∧ Reps T R ds vs, fun ⟨a, vs, e, r, h⟩ s => ⟨a, vs, e, s _ _ r, h.mono s⟩⟩
/-- the written items of a list, an argument list, a tuple -/
structure Ar (δ : Type) where
  rep : δ → List V → RdR → Prop
  mono : ∀ {d vs} {R R' : RdR}, rep d vs R → (∀ a o, R a o → R' a o) → rep d vs R'
def aNil : Ar Unit := ⟨fun _ vs _ => vs = [], fun h _ => h⟩
def aCons {α β : Type} (T : Ty α) (A : Ar β) : Ar (α × β) := ⟨fun d vs R => ∃ v r, vs = v :: r ∧ T.rep d.1 v R ∧ A.rep d.2 r R, fun ⟨v, r, e, h1, h2⟩ s => ⟨v, r, e, T.mono h1 s, A.mono h2 s⟩⟩
/-- a tuple of written items -/
def tTup {δ : Type} (A : Ar δ) : Ty δ := ⟨fun d v R => ∃ a vs, v = .ref a ∧ R a (.tup vs) ∧ A.rep d vs R, fun ⟨a, vs, e, r, h⟩ s => ⟨a, vs, e, s _ _ r, A.mono h s⟩⟩
/-- all items of one kind -/
def aAll {α : Type} (T : Ty α) : Ar (List α) := ⟨fun ds vs R => Reps T R ds vs, fun h s => h.mono s⟩
/-- a tuple of the written part -/
def KObj (K : PySem.W.Frag) (a : Addr) : HO → Prop
  | .tup xs => ∃ (o : Obj) (its : Array Value) (n : Nat), K.lookup a = some o ∧ o.cls = .type "tuple" ∧ o.data = .seq its n ∧ its.size ≤ sizeLine ∧ Vals xs its.toList
  | _ => False
/-- a def's frame: the heap it began with; the callers' own things, which its arguments don't reach -/
structure Fm where
  K : PySem.W.Frag
  H0 : Hp
  z : Addr → Prop
/-- how new a thing is: sh: it may be shared; f0: made since the def began; fx: made since the expression began -/
inductive Md where | sh | f0 | fx
/-- a value of the table of a code object, as a value of the program (used for marks only) -/
def decV : Value → V
  | .int i _ => .int i
  | .str x _ => .str x
  | _ => .non
/-- how else a thing may be there that is read as o: frozen; a tuple of ints and texts that is no written one is read by a mark too -/
def Alt (o u : HO) : Prop := (nt o = true ∧ ∃ f, u = .frz f o) ∨ ∃ ps : Array Value, o = .tbl ps ∧ u = .tup (ps.toList.map decV)
def Rd (H : Hp) (a : Addr) (o : HO) : Prop := H a = some o ∨ ∃ f : {u : HO // Alt o u}, H a = some f.1
def RD (fm : Fm) (own : List Addr) (H : Hp) : RdR := fun a o => (Rd (cl H) a o ∧ a ∉ own ∧ ¬ fm.z a) ∨ KObj fm.K a o
/-- .. at H' behind an expression that began at H -/
def RX (fm : Fm) (own : List Addr) (H H' : Hp) : Md → RdR
  | .sh => RD fm own H'
  | .f0 => fun a o => cl H' a = some o ∧ a ∉ own ∧ ¬ fm.z a ∧ fm.H0 a = none
  | .fx => fun a o => cl H' a = some o ∧ a ∉ own ∧ ¬ fm.z a ∧ fm.H0 a = none ∧ H a = none
theorem Rd.clo {H : Hp} {a : Addr} {o : HO} (r : L2.Rd H a o) (n : nt o = true := by rfl) : Rd (cl H) a o := r.imp (fun h => cl_of h n) fun ⟨f, h⟩ => ⟨⟨.frz f o, .inl ⟨n, f, rfl⟩⟩, cl_of h⟩
theorem Rd.raw {H : Hp} {a : Addr} {o : HO} (r : Rd (cl H) a o) (n : nt o = true := by rfl) : L2.Rd H a o := by
  rcases r with r | ⟨⟨u, x⟩, r⟩
  · exact .inl (cl_raw r)
  · rcases x with ⟨_, f, e⟩ | ⟨ps, e, _⟩
    · exact .inr ⟨f, by rw [← e]; exact cl_raw r⟩
    · rw [e] at n; cases n
/-- the mark of a tuple of ints and texts -/
theorem Rd.mark {H : Hp} {a : Addr} {ps : Array Value} (r : Rd (cl H) a (.tbl ps)) : H a = some (.tup (ps.toList.map decV)) := by
  rcases r with r | ⟨⟨u, x⟩, r⟩
  · cases cl_nt r
  · rcases x with ⟨n, f, e⟩ | ⟨ps', e, e'⟩
    · cases n
    · cases e; rw [← e']; exact cl_raw r
theorem Rd.same {H H' : Hp} {a : Addr} {o : HO} (s : Same H H') (r : Rd (cl H) a o) : Rd (cl H') a o := by
  rcases r with r | ⟨f, r⟩
  · exact .inl (s.cl _ _ r)
  · exact .inr ⟨f, s.cl _ _ r⟩
theorem Rd.some {H : Hp} {a : Addr} {o : HO} (r : Rd H a o) : H a ≠ none := by
  rcases r with r | ⟨f, r⟩ <;> rw [r] <;> exact fun e => by cases e
theorem Rd.there {H : Hp} {a : Addr} {o : HO} (r : Rd (cl H) a o) : H a ≠ none := fun e => Rd.some r (cl_none e)
theorem RD.same {fm : Fm} {own : List Addr} {H H' : Hp} (s : Same H H') : ∀ a o, RD fm own H a o → RD fm own H' a o := fun _ _ r => r.imp (fun ⟨r, h⟩ => ⟨Rd.same s r, h⟩) id
theorem RX.same {fm : Fm} {own : List Addr} {H H1 H2 : Hp} {md : Md} (s : Same H1 H2) : ∀ a o, RX fm own H H1 md a o → RX fm own H H2 md a o := fun a o r => by
  cases md with
  | sh => exact RD.same s a o r
  | f0 => exact ⟨s.cl _ _ r.1, r.2⟩
  | fx => exact ⟨s.cl _ _ r.1, r.2⟩
/-- from a later beginning -/
theorem RX.later {fm : Fm} {own : List Addr} {H H1 H2 : Hp} {md : Md} (s : Same H H1) : ∀ a o, RX fm own H1 H2 md a o → RX fm own H H2 md a o := fun a o r => by
  cases md with
  | sh => exact r
  | f0 => exact r
  | fx => exact ⟨r.1, r.2.1, r.2.2.1, r.2.2.2.1, s.free r.2.2.2.2⟩
theorem RX.sh {fm : Fm} {own : List Addr} {H H' : Hp} {md : Md} : ∀ a o, RX fm own H H' md a o → RX fm own H H' .sh a o := fun a o r => by
  cases md with
  | sh => exact r
  | f0 => exact .inl ⟨.inl r.1, r.2.1, r.2.2.1⟩
  | fx => exact .inl ⟨.inl r.1, r.2.1, r.2.2.1⟩
theorem RX.f0 {fm : Fm} {own : List Addr} {H H' : Hp} : ∀ a o, RX fm own H H' .fx a o → RX fm own H H' .f0 a o := fun a o r => ⟨r.1, r.2.1, r.2.2.1, r.2.2.2.1⟩
theorem RX.fx {fm : Fm} {own : List Addr} {H H' : Hp} (md : Md) : ∀ a o, RX fm own H H' .fx a o → RX fm own H H' md a o := fun a o r => by
  cases md with
  | sh => exact RX.sh a o r
  | f0 => exact RX.f0 a o r
  | fx => exact r
/-- what can be read is there -/
theorem RX.list {fm : Fm} {own : List Addr} {H H' : Hp} {md : Md} {a : Addr} {vs : List V} (r : RX fm own H H' md a (.lst vs)) : SqL fm.K H' a vs := by
  rcases RX.sh a _ r with r | r
  · exact .inl (Rd.raw r.1)
  · exact r.elim
theorem RX.tup {fm : Fm} {own : List Addr} {H H' : Hp} {md : Md} {a : Addr} {vs : List V} (r : RX fm own H H' md a (.tup vs)) : SqT fm.K H' a vs := by
  rcases RX.sh a _ r with r | r
  · exact .inl (Rd.raw r.1)
  · exact .inr r
structure Slot where
  ok : Option V → Hp → (Bool → RdR) → List Addr → Prop
  st : ∀ {v H H' F} {R R' : Bool → RdR}, ok v H R F → (∀ b a o, R b a o → R' b a o) → (∀ p ∈ F, H' p = H p) → ok v H' R' F
  tb : ∀ {v H F} {R : Bool → RdR}, ok v H R F → ∀ p ∈ F, cl H p ≠ none
/-- nothing is known of it -/
def sAny : Slot := ⟨fun _ _ _ F => F = [], fun h _ _ => h, fun h p hp => by subst h; exact nomatch hp⟩
/-- a value (b: made since the def began) -/
def sV {α : Type} (b : Bool) (T : Ty α) (d : α) : Slot := ⟨fun v _ R F => F = [] ∧ ∃ x, v = some x ∧ T.rep d x (R b), fun ⟨e, x, h, r⟩ s _ => ⟨e, x, h, T.mono r (s b)⟩, fun ⟨e, _⟩ p hp => by subst e; exact nomatch hp⟩
/-- a list of one's own, which may be changed -/
def sOwn {α : Type} (b : Bool) (T : Ty α) (ds : List α) : Slot := ⟨fun v H R F => ∃ p xs, v = some (.ref p) ∧ F = [p] ∧ H p = some (.lst xs) ∧ Reps T (R b) ds xs,
  fun ⟨p, xs, e, f, h, r⟩ s k => ⟨p, xs, e, f, by rw [k p (by simp [f])]; exact h, r.mono (s b)⟩, fun ⟨p, xs, e, f, h, r⟩ q hq => by subst f; rw [List.mem_singleton.mp hq, cl_of h]; exact fun z => nomatch z⟩
inductive AllS (H : Hp) (R : Bool → RdR) : List Slot → L2.St → List (List Addr) → Prop where
  | nil : AllS H R [] [] []
  | cons {s L v σ F Fs} : s.ok v H R F → AllS H R L σ Fs → AllS H R (s :: L) (v :: σ) (F :: Fs)
def RB (fm : Fm) (own : List Addr) (H : Hp) (b : Bool) : RdR := RX fm own H H (if b then .f0 else .sh)
section
variable {H H' : Hp} {R R' : Bool → RdR} {L : List Slot} {σ : L2.St} {Fs : List (List Addr)}
theorem AllS.st (h : AllS H R L σ Fs) (s : ∀ b a o, R b a o → R' b a o) (k : ∀ p ∈ Fs.flatten, H' p = H p) : AllS H' R' L σ Fs := by
  induction h with
  | nil => exact .nil
  | @cons sl L v σ F Fs r t ih =>
    exact .cons (sl.st r s fun p hp => k p (by simp [hp])) (ih fun p hp => k p (by simp only [List.flatten_cons, List.mem_append]; exact .inr hp))
theorem AllS.tb (h : AllS H R L σ Fs) : ∀ p ∈ Fs.flatten, cl H p ≠ none := by
  induction h with
  | nil => intro p hp; simp at hp
  | @cons s L v σ F Fs r _ ih =>
    intro p hp
    rw [List.flatten_cons, List.mem_append] at hp
    exact hp.elim (s.tb r p) (ih p)
theorem AllS.len (h : AllS H R L σ Fs) : σ.length = L.length := by
  induction h with
  | nil => rfl
  | cons _ _ ih => simp [ih]
theorem AllS.get (h : AllS H R L σ Fs) : ∀ {i : Nat} {s : Slot}, L[i]? = some s → ∃ v F, σ[i]? = some v ∧ Fs[i]? = some F ∧ s.ok v H R F := by
  induction h with
  | nil => intro i s e; simp at e
  | cons r _ ih =>
    intro i s e
    cases i with
    | zero => simp at e; subst e; exact ⟨_, _, rfl, rfl, r⟩
    | succ i => obtain ⟨v, F, e1, e2, r1⟩ := ih (i := i) (s := s) (by simpa using e); exact ⟨v, F, by simpa using e1, by simpa using e2, r1⟩
theorem AllS.set (h : AllS H R L σ Fs) {s : Slot} {v : Option V} {F : List Addr} (r : s.ok v H R F) : ∀ (i : Nat), AllS H R (L.set i s) (σ.set i v) (Fs.set i F) := by
  induction h with
  | nil => intro i; exact .nil
  | cons q t ih =>
    intro i
    cases i with
    | zero => exact .cons r t
    | succ i => exact .cons q (ih i)
end
/-- where a def's body stands: its frame, its slots, what it owns, what is kept readable -/
structure At (fm : Fm) (kp : RdR) (L : List Slot) (σ : L2.St) (H : Hp) (own : List Addr) : Prop where
  same : Same fm.H0 H
  zin : ∀ a, fm.z a → H a ≠ none
  sl : ∃ Fs, AllS H (RB fm own H) L σ Fs ∧ own = Fs.flatten
  nd : own.Nodup
  new : ∀ p ∈ own, H p ≠ none ∧ fm.H0 p = none ∧ ¬ fm.z p
  kept : ∀ a o, kp a o → RD fm own H a o
theorem RB.same {fm : Fm} {own : List Addr} {H H' : Hp} (s : Same H H') : ∀ b a o, RB fm own H b a o → RB fm own H' b a o := fun b a o r => by
  unfold RB at r ⊢
  cases b <;> exact RX.same s a o r
section
variable {fm : Fm} {kp : RdR} {L : List Slot} {σ : L2.St} {H H' : Hp} {own : List Addr}
theorem At.ext (h : At fm kp L σ H own) (s : Same H H') : At fm kp L σ H' own := by
  obtain ⟨h1, h2, ⟨Fs, h3, e⟩, h4, h5, h6⟩ := h
  refine ⟨h1.trans s, fun a z n => h2 a z (s.free n), ⟨Fs, h3.st (RB.same s) fun p hp => ?_, e⟩, h4, fun p hp => ?_, fun a o k => RD.same s a o (h6 a o k)⟩
  · obtain ⟨q, _⟩ := h5 p (by rw [e]; exact hp)
    cases r : cl H p with
    | none => exact absurd r (h3.tb p hp)
    | some o => rw [cl_raw r]; exact s.keep _ _ (cl_raw r) (cl_nt r)
  · obtain ⟨q, q2⟩ := h5 p hp
    refine ⟨fun z => q (s.free z), q2⟩
end
/-- some slots forgotten -/
inductive Wk : List Slot → List Slot → Prop where
  | n : Wk [] []
  | s {s L L'} : Wk L L' → Wk (s :: L) (s :: L')
  | a {s L L'} : Wk L L' → Wk (s :: L) (sAny :: L')
theorem Wk.refl : ∀ L, Wk L L
  | [] => .n
  | _ :: L => .s (Wk.refl L)
theorem Wk.anys : ∀ {L : List Slot} {n : Nat}, L.length = n → Wk L (List.replicate n sAny)
  | [], _, e => by subst e; exact .n
  | _ :: L, _, e => by subst e; exact Wk.a (Wk.anys (L := L) rfl)
theorem RX.own {fm : Fm} {own own' : List Addr} {H H' : Hp} {md : Md} (k : ∀ p ∈ own', p ∈ own) : ∀ a o, RX fm own H H' md a o → RX fm own' H H' md a o := fun a o r => by
  cases md with
  | sh => exact r.imp (fun ⟨h1, h2, h3⟩ => ⟨h1, fun q => h2 (k a q), h3⟩) id
  | f0 => exact ⟨r.1, fun q => r.2.1 (k a q), r.2.2⟩
  | fx => exact ⟨r.1, fun q => r.2.1 (k a q), r.2.2⟩
theorem RB.own {fm : Fm} {own own' : List Addr} {H : Hp} (k : ∀ p ∈ own', p ∈ own) : ∀ b a o, RB fm own H b a o → RB fm own' H b a o := fun _ a o r => RX.own k a o r
theorem wk_fs {H : Hp} {R : Bool → RdR} {L L' : List Slot} (w : Wk L L') : ∀ {σ : L2.St} {Fs : List (List Addr)}, AllS H R L σ Fs → ∃ Fs', AllS H R L' σ Fs' ∧ List.Sublist Fs'.flatten Fs.flatten := by
  induction w with
  | n => intro σ Fs h; exact ⟨Fs, h, List.Sublist.refl _⟩
  | s _ ih =>
    intro σ Fs h
    cases h with
    | @cons _ _ _ _ F _ r t =>
      obtain ⟨Fs', h', k⟩ := ih t
      exact ⟨F :: Fs', .cons r h', by simpa using List.Sublist.append (List.Sublist.refl F) k⟩
  | a _ ih =>
    intro σ Fs h
    cases h with
    | @cons _ _ _ _ F _ r t =>
      obtain ⟨Fs', h', k⟩ := ih t
      exact ⟨[] :: Fs', .cons rfl h', by simpa using List.Sublist.trans k (List.sublist_append_right F _)⟩
section
variable {fm : Fm} {kp kp' : RdR} {L L' : List Slot} {σ : L2.St} {H H' : Hp} {own : List Addr}
theorem At.weak (h : At fm kp L σ H own) (w : Wk L L') : ∃ own', At fm kp L' σ H own' ∧ ∀ p ∈ own', p ∈ own := by
  obtain ⟨h1, h2, ⟨Fs, h3, rfl⟩, h4, h5, h6⟩ := h
  obtain ⟨Fs', h7, k⟩ := wk_fs w h3
  have kk : ∀ p ∈ Fs'.flatten, p ∈ Fs.flatten := fun p hp => k.subset hp
  exact ⟨_, ⟨h1, h2, ⟨Fs', h7.st (RB.own kk) fun _ _ => rfl, rfl⟩, h4.sublist k, fun p hp => h5 p (kk p hp), fun a o q => RX.own (md := .sh) (H := H) kk a o (h6 a o q)⟩, kk⟩
theorem At.keep (h : At fm kp L σ H own) (k : ∀ a o, kp' a o → kp a o) : At fm kp' L σ H own := ⟨h.same, h.zin, h.sl, h.nd, h.new, fun a o q => h.kept a o (k a o q)⟩
/-- the slots' count -/
theorem At.len (h : At fm kp L σ H own) : σ.length = L.length := by
  obtain ⟨_, h3, _⟩ := h.sl
  exact h3.len
/-- a slot that owns nothing is set to a thing that owns nothing -/
theorem set_same_nil {Fs : List (List Addr)} : ∀ {i : Nat}, Fs[i]? = some [] → (Fs.set i []).flatten = Fs.flatten := by
  induction Fs with
  | nil => intro i _; rfl
  | cons F Fs ih =>
    intro i e
    cases i with
    | zero => simp at e; subst e; rfl
    | succ i => simp only [List.set_cons_succ, List.flatten_cons]; rw [ih (by simpa using e)]
theorem set_sub {Fs : List (List Addr)} : ∀ {i : Nat}, List.Sublist (Fs.set i []).flatten Fs.flatten := by
  induction Fs with
  | nil => intro i; exact List.Sublist.refl _
  | cons F Fs ih =>
    intro i
    cases i with
    | zero => simpa using List.sublist_append_right F _
    | succ i => simpa using List.Sublist.append (List.Sublist.refl F) (ih (i := i))
theorem At.setV {i : Nat} {b : Bool} {α : Type} {T : Ty α} {d : α} {v : V} (h : At fm kp L σ H own) (r : T.rep d v (RB fm own H b)) : ∃ own', At fm kp (L.set i (sV b T d)) (σ.set i (some v)) H own' := by
  obtain ⟨h1, h2, ⟨Fs, h3, rfl⟩, h4, h5, h6⟩ := h
  have kk : ∀ p ∈ (Fs.set i []).flatten, p ∈ Fs.flatten := fun p hp => (set_sub (i := i)).subset hp
  refine ⟨_, h1, h2, ⟨Fs.set i [], (h3.st (RB.own kk) fun _ _ => rfl).set (s := sV b T d) ⟨rfl, v, rfl, T.mono r (RB.own kk b)⟩ i, rfl⟩, h4.sublist set_sub, fun p hp => h5 p (kk p hp), fun a o q => RX.own (md := .sh) (H := H) kk a o (h6 a o q)⟩
end
/-- what is wanted of a refusal -/
abbrev Wx := Ec → L2.St → Hp → Prop
structure G where
  X : Cx
  fm : Fm
  W : Wx
  LX : List Slot
/-- an expression that is worth m, told as T; md: how new it is -/
def tE (fm : Fm) (W : Wx) (L : List Slot) (md : Md) {α : Type} (T : Ty α) (m : M α) : TE := fun σ H Q => ∃ kp own, At fm kp L σ H own ∧
  match m with
  | .ok d => ∀ v H', Same H H' → T.rep d v (RX fm own H H' md) → Q v H'
  | .ex c => ∀ H', Same H H' → W c σ H'
  | .no => False
def tT (fm : Fm) (W : Wx) (L : List Slot) (m : M Bool) : TT := fun σ H Q => ∃ kp own, At fm kp L σ H own ∧
  match m with
  | .ok d => ∀ H', Same H H' → Q d H'
  | .ex c => ∀ H', Same H H' → W c σ H'
  | .no => False
def tA (fm : Fm) (W : Wx) (L : List Slot) (md : Md) {δ : Type} (A : Ar δ) (m : M δ) : TA := fun σ H Q => ∃ kp own, At fm kp L σ H own ∧
  match m with
  | .ok d => ∀ vs H', Same H H' → A.rep d vs (RX fm own H H' md) → Q vs H'
  | .ex c => ∀ H', Same H H' → W c σ H'
  | .no => False
/-- a list that the expression makes -/
def tL (fm : Fm) (W : Wx) (L : List Slot) (md : Md) {α : Type} (S : Ty α) (m : M (List α)) : TE := fun σ H Q => ∃ kp own, At fm kp L σ H own ∧
  match m with
  | .ok ds => ∀ p vs H', Same H H' → H p = none → H' p = some (.lst vs) → Reps S (RX fm (p :: own) H H' md) ds vs → Q (.ref p) H'
  | .ex c => ∀ H', Same H H' → W c σ H'
  | .no => False
def EvL (g : G) (L : List Slot) (e : Expr) (md : Md) {α : Type} (S : Ty α) (m : M (List α)) : Prop := PE g.X e (tL g.fm g.W L md S m)
def EvE (g : G) (L : List Slot) (e : Expr) (md : Md) {α : Type} (T : Ty α) (m : M α) : Prop := PE g.X e (tE g.fm g.W L md T m)
def EvT (g : G) (L : List Slot) (e : Expr) (m : M Bool) : Prop := PT g.X e (tT g.fm g.W L m)
def EvA (g : G) (L : List Slot) (es : List Expr) (md : Md) {δ : Type} (A : Ar δ) (m : M δ) : Prop := PA g.X es (tA g.fm g.W L md A m)
/-- how a block ends -/
inductive Out where
  | nx (L : List Slot)
  | ct (L : List Slot)
  | go (L : List Slot)
  | rt {ρ : Type} (md : Bool) (T : Ty ρ) (r : ρ)
  | rtL {ρ : Type} (md : Bool) (T : Ty ρ) (r : List ρ)
  /-- any other way of handing back -/
  | gen (f : Fm → VK → Prop)
  | bad
def Out.cut : Out → Out
  | .go L => .ct L
  | .nx _ => .bad
  | o => o
/-- .. of what is handed back; q: not by this one -/
def RT (fm : Fm) (H' : Hp) (b : Bool) (q : Option Addr := none) : RdR := RX fm q.toList H' H' (if b then .f0 else .sh)
def OutOk (fm : Fm) (kp : RdR) (E : Ends) : Out → Prop
  | .nx L => ∀ σ H own, At fm kp L σ H own → E.nx σ H
  | .ct L => ∀ σ H own, At fm kp L σ H own → E.ct σ H
  | .go L => ∀ σ H own, At fm kp L σ H own → E.nx σ H ∧ E.ct σ H
  | .rt md T r => ∀ v H', Same fm.H0 H' → T.rep r v (RT fm H' md) → E.rt v H'
  | .rtL md T r => ∀ p vs H', Same fm.H0 H' → ¬ fm.z p → fm.H0 p = none → H' p = some (.lst vs) → Reps T (RT fm H' md (some p)) r vs → E.rt (.ref p) H'
  | .gen f => f fm E.rt
  | .bad => False
def BOk (g : G) (kp : RdR) (E : Ends) {δ : Type} (D : δ → Out) : M δ → Prop
  | .ok d => OutOk g.fm kp E (D d)
  | .ex c => ∀ σ H own, At g.fm kp g.LX σ H own → g.W c σ H
  | .no => False
def tB (g : G) (L : List Slot) {δ : Type} (D : δ → Out) (m : M δ) : TS := fun E σ H => ∃ kp own, At g.fm kp L σ H own ∧ BOk g kp E D m
def EvB (g : G) (L : List Slot) (st : List Stmt) {δ : Type} (D : δ → Out) (m : M δ) : Prop := PSs g.X st (tB g L D m)
theorem PE.imp {X : Cx} {e : Expr} {t t' : TE} (h : PE X e t) (k : ∀ σ H Q, t' σ H Q → t σ H Q) : PE X e t' := ⟨fun pins s σ H Q I q => h.run pins s σ H Q I (k _ _ _ q)⟩
theorem PT.imp {X : Cx} {e : Expr} {t t' : TT} (h : PT X e t) (k : ∀ σ H Q, t' σ H Q → t σ H Q) : PT X e t' := ⟨fun pins s σ H Q I q => h.run pins s σ H Q I (k _ _ _ q)⟩
theorem PW.imp {X : Cx} {e : Expr} {t t' : TT} (h : PW X e t) (k : ∀ σ H Q, t' σ H Q → t σ H Q) : PW X e t' := ⟨fun wh pins s σ H Q I q => h.run wh pins s σ H Q I (k _ _ _ q)⟩
theorem PA.imp {X : Cx} {e : List Expr} {t t' : TA} (h : PA X e t) (k : ∀ σ H Q, t' σ H Q → t σ H Q) : PA X e t' := ⟨fun pos pins s σ H Q I q => h.run pos pins s σ H Q I (k _ _ _ q)⟩
theorem PSs.imp {X : Cx} {e : List Stmt} {t t' : TS} (h : PSs X e t) (k : ∀ E σ H, t' E σ H → t E σ H) : PSs X e t' := ⟨fun pins s σ H D I q => h.run pins s σ H D I (k _ _ _ q)⟩
section
variable {g : G} {L : List Slot} {e e' : Expr} {es : List Expr} {md : Md} {α β γ δ : Type} {S : Ty α} {T : Ty β} {U : Ty γ} {A : Ar δ}
/-- the end of an expression, as a wish about its worth -/
def FinE (fm : Fm) (W : Wx) (own : List Addr) (σ : L2.St) (H : Hp) (md : Md) (T : Ty β) (Q : VK) : M β → Prop
  | .ok d => ∀ v H', Same H H' → T.rep d v (RX fm own H H' md) → Q v H'
  | .ex c => ∀ H', Same H H' → W c σ H'
  | .no => False
def FinL (fm : Fm) (W : Wx) (own : List Addr) (σ : L2.St) (H : Hp) (md : Md) (T : Ty β) (Q : VK) : M (List β) → Prop
  | .ok ds => ∀ p vs H', Same H H' → H p = none → H' p = some (.lst vs) → Reps T (RX fm (p :: own) H H' md) ds vs → Q (.ref p) H'
  | .ex c => ∀ H', Same H H' → W c σ H'
  | .no => False
theorem tL_iff {fm : Fm} {W : Wx} {m : M (List β)} {σ : L2.St} {H : Hp} {Q : VK} : tL fm W L md T m σ H Q ↔ ∃ kp own, At fm kp L σ H own ∧ FinL fm W own σ H md T Q m := by
  cases m <;> exact Iff.rfl
def FinT (W : Wx) (σ : L2.St) (H : Hp) (Q : Bool → Hp → Prop) : M Bool → Prop
  | .ok d => ∀ H', Same H H' → Q d H'
  | .ex c => ∀ H', Same H H' → W c σ H'
  | .no => False
def FinA (fm : Fm) (W : Wx) (own : List Addr) (σ : L2.St) (H : Hp) (md : Md) (A : Ar δ) (Q : List V → Hp → Prop) : M δ → Prop
  | .ok d => ∀ vs H', Same H H' → A.rep d vs (RX fm own H H' md) → Q vs H'
  | .ex c => ∀ H', Same H H' → W c σ H'
  | .no => False
theorem tE_iff {fm : Fm} {W : Wx} {m : M β} {σ : L2.St} {H : Hp} {Q : VK} : tE fm W L md T m σ H Q ↔ ∃ kp own, At fm kp L σ H own ∧ FinE fm W own σ H md T Q m := by
  cases m <;> exact Iff.rfl
theorem tT_iff {fm : Fm} {W : Wx} {m : M Bool} {σ : L2.St} {H : Hp} {Q : Bool → Hp → Prop} : tT fm W L m σ H Q ↔ ∃ kp own, At fm kp L σ H own ∧ FinT W σ H Q m := by
  cases m <;> exact Iff.rfl
theorem tA_iff {fm : Fm} {W : Wx} {m : M δ} {σ : L2.St} {H : Hp} {Q : List V → Hp → Prop} : tA fm W L md A m σ H Q ↔ ∃ kp own, At fm kp L σ H own ∧ FinA fm W own σ H md A Q m := by
  cases m <;> exact Iff.rfl
/-- ends that let refusals pass -/
structure Fin (W : Wx) (σ : L2.St) (H0 : Hp) (F : M β → Prop) : Prop where
  ex : ∀ {c}, F (.ex c) → ∀ H', Same H0 H' → W c σ H'
  no : ¬ F .no
theorem finE {fm : Fm} {W : Wx} {own : List Addr} {σ : L2.St} {H : Hp} {Q : VK} : Fin W σ H (FinE fm W own σ H md T Q) := ⟨fun h => h, fun h => h⟩
theorem finL {fm : Fm} {W : Wx} {own : List Addr} {σ : L2.St} {H : Hp} {Q : VK} : Fin (β := List β) W σ H (FinL fm W own σ H md T Q) := ⟨fun h => h, fun h => h⟩
theorem finT {W : Wx} {σ : L2.St} {H : Hp} {Q : Bool → Hp → Prop} : Fin W σ H (FinT W σ H Q) := ⟨fun h => h, fun h => h⟩
theorem finA {fm : Fm} {W : Wx} {own : List Addr} {σ : L2.St} {H : Hp} {Q : List V → Hp → Prop} : Fin W σ H (FinA fm W own σ H md A Q) := ⟨fun h => h, fun h => h⟩
section
variable {fm : Fm} {W : Wx} {kp : RdR} {own : List Addr} {σ : L2.St} {H0 H : Hp} {F : M β → Prop}
/-- a sub-expression, then what follows -/
theorem sub {m : M α} {f : α → M β} {K : VK} (hF : Fin W σ H0 F) (s0 : Same H0 H) (at_ : At fm kp L σ H own) (q : F (m.bind f))
    (h : ∀ d v H1, Same H H1 → S.rep d v (RX fm own H0 H1 md) → At fm kp L σ H1 own → F (f d) → K v H1) : tE fm W L md S m σ H K := by
  refine tE_iff.mpr ⟨kp, own, at_, ?_⟩
  cases m with
  | ok d => exact fun v H1 s r => h d v H1 s (S.mono r (RX.later s0)) (at_.ext s) q
  | ex c => exact fun H' s => hF.ex q H' (s0.trans s)
  | no => exact hF.no q
theorem subT {m : M Bool} {f : Bool → M β} {K : Bool → Hp → Prop} (hF : Fin W σ H0 F) (s0 : Same H0 H) (at_ : At fm kp L σ H own) (q : F (m.bind f))
    (h : ∀ d H1, Same H H1 → At fm kp L σ H1 own → F (f d) → K d H1) : tT fm W L m σ H K := by
  refine tT_iff.mpr ⟨kp, own, at_, ?_⟩
  cases m with
  | ok d => exact fun H1 s => h d H1 s (at_.ext s) q
  | ex c => exact fun H' s => hF.ex q H' (s0.trans s)
  | no => exact hF.no q
theorem subA {m : M δ} {f : δ → M β} {K : List V → Hp → Prop} (hF : Fin W σ H0 F) (s0 : Same H0 H) (at_ : At fm kp L σ H own) (q : F (m.bind f))
    (h : ∀ d vs H1, Same H H1 → A.rep d vs (RX fm own H0 H1 md) → At fm kp L σ H1 own → F (f d) → K vs H1) : tA fm W L md A m σ H K := by
  refine tA_iff.mpr ⟨kp, own, at_, ?_⟩
  cases m with
  | ok d => exact fun vs H1 s r => h d vs H1 s (A.mono r (RX.later s0)) (at_.ext s) q
  | ex c => exact fun H' s => hF.ex q H' (s0.trans s)
  | no => exact hF.no q
end
structure Rdb (K : PySem.W.Frag) (R : RdR) (H : Hp) : Prop where
  rd : ∀ a o, R a o → nt o = true → L2.Rd H a o ∨ KObj K a o
instance {K : PySem.W.Frag} {R : RdR} {H : Hp} : CoeFun (Rdb K R H) (fun _ => ∀ a o, R a o → (n : nt o = true) → L2.Rd H a o ∨ KObj K a o) := ⟨fun rb a o h n => rb.rd a o h n⟩
/-- what an operation's answer may reach: its operands' things (unless fr), new things -/
def Nw (fr : Bool) (R : RdR) (H H' : Hp) : RdR := fun a o => (fr = false ∧ R a o) ∨ (cl H' a = some o ∧ H a = none)
def OpEnd (U : Ty γ) (fr : Bool) (R : RdR) (H : Hp) (Q : VK) : M γ → Prop
  | .ok u => ∀ v H', Same H H' → U.rep u v (Nw fr R H H') → Q v H'
  | _ => False
structure Op1 (K : PySem.W.Frag) (r : V → Hp → VK → Prop) (S : Ty α) (U : Ty γ) (f : α → M γ) (fr : Bool) : Prop where
  run : ∀ {d x R H Q}, Rdb K R H → S.rep d x R → OpEnd U fr R H Q (f d) → r x H Q
structure Op2 (K : PySem.W.Frag) (r : R2) (S : Ty α) (T : Ty β) (U : Ty γ) (f : α → β → M γ) (fr : Bool) : Prop where
  run : ∀ {d e x y R H Q}, Rdb K R H → S.rep d x R → T.rep e y R → OpEnd U fr R H Q (f d e) → r x y H Q
structure OpC (K : PySem.W.Frag) (r : List V → Hp → VK → Prop) (A : Ar δ) (U : Ty γ) (f : δ → M γ) (fr : Bool) : Prop where
  run : ∀ {d xs R H Q}, Rdb K R H → A.rep d xs R → OpEnd U fr R H Q (f d) → r xs H Q
/-- how new an answer is -/
inductive MdOk : Bool → Md → Md → Prop where
  | same {fr md} : MdOk fr md md
  | fresh {md md'} : MdOk true md md'
theorem RX.rdb {fm : Fm} {own : List Addr} {H H' : Hp} : Rdb fm.K (RX fm own H H' md) H' := ⟨fun a o r n => (RX.sh a o r).imp (fun h => Rd.raw h.1 n) id⟩
theorem Nw.rx {fm : Fm} {kp : RdR} {own : List Addr} {σ : L2.St} {H H1 H2 : Hp} {fr : Bool} {md' : Md} (hm : MdOk fr md md') (s : Same H H1) (at_ : At fm kp L σ H1 own) (s2 : Same H1 H2) :
    ∀ a o, Nw fr (RX fm own H H1 md) H1 H2 a o → RX fm own H H2 md' a o := fun a o r => by
  rcases r with ⟨e, r⟩ | ⟨r, n⟩
  · cases hm with
    | same => exact RX.same s2 a o r
    | fresh => cases e
  · refine RX.fx md' a o ⟨r, fun hp => (at_.new a hp).1 n, fun hz => at_.zin a hz n, at_.same.free n, s.free n⟩
theorem FinE.fin {fm : Fm} {W : Wx} {kp : RdR} {own : List Addr} {σ : L2.St} {H H1 : Hp} {fr : Bool} {md' : Md} {Q : VK} {m : M γ} (hm : MdOk fr md md') (s : Same H H1) (at_ : At fm kp L σ H1 own) (hne : ∀ c, m ≠ .ex c)
    (q : FinE fm W own σ H md' U Q m) : OpEnd U fr (RX fm own H H1 md) H1 Q m := by
  cases m with
  | ok u => exact fun v H' s' r => q v H' (s.trans s') (U.mono r (Nw.rx hm s at_ s'))
  | ex c => exact hne c rfl
  | no => exact q
end
end Hd
namespace Hd
open PySem PySem.Spec L2
/-- the program's fixed things -/
structure Pr where
  P : Program
  w : World
  K : PySem.W.Frag
  mg : Str → Option Value
  base : Heap
  C : Ec → Addr
  /-- where the table of the lambda's code object stands -/
  T : Option Addr
def okName (x : Str) : Bool := !(x == ("__debug__" : Str)) && !(x == ("__classdict__" : Str)) && !(x == ("__name__" : Str))
def seenB (sc : Scope) (x : Str) : Bool := okName x && (match sc.names.lookup x with | some .local => true | some .cell => true | some .free => true | _ => false)
def locB (sc : Scope) (x : Str) : Bool := match sc.names.lookup x with | some .local => true | some .cell => true | _ => false
def glB (sc : Scope) (x : Str) : Bool := okName x && (match sc.names.lookup x with | some .globalImplicit => true | _ => false)
theorem okName_d {x : Str} (h : okName x = true) : (x == ("__debug__" : Str)) = false ∧ (x == ("__classdict__" : Str)) = false ∧ x ≠ "__name__" := by
  simp only [okName, Bool.and_eq_true, Bool.not_eq_true'] at h
  refine ⟨h.1.1, h.1.2, fun e => ?_⟩
  have := h.2
  rw [e, beq_self_eq_true] at this
  cases this
theorem seenB_v {sc : Scope} {x : Str} (h : seenB sc x = true) : okName x = true ∧ Vis sc x := by
  simp only [seenB, Bool.and_eq_true] at h
  refine ⟨h.1, ?_⟩
  have q := h.2
  unfold Vis
  split at q <;> first | exact .inl (by assumption) | exact .inr (.inl (by assumption)) | exact .inr (.inr (by assumption)) | cases q
theorem locB_v {sc : Scope} {x : Str} (h : locB sc x = true) : L2.Loc sc x := by
  unfold locB at h
  unfold L2.Loc
  split at h <;> first | exact .inl (by assumption) | exact .inr (by assumption) | cases h
theorem glB_v {sc : Scope} {x : Str} (h : glB sc x = true) : okName x = true ∧ sc.names.lookup x = some .globalImplicit := by
  simp only [glB, Bool.and_eq_true] at h
  refine ⟨h.1, ?_⟩
  have q := h.2
  split at q <;> first | assumption | cases q
/-- where an expression stands: N the slots, V the names seen, Gs the global names used, k the room -/
structure Ok (p : Pr) (sc : Scope) (NN VV GG : List Str) (k : Nat) (g : G) : Prop where
  prog : g.X.prog = p.P
  w : g.X.w = p.w
  K : g.X.K = p.K
  mg : g.X.mg = p.mg
  base : g.X.base = p.base
  N : g.X.N = NN
  fmK : g.fm.K = p.K
  tab : ∀ P, p.T = some P → LamX.TabS g.fm.H0 P lamQ
  room : Room k g.X.A
  nd : NN.Nodup
  vis : ∀ {j : Nat} {x : Str}, VV[j]? = some x → Vis g.X.env.scope x ∧ okName x = true
  gl : ∀ {j : Nat} {x : Str}, GG[j]? = some x → Gl g.X x ∧ okName x = true
  tk : Takes g.X (fun cls d σ H => ∃ c, cls = .ref (p.C c) ∧ d = none ∧ g.W c σ H)
  calm : g.X.calm = true
  blk : ∀ {scope : Scope} {own : List (Str × Nat)}, blkC NN sc scope own = true → BlkOk NN g.X.env.scope scope own
section
variable {p : Pr} {sc : Scope} {NN VV GG : List Str} {k : Nat} {g : G} {L : List Slot} {a b c e e' : Expr} {es : List Expr} {md md' : Md} {α β γ δ : Type} {S : Ty α} {T : Ty β} {U : Ty γ} {A : Ar δ} {pos : Pos}
theorem RB.rx {fm : Fm} {own : List Addr} {H H' : Hp} {b : Bool} : ∀ a o, RB fm own H' b a o → RX fm own H H' (if b then .f0 else .sh) a o := fun a o r => by cases b <;> exact r
/-- a name whose slot holds d -/
theorem ev_var (ok : Ok p sc NN VV GG k g) {i j : Nat} {x : Str} {b : Bool} {d : α} (hN : NN[i]? = some x) (hV : VV[j]? = some x) (hL : L[i]? = some (sV b S d)) : EvE g L (.Name x pos) (if b then .f0 else .sh) S (.ok d) := by
  obtain ⟨hv, ho⟩ := ok.vis hV
  obtain ⟨h1, h2, _⟩ := okName_d ho
  refine PE.imp (pe_var (i := i) (by rw [ok.N]; exact hN) hv h1 h2) fun σ H Q ⟨kp, own, at_, q⟩ => ?_
  obtain ⟨Fs, hs, _⟩ := at_.sl
  obtain ⟨v, F, e1, _, _, y, rfl, r⟩ := hs.get hL
  exact ⟨y, e1, q y H (Same.refl H) (S.mono r RB.rx)⟩
theorem ev_vsh (ok : Ok p sc NN VV GG k g) {i j : Nat} {x : Str} {b : Bool} {d : α} (hN : NN[i]? = some x) (hV : VV[j]? = some x) (hL : L[i]? = some (sV b S d)) : EvE g L (.Name x pos) .sh S (.ok d) := by
  refine PE.imp (ev_var ok hN hV hL) fun σ H Q ⟨kp, own, at_, q⟩ => ⟨kp, own, at_, fun v H' s r => q v H' s (S.mono r RX.sh)⟩
/-- a kind of data without a heap -/
def Flat (S : Ty α) : Prop := ∀ {d v R R'}, S.rep d v R → S.rep d v R'
theorem Reps.flat {R R' : RdR} {ds : List α} {vs : List V} (hf : Flat S) (r : Reps S R ds vs) : Reps S R' ds vs := by
  induction r with
  | nil => exact .nil
  | cons r _ ih => exact .cons (hf r) ih
theorem flInt : Flat tInt := fun h => h
theorem flBool : Flat tBool := fun h => h
theorem flStr : Flat tStr := fun h => h
theorem ev_flat {m : M α} (hf : Flat S) (h : EvE g L e md S m) : EvE g L e md' S m :=
  PE.imp h fun σ H Q q => by
    obtain ⟨kp, own, at_, q⟩ := tE_iff.mp q
    refine tE_iff.mpr ⟨kp, own, at_, ?_⟩
    cases m with
    | ok d => exact fun v H' s r => q v H' s (hf r)
    | ex c => exact q
    | no => exact q
theorem ev_sh {m : M α} (h : EvE g L e md S m) : EvE g L e .sh S m :=
  PE.imp h fun σ H Q q => by
    obtain ⟨kp, own, at_, q⟩ := tE_iff.mp q
    refine tE_iff.mpr ⟨kp, own, at_, ?_⟩
    cases m with
    | ok d => exact fun v H' s r => q v H' s (S.mono r RX.sh)
    | ex c => exact q
    | no => exact q
/-- the kind told otherwise -/
theorem ev_as {m : M α} {d2 : α → β} (hr : ∀ d v R, S.rep d v R → T.rep (d2 d) v R) (h : EvE g L e md S m) : EvE g L e md T (m.bind fun d => .ok (d2 d)) :=
  PE.imp h fun σ H Q q => by
    obtain ⟨kp, own, at_, q⟩ := tE_iff.mp q
    refine tE_iff.mpr ⟨kp, own, at_, ?_⟩
    cases m with
    | ok d => exact fun v H' s r => q v H' s (hr _ _ _ r)
    | ex c => exact q
    | no => exact q
theorem ev_asP {d : α} {d2 : β} (hr : ∀ v R, S.rep d v R → T.rep d2 v R) (h : EvE g L e md S (.ok d)) : EvE g L e md T (.ok d2) :=
  PE.imp h fun σ H Q ⟨kp, own, at_, q⟩ => ⟨kp, own, at_, fun v H' s r => q v H' s (hr _ _ r)⟩
theorem ev_int {i : Int} {j} : EvE g L (.Constant (.int i) j pos) md tInt (.ok i) := PE.imp pe_int fun σ H Q ⟨kp, own, at_, q⟩ => q _ H (Same.refl H) rfl
theorem ev_bool {i : Bool} {j} : EvE g L (.Constant (.bool i) j pos) md tBool (.ok i) := PE.imp pe_bl fun σ H Q ⟨kp, own, at_, q⟩ => q _ H (Same.refl H) rfl
theorem ev_none {j} : EvE g L (.Constant .none j pos) md tNone (.ok ()) := PE.imp pe_non fun σ H Q ⟨kp, own, at_, q⟩ => q _ H (Same.refl H) rfl
theorem ev_optN {j} : EvE g L (.Constant .none j pos) md (tOpt S) (.ok none) := PE.imp pe_non fun σ H Q ⟨kp, own, at_, q⟩ => q _ H (Same.refl H) rfl
/-- a written text's signs -/
def tx (s : String) : Tx := (Str.ofString s).cps.toList
theorem toS_tx (s : String) : toS (tx s) = Str.ofString s := by
  show (⟨((Str.ofString s).cps.toList).toArray⟩ : Str) = Str.ofString s
  rw [Array.toArray_toList]
theorem toS_inj {x y : Tx} (h : toS x = toS y) : x = y := by
  have := congrArg (fun z : Str => z.cps.toList) h
  simpa [toS] using this
theorem toS_len (x : Tx) : (toS x).length = x.length := by
  show x.toArray.size = x.length
  simp
def okTxB (x : Tx) : Bool := decide (x.length ≤ 1000) && x.all fun c => decide (c < 0x110000)
theorem okTx_of {x : Tx} (h : okTxB x = true) : OkTx x := by
  simp only [okTxB, Bool.and_eq_true, decide_eq_true_eq, List.all_eq_true] at h
  exact ⟨Nat.le_trans h.1 (by decide), h.2⟩
theorem ev_str {s : String} {j} (hl : okTxB (tx s) = true) : EvE g L (.Constant (.str (Str.ofString s)) j pos) md tStr (.ok (tx s)) := PE.imp pe_str fun σ H Q ⟨kp, own, at_, q⟩ => q _ H (Same.refl H) ⟨by show _ = V.str _; rw [toS_tx], okTx_of hl⟩
/-- a constant of the module: an int or a text -/
theorem ev_glob (ok : Ok p sc NN VV GG k g) {j : Nat} {x : Str} {v : V} {u : Value} {d : α} (hG : GG[j]? = some x) (hm : p.mg x = some u) (r : RelV v u) (hr : ∀ R, S.rep d v R) : EvE g L (.Name x pos) md S (.ok d) := by
  obtain ⟨hg, ho⟩ := ok.gl hG
  exact PE.imp (pe_glob hg (by rw [ok.mg]; exact hm) r (okName_d ho).1) fun σ H Q ⟨kp, own, at_, q⟩ => q _ H (Same.refl H) (hr _)
/-- .. -/
theorem ev_op2 {op : Operator} {r : R2} {f : α → β → M γ} {fr : Bool} {m1 : M α} {m2 : M β} (ok : Ok p sc NN VV GG k g) (ho : ∀ {X : Cx}, OpR X (binaryOp op) r) (F : Op2 p.K r S T U f fr) (hne : ∀ d e c, f d e ≠ .ex c) (hm : MdOk fr md md')
    (ha : EvE g L a md S m1) (hb : EvE g L b md T m2) : EvE g L (.BinOp a op b pos) md' U (m1.bind fun d => m2.bind fun e => f d e) := by
  refine PE.imp (pe_op ho ha hb) fun σ H Q q => ?_
  obtain ⟨kp, own, at_, q⟩ := tE_iff.mp q
  refine sub finE (Same.refl H) at_ q fun d x H1 s1 r1 at1 q1 => sub finE s1 at1 q1 fun e y H2 s2 r2 at2 q2 => ?_
  rw [← ok.fmK] at F
  exact F.run (R := RX g.fm own H H2 md) RX.rdb (S.mono r1 (RX.same s2)) r2 (q2.fin hm (s1.trans s2) at2 (hne d e))
theorem ev_un {op : UnaryOp} {r : V → Hp → VK → Prop} {f : α → M γ} {fr : Bool} {m1 : M α} (ok : Ok p sc NN VV GG k g) (ho : ∀ {X : Cx}, UnR X (unaryOp op) r) (F : Op1 p.K r S U f fr) (hne : ∀ d c, f d ≠ .ex c) (hm : MdOk fr md md')
    (ha : EvE g L a md S m1) : EvE g L (.UnaryOp op a pos) md' U (m1.bind f) := by
  refine PE.imp (pe_un ho ha) fun σ H Q q => ?_
  obtain ⟨kp, own, at_, q⟩ := tE_iff.mp q
  refine sub finE (Same.refl H) at_ q fun d x H1 s1 r1 at1 q1 => ?_
  rw [← ok.fmK] at F
  exact F.run (R := RX g.fm own H H1 md) RX.rdb r1 (q1.fin hm s1 at1 (hne d))
/-- a comparison's value -/
theorem ev_cmp {op : CmpOp} {r : R2} {f : α → β → M γ} {fr : Bool} {m1 : M α} {m2 : M β} (ok : Ok p sc NN VV GG k g) (ho : OpR g.X (compareOp op) r) (F : Op2 p.K r S T U f fr) (hne : ∀ d e c, f d e ≠ .ex c) (hm : MdOk fr md md')
    (ha : EvE g L a md S m1) (hb : EvE g L b md T m2) (hk : behindInMarks op b = false := by first | exact nomark _ (by decide) (by decide) | rfl) : EvE g L (.Compare a [op] [b] pos) md' U (m1.bind fun d => m2.bind fun e => f d e) := by
  refine PE.imp (pe_cmpR ho ha hb hk) fun σ H Q q => ?_
  obtain ⟨kp, own, at_, q⟩ := tE_iff.mp q
  refine sub finE (Same.refl H) at_ q fun d x H1 s1 r1 at1 q1 => sub finE s1 at1 q1 fun e y H2 s2 r2 at2 q2 => ?_
  rw [← ok.fmK] at F
  exact F.run (R := RX g.fm own H H2 md) RX.rdb (S.mono r1 (RX.same s2)) r2 (q2.fin hm (s1.trans s2) at2 (hne d e))
/-- a comparison as a test -/
theorem evt_cmp {op : CmpOp} {r : R2} {f : α → β → M Bool} {fr : Bool} {m1 : M α} {m2 : M β} (ok : Ok p sc NN VV GG k g) (ho : OpR g.X (compareOp op) r) (F : Op2 p.K r S T tBool f fr) (hne : ∀ d e c, f d e ≠ .ex c)
    (ha : EvE g L a md S m1) (hb : EvE g L b md T m2) (hk : behindInMarks op b = false := by first | exact nomark _ (by decide) (by decide) | rfl) : EvT g L (.Compare a [op] [b] pos) (m1.bind fun d => m2.bind fun e => f d e) := by
  refine PT.imp (pt_cmpR ho ha hb hk) fun σ H Q q => ?_
  obtain ⟨kp, own, at_, q⟩ := tT_iff.mp q
  refine sub finT (Same.refl H) at_ q fun d x H1 s1 r1 at1 q1 => sub finT s1 at1 q1 fun e y H2 s2 r2 at2 q2 => ?_
  rw [← ok.fmK] at F
  refine F.run (R := RX g.fm own H H2 md) RX.rdb (S.mono r1 (RX.same s2)) r2 ?_
  cases hf : f d e with
  | ok c => rw [hf] at q2; exact fun v H' s r => ⟨c, r, q2 H' ((s1.trans s2).trans s)⟩
  | ex c => exact absurd hf (hne d e c)
  | no => rw [hf] at q2; exact q2
/-- an expression that is a bool, as a test -/
theorem evt_of {m : M Bool} (h : EvE g L e md tBool m) (he : ∀ whole, isTrue e g.X.env whole = (do let v ← whole; standAt e.pos; holding [v] (truthy v)) := by intro _; rfl) : EvT g L e m := by
  refine PT.imp (pt_val h he) fun σ H Q q => ?_
  obtain ⟨kp, own, at_, q⟩ := tT_iff.mp q
  refine tE_iff.mpr ⟨kp, own, at_, ?_⟩
  cases m with
  | ok d => exact fun v H' s r => ⟨d, r, q H' s⟩
  | ex c => exact q
  | no => exact q
theorem evt_not {m : M Bool} (h : EvT g L a m) : EvT g L (.UnaryOp .Not a pos) (m.bind fun c => .ok (!c)) := by
  refine PT.imp (pt_not h) fun σ H Q q => ?_
  obtain ⟨kp, own, at_, q⟩ := tT_iff.mp q
  exact subT finT (Same.refl H) at_ q fun d H1 s at1 q1 => q1 H1 s
/-- and, or: chains of tests -/
def EvW (g : G) (L : List Slot) (e : Expr) (m : M Bool) : Prop := PW g.X e (tT g.fm g.W L m)
theorem EvW.t {m : M Bool} (h : EvW g L e m) : EvT g L e m := PW.pt h
theorem evw_and1 {m : M Bool} (h : EvT g L a m) : EvW g L (.BoolOp .And [a] pos) m := pw_and1 h
theorem evw_or1 {m : M Bool} (h : EvT g L a m) : EvW g L (.BoolOp .Or [a] pos) m := pw_or1 h
theorem evw_and {m1 m2 : M Bool} (h : EvT g L a m1) (h2 : EvW g L (.BoolOp .And (b :: es) pos) m2) : EvW g L (.BoolOp .And (a :: b :: es) pos) (m1.bind fun c => if c = true then m2 else .ok false) := by
  refine PW.imp (pw_and h h2) fun σ H Q q => ?_
  obtain ⟨kp, own, at_, q⟩ := tT_iff.mp q
  refine subT finT (Same.refl H) at_ q fun d H1 s at1 q1 => ?_
  cases d with
  | true =>
    show tT g.fm g.W L m2 σ H1 Q
    refine tT_iff.mpr ⟨kp, own, at1, ?_⟩
    have q1 : FinT g.W σ H Q m2 := q1
    cases m2 with
    | ok d => exact fun H' s' => q1 H' (s.trans s')
    | ex c => exact fun H' s' => q1 H' (s.trans s')
    | no => exact q1
  | false => exact q1 H1 s
theorem evw_or {m1 m2 : M Bool} (h : EvT g L a m1) (h2 : EvW g L (.BoolOp .Or (b :: es) pos) m2) : EvW g L (.BoolOp .Or (a :: b :: es) pos) (m1.bind fun c => if c = true then .ok true else m2) := by
  refine PW.imp (pw_or h h2) fun σ H Q q => ?_
  obtain ⟨kp, own, at_, q⟩ := tT_iff.mp q
  refine subT finT (Same.refl H) at_ q fun d H1 s at1 q1 => ?_
  cases d with
  | false =>
    show tT g.fm g.W L m2 σ H1 Q
    refine tT_iff.mpr ⟨kp, own, at1, ?_⟩
    have q1 : FinT g.W σ H Q m2 := q1
    cases m2 with
    | ok d => exact fun H' s' => q1 H' (s.trans s')
    | ex c => exact fun H' s' => q1 H' (s.trans s')
    | no => exact q1
  | true => exact q1 H1 s
theorem if_tf {c d : Bool} : (if c = true then (.ok d : M Bool) else .ok false) = .ok (c && d) := by cases c <;> rfl
theorem if_ft {c d : Bool} : (if c = true then (.ok true : M Bool) else .ok d) = .ok (c || d) := by cases c <;> rfl
theorem evw_andP {c d : Bool} (h : EvT g L a (.ok c)) (h2 : EvW g L (.BoolOp .And (b :: es) pos) (.ok d)) : EvW g L (.BoolOp .And (a :: b :: es) pos) (.ok (c && d)) := by
  have q := evw_and h h2
  rwa [M.bind_ok, if_tf] at q
theorem evw_orP {c d : Bool} (h : EvT g L a (.ok c)) (h2 : EvW g L (.BoolOp .Or (b :: es) pos) (.ok d)) : EvW g L (.BoolOp .Or (a :: b :: es) pos) (.ok (c || d)) := by
  have q := evw_or h h2
  rwa [M.bind_ok, if_ft] at q
/-- .. as values -/
theorem ev_one {op} {m : M Bool} (h : EvE g L a md tBool m) : EvE g L (.BoolOp op [a] pos) md tBool m := pe_one h
theorem ev_and {m1 m2 : M Bool} (h : EvE g L a md tBool m1) (h2 : EvE g L (.BoolOp .And (b :: es) pos) md tBool m2) : EvE g L (.BoolOp .And (a :: b :: es) pos) md tBool (m1.bind fun c => if c = true then m2 else .ok false) := by
  refine PE.imp (pe_and h h2) fun σ H Q q => ?_
  obtain ⟨kp, own, at_, q⟩ := tE_iff.mp q
  refine sub finE (Same.refl H) at_ q fun d x H1 s r at1 q1 => ⟨d, r, ?_⟩
  cases d with
  | true =>
    refine tE_iff.mpr ⟨kp, own, at1, ?_⟩
    have q1 : FinE g.fm g.W own σ H md tBool Q m2 := q1
    cases m2 with
    | ok d => exact fun v H' s' r' => q1 v H' (s.trans s') r'
    | ex c => exact fun H' s' => q1 H' (s.trans s')
    | no => exact q1
  | false => exact q1 _ H1 s rfl
theorem ev_or {m1 m2 : M Bool} (h : EvE g L a md tBool m1) (h2 : EvE g L (.BoolOp .Or (b :: es) pos) md tBool m2) : EvE g L (.BoolOp .Or (a :: b :: es) pos) md tBool (m1.bind fun c => if c = true then .ok true else m2) := by
  refine PE.imp (pe_or h h2) fun σ H Q q => ?_
  obtain ⟨kp, own, at_, q⟩ := tE_iff.mp q
  refine sub finE (Same.refl H) at_ q fun d x H1 s r at1 q1 => ⟨d, r, ?_⟩
  cases d with
  | false =>
    refine tE_iff.mpr ⟨kp, own, at1, ?_⟩
    have q1 : FinE g.fm g.W own σ H md tBool Q m2 := q1
    cases m2 with
    | ok d => exact fun v H' s' r' => q1 v H' (s.trans s') r'
    | ex c => exact fun H' s' => q1 H' (s.trans s')
    | no => exact q1
  | true => exact q1 _ H1 s rfl
theorem ev_andP {c d : Bool} (h : EvE g L a md tBool (.ok c)) (h2 : EvE g L (.BoolOp .And (b :: es) pos) md tBool (.ok d)) : EvE g L (.BoolOp .And (a :: b :: es) pos) md tBool (.ok (c && d)) := by
  have q := ev_and h h2
  rwa [M.bind_ok, if_tf] at q
theorem ev_not {m : M Bool} (h : EvE g L a md tBool m) : EvE g L (.UnaryOp .Not a pos) md' tBool (m.bind fun c => .ok (!c)) := by
  refine PE.imp (pe_not h) fun σ H Q q => ?_
  obtain ⟨kp, own, at_, q⟩ := tE_iff.mp q
  exact sub finE (Same.refl H) at_ q fun d x H1 s r at1 q1 => ⟨d, r, q1 _ H1 s rfl⟩
theorem eva_nil : EvA g L [] md aNil (.ok ()) := PA.imp pa_nil fun σ H Q ⟨kp, own, at_, q⟩ => q [] H (Same.refl H) rfl
theorem eva_cons {m1 : M α} {m2 : M δ} (ha : EvE g L a md S m1) (hb : EvA g L es md A m2) (hs : starEach (a :: es) g.X.env = (false, eval a g.X.env) :: starEach es g.X.env := by rfl) : EvA g L (a :: es) md (aCons S A) (m1.bind fun d => m2.bind fun e => .ok (d, e)) := by
  refine PA.imp (pa_cons ha hb hs) fun σ H Q q => ?_
  obtain ⟨kp, own, at_, q⟩ := tA_iff.mp q
  exact sub finA (Same.refl H) at_ q fun d x H1 s1 r1 at1 q1 => subA finA s1 at1 q1 fun e xs H2 s2 r2 at2 q2 => q2 _ H2 (s1.trans s2) ⟨x, xs, rfl, S.mono r1 (RX.same s2), r2⟩
/-- items of one kind -/
theorem evs_nil : EvA g L [] md (aAll S) (.ok []) := PA.imp pa_nil fun σ H Q ⟨kp, own, at_, q⟩ => q [] H (Same.refl H) .nil
theorem evs_cons {m1 : M α} {m2 : M (List α)} (ha : EvE g L a md S m1) (hb : EvA g L es md (aAll S) m2) (hs : starEach (a :: es) g.X.env = (false, eval a g.X.env) :: starEach es g.X.env := by rfl) : EvA g L (a :: es) md (aAll S) (m1.bind fun d => m2.bind fun e => .ok (d :: e)) := by
  refine PA.imp (pa_cons ha hb hs) fun σ H Q q => ?_
  obtain ⟨kp, own, at_, q⟩ := tA_iff.mp q
  exact sub finA (Same.refl H) at_ q fun d x H1 s1 r1 at1 q1 => subA finA s1 at1 q1 fun e xs H2 s2 r2 at2 q2 => q2 _ H2 (s1.trans s2) (.cons (S.mono r1 (RX.same s2)) r2)
theorem newSame {H : Hp} {p : Addr} {o : HO} (h : H p = none) : Same H (upd H p o) := .of fun b u e => by rw [upd_ne (ne_of_none e h)]; exact e
theorem newRX {fm : Fm} {kp : RdR} {own : List Addr} {σ : L2.St} {H H1 : Hp} {p : Addr} {o : HO} (at_ : At fm kp L σ H1 own) (s : Same H H1) (h : H1 p = none) (n : nt o = true := by rfl) : RX fm own H (upd H1 p o) md p o :=
  RX.fx md _ _ ⟨cl_of upd_same n, fun hp => (at_.new p hp).1 h, fun hz => at_.zin p hz h, at_.same.free h, s.free h⟩
/-- a tuple of written items (few enough: by rfl) -/
theorem ev_tup {m : M δ} {x1} (hl : ∀ d vs R, A.rep d vs R → vs.length ≤ 1000) (ha : EvA g L es md A m) : EvE g L (.Tuple es x1 pos) md (tTup A) m := by
  refine PE.imp (pe_tup ha) fun σ H Q q => ?_
  obtain ⟨kp, own, at_, q⟩ := tE_iff.mp q
  refine tA_iff.mpr ⟨kp, own, at_, ?_⟩
  cases m with
  | ok d => exact fun vs H1 s1 r1 => ⟨Nat.le_trans (hl _ _ _ r1) (by decide), fun p hp => q _ _ (s1.trans (newSame hp)) ⟨p, vs, rfl, newRX (at_.ext s1) s1 hp, A.mono r1 (RX.same (newSame hp))⟩⟩
  | ex c => exact q
  | no => exact q
theorem tupL_le {ds : List α} {vs : List V} {R : RdR} (h : (aAll S).rep ds vs R) : ds.length = vs.length := Reps.length h
theorem ev_ix {r : R2} {f : α → β → M γ} {fr : Bool} {m1 : M α} {m2 : M β} (ok : Ok p sc NN VV GG k g) (ho : IxR g.X r) (F : Op2 p.K r S T U f fr) (hne : ∀ d e c, f d e ≠ .ex c) (hm : MdOk fr md md')
    (ha : EvE g L a md S m1) (hb : EvE g L b md T m2) (hs : PlainIx b := by exact fun _ _ => rfl) : EvE g L (.Subscript a b pos) md' U (m1.bind fun d => m2.bind fun e => f d e) := by
  refine PE.imp (pe_ix ho ha hb hs) fun σ H Q q => ?_
  obtain ⟨kp, own, at_, q⟩ := tE_iff.mp q
  refine sub finE (Same.refl H) at_ q fun d x H1 s1 r1 at1 q1 => sub finE s1 at1 q1 fun e y H2 s2 r2 at2 q2 => ?_
  rw [← ok.fmK] at F
  exact F.run (R := RX g.fm own H H2 md) RX.rdb (S.mono r1 (RX.same s2)) r2 (q2.fin hm (s1.trans s2) at2 (hne d e))
theorem ev_callB {x : Str} {j : Nat} {id : String} {r : List V → Hp → VK → Prop} {f : δ → M γ} {fr : Bool} {m : M δ} {pp : Pos} (ok : Ok p sc NN VV GG k g) (hc : CallR g.X (.builtin id) r) (F : OpC p.K r A U f fr) (hne : ∀ d c, f d ≠ .ex c) (hm : MdOk fr md md')
    (hG : GG[j]? = some x) (hmg : p.mg x = none) (hv : bootBuiltins x = some (.builtin id)) (ha : EvA g L (e :: es) md A m)
    (he : starEach (e :: es) g.X.env = (false, eval e g.X.env) :: starEach es g.X.env := by rfl) (hpl : (backTo pos (starEach es g.X.env)).any (·.1) = false := by rfl) : EvE g L (.Call (.Name x pp) (e :: es) [] pos) md' U (m.bind f) := by
  obtain ⟨hg, ho⟩ := ok.gl hG
  obtain ⟨h1, _, h3⟩ := okName_d ho
  refine PE.imp (pe_callB hc hg (by rw [ok.mg]; exact hmg) hv ha h3 h1 he hpl) fun σ H Q q => ?_
  obtain ⟨kp, own, at_, q⟩ := tE_iff.mp q
  refine subA finE (Same.refl H) at_ q fun d xs H1 s1 r1 at1 q1 => ?_
  rw [← ok.fmK] at F
  exact F.run (R := RX g.fm own H H1 md) RX.rdb r1 (q1.fin hm s1 at1 (hne d))
theorem ev_callTy {x : Str} {j : Nat} {id : String} {r : List V → Hp → VK → Prop} {f : δ → M γ} {fr : Bool} {m : M δ} {pp : Pos} (ok : Ok p sc NN VV GG k g) (hc : CallR g.X (.type id) r) (F : OpC p.K r A U f fr) (hne : ∀ d c, f d ≠ .ex c) (hm : MdOk fr md md')
    (hG : GG[j]? = some x) (hmg : p.mg x = none) (hv : bootBuiltins x = some (.type id)) (ha : EvA g L (e :: es) md A m)
    (he : starEach (e :: es) g.X.env = (false, eval e g.X.env) :: starEach es g.X.env := by rfl) (hpl : (backTo pos (starEach es g.X.env)).any (·.1) = false := by rfl) : EvE g L (.Call (.Name x pp) (e :: es) [] pos) md' U (m.bind f) := by
  obtain ⟨hg, ho⟩ := ok.gl hG
  obtain ⟨h1, _, h3⟩ := okName_d ho
  refine PE.imp (pe_callTy hc hg (by rw [ok.mg]; exact hmg) hv ha h3 h1 he hpl) fun σ H Q q => ?_
  obtain ⟨kp, own, at_, q⟩ := tE_iff.mp q
  refine subA finE (Same.refl H) at_ q fun d xs H1 s1 r1 at1 q1 => ?_
  rw [← ok.fmK] at F
  exact F.run (R := RX g.fm own H H1 md) RX.rdb r1 (q1.fin hm s1 at1 (hne d))
end
end Hd
namespace Hd
open PySem PySem.Spec L2
section
variable {p : Pr} {sc : Scope} {NN VV GG : List Str} {k : Nat} {g : G} {L L' : List Slot} {a b c e e' : Expr} {es : List Expr} {md md' : Md} {α β γ δ : Type} {S : Ty α} {T : Ty β} {U : Ty γ} {A : Ar δ} {pos : Pos}
theorem RX.add {fm : Fm} {own : List Addr} {H H1 : Hp} {q : Addr} {o' : HO} (hn : H1 q = none) : ∀ a o, RX fm own H H1 md a o → RX fm (q :: own) H (upd H1 q o') md a o := fun a o r => by
  have ne : H1 a ≠ none → a ≠ q := fun h e => h (by rw [e]; exact hn)
  cases md with
  | sh =>
    rcases r with ⟨r, h1, h2⟩ | r
    · have n := ne (Rd.there r)
      refine .inl ⟨?_, fun z => ?_, h2⟩
      · unfold Rd
        rw [cl_upd_ne n]
        exact r
      · rcases List.mem_cons.mp z with z | z
        · exact n z
        · exact h1 z
    · exact .inr r
  | f0 =>
    have n := ne (by rw [cl_raw r.1]; exact fun z => by cases z)
    exact ⟨by rw [cl_upd_ne n]; exact r.1, fun z => (List.mem_cons.mp z).elim n r.2.1, r.2.2⟩
  | fx =>
    have n := ne (by rw [cl_raw r.1]; exact fun z => by cases z)
    exact ⟨by rw [cl_upd_ne n]; exact r.1, fun z => (List.mem_cons.mp z).elim n r.2.1, r.2.2⟩
theorem RX.drop1 {fm : Fm} {own : List Addr} {H H1 : Hp} {q : Addr} : ∀ a o, RX fm (q :: own) H H1 md a o → RX fm own H H1 md a o := RX.own fun p hp => List.mem_cons_of_mem _ hp
theorem newRX' {fm : Fm} {kp : RdR} {own : List Addr} {σ : L2.St} {H H' : Hp} {q : Addr} {o : HO} (at_ : At fm kp L σ H own) (h : H q = none) (h' : H' q = some o) (n : nt o = true := by rfl) : RX fm own H H' md q o :=
  RX.fx md _ _ ⟨cl_of h' n, fun hp => (at_.new q hp).1 h, fun hz => at_.zin q hz h, at_.same.free h, h⟩
/-- as a value -/
theorem ev_ofL {m : M (List α)} (h : EvL g L e md S m) : EvE g L e md (tList S) m :=
  PE.imp h fun σ H Q q => by
    obtain ⟨kp, own, at_, q⟩ := tE_iff.mp q
    refine tL_iff.mpr ⟨kp, own, at_, ?_⟩
    cases m with
    | ok d => exact fun p vs H' s n h' r => q _ H' s ⟨p, vs, rfl, newRX' at_ n h', r.mono RX.drop1⟩
    | ex c => exact q
    | no => exact q
theorem evl_flat {m : M (List α)} (hf : Flat S) (h : EvL g L e md S m) : EvL g L e md' S m :=
  PE.imp h fun σ H Q q => by
    obtain ⟨kp, own, at_, q⟩ := tL_iff.mp q
    refine tL_iff.mpr ⟨kp, own, at_, ?_⟩
    cases m with
    | ok d => exact fun p vs H' s n h' r => q p vs H' s n h' (r.flat hf)
    | ex c => exact q
    | no => exact q
theorem evl_lst {m : M (List α)} (hl : ∀ ds, m = .ok ds → ds.length ≤ 1000) (ha : EvA g L es md (aAll S) m) : EvL g L (.List es pos) md S m := by
  refine PE.imp (pe_lst ha) fun σ H Q q => ?_
  obtain ⟨kp, own, at_, q⟩ := tL_iff.mp q
  refine tA_iff.mpr ⟨kp, own, at_, ?_⟩
  cases m with
  | ok d => exact fun vs H1 s1 r1 => ⟨Nat.le_trans (by rw [← tupL_le r1]; exact hl _ rfl) (by decide), fun p hp => q p vs _ (s1.trans (newSame hp)) (s1.free hp) upd_same (Reps.mono r1 (RX.add hp))⟩
  | ex c => exact q
  | no => exact q
theorem evl_nil : EvL g L (.List [] pos) md S (.ok []) := evl_lst (fun ds h => by cases h; exact Nat.zero_le _) evs_nil
structure OkS (p : Pr) (sc : Scope) (NN VV GG : List Str) (k : Nat) (g : G) : Prop extends Ok p sc NN VV GG k g where
  loc : ∀ {i : Nat} {x : Str}, VV[i]? = some x → L2.Loc g.X.env.scope x
  fnT : ∀ x, g.X.fn x = true
  psO : PassesOwn (model g.X.prog g.X.w) g.X.A g.X.env g.X.xe
  scp : g.X.env.scope = sc
  stk : g.X.stack = g.X.env :: g.X.outer
  frm : g.X.env.frame = some g.X.env.locals
  exn : g.X.ex = []
theorem PSs.ex {X : Cx} {ι : Type} {st : List Stmt} {t : ι → TS} (h : ∀ d, PSs X st (t d)) : PSs X st (fun E σ H => ∃ d, t d E σ H) := ⟨fun pins s σ H D I ⟨d, q⟩ => (h d).run pins s σ H D I q⟩
variable {st : List Stmt} {s0 : Stmt} {D : δ → Out} {d : δ}
theorem evb_nx (h : D d = .nx L') (w : Wk L L') : EvB g L [] D (.ok d) := by
  refine PSs.imp pss_nil fun E σ H ⟨kp, own, at_, q⟩ => ?_
  have q : OutOk g.fm kp E (D d) := q
  rw [h] at q
  obtain ⟨own', a', _⟩ := at_.weak w
  exact q σ H own' a'
theorem evb_go (h : D d = .go L') (w : Wk L L') : EvB g L [] D (.ok d) := by
  refine PSs.imp pss_nil fun E σ H ⟨kp, own, at_, q⟩ => ?_
  have q : OutOk g.fm kp E (D d) := q
  rw [h] at q
  obtain ⟨own', a', _⟩ := at_.weak w
  exact (q σ H own' a').1
theorem PSs.head {X : Cx} {t : TS} (h : PS X s0 t) : PSs X (s0 :: st) (fun E σ H => t { E with nx := fun _ _ => False } σ H) := by
  refine PSs.imp (pss_cons h (pss_never (sts := st))) fun E σ H q => q
theorem BOk.exx {kp : RdR} {E : Ends} {c : Ec} {σ : L2.St} {H : Hp} {own : List Addr} (wk : Wk L g.LX) (at_ : At g.fm kp L σ H own) (q : BOk g kp E D (.ex c)) : ∀ H', Same H H' → g.W c σ H' := fun H' s => by
  obtain ⟨own', a', _⟩ := (at_.ext s).weak wk
  exact q σ H' own' a'
/-- return e -/
inductive RtMd : Md → Bool → Prop where
  | sh {x : Md} : RtMd x false
  | f0 : RtMd .f0 true
  | fx : RtMd .fx true
theorem RtMd.rt {fm : Fm} {own : List Addr} {H H' : Hp} {bm : Bool} (h : RtMd md bm) : ∀ a o, RX fm own H H' md a o → RT fm H' bm none a o := fun a o r => by
  have r' := RX.own (own' := []) (fun _ z => nomatch z) a o r
  cases h with
  | sh =>
    have q := RX.sh a o r'
    exact q
  | f0 => exact r'
  | fx => exact RX.f0 (H := H) a o r'
theorem evb_retF {bm : Bool} {m : M α} {mk : α → δ} (wk : Wk L g.LX) (hm : RtMd md bm) (hD : ∀ d, D (mk d) = .rt bm S d) (he : EvE g L e md S m) : EvB g L (.Return (some e) pos :: st) D (m.bind fun d => .ok (mk d)) := by
  refine PSs.imp (PSs.head (ps_ret he)) fun E σ H ⟨kp, own, at_, q⟩ => ?_
  refine tE_iff.mpr ⟨kp, own, at_, ?_⟩
  cases m with
  | ok d =>
    have q : OutOk g.fm kp E (D (mk d)) := q
    rw [hD] at q
    exact fun v H' s r => q v H' (at_.same.trans s) (S.mono r hm.rt)
  | ex c => exact BOk.exx wk at_ q
  | no => exact q
theorem M.bind_id {α : Type} (m : M α) : m.bind (fun d => .ok d) = m := by cases m <;> rfl
theorem evb_ret {bm : Bool} {m : M α} {D : α → Out} (wk : Wk L g.LX) (hm : RtMd md bm) (hD : ∀ d, D d = .rt bm S d) (he : EvE g L e md S m) : EvB g L (.Return (some e) pos :: st) D m := by
  have h := evb_retF (mk := id) (st := st) (pos := pos) wk hm hD he
  rwa [show (m.bind fun d => .ok (id d)) = m from M.bind_id m] at h
theorem RX.rtL {fm : Fm} {own : List Addr} {H H' : Hp} {bm : Bool} {p : Addr} (h : RtMd md bm) : ∀ a o, RX fm (p :: own) H H' md a o → RT fm H' bm (some p) a o := fun a o r => by
  have r' := RX.own (own' := [p]) (fun x z => by rw [List.mem_singleton.mp z]; exact List.mem_cons_self) a o r
  cases h with
  | sh =>
    have q := RX.sh a o r'
    exact q
  | f0 => exact r'
  | fx => exact RX.f0 (H := H) a o r'
/-- return of a list just made -/
theorem evb_retLF {bm : Bool} {m : M (List α)} {mk : List α → δ} (wk : Wk L g.LX) (hm : RtMd md bm) (hD : ∀ d, D (mk d) = .rtL bm S d) (he : EvL g L e md S m) : EvB g L (.Return (some e) pos :: st) D (m.bind fun d => .ok (mk d)) := by
  refine PSs.imp (PSs.head (ps_ret he)) fun E σ H ⟨kp, own, at_, q⟩ => ?_
  refine tL_iff.mpr ⟨kp, own, at_, ?_⟩
  cases m with
  | ok d =>
    have q : OutOk g.fm kp E (D (mk d)) := q
    rw [hD] at q
    exact fun p vs H' s n h' r => q p vs H' (at_.same.trans s) (fun hz => at_.zin p hz n) (at_.same.free n) h' (r.mono (RX.rtL hm))
  | ex c => exact BOk.exx wk at_ q
  | no => exact q
theorem evb_retL {bm : Bool} {m : M (List α)} {D : List α → Out} (wk : Wk L g.LX) (hm : RtMd md bm) (hD : ∀ d, D d = .rtL bm S d) (he : EvL g L e md S m) : EvB g L (.Return (some e) pos :: st) D m := by
  have h := evb_retLF (mk := id) (st := st) (pos := pos) wk hm hD he
  rwa [show (m.bind fun d => .ok (id d)) = m from M.bind_id m] at h
/-- return of a list that a slot owns -/
theorem evb_retOwn {bm b : Bool} {ds : List α} {i j : Nat} {x : Str} {D : δ → Out} {d' : δ} {npos : Pos} (ok : Ok p sc NN VV GG k g) (hN : NN[i]? = some x) (hV : VV[j]? = some x) (hL : L[i]? = some (sOwn b S ds)) (hb : b = bm ∨ Flat S ∨ bm = false) (hD : D d' = .rtL bm S ds) :
    EvB g L (.Return (some (.Name x npos)) pos :: st) D (.ok d') := by
  obtain ⟨hv, ho⟩ := ok.vis hV
  obtain ⟨h1, h2, _⟩ := okName_d ho
  refine PSs.imp (PSs.head (ps_ret (pe_var (i := i) (by rw [ok.N]; exact hN) hv h1 h2))) fun E σ H ⟨kp, own, at_, q⟩ => ?_
  obtain ⟨Fs, hs, rfl⟩ := at_.sl
  obtain ⟨v, F, e1, e2, p, vs, rfl, rfl, hp, r⟩ := hs.get hL
  have q : OutOk g.fm kp E (D d') := q
  rw [hD] at q
  have pin : p ∈ Fs.flatten := List.mem_flatten.mpr ⟨[p], List.mem_of_getElem? e2, by simp⟩
  obtain ⟨n1, n2, n3⟩ := at_.new p pin
  have rr : Reps S (RX g.fm [p] H H (if b then .f0 else .sh)) ds vs := r.mono (RX.own (own' := [p]) (fun x z => by rw [List.mem_singleton.mp z]; exact pin))
  refine ⟨_, e1, q p vs H at_.same n3 n2 hp ?_⟩
  unfold RT
  rcases hb with rfl | hf | rfl
  · exact rr
  · exact rr.flat hf
  · exact rr.mono RX.sh
inductive SlB : Md → Bool → Prop where
  | sh {x : Md} : SlB x false
  | f0 : SlB .f0 true
  | fx : SlB .fx true
theorem SlB.rb {fm : Fm} {own : List Addr} {H H' : Hp} {b : Bool} (h : SlB md b) : ∀ a o, RX fm own H H' md a o → RB fm own H' b a o := fun a o r => by
  cases h with
  | sh =>
    have q := RX.sh a o r
    exact q
  | f0 => exact r
  | fx => exact RX.f0 (H := H) a o r
variable {i j : Nat} {x : Str} {pos' : Pos}
theorem okS_fn (ok : OkS p sc NN VV GG k g) : g.X.fn x = true ∨ g.X.env.scope.names.lookup x = some .local := .inl (ok.fnT x)
theorem evb_set {b : Bool} {m : M α} {f : α → M δ} (ok : OkS p sc NN VV GG k g) (hN : NN[i]? = some x) (hV : VV[j]? = some x) (wk : Wk L g.LX) (hb : SlB md b) (he : EvE g L e md S m) (hr : ∀ d, EvB g (L.set i (sV b S d)) st D (f d))
    (hs : swapsWith e (some (.Name x pos')) pos.line g.X.env = pure false := by rfl) : EvB g L (.Assign [.Name x pos'] e pos :: st) D (m.bind f) := by
  refine PSs.imp (pss_cons (ps_set (i := i) (by rw [ok.N]; exact ok.nd) (by rw [ok.N]; exact hN) (ok.loc hV) he hs (okS_fn ok)) (PSs.ex hr)) fun E σ H ⟨kp, own, at_, q⟩ => ?_
  refine tE_iff.mpr ⟨kp, own, at_, ?_⟩
  cases m with
  | ok d =>
    intro v H' s r
    obtain ⟨own', a'⟩ := (at_.ext s).setV (i := i) (b := b) (S.mono r hb.rb)
    exact ⟨d, kp, own', a', q⟩
  | ex c => exact BOk.exx wk at_ q
  | no => exact q
theorem set_own {Fs : List (List Addr)} {q : Addr} : ∀ {i : Nat}, ∀ x ∈ (Fs.set i [q]).flatten, x = q ∨ x ∈ Fs.flatten := by
  induction Fs with
  | nil => intro i x h; exact .inr h
  | cons F Fs ih =>
    intro i x h
    cases i with
    | zero =>
      simp only [List.set_cons_zero, List.flatten_cons, List.mem_append, List.mem_singleton] at h
      rcases h with h | h
      · exact .inl h
      · exact .inr (by simp only [List.flatten_cons, List.mem_append]; exact .inr h)
    | succ i =>
      simp only [List.set_cons_succ, List.flatten_cons, List.mem_append] at h
      rcases h with h | h
      · exact .inr (by simp only [List.flatten_cons, List.mem_append]; exact .inl h)
      · rcases ih x h with h | h
        · exact .inl h
        · exact .inr (by simp only [List.flatten_cons, List.mem_append]; exact .inr h)
theorem set_own_nd {Fs : List (List Addr)} {q : Addr} (hq : q ∉ Fs.flatten) (hn : Fs.flatten.Nodup) : ∀ {i : Nat}, (Fs.set i [q]).flatten.Nodup := by
  induction Fs with
  | nil => intro i; exact hn
  | cons F Fs ih =>
    intro i
    simp only [List.flatten_cons, List.mem_append, not_or] at hq
    rw [List.flatten_cons, List.nodup_append] at hn
    cases i with
    | zero =>
      simp only [List.set_cons_zero, List.flatten_cons]
      rw [List.nodup_append]
      refine ⟨by simp, hn.2.1, fun a ha b hb => ?_⟩
      rw [List.mem_singleton.mp ha]
      rintro rfl
      exact hq.2 hb
    | succ i =>
      simp only [List.set_cons_succ, List.flatten_cons]
      rw [List.nodup_append]
      refine ⟨hn.1, ih hq.2 hn.2.1, fun a ha b hb => ?_⟩
      rcases set_own b hb with rfl | hb
      · rintro rfl; exact hq.1 ha
      · exact hn.2.2 a ha b hb
/-- a new list becomes a slot's own -/
theorem At.setOwn {fm : Fm} {kp : RdR} {σ : L2.St} {H H' : Hp} {own : List Addr} {b : Bool} {ds : List α} {vs : List V} {q : Addr} (h : At fm kp L σ H own) (s : Same H H') (hn : H q = none) (h' : H' q = some (.lst vs))
    (r : Reps S (RB fm (q :: own) H' b) ds vs) : ∃ own', At fm kp (L.set i (sOwn b S ds)) (σ.set i (some (.ref q))) H' own' := by
  obtain ⟨h1, h2, ⟨Fs, h3, rfl⟩, h4, h5, h6⟩ := h
  have hq : q ∉ Fs.flatten := fun z => (h5 q z).1 hn
  have sub : ∀ x ∈ (Fs.set i [q]).flatten, x ∈ q :: Fs.flatten := fun x hx => (set_own x hx).elim (fun e => by rw [e]; exact List.mem_cons_self) (List.mem_cons_of_mem _)
  have key : ∀ (md : Md) a o, RX fm Fs.flatten H H md a o → RX fm (Fs.set i [q]).flatten H H' md a o := fun md a o z => by
    refine RX.own sub a o ?_
    have z1 := RX.add (o' := .lst []) hn a o z
    have na : a ≠ q ∨ KObj fm.K a o := by
      rcases RX.sh a o z with z | z
      · exact .inl fun e => Rd.some z.1 (by rw [e]; exact cl_none hn)
      · exact .inr z
    cases md with
    | sh =>
      rcases z1 with z1 | z1
      · rcases z with z | z
        · exact .inl ⟨Rd.same s z.1, z1.2⟩
        · exact .inr z
      · exact .inr z1
    | f0 => exact ⟨s.cl _ _ z.1, z1.2⟩
    | fx => exact ⟨s.cl _ _ z.1, z1.2⟩
  have keyB : ∀ (b : Bool) a o, RB fm Fs.flatten H b a o → RB fm (Fs.set i [q]).flatten H' b a o := fun b a o z => by
    cases b with
    | false => exact key .sh a o z
    | true => exact key .f0 a o z
  refine ⟨_, h1.trans s, fun a z n => h2 a z (s.free n), ⟨Fs.set i [q], (h3.st (H' := H') keyB fun p hp => ?_).set (s := sOwn b S ds) ⟨q, vs, rfl, rfl, h', r.mono fun a o z => ?_⟩ i, rfl⟩, set_own_nd hq h4, fun p hp => ?_, fun a o z => key .sh a o (h6 a o z)⟩
  · cases e : cl H p with
    | none => exact absurd e (h3.tb p hp)
    | some u => rw [cl_raw e]; exact s.keep _ _ (cl_raw e) (cl_nt e)
  · cases b <;> exact RX.own sub a o z
  · rcases set_own p hp with rfl | hp
    · exact ⟨by rw [h']; exact (fun z => by cases z), h1.free hn, fun z => h2 _ z hn⟩
    · exact ⟨fun e => (h5 p hp).1 (s.free e), (h5 p hp).2⟩
theorem evb_own {b : Bool} {m : M (List α)} {f : List α → M δ} (ok : OkS p sc NN VV GG k g) (hN : NN[i]? = some x) (hV : VV[j]? = some x) (wk : Wk L g.LX) (hb : SlB md b) (he : EvL g L e md S m) (hr : ∀ d, EvB g (L.set i (sOwn b S d)) st D (f d))
    (hs : swapsWith e (some (.Name x pos')) pos.line g.X.env = pure false := by rfl) : EvB g L (.Assign [.Name x pos'] e pos :: st) D (m.bind f) := by
  refine PSs.imp (pss_cons (ps_set (i := i) (by rw [ok.N]; exact ok.nd) (by rw [ok.N]; exact hN) (ok.loc hV) he hs (okS_fn ok)) (PSs.ex hr)) fun E σ H ⟨kp, own, at_, q⟩ => ?_
  cases m with
  | ok d =>
    refine ⟨kp, own, at_, fun v vs H' s n h' r => ?_⟩
    obtain ⟨own', a'⟩ := at_.setOwn (i := i) (b := b) s n h' (r.mono hb.rb)
    exact ⟨d, kp, own', a', q⟩
  | ex c => exact ⟨kp, own, at_, BOk.exx wk at_ q⟩
  | no => exact q.elim
/-- a slot's own list may be shared from here on -/
theorem At.freeze {fm : Fm} {kp : RdR} {σ : L2.St} {H : Hp} {own : List Addr} {b : Bool} {ds : List α} (h : At fm kp L σ H own) (hL : L[i]? = some (sOwn b S ds)) : ∃ own', At fm kp (L.set i (sV false (tList S) ds)) σ H own' ∧ ∀ p ∈ own', p ∈ own := by
  obtain ⟨h1, h2, ⟨Fs, h3, rfl⟩, h4, h5, h6⟩ := h
  obtain ⟨v, F, e1, e2, q, vs, rfl, rfl, hp, r⟩ := h3.get hL
  have qin : q ∈ Fs.flatten := List.mem_flatten.mpr ⟨[q], List.mem_of_getElem? e2, by simp⟩
  have kk : ∀ p ∈ (Fs.set i []).flatten, p ∈ Fs.flatten := fun p hp => (set_sub (i := i)).subset hp
  have qn : q ∉ (Fs.set i []).flatten := by
    have nd := h4
    clear h3 h5 h6 qin kk r hp
    induction Fs generalizing i L σ with
    | nil => simp at e2
    | cons F Fs ih =>
      rw [List.flatten_cons, List.nodup_append] at nd
      cases i with
      | zero =>
        simp at e2
        subst e2
        simp only [List.set_cons_zero, List.flatten_cons, List.nil_append]
        exact fun z => nd.2.2 q (by simp) q z rfl
      | succ i =>
        simp only [List.set_cons_succ, List.flatten_cons, List.mem_append, not_or]
        have e2' : Fs[i]? = some [q] := by simpa using e2
        refine ⟨fun z => nd.2.2 q z q (List.mem_flatten.mpr ⟨[q], List.mem_of_getElem? e2', by simp⟩) rfl, ?_⟩
        cases σ with
        | nil => simp at e1
        | cons s σ =>
          cases L with
          | nil => simp at hL
          | cons l L => exact ih (i := i) (L := L) (σ := σ) (hL := by simpa using hL) (e1 := by simpa using e1) (e2 := e2') (h4 := nd.2.1) (nd := nd.2.1)
  have σe : σ.set i (some (V.ref q)) = σ := by
    apply List.ext_getElem?
    intro n
    by_cases hn : n = i
    · subst hn
      rw [e1]
      have := (List.getElem?_eq_some_iff.mp e1).1
      rw [List.getElem?_set_self this]
    · rw [List.getElem?_set_ne (Ne.symm hn)]
  refine ⟨_, ⟨h1, h2, ⟨Fs.set i [], ?_, rfl⟩, h4.sublist set_sub, fun p hp => h5 p (kk p hp), fun a o z => RX.own (md := .sh) (H := H) kk a o (h6 a o z)⟩, kk⟩
  rw [← σe]
  refine (h3.st (RB.own kk) fun _ _ => rfl).set (s := sV false (tList S) ds) ⟨rfl, .ref q, rfl, q, vs, rfl, ?_, ?_⟩ i
  · exact .inl ⟨.inl (cl_of hp), qn, (h5 q qin).2.2⟩
  · exact r.mono fun a o z => RX.sh (H := H) a o (RB.own kk b a o z)
/-- an expression may read a slot's own list -/
theorem ev_borrow {b : Bool} {ds : List α} {m : M β} (hf : Flat T ∨ md = .fx) (hL : L[i]? = some (sOwn b S ds)) (h : EvE g (L.set i (sV false (tList S) ds)) e md T m) : EvE g L e md T m := PE.imp h fun σ H Q q => by
  obtain ⟨kp, own, at_, q⟩ := tE_iff.mp q
  obtain ⟨own', a', sub⟩ := at_.freeze hL
  refine tE_iff.mpr ⟨kp, own', a', ?_⟩
  cases m with
  | ok d =>
    refine fun v H' s r => q v H' s ?_
    rcases hf with hf | rfl
    · exact hf r
    · exact T.mono r fun a o z => ⟨z.1, fun y => (at_.new a y).1 z.2.2.2.2, z.2.2⟩
  | ex c => exact q
  | no => exact q
theorem evl_borrow {b : Bool} {ds : List α} {m : M (List β)} (hf : Flat T ∨ md = .fx) (hL : L[i]? = some (sOwn b S ds)) (h : EvL g (L.set i (sV false (tList S) ds)) e md T m) : EvL g L e md T m := PE.imp h fun σ H Q q => by
  obtain ⟨kp, own, at_, q⟩ := tL_iff.mp q
  obtain ⟨own', a', sub⟩ := at_.freeze hL
  refine tL_iff.mpr ⟨kp, own', a', ?_⟩
  cases m with
  | ok d =>
    refine fun p v H' s n h' r => q p v H' s n h' ?_
    rcases hf with hf | rfl
    · exact r.flat hf
    · exact r.mono fun a o z => ⟨z.1, fun y => (List.mem_cons.mp y).elim (fun e => z.2.1 (by rw [e]; exact List.mem_cons_self)) fun y => (at_.new a y).1 z.2.2.2.2, z.2.2⟩
  | ex c => exact q
  | no => exact q
/-- both ways go on to one state -/
theorem evb_if {mc : M Bool} {m1 m2 : M β} {f : β → M δ} {LJ : β → List Slot} {sa sb : List Stmt} (wk : Wk L g.LX) (hc : EvT g L c mc) (ha : EvB g L sa (fun s => .nx (LJ s)) m1) (hb : EvB g L sb (fun s => .nx (LJ s)) m2) (hr : ∀ s, EvB g (LJ s) st D (f s)) :
    EvB g L (.If c sa sb pos :: st) D (mc.bind fun c => (if c = true then m1 else m2).bind f) := by
  refine PSs.imp (pss_cons (ps_if hc ha hb) (PSs.ex hr)) fun E σ H ⟨kp, own, at_, q⟩ => ?_
  have key : ∀ {m : M β} {H1 : Hp}, Same H H1 → BOk g kp E D (m.bind f) → tB g L (fun s => .nx (LJ s)) m { E with nx := fun σ H => ∃ d, tB g (LJ d) D (f d) E σ H } σ H1 := fun {m H1} s q => by
    cases m with
    | ok d => exact ⟨kp, own, at_.ext s, fun σ' H' own' a' => ⟨d, kp, own', a', q⟩⟩
    | ex c => exact ⟨kp, own, at_.ext s, q⟩
    | no => exact q.elim
  cases mc with
  | ok c =>
    refine ⟨kp, own, at_, fun H1 s => ?_⟩
    cases c with
    | true => exact key s q
    | false => exact key s q
  | ex c => exact ⟨kp, own, at_, BOk.exx wk at_ q⟩
  | no => exact q.elim
def Out.isNx : Out → Bool
  | .nx _ => true
  | _ => false
theorem OutOk.cut {fm : Fm} {kp : RdR} {E E' : Ends} (hc : E'.ct = E.ct) (hr : E'.rt = E.rt) : ∀ {o : Out}, o.isNx = false → OutOk fm kp E o → OutOk fm kp E' o.cut := fun {o} hn q => by
  cases o with
  | nx L => cases hn
  | ct L => exact fun σ H own a => by rw [hc]; exact q σ H own a
  | go L => exact fun σ H own a => by rw [hc]; exact (q σ H own a).2
  | rt b T r => exact fun v H' s r => by rw [hr]; exact q v H' s r
  | rtL b T r => exact fun p vs H' s n1 n2 h r => by rw [hr]; exact q p vs H' s n1 n2 h r
  | gen f => show f fm E'.rt; rw [hr]; exact q
  | bad => exact q
/-- one way leaves (return, raise, continue), the other goes on -/
theorem evb_ifx {mc : M Bool} {m1 m2 : M δ} {sa : List Stmt} (wk : Wk L g.LX) (hc : EvT g L c mc) (ha : EvB g L sa (fun d => (D d).cut) m1) (hr : EvB g L st D m2) (hn : ∀ d, (D d).isNx = false := by intro d; first | rfl | (cases d <;> first | rfl | (rename_i z; cases z <;> rfl))) :
    EvB g L (.If c sa [] pos :: st) D (mc.bind fun c => if c = true then m1 else m2) := by
  refine PSs.imp (pss_cons (ps_if hc ha pss_nil) hr) fun E σ H ⟨kp, own, at_, q⟩ => ?_
  cases mc with
  | ok c =>
    refine ⟨kp, own, at_, fun H1 s => ?_⟩
    cases c with
    | true =>
      have q : BOk g kp E D m1 := q
      refine ⟨kp, own, at_.ext s, ?_⟩
      cases m1 with
      | ok d => exact OutOk.cut (E := E) (E' := { E with nx := tB g L D m2 E }) rfl rfl (hn d) q
      | ex c => exact q
      | no => exact q
    | false => exact ⟨kp, own, at_.ext s, q⟩
  | ex c => exact ⟨kp, own, at_, BOk.exx wk at_ q⟩
  | no => exact q.elim
/-- the last statement of a block: both ways end as the block does -/
theorem evb_ifl {mc : M Bool} {m1 m2 : M δ} {sa sb : List Stmt} (wk : Wk L g.LX) (hc : EvT g L c mc) (ha : EvB g L sa D m1) (hb : EvB g L sb D m2) : EvB g L [.If c sa sb pos] D (mc.bind fun c => if c = true then m1 else m2) := by
  refine PSs.imp (pss_one (ps_if hc ha hb)) fun E σ H ⟨kp, own, at_, q⟩ => ?_
  cases mc with
  | ok c =>
    refine ⟨kp, own, at_, fun H1 s => ?_⟩
    cases c with
    | true => exact ⟨kp, own, at_.ext s, q⟩
    | false => exact ⟨kp, own, at_.ext s, q⟩
  | ex c => exact ⟨kp, own, at_, BOk.exx wk at_ q⟩
  | no => exact q.elim
def forM {α β : Type} (f : β → α → M β) : β → List α → M β
  | s, [] => .ok s
  | s, x :: r => (f s x).bind fun s' => forM f s' r
/-- a turn's end: on, or out of the def -/
inductive Fl (β ρ : Type) where
  | nx (s : β)
  | rt (r : ρ)
universe u in
def Fl.el {β ρ : Type} {γ : Type u} (f : β → γ) (h : ρ → γ) : Fl β ρ → γ
  | .nx s => f s
  | .rt r => h r
def forF {α β ρ : Type} (f : β → α → M (Fl β ρ)) : β → List α → M (Fl β ρ)
  | s, [] => .ok (.nx s)
  | s, x :: r => (f s x).bind (Fl.el (fun s' => forF f s' r) fun r => .ok (.rt r))
def ItOk (K : PySem.W.Frag) (kp : RdR) (J : It) (T : Ty α) (xs : List α) : Prop :=
  ∀ H, Rdb K kp H → ∀ i, (∀ d, xs[i]? = some d → J.go i H ∧ ∀ x H', J.yld i H x H' → Same H H' ∧ T.rep d x (Nw false kp H H')) ∧ (xs[i]? = none → J.stop i H)
/-- what a for walks -/
def tI (fm : Fm) (W : Wx) (L : List Slot) (T : Ty α) (m : M (List α)) : TI := fun σ H R => ∃ kp own, At fm kp L σ H own ∧
  match m with
  | .ok xs => ∀ J H', Same H H' → ItOk fm.K (RD fm own H') J T xs → R J H'
  | .ex c => ∀ H', Same H H' → W c σ H'
  | .no => False
def EvI (g : G) (L : List Slot) (tg e : Expr) (T : Ty α) (m : M (List α)) : Prop := PI g.X tg e (tI g.fm g.W L T m)
theorem PI.imp {X : Cx} {tg e : Expr} {t t' : TI} (h : PI X tg e t) (k : ∀ σ H Q, t' σ H Q → t σ H Q) : PI X tg e t' := ⟨fun pins s σ H Q I q => h.run pins s σ H Q I (k _ _ _ q)⟩
/-- a target that is one name: its slot afterwards -/
def tG (fm : Fm) (T : Ty α) (L : List Slot) (Lt : α → List Slot) : TG := fun v σ H Q => ∃ kp own d, At fm kp L σ H own ∧ T.rep d v (RD fm own H) ∧ ∀ σ' own', At fm kp (Lt d) σ' H own' → (∀ p ∈ own', p ∈ own) → Q σ' H
def EvG (g : G) (tg : Expr) (T : Ty α) (L : List Slot) (Lt : α → List Slot) : Prop := PG g.X tg (tG g.fm T L Lt)
theorem PG.imp {X : Cx} {e : Expr} {t t' : TG} (h : PG X e t) (k : ∀ v σ H Q, t' v σ H Q → t v σ H Q) : PG X e t' := ⟨fun pins s σ H v u Q I r q => h.run pins s σ H v u Q I r (k _ _ _ _ q)⟩
theorem PG.ex {X : Cx} {ι : Type} {e : Expr} {t : ι → TG} (h : ∀ d, PG X e (t d)) : PG X e (fun v σ H Q => ∃ d, t d v σ H Q) := ⟨fun pins s σ H v u Q I r ⟨d, q⟩ => (h d).run pins s σ H v u Q I r q⟩
theorem evg_name (ok : OkS p sc NN VV GG k g) (hN : NN[i]? = some x) (hV : VV[j]? = some x) : EvG g (.Name x pos) T L (fun d => L.set i (sV false T d)) := by
  refine PG.imp (pg_name (i := i) (by rw [ok.N]; exact ok.nd) (by rw [ok.N]; exact hN) (ok.loc hV) (okS_fn ok)) fun v σ H Q ⟨kp, own, d, at_, r, q⟩ => ?_
  obtain ⟨h1, h2, ⟨Fs, h3, rfl⟩, h4, h5, h6⟩ := at_
  have kk : ∀ p ∈ (Fs.set i []).flatten, p ∈ Fs.flatten := fun p hp => (set_sub (i := i)).subset hp
  exact q _ _ ⟨h1, h2, ⟨Fs.set i [], (h3.st (RB.own kk) fun _ _ => rfl).set (s := sV false T d) ⟨rfl, v, rfl, T.mono r (RX.own (md := .sh) (H := H) kk)⟩ i, rfl⟩, h4.sublist set_sub, fun p hp => h5 p (kk p hp), fun a o q => RX.own (md := .sh) (H := H) kk a o (h6 a o q)⟩ kk
theorem Nw.rd {fm : Fm} {kp kp' : RdR} {own : List Addr} {σ : L2.St} {H H' : Hp} (at_ : At fm kp L σ H own) (k : ∀ a o, kp' a o → RD fm own H a o) (s : Same H H') : ∀ a o, Nw false kp' H H' a o → RD fm own H' a o := fun a o r => by
  rcases r with ⟨_, r⟩ | ⟨r, n⟩
  · exact RD.same s a o (k a o r)
  · exact .inl ⟨.inl r, fun hp => (at_.new a hp).1 n, fun hz => at_.zin a hz n⟩
theorem RD.rdb {fm : Fm} {own : List Addr} {H : Hp} : Rdb fm.K (RD fm own H) H := ⟨fun a o r n => r.imp (fun h => Rd.raw h.1 n) id⟩
theorem evb_for {m : M (List α)} {f : β → α → M β} {h : β → M δ} {LF : β → List Slot} {Lt : β → α → List Slot} {s0 : β} {tg it : Expr} {body : List Stmt} (ok : OkS p sc NN VV GG k g) (wk : Wk L g.LX) (hI : EvI g L tg it S m) (w0 : Wk L (LF s0))
    (hG : ∀ s, EvG g tg S (LF s) (Lt s)) (hb : ∀ s d, EvB g (Lt s d) body (fun s' => .go (LF s')) (f s d)) (hr : ∀ s, EvB g (LF s) st D (h s)) (hs : ∀ x, foldedSetIterable it g.X.env x = pure x := by intro _; rfl) :
    EvB g L (.For tg it body [] pos :: st) D (m.bind fun xs => (forM f s0 xs).bind h) := by
  refine PSs.imp (pss_cons (ps_for ok.psO ok.calm hI (PG.ex hG) (PSs.ex fun s => PSs.ex (hb s)) hs) (PSs.ex hr)) fun E σ H ⟨kp, own, at_, q⟩ => ?_
  cases m with
  | ex c => exact ⟨kp, own, at_, BOk.exx wk at_ q⟩
  | no => exact q.elim
  | ok xs =>
  refine ⟨kp, own, at_, fun J H1 s1 hJ => ?_⟩
  have at1 := at_.ext s1
  obtain ⟨own0, a0, sub0⟩ := at1.weak w0
  have q : BOk g kp E D ((forM f s0 xs).bind h) := q
  have kk : ∀ a o, kp a o → RD g.fm own H1 a o := at1.kept
  have a0' : At g.fm (RD g.fm own H1) (LF s0) σ H1 own0 := ⟨a0.same, a0.zin, a0.sl, a0.nd, a0.new, fun a o z => RX.own (md := .sh) (H := H1) sub0 a o z⟩
  refine ⟨fun i m σ H => m = xs.length - i ∧ i ≤ xs.length ∧ ∃ s own', At g.fm (RD g.fm own H1) (LF s) σ H own' ∧ BOk g kp E D ((forM f s (xs.drop i)).bind h), ⟨_, rfl, Nat.zero_le _, s0, own0, a0', q⟩, ?_⟩
  rintro i m σ H ⟨rfl, hi, s, own', a', q'⟩
  have rb : Rdb g.fm.K (RD g.fm own H1) H := ⟨fun a o z n => (a'.kept a o z).imp (fun h => Rd.raw h.1 n) id⟩
  obtain ⟨hgo, hst⟩ := hJ H rb i
  by_cases hlt : i < xs.length
  · have he : xs[i]? = some xs[i] := by simp [hlt]
    obtain ⟨go, yl⟩ := hgo _ he
    rw [List.drop_eq_getElem_cons hlt] at q'
    refine .inr ⟨go, fun σ' H' => ∃ s own', At g.fm (RD g.fm own H1) (LF s) σ' H' own' ∧ BOk g kp E D ((forM f s (xs.drop (i + 1))).bind h), fun σ' H' ⟨s', own'', a'', q''⟩ => ⟨xs.length - (i + 1), by omega, rfl, hlt, s', own'', a'', q''⟩, fun x H' y => ?_⟩
    obtain ⟨s2, r2⟩ := yl x H' y
    refine ⟨s, _, own', xs[i], a'.ext s2, S.mono r2 (Nw.rd a' a'.kept s2), fun σ' own'' a'' _ => ⟨s, xs[i], _, own'', a'', ?_⟩⟩
    have q2 : BOk g kp E D (((f s xs[i]).bind fun s' => forM f s' (xs.drop (i + 1))).bind h) := q'
    cases hf : f s xs[i] with
    | ok s' =>
      rw [hf] at q2
      exact fun σ3 H3 own3 a3 => ⟨⟨s', own3, a3, q2⟩, ⟨s', own3, a3, q2⟩⟩
    | ex c =>
      rw [hf] at q2
      exact fun σ3 H3 own3 a3 => q2 σ3 H3 own3 (a3.keep kk)
    | no => rw [hf] at q2; exact q2
  · have e : i = xs.length := by omega
    subst e
    rw [List.drop_length] at q'
    exact .inl ⟨hst (by simp), s, kp, own', a'.keep kk, q'⟩
def Out.isRt : Out → Bool
  | .rt _ _ _ => true
  | .rtL _ _ _ => true
  | .gen _ => true
  | _ => false
theorem OutOk.rt {fm : Fm} {kp kp' : RdR} {E E' : Ends} (hr : E'.rt = E.rt) : ∀ {o : Out}, o.isRt = true → OutOk fm kp E o → OutOk fm kp' E' o := fun {o} hn q => by
  cases o with
  | nx L => cases hn
  | ct L => cases hn
  | go L => cases hn
  | rt b T r => exact fun v H' s r => by rw [hr]; exact q v H' s r
  | rtL b T r => exact fun p vs H' s n1 n2 h r => by rw [hr]; exact q p vs H' s n1 n2 h r
  | gen f => show f fm E'.rt; rw [hr]; exact q
  | bad => cases hn
/-- .. that may leave the def -/
theorem evb_forF {ρ : Type} {m : M (List α)} {f : β → α → M (Fl β ρ)} {h : β → M δ} {dr : ρ → δ} {LF : β → List Slot} {Lt : β → α → List Slot} {s0 : β} {tg it : Expr} {body : List Stmt} (ok : OkS p sc NN VV GG k g) (wk : Wk L g.LX) (hI : EvI g L tg it S m) (w0 : Wk L (LF s0))
    (hG : ∀ s, EvG g tg S (LF s) (Lt s)) (hb : ∀ s d, EvB g (Lt s d) body (Fl.el (fun s' => Out.go (LF s')) fun r => D (dr r)) (f s d)) (hr : ∀ s, EvB g (LF s) st D (h s)) (hD : ∀ r, (D (dr r)).isRt = true := by intro d; first | rfl | (cases d <;> rfl)) (hs : ∀ x, foldedSetIterable it g.X.env x = pure x := by intro _; rfl) :
    EvB g L (.For tg it body [] pos :: st) D (m.bind fun xs => (forF f s0 xs).bind (Fl.el h fun r => .ok (dr r))) := by
  refine PSs.imp (pss_cons (ps_for ok.psO ok.calm hI (PG.ex hG) (PSs.ex fun s => PSs.ex (hb s)) hs) (PSs.ex hr)) fun E σ H ⟨kp, own, at_, q⟩ => ?_
  cases m with
  | ex c => exact ⟨kp, own, at_, BOk.exx wk at_ q⟩
  | no => exact q.elim
  | ok xs =>
  refine ⟨kp, own, at_, fun J H1 s1 hJ => ?_⟩
  have at1 := at_.ext s1
  obtain ⟨own0, a0, sub0⟩ := at1.weak w0
  have q : BOk g kp E D ((forF f s0 xs).bind (Fl.el h fun r => .ok (dr r))) := q
  have kk : ∀ a o, kp a o → RD g.fm own H1 a o := at1.kept
  have a0' : At g.fm (RD g.fm own H1) (LF s0) σ H1 own0 := ⟨a0.same, a0.zin, a0.sl, a0.nd, a0.new, fun a o z => RX.own (md := .sh) (H := H1) sub0 a o z⟩
  refine ⟨fun i m σ H => m = xs.length - i ∧ i ≤ xs.length ∧ ∃ s own', At g.fm (RD g.fm own H1) (LF s) σ H own' ∧ BOk g kp E D ((forF f s (xs.drop i)).bind (Fl.el h fun r => .ok (dr r))), ⟨_, rfl, Nat.zero_le _, s0, own0, a0', q⟩, ?_⟩
  rintro i m σ H ⟨rfl, hi, s, own', a', q'⟩
  have rb : Rdb g.fm.K (RD g.fm own H1) H := ⟨fun a o z n => (a'.kept a o z).imp (fun h => Rd.raw h.1 n) id⟩
  obtain ⟨hgo, hst⟩ := hJ H rb i
  by_cases hlt : i < xs.length
  · have he : xs[i]? = some xs[i] := by simp [hlt]
    obtain ⟨go, yl⟩ := hgo _ he
    rw [List.drop_eq_getElem_cons hlt] at q'
    refine .inr ⟨go, fun σ' H' => ∃ s own', At g.fm (RD g.fm own H1) (LF s) σ' H' own' ∧ BOk g kp E D ((forF f s (xs.drop (i + 1))).bind (Fl.el h fun r => .ok (dr r))), fun σ' H' ⟨s', own'', a'', q''⟩ => ⟨xs.length - (i + 1), by omega, rfl, hlt, s', own'', a'', q''⟩, fun x H' y => ?_⟩
    obtain ⟨s2, r2⟩ := yl x H' y
    refine ⟨s, _, own', xs[i], a'.ext s2, S.mono r2 (Nw.rd a' a'.kept s2), fun σ' own'' a'' _ => ⟨s, xs[i], _, own'', a'', ?_⟩⟩
    have q2 : BOk g kp E D (((f s xs[i]).bind (Fl.el (fun s' => forF f s' (xs.drop (i + 1))) fun r => .ok (.rt r))).bind (Fl.el h fun r => .ok (dr r))) := q'
    cases hf : f s xs[i] with
    | ok s' =>
      rw [hf] at q2
      cases s' with
      | nx s' => exact fun σ3 H3 own3 a3 => ⟨⟨s', own3, a3, q2⟩, ⟨s', own3, a3, q2⟩⟩
      | rt r =>
        have q2 : OutOk g.fm kp E (D (dr r)) := q2
        show OutOk g.fm _ _ (D (dr r))
        refine OutOk.rt (E := E) ?_ (hD r) q2
        rfl
    | ex c =>
      rw [hf] at q2
      exact fun σ3 H3 own3 a3 => q2 σ3 H3 own3 (a3.keep kk)
    | no => rw [hf] at q2; exact q2
  · have e : i = xs.length := by omega
    subst e
    rw [List.drop_length] at q'
    exact .inl ⟨hst (by simp), s, kp, own', a'.keep kk, q'⟩
theorem PT.ex {X : Cx} {ι : Type} {e : Expr} {t : ι → TT} (h : ∀ d, PT X e (t d)) : PT X e (fun σ H Q => ∃ d, t d σ H Q) := ⟨fun pins s σ H Q I ⟨d, q⟩ => (h d).run pins s σ H Q I q⟩
end
end Hd
namespace Hd
open PySem PySem.Spec L2
def RetOk (fm : Fm) (Q : VK) : Out → Prop
  | .rt md T r => ∀ v H', Same fm.H0 H' → T.rep r v (RT fm H' md) → Q v H'
  | .rtL md T r => ∀ p vs H', Same fm.H0 H' → ¬ fm.z p → fm.H0 p = none → H' p = some (.lst vs) → Reps T (RT fm H' md (some p)) r vs → Q (.ref p) H'
  | .gen f => f fm Q
  | _ => False
/-- what a def promises: it comes to F -/
def spM (p : Pr) {δ ρ : Type} (A : Ar δ) (D : ρ → Out) (F : δ → M ρ) : Sp := fun vs H Q E => ∃ d z, ((∀ a, z a → H a ≠ none) ∧ ∀ P, p.T = some P → LamX.TabS H P lamQ) ∧ A.rep d vs (RD ⟨p.K, H, z⟩ [] H) ∧
  match F d with
  | .ok r => RetOk ⟨p.K, H, z⟩ Q (D r)
  | .ex c => ∀ H', Same H H' → E (.ref (p.C c)) none H'
  | .no => False
/-- the slots of the arguments -/
inductive ArS : {δ : Type} → Ar δ → Nat → (δ → List Slot) → Prop where
  | nil : ArS aNil 0 (fun _ => [])
  | cons {α δ : Type} {T : Ty α} {A : Ar δ} {n : Nat} {f : δ → List Slot} : ArS A n f → ArS (aCons T A) (n + 1) (fun d => sV false T d.1 :: f d.2)
theorem ArS.all {H : Hp} {R : Bool → RdR} {δ : Type} {A : Ar δ} {n : Nat} {f : δ → List Slot} (s : ArS A n f) : ∀ {d : δ} {vs : List V}, A.rep d vs (R false) → vs.length = n ∧ AllS H R (f d) (vs.map some) (List.replicate n []) := by
  induction s with
  | nil => intro d vs h; cases (show vs = [] from h); exact ⟨rfl, .nil⟩
  | cons _ ih =>
    intro d vs h
    obtain ⟨v, r, rfl, h1, h2⟩ := h
    obtain ⟨e, h3⟩ := ih h2
    exact ⟨by simp [e], .cons ⟨rfl, v, rfl, h1⟩ h3⟩
theorem AllS.append {H : Hp} {R : Bool → RdR} {L L' : List Slot} {σ σ' : L2.St} {Fs Fs' : List (List Addr)} (h : AllS H R L σ Fs) (h' : AllS H R L' σ' Fs') : AllS H R (L ++ L') (σ ++ σ') (Fs ++ Fs') := by
  induction h with
  | nil => exact h'
  | cons r _ ih => exact .cons r ih
theorem AllS.anys {H : Hp} {R : Bool → RdR} : ∀ n, AllS H R (List.replicate n sAny) (List.replicate n none) (List.replicate n [])
  | 0 => .nil
  | n + 1 => .cons rfl (AllS.anys n)
theorem flat_rep (n : Nat) : (List.replicate n ([] : List Addr)).flatten = [] := by induction n with
  | zero => rfl
  | succ n ih => simp
structure Sc (st : Stmt) (NN VV ps GG : List Str) : Prop where
  S : FnScope NN ps (defScope st)
  vis : VV.all (seenB (defScope st)) = true
  loc : VV.all (locB (defScope st)) = true
  gl : GG.all (glB (defScope st)) = true
section
variable {p : Pr} {sc : Scope} {NN VV GG : List Str} {k : Nat} {g : G} {L L' : List Slot} {a b c e e' : Expr} {es : List Expr} {md md' : Md} {α β γ δ ρ : Type} {S : Ty α} {T : Ty β} {U : Ty γ} {A : Ar δ} {pos : Pos}
/-- a def's body, as a judgement for all its arguments -/
def Body (p : Pr) (st : Stmt) (NN VV GG : List Str) (k : Nat) (L0 : δ → List Slot) (D : ρ → Out) (F : δ → M ρ) : Prop :=
  ∀ g, OkS p (defScope st) NN VV GG k g → g.LX = List.replicate NN.length sAny → ∀ d, EvB g (L0 d) (defBody st) D (F d)
/-- how Ends take a block's end that the promise tells as D -/
theorem fn_gen {x qual : Str} {st : Stmt} {f : Addr} {fd : FuncData} {ps : List Str} {L0 : δ → List Slot} {n m : Nat} {D D' : ρ → Out} {F : δ → M ρ} (hF : FunD p.K x qual (defArgs st) (defBody st) (defScope st) [] [] f fd) (hS : Sc st NN VV ps GG) (ha : ArS A n L0) (hn : ps.length = n) (hm : n + m = NN.length)
    (hD : ∀ (r : ρ) (fm : Fm) (Q : VK), RetOk fm Q (D r) → OutOk fm (fun _ _ => False) { nx := fun _ H' => Q .non H', rt := Q } (D' r))
    (hb : Body p st NN VV GG k (fun d => L0 d ++ List.replicate m sAny) D' F) :
    FnOk p.P p.w p.K p.mg p.base (L2.CX p.P p.w) (k + 1) f fd ps (spM p A D F) := by
  refine hF.ok hS.S (fun vs H Q E h => ?_) (fun cdv A' outer s H vs Q E hr h => ?_)
  · obtain ⟨d, z, hz, hrep, _⟩ := h
    exact (ha.all (H := H) (R := fun _ => RD ⟨p.K, H, z⟩ [] H) hrep).1.trans hn.symm
  · obtain ⟨d, z, ⟨hz, htab⟩, hrep, q⟩ := h
    have hlen : vs.length = n := (ha.all (H := H) (R := fun _ => RD ⟨p.K, H, z⟩ [] H) hrep).1
    let X : Cx := cxOf (L2.CX p.P p.w) p.P p.w p.K p.mg p.base NN qual (defScope st) f cdv A' outer s H E
    let g : G := ⟨X, ⟨p.K, H, z⟩, fun c _ H' => E (.ref (p.C c)) none H', List.replicate NN.length sAny⟩
    have hN : ∀ {j : Nat} {y : Str}, VV[j]? = some y → y ∈ VV := fun e => List.mem_of_getElem? e
    have ok : OkS p (defScope st) NN VV GG k g :=
      { prog := rfl, w := rfl, K := rfl, mg := rfl, base := rfl, N := rfl, fmK := rfl, tab := htab, room := hr, nd := hS.S.nd
        vis := fun e => let h := seenB_v (List.all_eq_true.mp hS.vis _ (hN e)); ⟨h.2, h.1⟩
        gl := fun e => let h := glB_v (List.all_eq_true.mp hS.gl _ (List.mem_of_getElem? e)); ⟨h.2, h.1⟩
        tk := Takes.imp (takes_of (X := X) rfl rfl rfl (E := E) rfl) (fun cls d σ H ⟨c, e1, e2, h⟩ => by subst e1; subst e2; exact h)
        calm := rfl
        blk := fun h => blkOk_by h
        loc := fun e => locB_v (List.all_eq_true.mp hS.loc _ (hN e))
        fnT := fun _ => rfl
        psO := passes_of (X := X) rfl
        scp := rfl
        stk := rfl
        frm := rfl
        exn := rfl }
    refine ⟨_, hb g ok rfl d, (fun _ _ => False), [], ?_, ?_⟩
    · refine ⟨Same.refl H, hz, ⟨List.replicate n [] ++ List.replicate m [], ?_, by simp [flat_rep]⟩, List.nodup_nil, (fun _ h => nomatch h), fun _ _ h => h.elim⟩
      have h1 := (ha.all (H := H) (R := RB ⟨p.K, H, z⟩ [] H) hrep).2
      have e : L2.start NN vs = vs.map some ++ List.replicate m none := by
        unfold L2.start
        rw [show NN.length - vs.length = m by omega]
      rw [e]
      exact h1.append (AllS.anys m)
    · cases hF' : F d with
      | ok r =>
        rw [hF'] at q
        exact hD r _ _ q
      | ex c =>
        rw [hF'] at q
        exact fun σ' H' own a' => q H' a'.same
      | no => rw [hF'] at q; exact q
theorem fn_rt {x qual : Str} {st : Stmt} {f : Addr} {fd : FuncData} {ps : List Str} {L0 : δ → List Slot} {n m : Nat} {bm : Bool} {T : Ty ρ} {F : δ → M ρ} (hF : FunD p.K x qual (defArgs st) (defBody st) (defScope st) [] [] f fd) (hS : Sc st NN VV ps GG) (ha : ArS A n L0) (hn : ps.length = n) (hm : n + m = NN.length)
    (hb : Body p st NN VV GG k (fun d => L0 d ++ List.replicate m sAny) (fun r => .rt bm T r) F) : FnOk p.P p.w p.K p.mg p.base (L2.CX p.P p.w) (k + 1) f fd ps (spM p A (fun r => .rt bm T r) F) :=
  fn_gen (D' := fun r => .rt bm T r) hF hS ha hn hm (fun r fm Q h => h) hb
theorem fn_rtL {x qual : Str} {st : Stmt} {f : Addr} {fd : FuncData} {ps : List Str} {L0 : δ → List Slot} {n m : Nat} {bm : Bool} {F : δ → M (List α)} (hF : FunD p.K x qual (defArgs st) (defBody st) (defScope st) [] [] f fd) (hS : Sc st NN VV ps GG) (ha : ArS A n L0) (hn : ps.length = n) (hm : n + m = NN.length)
    (hb : Body p st NN VV GG k (fun d => L0 d ++ List.replicate m sAny) (fun r => .rtL bm S r) F) : FnOk p.P p.w p.K p.mg p.base (L2.CX p.P p.w) (k + 1) f fd ps (spM p A (fun r => .rtL bm S r) F) :=
  fn_gen (D' := fun r => .rtL bm S r) hF hS ha hn hm (fun r fm Q h => h) hb
/-- a def, as its callers know it -/
structure Fn (p : Pr) (k : Nat) (x : Str) (ps : List Str) (sp : Sp) : Prop where
  ex : ∃ (f : Addr) (fd : FuncData), FnOk p.P p.w p.K p.mg p.base (L2.CX p.P p.w) k f fd ps sp ∧ p.mg x = some (.ref f) ∧ PySem.W.keepIn p.K (.ref f) = true ∧ Binds p.K fd ps []
theorem tk_at (ok : Ok p sc NN VV GG k g) (σ : L2.St) : PassesAt (L2.CX g.X.prog g.X.w) g.X σ (fun cls d H => ∃ c, cls = .ref (p.C c) ∧ d = none ∧ g.W c σ H) := passAt ok.tk σ
theorem args_in {own : List Addr} {H H1 : Hp} {d : δ} {vs : List V} {fm : Fm} (r : A.rep d vs (RX fm own H H1 md)) : A.rep d vs (RD ⟨fm.K, H1, fun a => a ∈ own ∨ fm.z a⟩ [] H1) :=
  A.mono r fun a o z => by
    rcases RX.sh a o z with z | z
    · exact .inl ⟨z.1, (fun y => nomatch y), fun y => y.elim z.2.1 z.2.2⟩
    · exact .inr z
/-- how new a call's answer is -/
inductive CaMd : Bool → Md → Prop where
  | sh : CaMd false .sh
  | fx {x : Md} : CaMd true x
theorem CaMd.rx {fm : Fm} {own : List Addr} {H H1 H' : Hp} {bm : Bool} {q : Option Addr} (h : CaMd bm md) (s : Same H H1) (s0 : Same fm.H0 H) : ∀ a o, RT ⟨fm.K, H1, fun a => a ∈ own ∨ fm.z a⟩ H' bm q a o → RX fm (q.toList ++ own) H H' md a o := fun a o r => by
  cases h with
  | sh =>
    have r : RX ⟨fm.K, H1, fun a => a ∈ own ∨ fm.z a⟩ q.toList H' H' .sh a o := r
    rcases r with ⟨r1, r2, r3⟩ | r
    · exact .inl ⟨r1, fun y => (List.mem_append.mp y).elim r2 fun y => r3 (.inl y), fun y => r3 (.inr y)⟩
    · exact .inr r
  | fx =>
    have r : RX ⟨fm.K, H1, fun a => a ∈ own ∨ fm.z a⟩ q.toList H' H' .f0 a o := r
    obtain ⟨r1, r2, r3, r4⟩ := r
    exact RX.fx md a o ⟨r1, fun y => (List.mem_append.mp y).elim r2 fun y => r3 (.inl y), fun y => r3 (.inr y), s0.free (s.free r4), s.free r4⟩
theorem ev_call {x : Str} {j kf : Nat} {ps : List Str} {bm : Bool} {T : Ty ρ} {F : δ → M ρ} {m : M δ} {pp : Pos} (ok : Ok p sc NN VV GG k g) (hf : Fn p kf x ps (spM p A (fun r => .rt bm T r) F)) (hk : kf ≤ k) (hG : GG[j]? = some x) (hc : CaMd bm md')
    (ha : EvA g L (e :: es) md A m) (he : starEach (e :: es) g.X.env = (false, eval e g.X.env) :: starEach es g.X.env := by rfl) (hpl : (backTo pos (starEach es g.X.env)).any (·.1) = false := by rfl) :
    EvE g L (.Call (.Name x pp) (e :: es) [] pos) md' T (m.bind F) := by
  obtain ⟨f, fd, hF, hm, hkp, hbd⟩ := hf.ex
  obtain ⟨hg, ho⟩ := ok.gl hG
  rw [← ok.prog, ← ok.w, ← ok.base] at hF
  have hF' : FnOk g.X.prog g.X.w g.X.K g.X.mg g.X.base (L2.CX g.X.prog g.X.w) kf f fd ps (spM p A (fun r => .rt bm T r) F) := by rw [ok.K, ok.mg]; exact hF
  refine PE.imp (pe_callS hF' (ok.room.mono hk) hg (by rw [ok.mg]; exact hm) (by rw [ok.K]; exact hkp) (by rw [ok.K]; exact hbd) (tk_at ok) ha (okName_d ho).1 he hpl) fun σ H Q q => ?_
  obtain ⟨kp, own, at_, q⟩ := tE_iff.mp q
  refine subA finE (Same.refl H) at_ q fun d vs H1 s1 r1 at1 q1 => ⟨d, fun a => a ∈ own ∨ g.fm.z a, ⟨fun a z => ?_, fun P e => at1.same.tab P (ok.tab P e)⟩, ?_, ?_⟩
  · rcases z with z | z
    · exact (at1.new a z).1
    · exact at1.zin a z
  · rw [← ok.fmK]; exact args_in r1
  · rw [← ok.fmK]
    cases hd : F d with
    | ok r =>
      rw [hd] at q1
      exact fun v H' s r => q1 v H' (s1.trans s) (T.mono r (hc.rx s1 at_.same))
    | ex c =>
      rw [hd] at q1
      exact fun H' s => ⟨c, rfl, rfl, q1 H' (s1.trans s)⟩
    | no => rw [hd] at q1; exact q1
theorem evl_call {x : Str} {j kf : Nat} {ps : List Str} {bm : Bool} {F : δ → M (List α)} {m : M δ} {pp : Pos} (ok : Ok p sc NN VV GG k g) (hf : Fn p kf x ps (spM p A (fun r => .rtL bm S r) F)) (hk : kf ≤ k) (hG : GG[j]? = some x) (hc : CaMd bm md')
    (ha : EvA g L (e :: es) md A m) (he : starEach (e :: es) g.X.env = (false, eval e g.X.env) :: starEach es g.X.env := by rfl) (hpl : (backTo pos (starEach es g.X.env)).any (·.1) = false := by rfl) :
    EvL g L (.Call (.Name x pp) (e :: es) [] pos) md' S (m.bind F) := by
  obtain ⟨f, fd, hF, hm, hkp, hbd⟩ := hf.ex
  obtain ⟨hg, ho⟩ := ok.gl hG
  rw [← ok.prog, ← ok.w, ← ok.base] at hF
  have hF' : FnOk g.X.prog g.X.w g.X.K g.X.mg g.X.base (L2.CX g.X.prog g.X.w) kf f fd ps (spM p A (fun r => .rtL bm S r) F) := by rw [ok.K, ok.mg]; exact hF
  refine PE.imp (pe_callS hF' (ok.room.mono hk) hg (by rw [ok.mg]; exact hm) (by rw [ok.K]; exact hkp) (by rw [ok.K]; exact hbd) (tk_at ok) ha (okName_d ho).1 he hpl) fun σ H Q q => ?_
  obtain ⟨kp, own, at_, q⟩ := tL_iff.mp q
  refine subA finL (Same.refl H) at_ q fun d vs H1 s1 r1 at1 q1 => ⟨d, fun a => a ∈ own ∨ g.fm.z a, ⟨fun a z => ?_, fun P e => at1.same.tab P (ok.tab P e)⟩, ?_, ?_⟩
  · rcases z with z | z
    · exact (at1.new a z).1
    · exact at1.zin a z
  · rw [← ok.fmK]; exact args_in r1
  · rw [← ok.fmK]
    cases hd : F d with
    | ok r =>
      rw [hd] at q1
      exact fun p' vs' H' s n1 n2 h' r => q1 p' vs' H' (s1.trans s) (s1.free n2) h' (r.mono (hc.rx (q := some p') s1 at_.same))
    | ex c =>
      rw [hd] at q1
      exact fun H' s => ⟨c, rfl, rfl, q1 H' (s1.trans s)⟩
    | no => rw [hd] at q1; exact q1
/-- an own class of refusals -/
structure ExF (p : Pr) (x : Str) (c : Ec) : Prop where
  xP : PySem.W.excIn p.K (p.C c) [.type "ValueError", .type "Exception", .type "BaseException", .type "object"] "ValueError.__new__" = true
  gP : p.mg x = some (.ref (p.C c))
  kP : PySem.W.keepIn p.K (.ref (p.C c)) = true
  bP : PySem.W.subIn p.K (.ref (p.C c)) (.type "BaseException") = some true
  tP : PySem.W.typeIn p.K (.ref (p.C c)) = some (.type "type")
variable {st : List Stmt} {D : δ → Out} {d : δ}
theorem evb_raise {x : Str} {c : Ec} {j jj : Nat} {msg : Str} {pp p2 p3 : Pos} (ok : OkS p sc NN VV GG k g) (wk : Wk L g.LX) (X : ExF p x c) (hG : GG[j]? = some x) :
    EvB g L (.Raise (some (.Call (.Name x pp) [.Constant (.str msg) jj p2] [] p3)) none pos :: st) D (.ex c) := by
  obtain ⟨hg, ho⟩ := ok.gl hG
  refine PSs.imp (PSs.head (ps_raise ok.calm ok.tk (pmk_own PySem.F.excBase_ValueError (by rw [ok.K]; exact X.xP) (by rw [ok.mg]; exact X.gP) (by rw [ok.K]; exact X.kP) (raises_own (by rw [ok.K]; exact X.bP) (by rw [ok.K]; exact X.tP)) hg (okName_d ho).1))) fun E σ H ⟨kp, own, at_, q⟩ => ?_
  exact ⟨c, rfl, rfl, BOk.exx wk at_ q H (Same.refl H)⟩
end
end Hd
namespace Hd
open PySem PySem.Spec L2
section
variable {p : Pr} {sc : Scope} {NN VV GG : List Str} {k : Nat} {g : G} {L L' : List Slot} {a b c e e' : Expr} {es : List Expr} {md md' : Md} {α β γ δ ρ : Type} {S : Ty α} {T : Ty β} {U : Ty γ} {A : Ar δ} {pos : Pos} {K : PySem.W.Frag}
def mulM (x y : Int) : M Int := if x.natAbs < 2 ^ 10000 ∧ y.natAbs < 2 ^ 10000 then .ok (x * y) else .no
def modM (x y : Int) : M Int := if 0 < y then .ok (x % y) else .no
def divM (x y : Int) : M Int := if 0 < y ∧ y.natAbs < 2 ^ 1000 then .ok (x / y) else .no
theorem o_add : Op2 K (rI0 fun i j => .int (i + j)) tInt tInt tInt (fun x y => .ok (x + y)) true := ⟨fun rb rx ry q => ⟨_, _, rx, ry, q _ _ (Same.refl _) rfl⟩⟩
theorem o_sub : Op2 K (rI0 fun i j => .int (i - j)) tInt tInt tInt (fun x y => .ok (x - y)) true := ⟨fun rb rx ry q => ⟨_, _, rx, ry, q _ _ (Same.refl _) rfl⟩⟩
theorem o_mul : Op2 K (rI CMulW fun i j => .int (i * j)) tInt tInt tInt mulM true := ⟨fun {d e x y R H Q} rb rx ry q => by
  unfold mulM at q
  split at q
  · rename_i h
    exact ⟨_, _, rx, ry, wide_mul h.1 h.2 (by decide) (by decide) (by decide), q _ _ (Same.refl _) rfl⟩
  · exact q.elim⟩
theorem o_mod : Op2 K (rI (fun _ j => 0 < j) fun i j => .int (i % j)) tInt tInt tInt modM true := ⟨fun {d e x y R H Q} rb rx ry q => by
  unfold modM at q
  split at q
  · rename_i h
    exact ⟨_, _, rx, ry, h, q _ _ (Same.refl _) rfl⟩
  · exact q.elim⟩
theorem o_div : Op2 K (rI CDivW fun i j => .int (i / j)) tInt tInt tInt divM true := ⟨fun {d e x y R H Q} rb rx ry q => by
  unfold divM at q
  split at q
  · rename_i h
    exact ⟨_, _, rx, ry, wide_div h.1 h.2 (by decide) (by decide), q _ _ (Same.refl _) rfl⟩
  · exact q.elim⟩
theorem mulM_ne {x y : Int} {c : Ec} : mulM x y ≠ .ex c := by unfold mulM; split <;> exact fun h => nomatch h
theorem modM_ne {x y : Int} {c : Ec} : modM x y ≠ .ex c := by unfold modM; split <;> exact fun h => nomatch h
theorem divM_ne {x y : Int} {c : Ec} : divM x y ≠ .ex c := by unfold divM; split <;> exact fun h => nomatch h
variable {m1 m2 : M Int} {x y : Int}
theorem ev_add (ok : Ok p sc NN VV GG k g) (ha : EvE g L a md tInt m1) (hb : EvE g L b md tInt m2) : EvE g L (.BinOp a .Add b pos) md' tInt (m1.bind fun x => m2.bind fun y => .ok (x + y)) := ev_op2 ok op_add o_add (fun _ _ _ h => nomatch h) .fresh ha hb
theorem ev_subt (ok : Ok p sc NN VV GG k g) (ha : EvE g L a md tInt m1) (hb : EvE g L b md tInt m2) : EvE g L (.BinOp a .Sub b pos) md' tInt (m1.bind fun x => m2.bind fun y => .ok (x - y)) := ev_op2 ok op_sub o_sub (fun _ _ _ h => nomatch h) .fresh ha hb
theorem ev_mul (ok : Ok p sc NN VV GG k g) (ha : EvE g L a md tInt m1) (hb : EvE g L b md tInt m2) : EvE g L (.BinOp a .Mult b pos) md' tInt (m1.bind fun x => m2.bind fun y => mulM x y) := ev_op2 ok op_mulW o_mul (fun _ _ _ => mulM_ne) .fresh ha hb
theorem ev_mod (ok : Ok p sc NN VV GG k g) (ha : EvE g L a md tInt m1) (hb : EvE g L b md tInt m2) : EvE g L (.BinOp a .Mod b pos) md' tInt (m1.bind fun x => m2.bind fun y => modM x y) := ev_op2 ok op_mod o_mod (fun _ _ _ => modM_ne) .fresh ha hb
theorem ev_div (ok : Ok p sc NN VV GG k g) (ha : EvE g L a md tInt m1) (hb : EvE g L b md tInt m2) : EvE g L (.BinOp a .FloorDiv b pos) md' tInt (m1.bind fun x => m2.bind fun y => divM x y) := ev_op2 ok op_fdivW o_div (fun _ _ _ => divM_ne) .fresh ha hb
/-- the one number c -/
def tLit (c : Int) : Ty Unit := ⟨fun _ v _ => v = .int c, fun h _ => h⟩
theorem ev_lit (h : EvE g L e md tInt (.ok x)) : EvE g L e md (tLit x) (.ok ()) := ev_asP (fun v R r => r) h
theorem ev_mulC (ok : Ok p sc NN VV GG k g) (hc : y.natAbs < 2 ^ 64) (ha : EvE g L a md tInt m1) (hb : EvE g L b md tInt (.ok y)) : EvE g L (.BinOp a .Mult b pos) md' tInt (m1.bind fun x => .ok (x * y)) :=
  ev_op2 (f := fun x _ => .ok (x * y)) ok op_mul ⟨fun rb rx ry q => ⟨_, _, rx, ry, .inr ⟨by omega, by omega⟩, q _ _ (Same.refl _) rfl⟩⟩ (fun _ _ _ h => nomatch h) (.fresh : MdOk true md md') ha (ev_lit hb)
theorem ev_mulL (ok : Ok p sc NN VV GG k g) (hc : x.natAbs < 2 ^ 64) (ha : EvE g L a md tInt (.ok x)) (hb : EvE g L b md tInt m2) : EvE g L (.BinOp a .Mult b pos) md' tInt (m2.bind fun y => .ok (x * y)) :=
  ev_op2 (f := fun _ y => .ok (x * y)) (m1 := .ok ()) ok op_mul ⟨fun rb rx ry q => ⟨_, _, rx, ry, .inl ⟨by omega, by omega⟩, q _ _ (Same.refl _) rfl⟩⟩ (fun _ _ _ h => nomatch h) (.fresh : MdOk true md md') (ev_lit ha) hb
theorem ev_modC (ok : Ok p sc NN VV GG k g) (hc : 0 < y) (ha : EvE g L a md tInt m1) (hb : EvE g L b md tInt (.ok y)) : EvE g L (.BinOp a .Mod b pos) md' tInt (m1.bind fun x => .ok (x % y)) :=
  ev_op2 (f := fun x _ => .ok (x % y)) ok op_mod ⟨fun rb rx ry q => ⟨_, _, rx, ry, hc, q _ _ (Same.refl _) rfl⟩⟩ (fun _ _ _ h => nomatch h) (.fresh : MdOk true md md') ha (ev_lit hb)
theorem ev_divC (ok : Ok p sc NN VV GG k g) (hc : 0 < y) (hb' : y.natAbs < 2 ^ 1000) (ha : EvE g L a md tInt m1) (hb : EvE g L b md tInt (.ok y)) : EvE g L (.BinOp a .FloorDiv b pos) md' tInt (m1.bind fun x => .ok (x / y)) :=
  ev_op2 (f := fun x _ => .ok (x / y)) ok op_fdivW ⟨fun rb rx ry q => ⟨_, _, rx, ry, wide_div hc hb' (by decide) (by decide), q _ _ (Same.refl _) rfl⟩⟩ (fun _ _ _ h => nomatch h) (.fresh : MdOk true md md') ha (ev_lit hb)
/-- a written power -/
theorem ev_powC {n : Nat} (ok : Ok p sc NN VV GG k g) (hx : x.natAbs < 2 ^ 64) (hy : n ≤ 1000000) (ha : EvE g L a md tInt (.ok x)) (hb : EvE g L b md tInt (.ok (n : Int))) : EvE g L (.BinOp a .Pow b pos) md' tInt (.ok (x ^ n)) :=
  ev_op2 (f := fun _ _ => .ok (x ^ n)) (m1 := .ok ()) (m2 := .ok ()) ok op_pow ⟨fun rb rx ry q => ⟨_, _, rx, ry, ⟨by omega, by omega, hx⟩, q _ _ (Same.refl _) (by show V.int (x ^ ((n : Int)).toNat) = V.int (x ^ n); rw [Int.toNat_natCast])⟩⟩ (fun _ _ _ h => nomatch h) (.fresh : MdOk true md md') (ev_lit ha) (ev_lit hb)
theorem ev_neg (ok : Ok p sc NN VV GG k g) (ha : EvE g L a md tInt m1) : EvE g L (.UnaryOp .USub a pos) md' tInt (m1.bind fun x => .ok (-x)) :=
  ev_un ok un_neg (f := fun x => .ok (-x)) (fr := true) ⟨fun rb rx q => ⟨_, rx, q _ _ (Same.refl _) rfl⟩⟩ (fun _ _ h => nomatch h) .fresh ha
/-- a comparison that always tells -/
structure CmpOk (p : Pr) (X : Cx) (op : CmpOp) (S : Ty α) (T : Ty β) (f : α → β → Bool) : Prop where
  ex : ∃ r, OpR X (compareOp op) r ∧ Op2 p.K r S T tBool (fun x y => .ok (f x y)) true
section
variable {op : CmpOp} {f : α → β → Bool} {ma : M α} {mb : M β} {da : α} {db : β}
theorem ev_c (ok : Ok p sc NN VV GG k g) (F : CmpOk p g.X op S T f) (ha : EvE g L a md S ma) (hb : EvE g L b md T mb) (hk : behindInMarks op b = false := by first | exact nomark _ (by decide) (by decide) | rfl) : EvE g L (.Compare a [op] [b] pos) md' tBool (ma.bind fun x => mb.bind fun y => .ok (f x y)) := by
  obtain ⟨r, h1, h2⟩ := F.ex
  exact ev_cmp ok h1 h2 (fun _ _ _ h => nomatch h) .fresh ha hb hk
theorem evt_c (ok : Ok p sc NN VV GG k g) (F : CmpOk p g.X op S T f) (ha : EvE g L a md S ma) (hb : EvE g L b md T mb) (hk : behindInMarks op b = false := by first | exact nomark _ (by decide) (by decide) | rfl) : EvT g L (.Compare a [op] [b] pos) (ma.bind fun x => mb.bind fun y => .ok (f x y)) := by
  obtain ⟨r, h1, h2⟩ := F.ex
  exact evt_cmp ok h1 h2 (fun _ _ _ h => nomatch h) ha hb hk
end
variable {X : Cx}
theorem c_lt : CmpOk p X .Lt tInt tInt (fun x y => decide (x < y)) := ⟨_, op_lt, ⟨fun rb rx ry q => ⟨_, _, rx, ry, q _ _ (Same.refl _) rfl⟩⟩⟩
theorem c_le : CmpOk p X .LtE tInt tInt (fun x y => decide (x ≤ y)) := ⟨_, op_le, ⟨fun rb rx ry q => ⟨_, _, rx, ry, q _ _ (Same.refl _) rfl⟩⟩⟩
theorem c_gt : CmpOk p X .Gt tInt tInt (fun x y => decide (y < x)) := ⟨_, op_gt, ⟨fun rb rx ry q => ⟨_, _, rx, ry, q _ _ (Same.refl _) rfl⟩⟩⟩
theorem c_ge : CmpOk p X .GtE tInt tInt (fun x y => decide (y ≤ x)) := ⟨_, op_ge, ⟨fun rb rx ry q => ⟨_, _, rx, ry, q _ _ (Same.refl _) rfl⟩⟩⟩
/-- kinds that are told apart by value -/
structure Scal (S : Ty α) : Prop where
  sc : ∀ {d e v w R}, S.rep d v R → S.rep e w R → scal v w = true ∧ (v = w ↔ d = e)
theorem s_int : Scal tInt := ⟨fun {d e v w R} h1 h2 => by cases h1; cases h2; exact ⟨rfl, fun h => by injection h, fun h => by rw [h]⟩⟩
theorem s_str : Scal tStr := ⟨fun {d e v w R} h1 h2 => by cases h1.1; cases h2.1; exact ⟨rfl, fun h => toS_inj (by injection h), fun h => by rw [h]⟩⟩
theorem c_eq [DecidableEq α] (h : Scal S) : CmpOk p X .Eq S S (fun x y => decide (x = y)) := ⟨_, op_eq, ⟨fun {d e x y R H Q} rb rx ry q => by
  obtain ⟨h1, h2⟩ := h.sc rx ry
  refine ⟨h1, q _ _ (Same.refl _) ?_⟩
  show _ = V.bl _
  congr 1
  exact decide_eq_decide.mpr h2⟩⟩
theorem c_ne [DecidableEq α] (h : Scal S) : CmpOk p X .NotEq S S (fun x y => !decide (x = y)) := ⟨_, op_ne, ⟨fun {d e x y R H Q} rb rx ry q => by
  obtain ⟨h1, h2⟩ := h.sc rx ry
  refine ⟨h1, q _ _ (Same.refl _) ?_⟩
  show _ = V.bl _
  congr 2
  exact decide_eq_decide.mpr h2⟩⟩
/-- .. with a heap: lists, tuples -/
structure Deep (S : Ty α) where
  pd : α → PyData
  dp : Nat
  rep : ∀ {K d v R H}, Rdb K R H → S.rep d v R → Dp K H v (pd d) ∧ (pd d).canLay0 = true
  dep : ∀ d, (pd d).depth ≤ dp
  eqv : ∀ d e, PyData.eqv (pd d) (pd e) = true ↔ d = e
theorem Deep.sh {D : Deep S} (h : D.dp ≤ 64) {d : α} (hl : (D.pd d).canLay0 = true) : SeqAt.shaped (D.pd d) = true := by
  unfold SeqAt.shaped
  rw [hl, Bool.true_and]
  exact decide_eq_true (Nat.le_trans (D.dep d) h)
theorem Deep.bq [DecidableEq α] (D : Deep S) (d e : α) : PyData.eqv (D.pd d) (D.pd e) = decide (d = e) := by
  cases hh : PyData.eqv (D.pd d) (D.pd e) with
  | true => exact (decide_eq_true ((D.eqv d e).mp hh)).symm
  | false => exact (decide_eq_false fun z => by rw [(D.eqv d e).mpr z] at hh; cases hh).symm
theorem c_eqD [DecidableEq α] (ok : Ok p sc NN VV GG k g) (D : Deep S) (hd : D.dp ≤ 64) : CmpOk p g.X .Eq S S (fun x y => decide (x = y)) := ⟨rEqD p.K, by rw [← ok.K]; exact op_eqD ok.room.units, ⟨fun {d e x y R H Q} rb rx ry q => by
  obtain ⟨a1, a2⟩ := D.rep rb rx
  obtain ⟨b1, b2⟩ := D.rep rb ry
  exact ⟨_, _, a1, b1, D.sh hd a2, D.sh hd b2, q _ _ (Same.refl _) (by show _ = V.bl _; rw [D.bq])⟩⟩⟩
theorem c_neD [DecidableEq α] (ok : Ok p sc NN VV GG k g) (D : Deep S) (hd : D.dp ≤ 64) : CmpOk p g.X .NotEq S S (fun x y => !decide (x = y)) := ⟨rNeD p.K, by rw [← ok.K]; exact op_neD ok.room.units, ⟨fun {d e x y R H Q} rb rx ry q => by
  obtain ⟨a1, a2⟩ := D.rep rb rx
  obtain ⟨b1, b2⟩ := D.rep rb ry
  exact ⟨_, _, a1, b1, D.sh hd a2, D.sh hd b2, q _ _ (Same.refl _) (by show _ = V.bl _; rw [D.bq])⟩⟩⟩
def dInt : Deep tInt := ⟨.int, 0, fun rb h => by cases h; exact ⟨.int _, rfl⟩, fun _ => by simp [PyData.depth], fun d e => by simp [PyData.eqv]⟩
def dStr : Deep tStr := ⟨fun x => .str (toS x), 0, fun {K d v R H} rb h => by
    obtain ⟨rfl, h⟩ := h
    refine ⟨.str _, ?_⟩
    show PyData.strOk (toS d) = true
    simp only [PyData.strOk, toS, List.all_toArray, List.all_eq_true, decide_eq_true_eq]
    exact h.2, fun _ => by simp [PyData.depth], fun d e => by
    simp only [PyData.eqv, beq_iff_eq]
    exact ⟨toS_inj, fun h => by rw [h]⟩⟩
theorem eqvAll_map {pd : α → PyData} (h : ∀ d e, PyData.eqv (pd d) (pd e) = true ↔ d = e) : ∀ ds es : List α, PyData.eqvAll (ds.map pd) (es.map pd) = true ↔ ds = es
  | [], [] => by simp [PyData.eqvAll]
  | [], _ :: _ => by simp [PyData.eqvAll]
  | _ :: _, [] => by simp [PyData.eqvAll]
  | d :: ds, e :: es => by simp [PyData.eqvAll, h d e, eqvAll_map h ds es]
theorem depthAll_map {pd : α → PyData} {n : Nat} (h : ∀ d, (pd d).depth ≤ n) : ∀ ds : List α, PyData.depthAll (ds.map pd) ≤ n
  | [] => by simp [PyData.depthAll]
  | d :: ds => by simp only [List.map_cons, PyData.depthAll]; have := h d; have := depthAll_map h ds; omega
theorem Deep.all (D : Deep S) {R : RdR} {H : Hp} (rb : Rdb K R H) {ds : List α} {vs : List V} (r : Reps S R ds vs) : DpAll K H vs (ds.map D.pd) ∧ PyData.canLayAll0 (ds.map D.pd) = true := by
  induction r with
  | nil => exact ⟨.nil, rfl⟩
  | cons r _ ih =>
    obtain ⟨h1, h2⟩ := D.rep rb r
    exact ⟨.cons h1 ih.1, by simp only [List.map_cons, PyData.canLayAll0, h2, ih.2, Bool.and_self]⟩
def dList (D : Deep S) : Deep (tList S) := ⟨fun ds => .list (ds.map D.pd), D.dp + 1, fun {K ds v R H} rb ⟨a, vs, e, h, r⟩ => by
    subst e
    obtain ⟨h1, h2⟩ := D.all rb r
    exact ⟨.lst (.inl ((rb _ _ h rfl).resolve_right fun z => z)) h1, h2⟩, fun ds => by simp only [PyData.depth]; have := depthAll_map D.dep ds; omega, fun d e => by
    simp only [PyData.eqv]
    exact eqvAll_map D.eqv d e⟩
def getM {α : Type} (xs : List α) (i : Int) : M α := match L2.atI xs i with | some d => .ok d | none => .no
def getS (x : Tx) (i : Int) : M Tx := match L2.atI x i with | some c => .ok [c] | none => .no
theorem getM_ne {xs : List α} {i : Int} {c : Ec} : getM xs i ≠ .ex c := by unfold getM; split <;> exact fun h => nomatch h
theorem getS_ne {x : Tx} {i : Int} {c : Ec} : getS x i ≠ .ex c := by unfold getS; split <;> exact fun h => nomatch h
theorem Reps.at {R : RdR} {ds : List α} {vs : List V} (r : Reps S R ds vs) {i : Int} {d : α} (h : L2.atI ds i = some d) : ∃ v, L2.atI vs i = some v ∧ S.rep d v R := by
  unfold L2.atI at h ⊢
  rw [r.length] at h
  cases hj : L2.ixN vs.length i with
  | none => rw [hj] at h; cases h
  | some j => rw [hj] at h; exact r.get h
theorem sq_of {R : RdR} {H : Hp} {a : Addr} {vs : List V} (rb : Rdb K R H) (h : R a (.lst vs)) : SqL K H a vs := .inl ((rb _ _ h rfl).resolve_right fun z => z)
theorem rd_of {R : RdR} {H : Hp} {a : Addr} {vs : List V} (rb : Rdb K R H) (h : R a (.lst vs)) : L2.Rd H a (.lst vs) := (rb _ _ h rfl).resolve_right fun z => z
theorem st_of {R : RdR} {H : Hp} {a : Addr} {vs : List V} (rb : Rdb K R H) (h : R a (.tup vs)) : SqT K H a vs := (rb _ _ h rfl).imp id id
theorem Nw.old {fr : Bool} {R : RdR} {H : Hp} (h : fr = false) : ∀ a o, R a o → Nw fr R H H a o := fun _ _ r => .inl ⟨h, r⟩
theorem atI_mem {xs : List α} {i : Int} {d : α} (h : L2.atI xs i = some d) : d ∈ xs := by
  unfold L2.atI at h
  cases hj : L2.ixN xs.length i with
  | none => rw [hj] at h; cases h
  | some j => rw [hj] at h; exact List.mem_of_getElem? h
theorem o_ixS : Op2 K rIxS tStr tInt tStr getS true := ⟨fun {d e x y R H Q} rb rx ry q => by
  unfold getS at q
  cases hj : L2.atI d e with
  | none => rw [hj] at q; exact q.elim
  | some u =>
    rw [hj] at q
    refine ⟨toS d, e, u, rx.1, ry, by rw [toS_len]; exact rx.2.1, by rw [show (toS d).cps.toList = d from by simp [toS]]; exact hj, q _ _ (Same.refl _) ⟨rfl, (by show 1 ≤ sizeLine; decide), fun c hc => by rw [List.mem_singleton.mp hc]; exact rx.2.2 _ (atI_mem hj)⟩⟩⟩
section
variable {mx : M (List α)} {mi : M Int} {xs : List α} {i : Int} {mt : M Tx} {t : Tx}
theorem ev_ixS (ok : Ok p sc NN VV GG k g) (ha : EvE g L a md tStr mt) (hb : EvE g L b md tInt mi) (hs : PlainIx b := by exact fun _ _ => rfl) : EvE g L (.Subscript a b pos) md' tStr (mt.bind fun xs => mi.bind fun i => getS xs i) := ev_ix (r := rIxS) ok ix_str o_ixS (fun _ _ _ => getS_ne) .fresh ha hb hs
end
def catS (x y : Tx) : M Tx := if x.length + y.length ≤ sizeLine then .ok (x ++ y) else .no
theorem catS_ne {x y : Tx} {c : Ec} : catS x y ≠ .ex c := by unfold catS; split <;> exact fun h => nomatch h
theorem toS_app (x y : Tx) : toS (x ++ y) = toS x ++ toS y := by
  show (⟨(x ++ y).toArray⟩ : Str) = _
  rw [← List.append_toArray]
  rfl
theorem ev_catS {ma mb : M Tx} (ok : Ok p sc NN VV GG k g) (ha : EvE g L a md tStr ma) (hb : EvE g L b md tStr mb) : EvE g L (.BinOp a .Add b pos) md' tStr (ma.bind fun x => mb.bind fun y => catS x y) :=
  ev_op2 (fr := true) ok op_add_str ⟨fun {d e x y R H Q} rb rx ry q => by
    unfold catS at q
    split at q
    · rename_i h
      exact ⟨_, _, rx.1, ry.1, by rw [toS_len, toS_len]; exact h, q _ _ (Same.refl _) ⟨by rw [toS_app], by rw [List.length_append]; exact h, fun c hc => (List.mem_append.mp hc).elim (rx.2.2 c) (ry.2.2 c)⟩⟩
    · exact q.elim⟩ (fun _ _ _ => catS_ne) .fresh ha hb
structure IsT (S : Ty α) (ty : String) : Prop where
  t : ∀ {K d v R H}, Rdb K R H → S.rep d v R → TyX K H v (.type ty)
end
end Hd
namespace Hd
open PySem PySem.Spec L2
section
variable {p : Pr} {sc : Scope} {NN VV GG : List Str} {k : Nat} {g : G} {L L' : List Slot} {a b c e e' : Expr} {es : List Expr} {md md' : Md} {α β γ δ ρ : Type} {S : Ty α} {T : Ty β} {U : Ty γ} {A : Ar δ} {pos : Pos} {K : PySem.W.Frag} {tg : Expr}
theorem RX.tyx {R : RdR} {H : Hp} {a : Addr} {vs : List V} (rb : Rdb K R H) (h : R a (.lst vs)) : TyX K H (.ref a) (.type "list") := by
  rcases rb _ _ h rfl with (h | ⟨o, h⟩) | h
  · exact .base (.lst h)
  · exact .base (.frz h)
  · exact h.elim
theorem RX.tyt {R : RdR} {H : Hp} {a : Addr} {vs : List V} (rb : Rdb K R H) (h : R a (.tup vs)) : TyX K H (.ref a) (.type "tuple") := by
  rcases rb _ _ h rfl with (h | ⟨o, h⟩) | h
  · exact .base (.tup h)
  · exact .fTuple h
  · obtain ⟨o, its, n, h1, h2, _⟩ := (show ∃ (o : Obj) (its : Array Value) (n : Nat), K.lookup a = some o ∧ o.cls = .type "tuple" ∧ o.data = .seq its n ∧ its.size ≤ sizeLine ∧ Vals vs its.toList from h)
    exact .kTuple h1 h2
theorem i_int : IsT tInt "int" := ⟨fun rb h => by cases h; exact .base (.int _)⟩
theorem i_str : IsT tStr "str" := ⟨fun rb h => by cases h.1; exact .base (.str _)⟩
theorem i_list : IsT (tList S) "list" := ⟨fun rb ⟨a, vs, e, h, _⟩ => by subst e; exact RX.tyx rb h⟩
theorem i_tup : IsT (tTup A) "tuple" := ⟨fun rb ⟨a, vs, e, h, _⟩ => by subst e; exact RX.tyt rb h⟩
/-- a built-in class by its name -/
def tTy (n : String) : Ty Unit := ⟨fun _ v _ => v = .ty n, fun h _ => h⟩
theorem ev_ty {j : Nat} {x : Str} {n : String} (ok : Ok p sc NN VV GG k g) (hG : GG[j]? = some x) (hmg : p.mg x = none) (hv : bootBuiltins x = some (.type n)) : EvE g L (.Name x pos) md (tTy n) (.ok ()) := by
  obtain ⟨hg, ho⟩ := ok.gl hG
  obtain ⟨h1, _, h3⟩ := okName_d ho
  exact PE.imp (pe_bltn (v := .ty n) hg (by rw [ok.mg]; exact hmg) hv rfl h3 h1) fun σ H Q ⟨kp, own, at_, q⟩ => q _ H (Same.refl H) rfl
theorem ev_isi {j : Nat} {ty n : String} {r : Bool} {m : M α} {pp : Pos} (ok : Ok p sc NN VV GG k g) (hG : GG[j]? = some "isinstance") (hmg : p.mg "isinstance" = none) (hT : IsT S ty) (hr : kitB ty n = some r) (ha : EvE g L a md S m) (hb : EvE g L b md (tTy n) (.ok ()))
    (hs1 : starEach (a :: [b]) g.X.env = (false, eval a g.X.env) :: starEach [b] g.X.env := by rfl) (hs2 : starEach [b] g.X.env = (false, eval b g.X.env) :: starEach [] g.X.env := by rfl) (hpl : (backTo pos (starEach [b] g.X.env)).any (·.1) = false := by rfl) :
    EvE g L (.Call (.Name "isinstance" pp) [a, b] [] pos) md' tBool (m.bind fun _ => .ok r) := by
  have h := ev_callB (md' := md') (U := tBool) (A := aCons S (aCons (tTy n) aNil)) (f := fun _ => .ok r) (fr := true) (pos := pos) (pp := pp) ok (id := "isinstance") call_isi ⟨fun {d xs R H Q} rb ⟨v, w, e1, h1, v2, w2, e2, h2, e3⟩ q => by
    subst e1; subst e2; cases (show w2 = [] from e3); cases h2
    exact ⟨v, .ty n, .type ty, .type n, r, rfl, .ty n, hT.t (by rw [ok.K]; exact rb) h1, kit_ty hr, q _ _ (Same.refl _) rfl⟩⟩ (fun _ _ h => nomatch h) .fresh hG hmg (by decide +kernel) (eva_cons ha (eva_cons hb eva_nil hs2) hs1) hs1 hpl
  have e : (m.bind fun d => ((M.ok ()).bind fun d => (M.ok ()).bind fun e => M.ok (d, e)).bind fun e => M.ok (d, e)).bind (fun d => M.ok r) = m.bind fun _ => .ok r := by cases m <;> rfl
  rwa [e] at h
theorem evi_list {m : M (List α)} (ok : Ok p sc NN VV GG k g) (he : EvE g L e md (tList S) m) : EvI g L tg e S m := by
  refine PI.imp (pi_list he) fun σ H R ⟨kp, own, at_, q⟩ => ?_
  refine tE_iff.mpr ⟨kp, own, at_, ?_⟩
  cases m with
  | ok xs =>
    rintro v H' s ⟨a, vs, rfl, h, r⟩
    have hk : RD g.fm own H' a (.lst vs) := RX.sh a _ h
    refine ⟨a, rfl, ⟨vs, (ok.fmK.trans ok.K.symm) ▸ RX.list h⟩, ?_⟩
    rw [show Itl g.X.K a = Itl g.fm.K a from by rw [ok.K, ok.fmK]]
    refine q (Itl g.fm.K a) H' s fun H2 rb i => ?_
    have hs : SqL g.fm.K H2 a vs := sq_of rb hk
    refine ⟨fun d hd => ?_, fun hn => ⟨vs, hs, ?_⟩⟩
    · obtain ⟨v, h1, h2⟩ := r.get hd
      refine ⟨⟨vs, v, hs, h1⟩, fun x H3 ⟨e, hx⟩ => ?_⟩
      subst e
      have := hx vs hs
      rw [h1] at this
      cases this
      exact ⟨Same.refl _, S.mono h2 fun a o z => .inl ⟨rfl, RX.sh a o z⟩⟩
    · rw [List.getElem?_eq_none_iff, r.length] at hn
      exact hn
  | ex c => exact q
  | no => exact q
/-- the whole numbers from lo on, n many -/
def upFrom (lo : Int) : Nat → List Int
  | 0 => []
  | n + 1 => lo :: upFrom (lo + 1) n
theorem upFrom_get (n : Nat) : ∀ (lo : Int) (i : Nat), (upFrom lo n)[i]? = if i < n then some (lo + i) else none := by
  induction n with
  | zero => intro lo i; simp [upFrom]
  | succ n ih =>
    intro lo i
    cases i with
    | zero => simp [upFrom]
    | succ i =>
      rw [upFrom, List.getElem?_cons_succ, ih]
      by_cases h : i < n
      · rw [if_pos h, if_pos (by omega)]
        congr 1
        push_cast
        omega
      · rw [if_neg h, if_neg (by omega)]
theorem upFrom_len (n : Nat) : ∀ lo : Int, (upFrom lo n).length = n := by
  induction n with
  | zero => intro lo; rfl
  | succ n ih => intro lo; simp [upFrom, ih]
/-- range(lo, hi) -/
def rangeM (lo hi : Int) : M (List Int) := if -(2 ^ 62) ≤ lo ∧ lo < 2 ^ 62 ∧ -(2 ^ 62) ≤ hi ∧ hi < 2 ^ 62 then .ok (upFrom lo (hi - lo).toNat) else .no
theorem itr_ok {kp : RdR} {lo : Int} {n : Nat} : ItOk K kp (Itr lo n) tInt (upFrom lo n) := fun H rb i => by
  rw [upFrom_get]
  refine ⟨fun d hd => ?_, fun hn => ?_⟩
  · by_cases h : i < n
    · rw [if_pos h] at hd
      cases hd
      exact ⟨h, fun x H' ⟨e, hx⟩ => by subst e; exact ⟨Same.refl _, hx⟩⟩
    · rw [if_neg h] at hd; cases hd
  · by_cases h : i < n
    · rw [if_pos h] at hn; cases hn
    · exact Nat.le_of_not_lt h
theorem evi_range1 {j : Nat} {m : M Int} {pp : Pos} (ok : Ok p sc NN VV GG k g) (hG : GG[j]? = some "range") (hmg : p.mg "range" = none) (ha : EvE g L a md tInt m) (hs : starEach [a] g.X.env = (false, eval a g.X.env) :: starEach [] g.X.env := by rfl) :
    EvI g L tg (.Call (.Name "range" pp) [a] [] pos) tInt (m.bind fun n => rangeM 0 n) := by
  obtain ⟨hg, ho⟩ := ok.gl hG
  refine PI.imp (pi_range1 hg (by rw [ok.mg]; exact hmg) (eva_cons ha eva_nil hs) hs) fun σ H R ⟨kp, own, at_, q⟩ => ?_
  refine tA_iff.mpr ⟨kp, own, at_, ?_⟩
  cases m with
  | ok n =>
    rintro vs H' s ⟨v, r, rfl, rfl, e3⟩
    cases (show r = [] from e3)
    simp only [M.bind_ok] at q
    unfold rangeM at q
    split at q
    · rename_i xs h1
      split at h1
      · rename_i h
        cases h1
        refine ⟨n, rfl, h.2.2.1, h.2.2.2, q _ H' s ?_⟩
        rw [Int.sub_zero]
        exact itr_ok
      · cases h1
    · rename_i h1; split at h1 <;> cases h1
    · exact q.elim
  | ex c => exact q
  | no => exact q
theorem evi_range2 {j : Nat} {m1 m2 : M Int} {pp : Pos} (ok : Ok p sc NN VV GG k g) (hG : GG[j]? = some "range") (hmg : p.mg "range" = none) (ha : EvE g L a md tInt m1) (hb : EvE g L b md tInt m2)
    (hs1 : starEach [a, b] g.X.env = (false, eval a g.X.env) :: starEach [b] g.X.env := by rfl) (hs2 : starEach [b] g.X.env = (false, eval b g.X.env) :: starEach [] g.X.env := by rfl) :
    EvI g L tg (.Call (.Name "range" pp) [a, b] [] pos) tInt (m1.bind fun lo => m2.bind fun hi => rangeM lo hi) := by
  obtain ⟨hg, ho⟩ := ok.gl hG
  refine PI.imp (pi_range2 hg (by rw [ok.mg]; exact hmg) (eva_cons ha (eva_cons hb eva_nil hs2) hs1) (by rw [hs1, hs2]; rfl) (by rw [hs2]; rfl)) fun σ H R ⟨kp, own, at_, q⟩ => ?_
  refine tA_iff.mpr ⟨kp, own, at_, ?_⟩
  cases m1 with
  | ok lo =>
    cases m2 with
    | ok hi =>
      rintro vs H' s ⟨v, r, rfl, rfl, v2, r2, rfl, rfl, e3⟩
      cases (show r2 = [] from e3)
      simp only [M.bind_ok] at q
      unfold rangeM at q
      split at q
      · rename_i xs h1
        split at h1
        · rename_i h
          cases h1
          exact ⟨lo, hi, rfl, h, q _ H' s itr_ok⟩
        · cases h1
      · rename_i h1; split at h1 <;> cases h1
      · exact q.elim
    | ex c => exact q
    | no => exact q
  | ex c => exact q
  | no => exact q
theorem At.mut {fm : Fm} {kp : RdR} {σ : L2.St} {H : Hp} {own : List Addr} {b : Bool} {ds : List α} {i : Nat} (h : At fm kp L σ H own) (hL : L[i]? = some (sOwn b S ds)) :
    ∃ p vs, σ[i]? = some (some (.ref p)) ∧ H p = some (.lst vs) ∧ Reps S (RB fm own H b) ds vs ∧ ∀ ds' vs', Reps S (RB fm own H b) ds' vs' → At fm kp (L.set i (sOwn b S ds')) σ (upd H p (.lst vs')) own := by
  obtain ⟨h1, h2, ⟨Fs, h3, rfl⟩, h4, h5, h6⟩ := h
  obtain ⟨v, F, e1, e2, q, vs, rfl, rfl, hp, r⟩ := h3.get hL
  have qin : q ∈ Fs.flatten := List.mem_flatten.mpr ⟨[q], List.mem_of_getElem? e2, by simp⟩
  refine ⟨q, vs, e1, hp, r, fun ds' vs' r' => ?_⟩
  have key : ∀ (md : Md) a o, RX fm Fs.flatten H H md a o → RX fm Fs.flatten (upd H q (.lst vs')) (upd H q (.lst vs')) md a o ∨ md = .fx := fun md a o z => by
    cases md with
    | sh =>
      rcases z with z | z
      · have n : a ≠ q := fun e => z.2.1 (by rw [e]; exact qin)
        refine .inl (.inl ⟨?_, z.2⟩)
        unfold Rd
        rw [cl_upd_ne n]
        exact z.1
      · exact .inl (.inr z)
    | f0 =>
      have n : a ≠ q := fun e => z.2.1 (by rw [e]; exact qin)
      exact .inl ⟨by rw [cl_upd_ne n]; exact z.1, z.2⟩
    | fx => exact .inr rfl
  have keyB : ∀ (b : Bool) a o, RB fm Fs.flatten H b a o → RB fm Fs.flatten (upd H q (.lst vs')) b a o := fun b a o z => by
    cases b with
    | false => exact (key .sh a o z).resolve_right (fun e => nomatch e)
    | true => exact (key .f0 a o z).resolve_right (fun e => nomatch e)
  have up : ∀ a, H a ≠ none → upd H q (.lst vs') a ≠ none := fun a n => by
    by_cases e : a = q
    · rw [e, upd_same]; exact fun z => by cases z
    · rw [upd_ne e]; exact n
  refine ⟨h1.wr (h5 q qin).2.1 hp (fun _ z => nomatch z) rfl, fun a z => up a (h2 a z), ⟨Fs, ?_, rfl⟩, h4, fun x hx => ⟨up x (h5 x hx).1, (h5 x hx).2⟩, fun a o z => (key .sh a o (h6 a o z)).resolve_right (fun e => nomatch e)⟩
  · -- the slots
    have gen : ∀ {L : List Slot} {σ : L2.St} {Fs' : List (List Addr)}, AllS H (RB fm Fs.flatten H) L σ Fs' → Fs'.flatten.Nodup → ∀ {i : Nat}, Fs'[i]? = some [q] → L[i]? = some (sOwn b S ds) → σ[i]? = some (some (V.ref q)) →
        AllS (upd H q (.lst vs')) (RB fm Fs.flatten (upd H q (.lst vs'))) (L.set i (sOwn b S ds')) σ Fs' := by
      intro L σ Fs' hA
      induction hA with
      | nil => intro _ i e _ _; simp at e
      | @cons sl L v σ F Fs' r t ih =>
        intro nd i e eL eσ
        rw [List.flatten_cons, List.nodup_append] at nd
        cases i with
        | zero =>
          simp at e eL eσ
          subst e; subst eL; subst eσ
          refine .cons ⟨q, vs', rfl, rfl, upd_same, r'.mono (keyB b)⟩ (t.st keyB fun x hx => ?_)
          exact upd_ne fun z => nd.2.2 q (by simp) x hx z.symm
        | succ i =>
          have e' : Fs'[i]? = some [q] := by simpa using e
          refine .cons (sl.st r keyB fun x hx => upd_ne fun z => nd.2.2 x hx q (List.mem_flatten.mpr ⟨[q], List.mem_of_getElem? e', by simp⟩) z) (ih nd.2.1 e' (by simpa using eL) (by simpa using eσ))
    exact gen h3 h4 e2 hL e1
def pushM {α : Type} (xs : List α) (d : α) : M (List α) := if xs.length < sizeLine then .ok (xs ++ [d]) else .no
def setM {α : Type} (xs : List α) (i : Int) (d : α) : M (List α) := match L2.ixN xs.length i with | some j => .ok (xs.set j d) | none => .no
variable {st : List Stmt} {D : δ → Out} {i j : Nat} {x : Str}
theorem evb_append {bb : Bool} {ds : List α} {m : M α} {f : List α → M δ} {p1 ap cp : Pos} (ok : OkS p sc NN VV GG k g) (wk : Wk L g.LX) (hN : NN[i]? = some x) (hV : VV[j]? = some x) (hL : L[i]? = some (sOwn bb S ds)) (hb : SlB md bb)
    (he : EvE g L e md S m) (hr : ∀ ds', EvB g (L.set i (sOwn bb S ds')) st D (f ds'))
    (hs : swapsWith (.Call (.Attribute (.Name x p1) "append" ap) [e] [] cp) none pos.line g.X.env = pure false := by rfl)
    (hbase : attributeBase (.Name x p1) "append" g.X.env (eval (.Name x p1) g.X.env) = eval (.Name x p1) g.X.env := by rfl)
    (hfew : ((backTo cp (starEach [e] g.X.env)).all (fun x => !x.1) && (backToKw cp (keywordEach [] g.X.env)).all (fun x => x.1.isSome)
      && decide (([e] : List Expr).length + ([] : List Keyword).length + (if ([] : List Keyword).isEmpty then 0 else 1) < 30)) = true := by rfl)
    (hline : (ap.endLine == cp.line) = true := by rfl) (hst : starEach [e] g.X.env = (false, eval e g.X.env) :: starEach [] g.X.env := by rfl) (hpl : (backTo cp (starEach [] g.X.env)).any (·.1) = false := by rfl) :
    EvB g L (.Expr (.Call (.Attribute (.Name x p1) "append" ap) [e] [] cp) pos :: st) D (m.bind fun d => (pushM ds d).bind f) := by
  obtain ⟨hv, ho⟩ := ok.vis hV
  obtain ⟨h1, h2, _⟩ := okName_d ho
  refine PSs.imp (pss_cons (ps_expr (pe_bm PySem.F.plainAttrs_list PySem.F.slot_list_append PySem.F.type_list_append mt_append (pe_var (i := i) (by rw [ok.N]; exact hN) hv h1 h2) (pa_cons he pa_nil hst) (hbase := hbase) (hfew := hfew) (hline := hline) (hs := hst) (hplain := hpl)) hs) (PSs.ex hr)) fun E σ H ⟨kp, own, at_, q⟩ => ?_
  obtain ⟨p', vs, e1, hp, r, mu⟩ := at_.mut hL
  refine ⟨_, e1, Or.inl ⟨rfl, _, SqL.of hp⟩, tE_iff.mpr ⟨kp, own, at_, ?_⟩⟩
  cases m with
  | ok d =>
    intro v H1 s1 r1
    have a1 := at_.ext s1
    obtain ⟨p2, vs2, e12, hp2, rr2, mu2⟩ := a1.mut hL
    rw [e1] at e12
    cases e12
    have q : BOk g kp E D ((pushM ds d).bind f) := q
    unfold pushM at q
    split at q
    · rename_i hlt
      refine ⟨_, vs2, v, rfl, rfl, hp2, by rw [← rr2.length]; exact hlt, ds ++ [d], kp, own, mu2 _ _ (rr2.append (.cons (S.mono r1 hb.rb) .nil)), q⟩
    · exact q.elim
  | ex c => exact BOk.exx wk at_ q
  | no => exact q
theorem evb_setitem {bb : Bool} {ds : List α} {m : M α} {mi : M Int} {f : List α → M δ} {ix : Expr} {p1 p2 : Pos} (ok : OkS p sc NN VV GG k g) (wk : Wk L g.LX) (hN : NN[i]? = some x) (hV : VV[j]? = some x) (hL : L[i]? = some (sOwn bb S ds)) (hb : SlB md bb)
    (he : EvE g L e md S m) (hi : EvE g L ix md' tInt mi) (hr : ∀ ds', EvB g (L.set i (sOwn bb S ds')) st D (f ds'))
    (hs : swapsWith e (some (.Subscript (.Name x p1) ix p2)) pos.line g.X.env = pure false := by rfl)
    (hsub : ∀ v, assign (.Subscript (.Name x p1) ix p2) g.X.env v = (do
      let ov ← holding [v] (eval (.Name x p1) g.X.env)
      let iv ← holding [v, ov] (eval ix g.X.env)
      standAt p2
      holding [v, ov, iv] (setItem ov iv v)
      release [v, ov, iv] []) := by intro _; rfl)
    (hs' : swapsWithSole [.Subscript (.Name x p1) ix p2] e pos.line g.X.env = pure false := by rfl) (hw : swappedStores [.Subscript (.Name x p1) ix p2] e g.X.env = pure none := by rfl) (ha1 : (assignEach [.Subscript (.Name x p1) ix p2] g.X.env).map (·.2) = [assign (.Subscript (.Name x p1) ix p2) g.X.env] := by rfl) :
    EvB g L (.Assign [.Subscript (.Name x p1) ix p2] e pos :: st) D (m.bind fun d => mi.bind fun i => (setM ds i d).bind f) := by
  obtain ⟨hv, ho⟩ := ok.vis hV
  obtain ⟨h1, h2, _⟩ := okName_d ho
  refine PSs.imp (pss_cons (ps_asg he (pg_sub (pe_var (i := i) (by rw [ok.N]; exact hN) hv h1 h2) hi set_list hsub) hs' hw ha1) (PSs.ex hr)) fun E σ H ⟨kp, own, at_, q⟩ => ?_
  refine tE_iff.mpr ⟨kp, own, at_, ?_⟩
  cases m with
  | ok d =>
    intro v H1 s1 r1
    have a1 := at_.ext s1
    obtain ⟨p', vs, e1, hp, r, mu⟩ := a1.mut hL
    refine ⟨_, e1, tE_iff.mpr ⟨kp, own, a1, ?_⟩⟩
    cases mi with
    | ok n =>
      intro v2 H2 s2 r2
      have a2 := a1.ext s2
      obtain ⟨p2, vs2, e12, hp2, rr2, mu2⟩ := a2.mut hL
      rw [e1] at e12
      cases e12
      have q : BOk g kp E D ((setM ds n d).bind f) := q
      unfold setM at q
      split at q
      · rename_i jj hj
        refine ⟨_, vs2, n, jj, rfl, r2, hp2, by rw [← rr2.length]; exact hj, ds.set jj d, kp, own, mu2 _ _ (rr2.set (S.mono r1 fun a o z => RB.same s2 bb a o (hb.rb a o z)) jj), q⟩
      · exact q.elim
    | ex c => exact BOk.exx wk a1 q
    | no => exact q
  | ex c => exact BOk.exx wk at_ q
  | no => exact q
end
end Hd
namespace Hd
open PySem PySem.Spec L2
section
variable {p : Pr} {sc : Scope} {NN VV GG VV' GG' : List Str} {k : Nat} {g : G} {L L' : List Slot} {a b c e e' : Expr} {es : List Expr} {md md' : Md} {α β γ δ ρ : Type} {S : Ty α} {T : Ty β} {U : Ty γ} {A : Ar δ} {pos : Pos} {K : PySem.W.Frag} {tg : Expr}
def tGs (fm : Fm) (A : Ar δ) (L : List Slot) (Lt : δ → List Slot) : TGs := fun vs σ H Q => ∃ kp own d, At fm kp L σ H own ∧ A.rep d vs (RD fm own H) ∧ ∀ σ' own', At fm kp (Lt d) σ' H own' → (∀ p ∈ own', p ∈ own) → Q σ' H
def EvGs (g : G) (es : List Expr) (A : Ar δ) (L : List Slot) (Lt : δ → List Slot) : Prop := PGs g.X es (tGs g.fm A L Lt)
theorem PGs.imp {X : Cx} {es : List Expr} {t t' : TGs} (h : PGs X es t) (k : ∀ v σ H Q, t' v σ H Q → t v σ H Q) : PGs X es t' := ⟨fun pins s σ H v u Q I r q => h.run pins s σ H v u Q I r (k _ _ _ _ q)⟩
theorem PGs.ex {X : Cx} {ι : Type} {es : List Expr} {t : ι → TGs} (h : ∀ d, PGs X es (t d)) : PGs X es (fun v σ H Q => ∃ d, t d v σ H Q) := ⟨fun pins s σ H v u Q I r ⟨d, q⟩ => (h d).run pins s σ H v u Q I r q⟩
theorem evgs_nil : EvGs g [] aNil L (fun _ => L) := by
  refine PGs.imp pgs_nil fun v σ H Q ⟨kp, own, d, at_, r, q⟩ => ⟨r, q σ own at_ fun _ h => h⟩
theorem evgs_cons {Lt1 : α → List Slot} {Lt2 : α → δ → List Slot} (h1 : EvG g e S L Lt1) (h2 : ∀ d, EvGs g es A (Lt1 d) (Lt2 d)) (hs : (assignEach (e :: es) g.X.env).map (·.2) = assign e g.X.env :: (assignEach es g.X.env).map (·.2) := by rfl) :
    EvGs g (e :: es) (aCons S A) L (fun d => Lt2 d.1 d.2) := by
  refine PGs.imp (pgs_cons h1 (PGs.ex h2) hs) fun vs σ H Q ⟨kp, own, d, at_, ⟨v, r, e1, r1, r2⟩, q⟩ => ?_
  refine ⟨v, r, e1, kp, own, d.1, at_, r1, fun σ' own' a' sub => ⟨d.1, kp, own', d.2, a', A.mono r2 (RX.own (md := .sh) (H := H) sub), fun σ2 own2 a2 sub2 => q σ2 own2 a2 fun p hp => sub p (sub2 p hp)⟩⟩
theorem evg_tup {Lt : δ → List Slot} {n k' : Nat} (ok : Ok p sc NN VV GG k g) (hl : ∀ {d vs R}, A.rep d vs R → vs.length = n) (h : EvGs g es A L Lt)
    (hn : (assignEach es g.X.env).length = n := by rfl) (hst : (assignEach es g.X.env).findIdx? (·.1) = none := by rfl) : EvG g (.Tuple es k' pos) (tTup A) L Lt := by
  refine PG.imp (pg_tup ok.calm h hn hst) fun v σ H Q ⟨kp, own, d, at_, ⟨a, vs, e, hr, rr⟩, q⟩ => ?_
  subst e
  exact ⟨a, vs, rfl, (ok.fmK.trans ok.K.symm) ▸ RX.tup (md := .sh) (H := H) hr, hl rr, kp, own, d, at_, rr, q⟩
theorem len0 {d : Unit} {vs : List V} {R : RdR} (h : aNil.rep d vs R) : vs.length = 0 := by cases (show vs = [] from h); rfl
theorem lenS {n : Nat} (h : ∀ {d vs R}, A.rep d vs R → vs.length = n) {d : α × δ} {vs : List V} {R : RdR} (q : (aCons S A).rep d vs R) : vs.length = n + 1 := by
  obtain ⟨v, r, e, _, h2⟩ := q
  rw [e, List.length_cons, h h2]
variable {st : List Stmt} {D : δ → Out} {i j : Nat} {x : Str}
def compG {α β : Type} (h : α → M (Option β)) : List α → M (List β)
  | [] => .ok []
  | x :: r => (h x).nox.bind fun o => (compG h r).bind fun l => .ok (o.toList ++ l)
def compM {α β : Type} (h : α → M (Option β)) (xs : List α) : M (List β) := if xs.length ≤ sizeLine then compG h xs else .no
theorem lookup_rl {env : Env} {x : Str} : ∀ {names : List (Str × NameKind)} {kd : NameKind}, names.lookup x = some kd →
    (names.map fun (n, k) => if (k == NameKind.free && env.scope.kind == .function && env.kindOf n == some .cell) then (n, NameKind.cell) else (n, k)).lookup x = some kd ∨
      (kd = .free ∧ (names.map fun (n, k) => if (k == NameKind.free && env.scope.kind == .function && env.kindOf n == some .cell) then (n, NameKind.cell) else (n, k)).lookup x = some .cell)
  | [], _, h => by simp at h
  | (n, k') :: r, kd, h => by
    rw [List.lookup_cons] at h
    rw [List.map_cons]
    by_cases e : x == n
    · rw [e] at h
      cases h
      dsimp only
      split
      · rename_i hh
        refine .inr ⟨?_, by rw [List.lookup_cons, e]⟩
        simp only [Bool.and_eq_true, beq_iff_eq] at hh
        exact hh.1.1
      · exact .inl (by rw [List.lookup_cons, e])
    · have e : (x == n) = false := by simpa using e
      rw [e] at h
      dsimp only
      have ih := lookup_rl (env := env) (x := x) (names := r) h
      split <;> (rw [List.lookup_cons, e]; exact ih)
theorem vis_rl {scope : Scope} {env : Env} {x : Str} (h : Vis scope x) : Vis (relabel scope env) x := by
  rcases h with h | h | h <;> rcases lookup_rl (env := env) h with q | ⟨q, q2⟩
  · exact .inl q
  · cases q
  · exact .inr (.inl q)
  · cases q
  · exact .inr (.inr q)
  · exact .inr (.inl q2)
theorem gl_rl {scope : Scope} {env : Env} {x : Str} (h : scope.names.lookup x = some .globalImplicit) : (relabel scope env).names.lookup x = some .globalImplicit := by
  rcases lookup_rl (env := env) h with q | ⟨q, q2⟩
  · exact q
  · cases q
theorem _root_.L2.BlkOk.relab {N : List Str} {sc scope : Scope} {env : Env} {own : List (Str × Nat)} (h : BlkOk N sc scope own) : BlkOk N (relabel sc env) scope own :=
  ⟨h.kind, h.uniq, h.ix, fun y hy e => by
    rcases h.free y hy e with q | q <;> rcases lookup_rl (env := env) q with z | ⟨z, z2⟩
    · exact .inl z
    · cases z
    · exact .inr z
    · exact .inl z2, h.own⟩
/-- where the inner part of a comprehension stands -/
theorem blk_ok (ok : Ok p sc NN VV GG k g) {scope : Scope} {s : Shared} {H : Hp} {C : Addr} {cl : List (Str × Addr)} {fp : List Addr} {fm : Fm} (hK : fm.K = p.K ∧ ∀ P, p.T = some P → LamX.TabS fm.H0 P lamQ) (hv : VV'.all (seenB scope) = true) (hg : GG'.all (glB scope) = true) :
    Ok p scope NN VV' GG' k ⟨g.X.blk s H scope (compEnvC scope cl C g.X.env) fp, fm, fun _ _ _ => False, []⟩ :=
  { prog := ok.prog, w := ok.w, K := ok.K, mg := ok.mg, base := ok.base, N := ok.N, fmK := hK.1, tab := hK.2, room := ok.room, nd := ok.nd
    vis := fun e => let h := seenB_v (List.all_eq_true.mp hv _ (List.mem_of_getElem? e)); ⟨vis_rl h.2, h.1⟩
    gl := fun e => let h := glB_v (List.all_eq_true.mp hg _ (List.mem_of_getElem? e)); ⟨gl_rl h.2, h.1⟩
    tk := Takes.imp takes0 (fun cls d σ H ⟨c, e1, e2, h⟩ => h)
    calm := ok.calm
    blk := fun h => (blkOk_by h).relab }
theorem wipe1 {σ : L2.St} {v : V} : wipe ((wipe σ [i]).set i (some v)) [i] = wipe σ [i] := by
  show ((σ.set i none).set i (some v)).set i none = σ.set i none
  rw [List.set_set, List.set_set]
def NoOwn (s : Slot) : Prop := ∀ {v H R F}, s.ok v H R F → F = []
theorem no_any : NoOwn sAny := fun h => h
theorem At.setN {fm : Fm} {kp : RdR} {σ : L2.St} {H : Hp} {own : List Addr} {s s' : Slot} {v : Option V} (h : At fm kp L σ H own) (hL : L[i]? = some s) (hs : NoOwn s) (r : s'.ok v H (RB fm own H) []) : At fm kp (L.set i s') (σ.set i v) H own := by
  obtain ⟨h1, h2, ⟨Fs, h3, rfl⟩, h4, h5, h6⟩ := h
  obtain ⟨v0, F, e1, e2, r0⟩ := h3.get hL
  have e : (Fs.set i []).flatten = Fs.flatten := set_same_nil (by rw [e2, hs r0])
  exact ⟨h1, h2, ⟨Fs.set i [], h3.set r i, e.symm⟩, h4, h5, h6⟩
theorem PTs.ex {X : Cx} {ι : Type} {ifs : List Expr} {t : ι → TT} (h : ∀ d, PTs X ifs (t d)) : PTs X ifs (fun σ H Q => ∃ d, t d σ H Q) := ⟨fun pins s σ H Q I ⟨d, q⟩ => (h d).run pins s σ H Q I q⟩
theorem PE.ex {X : Cx} {ι : Type} {e : Expr} {t : ι → TE} (h : ∀ d, PE X e (t d)) : PE X e (fun σ H Q => ∃ d, t d σ H Q) := ⟨fun pins s σ H Q I ⟨d, q⟩ => (h d).run pins s σ H Q I q⟩
theorem M.bind_assoc {α β γ : Type} (m : M α) (f : α → M β) (h : β → M γ) : (m.bind f).bind h = m.bind fun x => (f x).bind h := by cases m <;> rfl
theorem PS.imp {X : Cx} {e : Stmt} {t t' : TS} (h : PS X e t) (k : ∀ E σ H, t' E σ H → t E σ H) : PS X e t' := ⟨fun pins s σ H D I q => h.run pins s σ H D I (k _ _ _ q)⟩
/-- [elt for x in it if c] -/
theorem evl_lc2 {scope : Scope} {it elt : Expr} {m : M (List α)} {cm : α → M Bool} {f : α → M β} {tp : Pos} {ifs : List Expr} {s₀ : Slot} (ok : Ok p sc NN VV GG k g) (hI : EvI g L (.Name x tp) it S m) (hN : NN[i]? = some x) (hLi : L[i]? = some s₀) (hs₀ : NoOwn s₀) (hb : blkC NN sc scope [(x, i)] = true)
    (hv : VV'.all (seenB scope) = true) (hg : GG'.all (glB scope) = true) (hx : locB scope x = true)
    (hc : ∀ g', Ok p scope NN VV' GG' k g' → ∀ d, PTs g'.X ifs (tT g'.fm g'.W (L.set i (sV false S d)) (cm d)))
    (he : ∀ g', Ok p scope NN VV' GG' k g' → ∀ d, EvE g' (L.set i (sV false S d)) elt md T (f d)) (hs : ∀ x, foldedSetIterable it g.X.env x = pure x := by intro _; rfl) :
    (EvL g L (.ListComp elt [⟨.Name x tp, it, ifs, 0⟩] scope pos) md T (m.bind fun xs => compM (fun d => (cm d).bind fun c => if c = true then (f d).bind fun y => .ok (some y) else .ok none) xs)) ∧
    (∀ {y : Str} {i2 : Nat} {py spos : Pos}, NN[i2]? = some y → g.X.env.scope.names.lookup y = some .local → swapsWith (.ListComp elt [⟨.Name x tp, it, ifs, 0⟩] scope pos) (some (.Name y py)) spos.line g.X.env = pure true →
      PS g.X (.Assign [.Name y py] (.ListComp elt [⟨.Name x tp, it, ifs, 0⟩] scope pos) spos) (tAsg (tL g.fm g.W L md T (m.bind fun xs => compM (fun d => (cm d).bind fun c => if c = true then (f d).bind fun y => .ok (some y) else .ok none) xs)) (gName i2))) := by
  have loc : ∀ (s : Shared) (H : Hp) (C : Addr) (cl : List (Str × Addr)) (fp : List Addr), L2.Loc (g.X.blk s H scope (compEnvC scope cl C g.X.env) fp).env.scope x ∧ ((g.X.blk s H scope (compEnvC scope cl C g.X.env) fp).fn x = true ∨ (g.X.blk s H scope (compEnvC scope cl C g.X.env) fp).env.scope.names.lookup x = some .local) := by
    intro s H C cl fp
    rcases locB_v hx with h | h
    · have q : (relabel scope g.X.env).names.lookup x = some .local := by
        rcases lookup_rl (env := g.X.env) h with q | ⟨q, _⟩
        · exact q
        · cases q
      exact ⟨.inl q, .inr q⟩
    · have q : (relabel scope g.X.env).names.lookup x = some .cell := by
        rcases lookup_rl (env := g.X.env) h with q | ⟨q, _⟩
        · exact q
        · cases q
      refine ⟨.inr q, .inl ?_⟩
      show (scope.names.lookup x == some .cell) = true
      rw [h]; rfl
  have BODY : ∀ σ H Q, tL g.fm g.W L md T (m.bind fun xs => compM (fun d => (cm d).bind fun c => if c = true then (f d).bind fun y => .ok (some y) else .ok none) xs) σ H Q →
      tLc (tI g.fm g.W L S m) (gName i) (fun σ H Q => ∃ z : {fm' : Fm // fm'.K = p.K ∧ ∀ P, p.T = some P → LamX.TabS fm'.H0 P lamQ} × α, tT z.1.1 (fun _ _ _ => False) (L.set i (sV false S z.2)) (cm z.2) σ H Q)
        (fun σ H Q => ∃ z : {fm' : Fm // fm'.K = p.K ∧ ∀ P, p.T = some P → LamX.TabS fm'.H0 P lamQ} × α, tE z.1.1 (fun _ _ _ => False) (L.set i (sV false S z.2)) md T (f z.2) σ H Q) ([(x, i)].map (·.2)) σ H Q := by
    intro σ H Q q
    obtain ⟨kp, own, at_, q⟩ := tL_iff.mp q
    cases m with
    | ex c => exact ⟨kp, own, at_, q⟩
    | no => exact q.elim
    | ok xs =>
    refine ⟨kp, own, at_, fun J H1 s1 hJ D hD => ?_⟩
    have at1 := at_.ext s1
    have hHD : H D = none := s1.free hD
    -- the inner frame
    let fm' : Fm := ⟨g.fm.K, g.fm.H0, fun a => a = D ∨ g.fm.z a⟩
    let hh : α → M (Option β) := fun d => (cm d).bind fun c => if c = true then (f d).bind fun y => .ok (some y) else .ok none
    have q : FinL g.fm g.W own σ H md T Q (compM hh xs) := q
    unfold compM at q
    split at q
    case isFalse => exact q.elim
    rename_i hlen
    have aw : At g.fm kp (L.set i sAny) (σ.set i none) H1 own := at1.setN hLi hs₀ rfl
    have rdD : ∀ (md : Md) (H0 : Hp) a o, RX g.fm own H0 H1 md a o → RX fm' own H0 (upd H1 D (.lst [])) md a o := fun md H0 a o z => by
      have z2 := RX.add (o' := .lst []) hD a o z
      cases md with
      | sh => exact z2.imp (fun ⟨a1, a2, a3⟩ => ⟨a1, fun y => a2 (List.mem_cons_of_mem _ y), fun y => y.elim (fun e => a2 (by rw [e]; exact List.mem_cons_self)) a3⟩) id
      | f0 => exact ⟨z2.1, fun y => z2.2.1 (List.mem_cons_of_mem _ y), fun y => y.elim (fun e => z2.2.1 (by rw [e]; exact List.mem_cons_self)) z2.2.2.1, z2.2.2.2⟩
      | fx => exact ⟨z2.1, fun y => z2.2.1 (List.mem_cons_of_mem _ y), fun y => y.elim (fun e => z2.2.1 (by rw [e]; exact List.mem_cons_self)) z2.2.2.1, z2.2.2.2⟩
    have a0 : At fm' (RD g.fm own H1) (L.set i sAny) (wipe σ [i]) (upd H1 D (.lst [])) own := by
      obtain ⟨h1, h2, ⟨Fs, h3, e⟩, h4, h5, h6⟩ := aw
      refine ⟨h1.trans (newSame hD), fun a z => ?_, ⟨Fs, h3.st (fun b a o z => ?_) fun y hy => ?_, e⟩, h4, fun y hy => ⟨fun n => (h5 y hy).1 ((newSame hD).free n), (h5 y hy).2.1, fun z => z.elim (fun e => (h5 y hy).1 (by rw [e]; exact hD)) (h5 y hy).2.2⟩, fun a o z => rdD .sh H1 a o z⟩
      · rcases z with z | z
        · rw [z, upd_same]; exact fun n => by cases n
        · exact fun n => h2 a z ((newSame hD).free n)
      · cases b with
        | false => exact rdD .sh H1 a o z
        | true => exact rdD .f0 H1 a o z
      · exact upd_ne fun e' => (h5 y (by rw [e]; exact hy)).1 (by rw [e']; exact hD)
    have upR : ∀ (md : Md) {H5 : Hp} {vs' : List V}, ∀ a o, RX g.fm (D :: own) H H5 md a o → RX g.fm (D :: own) H (upd H5 D (.lst vs')) md a o := fun md {H5 vs'} a o z => by
      have ne : a ∉ D :: own → a ≠ D := fun h e => h (by rw [e]; exact List.mem_cons_self)
      cases md with
      | sh =>
        refine z.imp (fun ⟨a1, a2, a3⟩ => ⟨?_, a2, a3⟩) id
        unfold Rd
        rw [cl_upd_ne (ne a2)]
        exact a1
      | f0 => exact ⟨by rw [cl_upd_ne (ne z.2.1)]; exact z.1, z.2⟩
      | fx => exact ⟨by rw [cl_upd_ne (ne z.2.1)]; exact z.1, z.2⟩
    refine ⟨fun n mm H' => mm = xs.length - n ∧ n ≤ xs.length ∧ ∃ vs ds, H' D = some (.lst vs) ∧ vs.length ≤ n ∧ Same H H' ∧ Reps T (RX g.fm (D :: own) H H' md) ds vs ∧ At fm' (RD g.fm own H1) (L.set i sAny) (wipe σ [i]) H' own ∧
      FinL g.fm g.W own σ H md T Q ((compG hh (xs.drop n)).bind fun l => .ok (ds ++ l)), ⟨_, rfl, Nat.zero_le _, [], [], upd_same, Nat.zero_le _, s1.trans (newSame hD), .nil, a0, ?_⟩, ?_⟩
    · rw [List.drop_zero]
      have e : ((compG hh xs).bind fun l => M.ok ([] ++ l)) = compG hh xs := by cases compG hh xs <;> rfl
      rw [e]; exact q
    rintro n mm H' ⟨rfl, hn, vs, ds, hDv, hvl, sH, rr, a', q'⟩
    have rb : Rdb g.fm.K (RD g.fm own H1) H' := ⟨fun a o z n => (a'.kept a o z).imp (fun h => Rd.raw h.1 n) id⟩
    obtain ⟨hgo, hst⟩ := hJ H' rb n
    by_cases hlt : n < xs.length
    · have hx' : xs[n]? = some xs[n] := by simp [hlt]
      obtain ⟨go, yl⟩ := hgo _ hx'
      refine .inr ⟨go, fun H6 => ∃ vs ds, H6 D = some (.lst vs) ∧ vs.length ≤ n + 1 ∧ Same H H6 ∧ Reps T (RX g.fm (D :: own) H H6 md) ds vs ∧ At fm' (RD g.fm own H1) (L.set i sAny) (wipe σ [i]) H6 own ∧
        FinL g.fm g.W own σ H md T Q ((compG hh (xs.drop (n + 1))).bind fun l => .ok (ds ++ l)), fun H6 z => ⟨xs.length - (n + 1), by omega, rfl, hlt, z⟩, fun y H3 hy => ?_⟩
      obtain ⟨s3, r3⟩ := yl y H3 hy
      have a3 := a'.ext s3
      have ry : S.rep xs[n] y (RD fm' own H3) := S.mono r3 (Nw.rd a' a'.kept s3)
      have hLw : (L.set i sAny)[i]? = some sAny := by
        have hlt' := (List.getElem?_eq_some_iff.mp hLi).1
        rw [List.getElem?_set_self hlt']
      have a4 : At fm' (RD g.fm own H1) (L.set i (sV false S xs[n])) ((wipe σ [i]).set i (some y)) H3 own := by
        have := a3.setN (s' := sV false S xs[n]) (v := some y) hLw no_any ⟨rfl, y, rfl, ry⟩
        rwa [List.set_set] at this
      rw [List.drop_eq_getElem_cons hlt] at q'
      refine ⟨wipe1, ⟨⟨fm', ok.fmK, ok.tab⟩, xs[n]⟩, _, own, a4, ?_⟩
      have q2 : FinL g.fm g.W own σ H md T Q (((hh xs[n]).nox.bind fun o => (compG hh (xs.drop (n + 1))).bind fun l => .ok (o.toList ++ l)).bind fun l => .ok (ds ++ l)) := q'
      cases hcm : cm xs[n] with
      | ex c => rw [show hh xs[n] = .ex c from by show (cm xs[n]).bind _ = _; rw [hcm]; rfl] at q2; exact q2.elim
      | no => rw [show hh xs[n] = .no from by show (cm xs[n]).bind _ = _; rw [hcm]; rfl] at q2; exact q2.elim
      | ok c =>
        intro H4 s4
        cases c with
        | false =>
          rw [show hh xs[n] = .ok none from by show (cm xs[n]).bind _ = _; rw [hcm]; rfl] at q2
          refine (if_neg (by decide)).mpr ?_
          have a5 : At fm' (RD g.fm own H1) (L.set i sAny) (wipe σ [i]) H4 own := a3.ext s4
          refine ⟨vs, ds, s4.keep _ _ (s3.keep _ _ hDv rfl) rfl, Nat.le_succ_of_le hvl, (sH.trans s3).trans s4, rr.mono (RX.same (s3.trans s4)), a5, ?_⟩
          have e : (((M.ok (none : Option β)).nox.bind fun o => (compG hh (xs.drop (n + 1))).bind fun l => M.ok (o.toList ++ l)).bind fun l => M.ok (ds ++ l)) = (compG hh (xs.drop (n + 1))).bind fun l => M.ok (ds ++ l) := by
            cases compG hh (xs.drop (n + 1)) <;> rfl
          rw [e] at q2; exact q2
        | true =>
          refine (if_pos rfl).mpr ⟨⟨⟨fm', ok.fmK, ok.tab⟩, xs[n]⟩, _, own, a4.ext s4, ?_⟩
          cases hf : f xs[n] with
          | ex c => rw [show hh xs[n] = .ex c from by show (cm xs[n]).bind _ = _; rw [hcm]; show (f xs[n]).bind _ = _; rw [hf]; rfl] at q2; exact q2.elim
          | no => rw [show hh xs[n] = .no from by show (cm xs[n]).bind _ = _; rw [hcm]; show (f xs[n]).bind _ = _; rw [hf]; rfl] at q2; exact q2.elim
          | ok w =>
            rw [show hh xs[n] = .ok (some w) from by show (cm xs[n]).bind _ = _; rw [hcm]; show (f xs[n]).bind _ = _; rw [hf]; rfl] at q2
            intro v H5 s5 r5
            have s35 : Same H' H5 := (s3.trans s4).trans s5
            have sHH5 : Same H H5 := sH.trans s35
            have nw : ∀ a o, RX fm' own H4 H5 md a o → RX g.fm (D :: own) H H5 md a o := fun a o z => by
              have nd : ¬ fm'.z a → a ≠ D ∧ ¬ g.fm.z a := fun h => ⟨fun e => h (.inl e), fun e => h (.inr e)⟩
              cases md with
              | sh => exact z.imp (fun ⟨a1, a2, a3⟩ => ⟨a1, fun y => (List.mem_cons.mp y).elim (nd a3).1 a2, (nd a3).2⟩) id
              | f0 => exact ⟨z.1, fun y => (List.mem_cons.mp y).elim (nd z.2.2.1).1 z.2.1, (nd z.2.2.1).2, z.2.2.2⟩
              | fx => exact ⟨z.1, fun y => (List.mem_cons.mp y).elim (nd z.2.2.1).1 z.2.1, (nd z.2.2.1).2, z.2.2.2.1, ((sH.trans s3).trans s4).free z.2.2.2.2⟩
            refine ⟨vs, s35.keep _ _ hDv rfl, by omega, vs ++ [v], ds ++ [w], upd_same, by rw [List.length_append, List.length_singleton]; omega, sHH5.wr hHD (s35.keep _ _ hDv rfl) (fun _ z => nomatch z) rfl, ?_, ?_, ?_⟩
            · exact ((rr.mono (RX.same s35)).append (.cons (T.mono r5 nw) .nil)).mono (upR md)
            · -- the slots at the changed heap
              have a5 : At fm' (RD g.fm own H1) (L.set i sAny) (wipe σ [i]) H5 own := a'.ext s35
              obtain ⟨h1, h2, ⟨Fs, h3, e⟩, h4, h5, h6⟩ := a5
              have ne : ∀ {a : Addr}, ¬ fm'.z a → a ≠ D := fun h e => h (.inl e)
              have k0 : ∀ (md : Md) a o, RX fm' own H5 H5 md a o → md = .fx ∨ RX fm' own (upd H5 D (.lst (vs ++ [v]))) (upd H5 D (.lst (vs ++ [v]))) md a o := fun md a o z => by
                cases md with
                | sh =>
                  refine .inr (z.imp (fun ⟨a1, a2, a3⟩ => ⟨?_, a2, a3⟩) id)
                  unfold Rd
                  rw [cl_upd_ne (ne a3)]
                  exact a1
                | f0 => exact .inr ⟨by rw [cl_upd_ne (ne z.2.2.1)]; exact z.1, z.2⟩
                | fx => exact .inl rfl
              have up : ∀ a, H5 a ≠ none → upd H5 D (.lst (vs ++ [v])) a ≠ none := fun a hne => by
                by_cases e : a = D
                · rw [e, upd_same]; exact fun z => by cases z
                · rw [upd_ne e]; exact hne
              refine ⟨h1.wr (at_.same.free hHD) (s35.keep _ _ hDv rfl) (fun _ z => nomatch z) rfl, fun a z => up a (h2 a z), ⟨Fs, h3.st (fun b a o z => ?_) fun y hy => ?_, e⟩, h4, fun y hy => ⟨up y (h5 y hy).1, (h5 y hy).2⟩, fun a o z => (k0 .sh a o (h6 a o z)).resolve_left fun e => nomatch e⟩
              · cases b with
                | false => exact (k0 .sh a o z).resolve_left fun e => nomatch e
                | true => exact (k0 .f0 a o z).resolve_left fun e => nomatch e
              · exact upd_ne (ne (h5 y (by rw [e]; exact hy)).2.2)
            · have e : (((M.ok (some w)).nox.bind fun o => (compG hh (xs.drop (n + 1))).bind fun l => M.ok (o.toList ++ l)).bind fun l => M.ok (ds ++ l)) = (compG hh (xs.drop (n + 1))).bind fun l => M.ok ((ds ++ [w]) ++ l) := by
                cases compG hh (xs.drop (n + 1)) <;> simp [M.nox, M.bind]
              rw [e] at q2; exact q2
    · have e : n = xs.length := by omega
      subst e
      rw [List.drop_length] at q'
      refine .inl ⟨hst (by simp), ?_⟩
      have q2 : FinL g.fm g.W own σ H md T Q (.ok (ds ++ [])) := q'
      rw [List.append_nil] at q2
      exact q2 D vs H' sH hHD hDv rr
  refine ⟨PE.imp (pe_lc (own := [(x, i)]) ok.calm (by rw [ok.N]; exact ok.nd) hI (by rw [ok.N]; exact ok.blk hb) (fun s H C cl fp => pg_name (i := i) (by show g.X.N.Nodup; rw [ok.N]; exact ok.nd) (by show g.X.N[i]? = _; rw [ok.N]; exact hN) (loc s H C cl fp).1 (loc s H C cl fp).2)
    (fun s H C cl fp => PTs.ex (t := fun (z : {fm' : Fm // fm'.K = p.K ∧ ∀ P, p.T = some P → LamX.TabS fm'.H0 P lamQ} × α) => tT z.1.1 (fun _ _ _ => False) (L.set i (sV false S z.2)) (cm z.2)) fun z => hc ⟨g.X.blk s H scope (compEnvC scope cl C g.X.env) fp, z.1.1, fun _ _ _ => False, []⟩ (blk_ok ok z.1.2 hv hg) z.2) (fun s H C cl fp => PE.ex (t := fun (z : {fm' : Fm // fm'.K = p.K ∧ ∀ P, p.T = some P → LamX.TabS fm'.H0 P lamQ} × α) => tE z.1.1 (fun _ _ _ => False) (L.set i (sV false S z.2)) md T (f z.2)) fun z => he ⟨g.X.blk s H scope (compEnvC scope cl C g.X.env) fp, z.1.1, fun _ _ _ => False, []⟩ (blk_ok ok z.1.2 hv hg) z.2) hs) BODY, fun {y i2 py spos} hy hyl hsw => ?_⟩
  exact PS.imp (ps_setLc (own := [(x, i)]) ok.calm (by rw [ok.N]; exact ok.nd) (by rw [ok.N]; exact hy) hyl hsw hI (by rw [ok.N]; exact ok.blk hb) (fun s H C cl fp => pg_name (i := i) (by show g.X.N.Nodup; rw [ok.N]; exact ok.nd) (by show g.X.N[i]? = _; rw [ok.N]; exact hN) (loc s H C cl fp).1 (loc s H C cl fp).2)
    (fun s H C cl fp => PTs.ex (t := fun (z : {fm' : Fm // fm'.K = p.K ∧ ∀ P, p.T = some P → LamX.TabS fm'.H0 P lamQ} × α) => tT z.1.1 (fun _ _ _ => False) (L.set i (sV false S z.2)) (cm z.2)) fun z => hc ⟨g.X.blk s H scope (compEnvC scope cl C g.X.env) fp, z.1.1, fun _ _ _ => False, []⟩ (blk_ok ok z.1.2 hv hg) z.2) (fun s H C cl fp => PE.ex (t := fun (z : {fm' : Fm // fm'.K = p.K ∧ ∀ P, p.T = some P → LamX.TabS fm'.H0 P lamQ} × α) => tE z.1.1 (fun _ _ _ => False) (L.set i (sV false S z.2)) md T (f z.2)) fun z => he ⟨g.X.blk s H scope (compEnvC scope cl C g.X.env) fp, z.1.1, fun _ _ _ => False, []⟩ (blk_ok ok z.1.2 hv hg) z.2) hs) fun E σ H q => BODY σ H _ q
/-- [elt for x in it if c] -/
theorem evl_lc {scope : Scope} {it elt : Expr} {m : M (List α)} {cm : α → M Bool} {f : α → M β} {tp : Pos} {ifs : List Expr} {s₀ : Slot} (ok : Ok p sc NN VV GG k g) (hI : EvI g L (.Name x tp) it S m) (hN : NN[i]? = some x) (hLi : L[i]? = some s₀) (hs₀ : NoOwn s₀) (hb : blkC NN sc scope [(x, i)] = true)
    (hv : VV'.all (seenB scope) = true) (hg : GG'.all (glB scope) = true) (hx : locB scope x = true)
    (hc : ∀ g', Ok p scope NN VV' GG' k g' → ∀ d, PTs g'.X ifs (tT g'.fm g'.W (L.set i (sV false S d)) (cm d)))
    (he : ∀ g', Ok p scope NN VV' GG' k g' → ∀ d, EvE g' (L.set i (sV false S d)) elt md T (f d)) (hs : ∀ x, foldedSetIterable it g.X.env x = pure x := by intro _; rfl) :
    EvL g L (.ListComp elt [⟨.Name x tp, it, ifs, 0⟩] scope pos) md T (m.bind fun xs => compM (fun d => (cm d).bind fun c => if c = true then (f d).bind fun y => .ok (some y) else .ok none) xs) := (evl_lc2 ok hI hN hLi hs₀ hb hv hg hx hc he hs).1
end
end Hd
namespace Hd
open PySem PySem.Spec L2
section
variable {p : Pr} {sc : Scope} {NN VV GG VV' GG' : List Str} {k : Nat} {g : G} {L L' : List Slot} {a b c e e' : Expr} {es : List Expr} {md md' : Md} {α β γ δ ρ : Type} {S : Ty α} {T : Ty β} {U : Ty γ} {A : Ar δ} {pos : Pos} {K : PySem.W.Frag} {tg : Expr} {i j : Nat} {x : Str}
/-- all slots forgotten -/
theorem wkX {n : Nat} (h : g.LX = List.replicate n sAny) (e : L.length = n) : Wk L g.LX := h ▸ Wk.anys e
theorem ev_gint {i : Int} (ok : Ok p sc NN VV GG k g) (hG : GG[j]? = some x) (h : ∃ t, p.mg x = some (.int i t)) : EvE g L (.Name x pos) md tInt (.ok i) := by
  obtain ⟨t, h⟩ := h
  exact ev_glob (v := .int i) ok hG h ⟨t, rfl⟩ (fun _ => rfl)
theorem ev_b1 {id : String} {r : List V → Hp → VK → Prop} {f : α → M γ} {fr : Bool} {m : M α} {pp : Pos} (ok : Ok p sc NN VV GG k g) (hc : CallR g.X (.builtin id) r)
    (F : ∀ {d v R H Q}, Rdb p.K R H → S.rep d v R → OpEnd U fr R H Q (f d) → r [v] H Q) (hne : ∀ d c, f d ≠ .ex c) (hm : MdOk fr md md')
    (hG : GG[j]? = some x) (hmg : p.mg x = none) (hv : bootBuiltins x = some (.builtin id)) (ha : EvE g L e md S m) (hs : starEach [e] g.X.env = (false, eval e g.X.env) :: starEach [] g.X.env := by rfl) : EvE g L (.Call (.Name x pp) [e] [] pos) md' U (m.bind f) := by
  have h := ev_callB (md' := md') (U := U) (A := aCons S aNil) (f := fun d => f d.1) (fr := fr) (pos := pos) (pp := pp) ok hc ⟨fun {d xs R H Q} rb ⟨v, r, e1, h1, e3⟩ q => by
    subst e1; cases (show r = [] from e3); exact F rb h1 q⟩ (fun d c => hne d.1 c) hm hG hmg hv (eva_cons ha eva_nil hs) hs rfl
  have e : (m.bind fun d => (M.ok ()).bind fun e => M.ok (d, e)).bind (fun d => f d.1) = m.bind f := by cases m <;> rfl
  rwa [e] at h
theorem ev_t1 {id : String} {r : List V → Hp → VK → Prop} {f : α → M γ} {fr : Bool} {m : M α} {pp : Pos} (ok : Ok p sc NN VV GG k g) (hc : CallR g.X (.type id) r)
    (F : ∀ {d v R H Q}, Rdb p.K R H → S.rep d v R → OpEnd U fr R H Q (f d) → r [v] H Q) (hne : ∀ d c, f d ≠ .ex c) (hm : MdOk fr md md')
    (hG : GG[j]? = some x) (hmg : p.mg x = none) (hv : bootBuiltins x = some (.type id)) (ha : EvE g L e md S m) (hs : starEach [e] g.X.env = (false, eval e g.X.env) :: starEach [] g.X.env := by rfl) : EvE g L (.Call (.Name x pp) [e] [] pos) md' U (m.bind f) := by
  have h := ev_callTy (md' := md') (U := U) (A := aCons S aNil) (f := fun d => f d.1) (fr := fr) (pos := pos) (pp := pp) ok hc ⟨fun {d xs R H Q} rb ⟨v, r, e1, h1, e3⟩ q => by
    subst e1; cases (show r = [] from e3); exact F rb h1 q⟩ (fun d c => hne d.1 c) hm hG hmg hv (eva_cons ha eva_nil hs) hs rfl
  have e : (m.bind fun d => (M.ok ()).bind fun e => M.ok (d, e)).bind (fun d => f d.1) = m.bind f := by cases m <;> rfl
  rwa [e] at h
theorem ev_b2 {id : String} {r : List V → Hp → VK → Prop} {f : α → β → M γ} {fr : Bool} {m1 : M α} {m2 : M β} {pp : Pos} (ok : Ok p sc NN VV GG k g) (hc : CallR g.X (.builtin id) r)
    (F : ∀ {d e v w R H Q}, Rdb p.K R H → S.rep d v R → T.rep e w R → OpEnd U fr R H Q (f d e) → r [v, w] H Q) (hne : ∀ d e c, f d e ≠ .ex c) (hm : MdOk fr md md')
    (hG : GG[j]? = some x) (hmg : p.mg x = none) (hv : bootBuiltins x = some (.builtin id)) (ha : EvE g L a md S m1) (hb : EvE g L b md T m2)
    (hs1 : starEach [a, b] g.X.env = (false, eval a g.X.env) :: starEach [b] g.X.env := by rfl) (hs2 : starEach [b] g.X.env = (false, eval b g.X.env) :: starEach [] g.X.env := by rfl)
    (hpl : (backTo pos (starEach [b] g.X.env)).any (·.1) = false := by rfl) : EvE g L (.Call (.Name x pp) [a, b] [] pos) md' U (m1.bind fun d => m2.bind fun e => f d e) := by
  have h := ev_callB (md' := md') (U := U) (A := aCons S (aCons T aNil)) (f := fun d => f d.1 d.2.1) (fr := fr) (pos := pos) (pp := pp) ok hc ⟨fun {d xs R H Q} rb ⟨v, r, e1, h1, w, r2, e2, h2, e3⟩ q => by
    subst e1; subst e2; cases (show r2 = [] from e3); exact F rb h1 h2 q⟩ (fun d c => hne d.1 d.2.1 c) hm hG hmg hv (eva_cons ha (eva_cons hb eva_nil hs2) hs1) hs1 hpl
  have e : (m1.bind fun d => (m2.bind fun d => (M.ok ()).bind fun e => M.ok (d, e)).bind fun e => M.ok (d, e)).bind (fun d => f d.1 d.2.1) = m1.bind fun d => m2.bind fun e => f d e := by cases m1 <;> cases m2 <;> rfl
  rwa [e] at h
variable {m1 m2 : M Int} {pp : Pos}
def bInt (b : Bool) : Int := if b then 1 else 0
theorem ev_intB {m : M Bool} (ok : Ok p sc NN VV GG k g) (hG : GG[j]? = some "int") (hmg : p.mg "int" = none) (ha : EvE g L a md tBool m) (hs : starEach [a] g.X.env = (false, eval a g.X.env) :: starEach [] g.X.env := by rfl) : EvE g L (.Call (.Name "int" pp) [a] [] pos) md' tInt (m.bind fun x => .ok (bInt x)) :=
  ev_t1 (fr := true) ok call_int1 (fun {d v R H Q} rb h q => .inr ⟨d, by rw [h], q _ _ (Same.refl _) rfl⟩) (fun _ _ h => nomatch h) .fresh hG hmg (by decide +kernel) ha hs
theorem Reps.strs {R : RdR} {ds : List Tx} {vs : List V} (r : Reps tStr R ds vs) : vs = (ds.map toS).map V.str ∧ ∀ d ∈ ds, OkTx d := by
  induction r with
  | nil => exact ⟨rfl, fun _ h => nomatch h⟩
  | cons h _ ih =>
    obtain ⟨e, h⟩ := h
    subst e
    refine ⟨by rw [ih.1]; rfl, fun d hd => ?_⟩
    rcases List.mem_cons.mp hd with e | hd
    · rw [e]; exact h
    · exact ih.2 d hd
end
end Hd
namespace Hd
open PySem PySem.Spec L2
theorem lstR {X : Cx} {pins : List (Addr × Obj)} {σ : L2.St} {H : Hp} {s : Shared} {l : Addr} {xs : List V} (I : Inv X pins σ H s) (h : L2.Rd H l (.lst xs)) : xs.length ≤ sizeLine ∧ ∃ (its : List Value) (n : Nat), Vals xs its ∧ xs.length = its.length ∧ s.heap.get? l = some { cls := .type "list", data := .seq its.toArray n } := by
  obtain ⟨z, its, n, r, e⟩ := h.ok I.hok
  exact ⟨z, its, n, r, r.length, e⟩
def rCatR : R2 := fun x y H Q => ∃ l b xs zs, x = .ref l ∧ y = .ref b ∧ L2.Rd H l (.lst xs) ∧ L2.Rd H b (.lst zs) ∧ xs.length + zs.length ≤ sizeLine ∧ ∀ p, H p = none → Q (.ref p) (upd H p (.lst (xs ++ zs)))
theorem op_catR {X : Cx} : OpR X (binaryOp .Add) rCatR := by
  intro pins s σ H x y v u Q I rx ry h
  obtain ⟨l, b, xs, zs, rfl, rfl, hH, hB, hz, q⟩ := h
  cases rx
  cases ry
  obtain ⟨z, its, n, r, hl, e⟩ := lstR I hH
  obtain ⟨z2, its2, n2, r2, hl2, e2⟩ := lstR I hB
  refine PySem.P.add_list e e2 ?_ (by rw [List.size_toArray, List.size_toArray]; omega)
  have ea : its.toArray ++ its2.toArray = (its ++ its2).toArray := by simp
  rw [ea]
  exact ⟨.ref _, _, I.lnew (t' := s.toks) (r.append r2) (by rw [List.length_append]; omega), rfl, q _ I.fresh⟩
section
variable {p : Pr} {sc : Scope} {NN VV GG VV' GG' : List Str} {k : Nat} {g : G} {L L' : List Slot} {a b c e e' : Expr} {es : List Expr} {md md' : Md} {α β γ δ ρ : Type} {S : Ty α} {T : Ty β} {U : Ty γ} {A : Ar δ} {pos : Pos} {K : PySem.W.Frag} {tg : Expr} {i j : Nat} {x : Str}
theorem ev_sm1 {id : String} {name : Str} {r : V → List V → Hp → VK → Prop} {f : Tx → β → M γ} {m1 : M Tx} {m2 : M β} {apos : Pos} (ok : Ok p sc NN VV GG k g) (slot : PySem.Slot "str" name id) (hty : typeOf (.builtin id) = pure (.type "method_descriptor")) (hmt : MtR g.X id r)
    (F : ∀ {d e y R H Q}, Rdb p.K R H → OkTx d → T.rep e y R → OpEnd U true R H Q (f d e) → r (.str (toS d)) [y] H Q) (hne : ∀ d e c, f d e ≠ .ex c) (ha : EvE g L a md tStr m1) (hb : EvE g L b md T m2)
    (hs : starEach [b] g.X.env = [(false, eval b g.X.env)] := by rfl) (hbase : attributeBase a name g.X.env (eval a g.X.env) = eval a g.X.env := by rfl) (hline : (apos.endLine == pos.line) = true := by rfl) :
    EvE g L (.Call (.Attribute a name apos) [b] [] pos) md' U (m1.bind fun d => m2.bind fun e => f d e) := by
  refine PE.imp (pe_m1 slot hty hmt ha hb hs hbase hline) fun σ H Q q => ?_
  obtain ⟨kp, own, at_, q⟩ := tE_iff.mp q
  refine sub finE (Same.refl H) at_ q fun d x H1 s1 r1 at1 q1 => ⟨⟨_, r1.1⟩, sub finE s1 at1 q1 fun e y H2 s2 r2 at2 q2 => ?_⟩
  rw [r1.1]
  rw [← ok.fmK] at F
  exact F (R := RX g.fm own H H2 md) RX.rdb r1.2 r2 (q2.fin (MdOk.fresh : MdOk true md md') (s1.trans s2) at2 (hne d e))
/-- sep.join(xs) -/
def joinM (s : Tx) (xs : List Tx) : M Tx := if (xs.map List.length).sum + xs.length * s.length ≤ 16777216 then .ok (TL.joinL s xs) else .no
theorem joinM_ne {s : Tx} {xs : List Tx} {c : Ec} : joinM s xs ≠ .ex c := by unfold joinM; split <;> exact fun h => nomatch h
theorem joinL_len (s : Tx) : ∀ xs : List Tx, (TL.joinL s xs).length ≤ (xs.map List.length).sum + xs.length * s.length
  | [] => by simp [TL.joinL]
  | [x] => by simp [TL.joinL]
  | x :: y :: r => by
    have := joinL_len s (y :: r)
    simp only [TL.joinL, List.length_append, List.map_cons, List.sum_cons, List.length_cons] at this ⊢
    rw [Nat.add_mul, Nat.add_mul] at *
    omega
theorem joinL_mem (s : Tx) {c : Nat} : ∀ xs : List Tx, c ∈ TL.joinL s xs → c ∈ s ∨ ∃ x ∈ xs, c ∈ x
  | [], h => nomatch h
  | [x], h => .inr ⟨x, List.mem_cons_self, h⟩
  | x :: y :: r, h => by
    simp only [TL.joinL, List.mem_append] at h
    rcases h with h | h | h
    · exact .inr ⟨x, List.mem_cons_self, h⟩
    · exact .inl h
    · rcases joinL_mem s (y :: r) h with h | ⟨z, hz, h⟩
      · exact .inl h
      · exact .inr ⟨z, List.mem_cons_of_mem _ hz, h⟩
theorem tl_toS (x : Tx) : TL.tl (toS x) = x := by simp [TL.tl, toS]
theorem ev_join {m1 : M Tx} {m2 : M (List Tx)} {apos : Pos} (ok : Ok p sc NN VV GG k g) (ha : EvE g L a md tStr m1) (hb : EvE g L b md (tList tStr) m2)
    (hs : starEach [b] g.X.env = [(false, eval b g.X.env)] := by rfl) (hbase : attributeBase a "join" g.X.env (eval a g.X.env) = eval a g.X.env := by rfl) (hline : (apos.endLine == pos.line) = true := by rfl) :
    EvE g L (.Call (.Attribute a "join" apos) [b] [] pos) md' tStr (m1.bind fun s => m2.bind fun xs => joinM s xs) :=
  ev_sm1 (T := tList tStr) ok PySem.F.slot_str_join PySem.F.type_str_join mt_join (fun {d e y R H Q} rb hd ⟨a, vs, ey, h, r⟩ q => by
    obtain ⟨ev, ho⟩ := r.strs
    unfold joinM at q
    split at q
    · rename_i hz
      refine ⟨toS d, a, e.map toS, rfl, by rw [ey], .inl (by rw [← ev, ok.K]; exact sq_of rb h), ?_, ?_⟩
      · rw [List.map_map, show (fun x : Str => x.length) ∘ toS = List.length from funext toS_len, List.length_map, toS_len]; exact hz
      · refine q _ _ (Same.refl _) ⟨?_, Nat.le_trans (joinL_len d e) (Nat.le_trans hz (by decide)), fun c hc => ?_⟩
        · show V.str _ = V.str _
          congr 1
          rw [TL.join_eq]
          refine TL.ext_tl ?_
          rw [TL.tl_join, tl_toS, tl_toS, List.map_map, show TL.tl ∘ toS = id from funext tl_toS, List.map_id]
        · rcases joinL_mem d e hc with h | ⟨z, hz, h⟩
          · exact hd.2 c h
          · exact (ho z hz).2 c h
    · exact q.elim) (fun _ _ _ => joinM_ne) ha hb hs hbase hline
theorem PO.imp {X : Cx} {e : Option Expr} {t t' : TO} (h : PO X e t) (k : ∀ σ H Q, t' σ H Q → t σ H Q) : PO X e t' := ⟨fun pins s σ H Q I q => h.run pins s σ H Q I (k _ _ _ q)⟩
def cutL {α : Type} (xs : List α) (lo hi : Option Int) : List α := (xs.drop (HT.sIx xs.length 0 lo)).take (HT.sIx xs.length xs.length hi - HT.sIx xs.length 0 lo)
theorem Reps.cut {R : RdR} {ds : List α} {vs : List V} (h : Reps S R ds vs) (lo hi : Option Int) : Reps S R (cutL ds lo hi) (L2.cutV vs lo hi) := by
  unfold cutL L2.cutV
  rw [h.length]
  exact (h.drop _).take _
variable {lo hi : Option Expr} {ml mh : M (Option Int)} {p2 : Pos}
theorem Reps.rep {R : RdR} {ds : List α} {vs : List V} (h : Reps S R ds vs) : ∀ n : Nat, Reps S R (List.replicate n ds).flatten (List.replicate n vs).flatten
  | 0 => .nil
  | n + 1 => by rw [List.replicate_succ, List.flatten_cons, List.replicate_succ, List.flatten_cons]; exact h.append (Reps.rep h n)
/-- xs + ys -/
def catL {α : Type} (xs ys : List α) : M (List α) := if xs.length + ys.length ≤ sizeLine then .ok (xs ++ ys) else .no
theorem evl_cat {m1 m2 : M (List α)} (ok : Ok p sc NN VV GG k g) (ha : EvE g L a md (tList S) m1) (hb : EvE g L b md (tList S) m2) : EvL g L (.BinOp a .Add b pos) md S (m1.bind fun x => m2.bind fun y => catL x y) := by
  refine PE.imp (pe_op op_catR ha hb) fun σ H Q q => ?_
  obtain ⟨kp, own, at_, q⟩ := tL_iff.mp q
  refine sub finL (Same.refl H) at_ q fun d x H1 s1 r1 at1 q1 => sub finL s1 at1 q1 fun e y H2 s2 r2 at2 q2 => ?_
  obtain ⟨a1, vs1, rfl, h1, rr1⟩ := r1
  obtain ⟨a2, vs2, rfl, h2, rr2⟩ := r2
  unfold catL at q2
  split at q2
  · rename_i hz
    have rb : Rdb g.fm.K (RX g.fm own H H2 md) H2 := RX.rdb
    refine ⟨a1, a2, vs1, vs2, rfl, rfl, rd_of rb (RX.same s2 _ _ h1), rd_of rb h2, by rw [← rr1.length, ← rr2.length]; exact hz, fun z hz => q2 z _ _ ((s1.trans s2).trans (newSame hz)) ((s1.trans s2).free hz) upd_same ?_⟩
    exact ((rr1.mono (RX.same s2)).append rr2).mono (RX.add hz)
  · exact q2.elim
structure FlatV (S : Ty α) : Prop where
  fl : ∀ {d v R}, S.rep d v R → flatV v = true
  eq : ∀ {d e v w R R'}, S.rep d v R → S.rep e w R' → (eqV v w = true ↔ d = e)
theorem f_int : FlatV tInt := ⟨fun h => by cases h; rfl, fun h1 h2 => by cases h1; cases h2; exact beq_iff_eq⟩
theorem Reps.allFlat {R : RdR} {ds : List α} {vs : List V} (hf : FlatV S) (h : Reps S R ds vs) : vs.all flatV = true := by
  induction h with
  | nil => rfl
  | cons r _ ih => rw [List.all_cons, hf.fl r, ih]; rfl
theorem Reps.inV [DecidableEq α] {R R' : RdR} {ds : List α} {vs : List V} (hf : FlatV S) (h : Reps S R ds vs) {d : α} {v : V} (r : S.rep d v R') : L2.inV v vs = decide (d ∈ ds) := by
  induction h with
  | nil => simp [L2.inV]
  | @cons d' ds v' vs r' _ ih =>
    unfold L2.inV at ih ⊢
    rw [List.any_cons, ih]
    by_cases e : d = d'
    · have : eqV v' v = true := (hf.eq r' r).mpr e.symm
      rw [this]; simp [e]
    · have : eqV v' v = false := by
        cases q : eqV v' v with
        | true => exact absurd ((hf.eq r' r).mp q).symm e
        | false => rfl
      rw [this]; simp [e]
theorem c_in [DecidableEq α] {X : Cx} (hX : X.K = p.K) (hf : FlatV S) : CmpOk p X .In S (tList S) (fun x xs => decide (x ∈ xs)) := ⟨rIn p.K false, by rw [← hX]; exact op_in_seq, ⟨fun {d e x y R H Q} rb rx ⟨a, vs, ey, h, r⟩ q => by
  subst ey
  exact ⟨a, vs, rfl, .inl (sq_of rb h), hf.fl rx, r.allFlat hf, q _ _ (Same.refl _) (by show _ = V.bl _; rw [r.inV hf rx]; rfl)⟩⟩⟩
inductive ArAt : {δ α : Type} → Ar δ → Int → Ty α → (δ → α) → Prop where
  | z {α δ : Type} {T : Ty α} {A : Ar δ} : ArAt (aCons T A) 0 T (fun d => d.1)
  | s {α β δ : Type} {T : Ty α} {S : Ty β} {A : Ar δ} {n : Int} {f : δ → α} : ArAt A n T f → ArAt (aCons S A) (n + 1) T (fun d => f d.2)
theorem ArAt.nat {n : Int} {f : δ → α} (h : ArAt A n S f) : 0 ≤ n := by
  induction h with
  | z => omega
  | s _ ih => omega
theorem ArAt.get {n : Int} {f : δ → α} (h : ArAt A n S f) : ∀ {d : δ} {vs : List V} {R : RdR}, A.rep d vs R → ∃ v, vs[n.toNat]? = some v ∧ S.rep (f d) v R := by
  induction h with
  | z => intro d vs R ⟨v, r, e, h1, h2⟩; subst e; exact ⟨v, rfl, h1⟩
  | s h ih =>
    intro d vs R ⟨v, r, e, h1, h2⟩
    subst e
    obtain ⟨w, h3, h4⟩ := ih h2
    have := h.nat
    refine ⟨w, ?_, h4⟩
    rename_i n _
    rw [show (n + 1).toNat = n.toNat + 1 by omega, List.getElem?_cons_succ]
    exact h3
theorem ev_ixA {n : Int} {f : δ → α} {m : M δ} (ok : Ok p sc NN VV GG k g) (hA : ArAt A n S f) (ha : EvE g L a md (tTup A) m) (hb : EvE g L b md tInt (.ok n)) (hs : PlainIx b := by exact fun _ _ => rfl) : EvE g L (.Subscript a b pos) md S (m.bind fun t => .ok (f t)) :=
  ev_ix (S := tTup A) (r := rIxT p.K) (m2 := .ok ()) (f := fun t _ => .ok (f t)) (T := tLit n) (fr := false) ok (by rw [← ok.K]; exact ix_tup) ⟨fun {d e x y R H Q} rb ⟨a, vs, ex, h, r⟩ ry q => by
    obtain ⟨v, h1, h2⟩ := hA.get r
    refine ⟨a, vs, n, v, ex, ry, st_of rb h, ?_, q _ _ (Same.refl _) (S.mono h2 (Nw.old rfl))⟩
    have := atI_nat (xs := vs) (j := n.toNat) h1
    rwa [Int.toNat_of_nonneg hA.nat] at this⟩ (fun _ _ _ h => nomatch h) .same ha (ev_lit hb) hs
variable {st : List Stmt} {D : δ → Out} {d : δ}
/-- if c: raise X("..") -/
theorem evb_ifr {mc : M Bool} {m2 : M δ} {y : Str} {ec : Ec} {jj : Nat} {msg : Str} {q1 q2 q3 q4 : Pos} (ok : OkS p sc NN VV GG k g) (wk : Wk L g.LX) (X : ExF p y ec) (hG : GG[j]? = some y) (hc : EvT g L c mc) (hr : EvB g L st D m2) :
    EvB g L (.If c [.Raise (some (.Call (.Name y q1) [.Constant (.str msg) jj q2] [] q3)) none q4] [] pos :: st) D (mc.bind fun c => if c = true then .ex ec else m2) := by
  refine PSs.imp (pss_cons (ps_if hc (evb_raise (D := fun _ : Unit => Out.bad) (st := []) (pos := q4) (msg := msg) (jj := jj) (pp := q1) (p2 := q2) (p3 := q3) ok wk X hG) pss_nil) hr) fun E σ H ⟨kp, own, at_, q⟩ => ?_
  cases mc with
  | ok c =>
    refine ⟨kp, own, at_, fun H1 s => ?_⟩
    cases c with
    | true => exact ⟨kp, own, at_.ext s, q⟩
    | false => exact ⟨kp, own, at_.ext s, q⟩
  | ex c => exact ⟨kp, own, at_, BOk.exx wk at_ q⟩
  | no => exact q.elim
end
end Hd
namespace Hd
open PySem PySem.Spec L2
section
variable {p : Pr} {sc : Scope} {NN VV GG VV' GG' : List Str} {k : Nat} {g : G} {L L' : List Slot} {a b c e e' : Expr} {es : List Expr} {md md' : Md} {α β γ δ ρ : Type} {S : Ty α} {T : Ty β} {U : Ty γ} {A : Ar δ} {pos : Pos} {K : PySem.W.Frag} {tg : Expr} {i j : Nat} {x : Str}
/-- a list of the written part -/
def KList (K : PySem.W.Frag) (a : Addr) (xs : List V) : Prop := ∃ (o : Obj) (its : Array Value) (n : Nat), K.lookup a = some o ∧ o.cls = .type "list" ∧ o.dict = none ∧ o.data = .seq its n ∧ its.size ≤ sizeLine ∧ Vals xs its.toList
/-- a list that is but read -/
def tListK {α : Type} (K : PySem.W.Frag) (T : Ty α) : Ty (List α) := ⟨fun ds v R => ∃ a vs, v = .ref a ∧ (R a (.lst vs) ∨ KList K a vs) ∧ Reps T R ds vs, fun ⟨a, vs, e, r, h⟩ s => ⟨a, vs, e, r.imp (s _ _) id, h.mono s⟩⟩
structure IsSq (K : PySem.W.Frag) (Q : Ty (List α)) (S : Ty α) : Prop where
  sq : ∀ {d v R H}, Rdb K R H → Q.rep d v R → ∃ a vs, v = .ref a ∧ SqL K H a vs ∧ Reps S R d vs
theorem sq_l : IsSq K (tList S) S := ⟨fun rb ⟨a, vs, e, h, r⟩ => ⟨a, vs, e, sq_of rb h, r⟩⟩
theorem sq_k : IsSq K (tListK K S) S := ⟨fun rb ⟨a, vs, e, h, r⟩ => ⟨a, vs, e, h.elim (sq_of rb) .inr, r⟩⟩
variable {Q : Ty (List α)}
theorem ev_ixQ {mx : M (List α)} {mi : M Int} (ok : Ok p sc NN VV GG k g) (hq : IsSq p.K Q S) (ha : EvE g L a md Q mx) (hb : EvE g L b md tInt mi) (hs : PlainIx b := by exact fun _ _ => rfl) : EvE g L (.Subscript a b pos) md S (mx.bind fun xs => mi.bind fun i => getM xs i) :=
  ev_ix (S := Q) (r := rIxL p.K) (fr := false) ok (by rw [← ok.K]; exact ix_list) ⟨fun {d e x y R H W} rb rx ry q => by
    obtain ⟨a, vs, ex, h, r⟩ := hq.sq rb rx
    unfold getM at q
    cases hj : L2.atI d e with
    | none => rw [hj] at q; exact q.elim
    | some u =>
      rw [hj] at q
      obtain ⟨v, h1, h2⟩ := r.at hj
      exact ⟨a, vs, e, v, ex, ry, h, h1, q _ _ (Same.refl _) (S.mono h2 (Nw.old rfl))⟩⟩ (fun _ _ _ => getM_ne) .same ha hb hs
theorem ev_lenQ {mx : M (List α)} {pp : Pos} (ok : Ok p sc NN VV GG k g) (hq : IsSq p.K Q S) (hG : GG[j]? = some "len") (hmg : p.mg "len" = none) (ha : EvE g L e md Q mx) (hs : starEach [e] g.X.env = (false, eval e g.X.env) :: starEach [] g.X.env := by rfl) : EvE g L (.Call (.Name "len" pp) [e] [] pos) md' tInt (mx.bind fun xs => .ok (xs.length : Int)) :=
  ev_b1 (S := Q) (fr := true) ok call_len_seq (fun {d v R H W} rb h q => by
    obtain ⟨a, vs, e, hs, r⟩ := hq.sq rb h
    exact ⟨a, vs, by rw [e], .inl (by rw [ok.K]; exact hs), q _ _ (Same.refl _) (by show _ = V.int _; rw [r.length])⟩) (fun _ _ h => nomatch h) .fresh hG hmg PySem.boot_len ha hs
theorem evi_seq {m : M (List α)} (ok : Ok p sc NN VV GG k g) (hq : IsSq p.K Q S) (he : EvE g L e md Q m) : EvI g L tg e S m := by
  refine PI.imp (pi_list he) fun σ H R ⟨kp, own, at_, q⟩ => ?_
  refine tE_iff.mpr ⟨kp, own, at_, ?_⟩
  cases m with
  | ok xs =>
    intro v H' s rx
    have rx' : Q.rep xs v (RD g.fm own H') := Q.mono rx RX.sh
    have rb0 : Rdb p.K (RD g.fm own H') H' := by rw [← ok.fmK]; exact RD.rdb
    obtain ⟨a, vs, rfl, h, r⟩ := hq.sq rb0 rx'
    refine ⟨a, rfl, ⟨vs, by rw [ok.K]; exact h⟩, ?_⟩
    rw [show Itl g.X.K a = Itl g.fm.K a from by rw [ok.K, ok.fmK]]
    refine q (Itl g.fm.K a) H' s fun H2 rb i => ?_
    obtain ⟨a', vs', e', hs, r2⟩ := hq.sq (by rw [← ok.fmK]; exact rb) rx'
    cases e'
    rw [← ok.fmK] at hs
    refine ⟨fun d hd => ?_, fun hn => ⟨vs', hs, ?_⟩⟩
    · obtain ⟨v, h1, h2⟩ := r2.get hd
      refine ⟨⟨vs', v, hs, h1⟩, fun x H3 ⟨e, hx⟩ => ?_⟩
      subst e
      have := hx vs' hs
      rw [h1] at this
      cases this
      exact ⟨Same.refl _, S.mono h2 fun a o z => .inl ⟨rfl, z⟩⟩
    · rw [List.getElem?_eq_none_iff, r2.length] at hn
      exact hn
  | ex c => exact q
  | no => exact q
variable {lo hi : Option Expr} {ml mh : M (Option Int)} {p2 : Pos}
theorem evl_copyQ {mx : M (List α)} {pp : Pos} (ok : Ok p sc NN VV GG k g) (hq : IsSq p.K Q S) (hG : GG[j]? = some "list") (hmg : p.mg "list" = none) (ha : EvE g L e md Q mx) (hs : starEach [e] g.X.env = (false, eval e g.X.env) :: starEach [] g.X.env := by rfl) : EvL g L (.Call (.Name "list" pp) [e] [] pos) md S mx := by
  obtain ⟨hg, ho⟩ := ok.gl hG
  obtain ⟨h1, _, h3⟩ := okName_d ho
  refine PE.imp (pe_callTy call_list_of hg (by rw [ok.mg]; exact hmg) (by decide +kernel) (eva_cons ha eva_nil hs) h3 h1 hs rfl) fun σ H W q => ?_
  obtain ⟨kp, own, at_, q⟩ := tL_iff.mp q
  refine tA_iff.mpr ⟨kp, own, at_, ?_⟩
  cases mx with
  | ok d =>
    rintro vs H1 s1 ⟨v, r, rfl, rx, e3⟩
    cases (show r = [] from e3)
    obtain ⟨a, ws, rfl, h, rr⟩ := hq.sq (by rw [← ok.fmK]; exact RX.rdb) rx
    exact ⟨a, ws, rfl, .inl (by rw [ok.K]; exact h), fun l hl => q l ws _ (s1.trans (newSame hl)) (s1.free hl) upd_same (rr.mono (RX.add hl))⟩
  | ex c => exact q
  | no => exact q
theorem evpts_nil : PTs g.X [] (tT g.fm g.W L (.ok true)) := ⟨fun pins s σ H Q I ⟨kp, own, at_, q⟩ => pts_nil.run pins s σ H Q I (q H (Same.refl H))⟩
theorem evpts_one {m : M Bool} (h : EvT g L c m) : PTs g.X [c] (tT g.fm g.W L m) := pts_one h
variable {st : List Stmt} {D : δ → Out} {d : δ}
structure NotNon (S : Ty α) : Prop where
  nn : ∀ {d v R}, S.rep d v R → v ≠ .non
theorem nn_str : NotNon tStr := ⟨fun h => by cases h.1; exact fun z => nomatch z⟩
theorem nn_tup : NotNon (tTup A) := ⟨fun ⟨a, vs, e, _⟩ => by subst e; exact fun z => nomatch z⟩
theorem ev_some {m : M α} (hn : NotNon S) (h : EvE g L e md S m) : EvE g L e md (tOpt S) (m.bind fun d => .ok (some d)) :=
  ev_as (T := tOpt S) (d2 := some) (fun d v R r => ⟨r, hn.nn r⟩) h
theorem ev_isN {m : M (Option α)} {j1 : Nat} {p1 : Pos} (ok : Ok p sc NN VV GG k g) (ha : EvE g L a md (tOpt S) m) : EvE g L (.Compare a [.Is] [.Constant .none j1 p1] pos) md' tBool (m.bind fun d => .ok d.isNone) := by
  have h := ev_cmp (pos := pos) (md' := md') (S := tOpt S) (T := tNone) (U := tBool) (fr := true) (f := fun d _ => .ok d.isNone) ok op_isN ⟨fun {d e x y R H W} rb rx ry q => ⟨ry, q _ _ (Same.refl _) (by
    show _ = V.bl _
    cases d with
    | none => cases (show x = .non from rx); rfl
    | some d => rw [decide_eq_false rx.2]; rfl)⟩⟩ (fun _ _ _ h => nomatch h) .fresh ha (ev_none (j := j1) (pos := p1)) (by first | exact nomark _ (by decide) (by decide) | rfl)
  have e : (m.bind fun d => (M.ok ()).bind fun _ => M.ok d.isNone) = m.bind fun d => .ok d.isNone := by cases m <;> rfl
  rwa [e] at h
def unM {α : Type} : Option α → M α
  | some d => .ok d
  | none => .no
/-- what is known not to be None -/
theorem ev_un1 {m : M (Option α)} (h : EvE g L e md (tOpt S) m) : EvE g L e md S (m.bind unM) := PE.imp h fun σ H Q q => by
  obtain ⟨kp, own, at_, q⟩ := tE_iff.mp q
  refine tE_iff.mpr ⟨kp, own, at_, ?_⟩
  cases m with
  | ok d =>
    cases d with
    | none => exact q.elim
    | some d => exact fun v H' s r => q v H' s r.1
  | ex c => exact q
  | no => exact q
end
end Hd
namespace Hd
open PySem PySem.Spec L2
theorem M.bok {α β : Type} (a : α) (f : α → M β) : M.bind (.ok a) f = f a := by
  have h : ∀ m : M α, m = .ok a → M.bind m f = f a := fun m e => by rw [e]; rfl
  exact h _ rfl
section
variable {p : Pr} {sc : Scope} {NN VV GG VV' GG' : List Str} {k : Nat} {g : G} {L L' : List Slot} {a b c e e' : Expr} {es : List Expr} {md md' : Md} {α β γ δ ρ : Type} {S : Ty α} {T : Ty β} {U : Ty γ} {A : Ar δ} {pos : Pos} {K : PySem.W.Frag} {tg : Expr} {i j : Nat} {x : Str}
/-- how many items -/
def LenM (n : Nat) (m : M (List α)) : Prop := ∀ ds, m = .ok ds → ds.length = n
theorem ln0 : LenM 0 (.ok ([] : List α)) := fun ds h => by cases h; rfl
theorem lnS {n : Nat} {m1 : M α} {m2 : M (List α)} (h : LenM n m2) : LenM (n + 1) (m1.bind fun d => m2.bind fun e => .ok (d :: e)) := fun ds q => by
  cases m1 with
  | ok d =>
    cases m2 with
    | ok e => cases q; rw [List.length_cons, h e rfl]
    | ex c => cases q
    | no => cases q
  | ex c => cases q
  | no => cases q
theorem evl_lstN {n : Nat} {m : M (List α)} (h : LenM n m) (hn : n ≤ 1000) (ha : EvA g L es md (aAll S) m) : EvL g L (.List es pos) md S m := evl_lst (fun ds q => by rw [h ds q]; exact hn) ha
def isLoc (sc : Scope) (y : Str) : Bool := (match sc.kind with | .function => true | _ => false) && match sc.names.lookup y with | some .local => true | _ => false
def isCell (sc : Scope) (y : Str) : Bool := match sc.names.lookup y with | some .cell => true | _ => false
theorem isLoc_k {sc : Scope} {y : Str} (h : isLoc sc y = true) : sc.kind = .function ∧ sc.names.lookup y = some .local := by
  unfold isLoc at h
  rw [Bool.and_eq_true] at h
  obtain ⟨h1, h2⟩ := h
  constructor
  · split at h1
    · assumption
    · cases h1
  · split at h2
    · assumption
    · cases h2
theorem isCell_k {sc : Scope} {y : Str} (h : isCell sc y = true) : sc.names.lookup y = some .cell := by
  unfold isCell at h
  split at h
  · assumption
  · cases h
theorem sw_cell {elt : Expr} {gs : List Comprehension} {scope : Scope} {pos py : Pos} {y : Str} {l : Nat} {env : Env} (hy : env.scope.names.lookup y = some .cell) : swapsWith (.ListComp elt gs scope pos) (some (.Name y py)) l env = pure false := by
  have ky : env.kindOf y = some .cell := hy
  unfold swapsWith
  simp only [ky]
  have e : (some NameKind.cell == some NameKind.local) = false := rfl
  simp only [e, Bool.and_false, Bool.false_and]
variable {st : List Stmt} {D : δ → Out} {y : Str} {py spos cpos : Pos} {elt it : Expr} {ifs : List Expr} {scope : Scope} {tp : Pos} {s₀ : Slot}
theorem sw_loc (ok : OkS p sc NN VV GG k g) {gs : List Comprehension} (hy : isLoc sc y = true) (hl : (py.line == cpos.line) = true) (ha : (scope.names.any fun (n, k) => n == y && (k == .local || k == .cell)) = false) :
    g.X.env.scope.names.lookup y = some .local ∧ swapsWith (.ListComp elt gs scope cpos) (some (.Name y py)) spos.line g.X.env = pure true := by
  obtain ⟨h1, h2⟩ := isLoc_k hy
  have e1 : g.X.env.scope.kind = .function := by rw [ok.scp]; exact h1
  have e2 : g.X.env.scope.names.lookup y = some .local := by rw [ok.scp]; exact h2
  exact ⟨e2, sw_true e1 e2 hl ha⟩
/-- y = [elt for x in it if c], y its owner -/
theorem evb_ownC {m : M (List α)} {cm : α → M Bool} {f : α → M β} {h : List β → M δ} {b : Bool} {i2 : Nat} (ok : OkS p sc NN VV GG k g) (hN2 : NN[i2]? = some y) (wk : Wk L g.LX) (hbb : SlB md b) (hy : isLoc sc y = true) (hl : (py.line == cpos.line) = true) (ha : (scope.names.any fun (n, k) => n == y && (k == .local || k == .cell)) = false)
    (hI : EvI g L (.Name x tp) it S m) (hN : NN[i]? = some x) (hLi : L[i]? = some s₀) (hs₀ : NoOwn s₀) (hb : blkC NN sc scope [(x, i)] = true) (hv : VV'.all (seenB scope) = true) (hg : GG'.all (glB scope) = true) (hx : locB scope x = true)
    (hc : ∀ g', Ok p scope NN VV' GG' k g' → ∀ d, PTs g'.X ifs (tT g'.fm g'.W (L.set i (sV false S d)) (cm d))) (he : ∀ g', Ok p scope NN VV' GG' k g' → ∀ d, EvE g' (L.set i (sV false S d)) elt md T (f d))
    (hr : ∀ d, EvB g (L.set i2 (sOwn b T d)) st D (h d)) (hs : ∀ x, foldedSetIterable it g.X.env x = pure x := by intro _; rfl) :
    EvB g L (.Assign [.Name y py] (.ListComp elt [⟨.Name x tp, it, ifs, 0⟩] scope cpos) spos :: st) D ((m.bind fun xs => compM (fun d => (cm d).bind fun c => if c = true then (f d).bind fun y => .ok (some y) else .ok none) xs).bind h) := by
  obtain ⟨e1, e2⟩ := sw_loc (elt := elt) (spos := spos) (gs := [⟨.Name x tp, it, ifs, 0⟩]) ok hy hl ha
  refine PSs.imp (pss_cons ((evl_lc2 ok.toOk hI hN hLi hs₀ hb hv hg hx hc he hs).2 hN2 e1 e2) (PSs.ex hr)) fun E σ H ⟨kp, own, at_, q⟩ => ?_
  unfold tSeq tAsg
  refine tL_iff.mpr ⟨kp, own, at_, ?_⟩
  generalize (m.bind fun xs => compM (fun d => (cm d).bind fun c => if c = true then (f d).bind fun y => .ok (some y) else .ok none) xs) = mm at q ⊢
  cases mm with
  | ok d =>
    intro v vs H' s n h' r
    obtain ⟨own', a'⟩ := at_.setOwn (i := i2) (b := b) s n h' (r.mono hbb.rb)
    exact ⟨d, kp, own', a', q⟩
  | ex c => exact BOk.exx wk at_ q
  | no => exact q
theorem pureT {m : M Bool} {v : Bool} (h : EvT g L e m) (q : m = .ok v) : EvT g L e (.ok v) := q ▸ h
theorem pureW {m : M Bool} {v : Bool} (h : EvW g L e m) (q : m = .ok v) : EvW g L e (.ok v) := q ▸ h
theorem pureE {m : M α} {v : α} (h : EvE g L e md S m) (q : m = .ok v) : EvE g L e md S (.ok v) := q ▸ h
end
end Hd
namespace Hd
open PySem PySem.Spec L2
theorem fnCx {P : Program} {w : World} {K : PySem.W.Frag} {mg : Str → Option Value} {base : Heap} {CX CX' : CXT} {k : Nat} {f : Addr} {fd : FuncData} {ps : List Str} {sp : Sp} (F : FnOk P w K mg base CX k f fd ps sp)
    (h : ∀ outer H s E u s', CX outer H s E u s' → CX' outer H s E u s') : FnOk P w K mg base CX' k f fd ps sp :=
  ⟨F.len, fun A outer s H args us vs Q E hr he hb hv hs => codeAny_mono (F.run A outer s H args us vs Q E hr he hb hv hs) fun r s' q => by
    cases r with
    | error e => exact h _ _ _ _ _ _ q
    | ok fl => cases fl <;> exact q⟩
def CXw (P : Program) : CXT := fun outer H s E u s' => ∃ w, L2.CX P w outer H s E u s'
def ecName : Ec → Str
  | .weave => "WeaveError"
  | .noRow => "NoRow"
  | .tooLarge => "TooLarge"
  | .noCloth => "NoCloth"
  | .noDraft => "NoDraft"
  | .noStrand => "NoStrand"
  | .noDeed => "NoDeed"
  | .noLaying => "NoLaying"
  | .noShuttle => "NoShuttle"
  | .noColour => "NoColour"
  | .noBlock => "NoBlock"
  | .noPattern => "NoPattern"
  | .unknown => "Unknown"
  | .twice => "Twice"
theorem reps_ints {R : RdR} : ∀ ns : List Int, Reps tInt R ns (ns.map V.int)
  | [] => .nil
  | n :: r => .cons rfl (reps_ints r)
theorem law_end {l : PySem.W.OpenLaw} {k : Nat} {q : Program} {loose : List Str} {XP : (Str → Option Value) → Heap → Prop} {YP : World → Heap → Prop} {d : DefRec} {cl : List Int × Unit → M Bool}
    (hn : l.most = some 63) (hdf : d.params.defaults = []) (hr : Room k callerA)
    (F : ∀ (w : World) (mg : Str → Option Value) (fa : Addr) (h : Heap), YP w h → h.Ns mainGlobals mg → mg d.name = some (.ref fa) →
      ∃ (K : PySem.W.Frag) (fd : FuncData) (C : Ec → Addr), K.In h ∧ (∀ (s : Shared) (u : Value), BindsTo s fd ⟨[u], []⟩ [("script", u)]) ∧
        ∀ base : Heap, FnOk l.prog w K mg base (L2.CX l.prog w) k fa fd ["script"] (spM ⟨l.prog, w, K, mg, base, C, none⟩ (aCons (tListK K tInt) aNil) (fun r => .rt false tBool r) cl))
    (math : ∀ ns : List Int, ns.length ≤ 63 → cl (ns, ()) = .ok true) : PySem.W.WalkO q loose XP YP l.row.toRowW d [] (fun f vs => PySem.call f vs) := by
  refine L2.walk_ofE (CX := CXw l.prog) (x := "script") (k := k) hn (by decide) hdf hr (fun w mg fa h Y G hm => ?_) (fun H s e s' z => ?_)
  · obtain ⟨K, fd, C, KX, hb, hF⟩ := F w mg fa h Y G hm
    refine ⟨K, fd, spM ⟨l.prog, w, K, mg, h, C, none⟩ (aCons (tListK K tInt) aNil) (fun r => .rt false tBool r) cl, KX, hb, fun H a ns hl hO hS => ?_, fun base _ _ => fnCx (hF base) fun _ _ _ _ _ _ z => ⟨w, z⟩⟩
    refine ⟨(ns, ()), fun _ => False, ⟨fun _ z => z.elim, fun P e => nomatch e⟩, ⟨.ref a, [], rfl, ⟨a, ns.map V.int, rfl, hS.imp (fun r => .inl ⟨Rd.clo r, (fun z => nomatch z), fun z => z⟩) id, reps_ints ns⟩, rfl⟩, ?_⟩
    rw [math ns hl]
    exact fun v H' s r => r
  · obtain ⟨w, a, B, H', cls, d, _, _, _, _, _, _, _, z⟩ := z
    exact z
theorem exF {K : PySem.W.Frag} {h : Heap} {mg : Str → Option Value} {P : Program} {w : World} {base : Heap} {T : Option Addr} (X : K.In h) (G : h.Ns mainGlobals mg) {x : Str} {c : Ec} (e : ecName c = x) (c1 : (He.Fa.glo x).ok K = true) (c2 : (He.Fa.exc x).ok K = true) : ExF ⟨P, w, K, mg, base, fun c => He.ga K (ecName c), T⟩ x c := by
  subst e
  obtain ⟨h1, h2, h3, h4⟩ := He.exc_ok c2
  exact ⟨h1, He.glo_ok X G c1, h2, h3, h4⟩
theorem L2_bindsA {K : PySem.W.Frag} {x qual : Str} {params : Arguments} {body : List Stmt} {scope : Scope} {f : Addr} {fd : FuncData} (F : FunD K x qual params body scope [] [] f fd) (s : Shared) (v : Value)
    (h : ∀ (kV doc pm : Value) (an : Option Addr) (cdv ct : Value) (us : List Value), us.length = (["script"] : List Str).length → bindArgs (PySem.W.fnOf x qual params body scope .none kV doc pm an cdv ct) ⟨us, []⟩ = pure ((["script"] : List Str).zip us) := by
      exact fun _ _ _ _ _ _ us hl => match us, hl with | [_], _ => rfl) : BindsTo s fd ⟨[v], []⟩ [("script", v)] := F.bindsA (ps := ["script"]) h s [v] rfl
end Hd
namespace Hd
open PySem PySem.Spec L2
section
variable {p : Pr} {sc : Scope} {NN VV GG VV' GG' : List Str} {k : Nat} {g : G} {L L' : List Slot} {a b c e e' : Expr} {es : List Expr} {md md' : Md} {α β γ δ ρ : Type} {S : Ty α} {T : Ty β} {U : Ty γ} {A : Ar δ} {pos : Pos} {K : PySem.W.Frag} {tg : Expr} {i j : Nat} {x : Str} {pp : Pos}
theorem ev_isiO {ty n : String} {r : Bool} {m : M (Option α)} (ok : Ok p sc NN VV GG k g) (hG : GG[j]? = some "isinstance") (hmg : p.mg "isinstance" = none) (hT : IsT S ty) (hr : kitB ty n = some r) (hn : kitB "NoneType" n = some false) (ha : EvE g L a md (tOpt S) m) (hb : EvE g L b md (tTy n) (.ok ()))
    (hs1 : starEach (a :: [b]) g.X.env = (false, eval a g.X.env) :: starEach [b] g.X.env := by rfl) (hs2 : starEach [b] g.X.env = (false, eval b g.X.env) :: starEach [] g.X.env := by rfl) (hpl : (backTo pos (starEach [b] g.X.env)).any (·.1) = false := by rfl) :
    EvE g L (.Call (.Name "isinstance" pp) [a, b] [] pos) md' tBool (m.bind fun d => .ok (d.isSome && r)) := by
  have h := ev_callB (md' := md') (U := tBool) (A := aCons (tOpt S) (aCons (tTy n) aNil)) (f := fun d => .ok (d.1.isSome && r)) (fr := true) (pos := pos) (pp := pp) ok (id := "isinstance") call_isi ⟨fun {d xs R H Q} rb ⟨v, w, e1, h1, v2, w2, e2, h2, e3⟩ q => by
    subst e1; subst e2; cases (show w2 = [] from e3); cases h2
    obtain ⟨d1, d2⟩ := d
    cases d1 with
    | none =>
      cases (show v = .non from h1)
      exact ⟨.non, .ty n, .type "NoneType", .type n, false, rfl, .ty n, .base .non, kit_ty hn, q _ _ (Same.refl _) rfl⟩
    | some d =>
      exact ⟨v, .ty n, .type ty, .type n, r, rfl, .ty n, hT.t (by rw [ok.K]; exact rb) h1.1, kit_ty hr, q _ _ (Same.refl _) (by show V.bl r = V.bl _; simp)⟩⟩ (fun _ _ h => nomatch h) .fresh hG hmg (by decide +kernel) (eva_cons ha (eva_cons hb eva_nil hs2) hs1) hs1 hpl
  have e : (m.bind fun d => ((M.ok ()).bind fun d => (M.ok ()).bind fun e => M.ok (d, e)).bind fun e => M.ok (d, e)).bind (fun d => M.ok (d.1.isSome && r)) = m.bind fun d => .ok (d.isSome && r) := by cases m <;> rfl
  rwa [e] at h
variable {Q : Ty (List α)}
def enumL {α : Type} (xs : List α) : List (Int × α × Unit) := xs.mapIdx fun i d => ((i : Int), d, ())
theorem evi_enum {m : M (List α)} {elts : List Expr} {kk : Nat} {tpos : Pos} (ok : Ok p sc NN VV GG k g) (hq : IsSq p.K Q S) (hG : GG[j]? = some "enumerate") (hmg : p.mg "enumerate" = none) (ha : EvE g L a md Q m) (hs : starEach [a] g.X.env = (false, eval a g.X.env) :: starEach [] g.X.env := by rfl) :
    EvI g L (.Tuple elts kk tpos) (.Call (.Name "enumerate" pp) [a] [] pos) (tTup (aCons tInt (aCons S aNil))) (m.bind fun xs => .ok (enumL xs)) := by
  obtain ⟨hg, ho⟩ := ok.gl hG
  refine PI.imp (pi_enum hg (by rw [ok.mg]; exact hmg) (eva_cons ha eva_nil hs) hs) fun σ H R ⟨kp, own, at_, q⟩ => ?_
  refine tA_iff.mpr ⟨kp, own, at_, ?_⟩
  cases m with
  | ok xs =>
    rintro vs H' s ⟨v, r, rfl, rx, e3⟩
    cases (show r = [] from e3)
    have rx' : Q.rep xs v (RD g.fm own H') := Q.mono rx RX.sh
    have rb0 : Rdb p.K (RD g.fm own H') H' := by rw [← ok.fmK]; exact RD.rdb
    obtain ⟨ad, vs, rfl, h, r⟩ := hq.sq rb0 rx'
    refine ⟨ad, vs, rfl, by rw [ok.K]; exact h, ?_⟩
    rw [show Ite g.X.K ad = Ite g.fm.K ad from by rw [ok.K, ok.fmK]]
    refine q _ H' s fun H2 rb i => ?_
    obtain ⟨a', vs', e', hs', r2⟩ := hq.sq (by rw [← ok.fmK]; exact rb) rx'
    cases e'
    rw [← ok.fmK] at hs'
    unfold enumL
    rw [List.getElem?_mapIdx]
    refine ⟨fun d hd => ?_, fun hn => ⟨vs', hs', ?_⟩⟩
    · cases hx : xs[i]? with
      | none => rw [hx] at hd; cases hd
      | some d0 =>
        rw [hx] at hd
        cases hd
        obtain ⟨v, h1, h2⟩ := r2.get hx
        refine ⟨⟨vs', v, hs', h1⟩, fun x H3 ⟨T, y, e1, e2, e3, hy⟩ => ?_⟩
        subst e1; subst e3
        have := hy vs' hs'
        rw [h1] at this
        cases this
        refine ⟨newSame e2, T, _, rfl, .inr ⟨cl_of upd_same, e2⟩, .int (i : Nat), _, rfl, rfl, _, [], rfl, S.mono h2 fun a o z => .inl ⟨rfl, z⟩, rfl⟩
    · cases hx : xs[i]? with
      | none => rw [List.getElem?_eq_none_iff] at hx; rw [← r2.length]; exact hx
      | some d0 => rw [hx] at hn; cases hn
  | ex c => exact q
  | no => exact q
variable {Q2 : Ty (List β)}
structure DeepA (A : Ar δ) where
  pd : δ → List PyData
  dp : Nat
  rep : ∀ {K d vs R H}, Rdb K R H → A.rep d vs R → DpAll K H vs (pd d) ∧ PyData.canLayAll0 (pd d) = true
  dep : ∀ d, PyData.depthAll (pd d) ≤ dp
  eqv : ∀ d e, PyData.eqvAll (pd d) (pd e) = true ↔ d = e
def dNil : DeepA aNil := ⟨fun _ => [], 0, fun rb h => by cases (show _ = [] from h); exact ⟨.nil, rfl⟩, fun _ => by simp [PyData.depthAll], fun d e => by simp [PyData.eqvAll]⟩
def dCons (D : Deep S) (E : DeepA A) : DeepA (aCons S A) := ⟨fun d => D.pd d.1 :: E.pd d.2, max D.dp E.dp, fun {K d vs R H} rb ⟨v, r, e, h1, h2⟩ => by
    subst e
    obtain ⟨a1, a2⟩ := D.rep rb h1
    obtain ⟨b1, b2⟩ := E.rep rb h2
    exact ⟨.cons a1 b1, by simp only [PyData.canLayAll0, a2, b2, Bool.and_self]⟩, fun d => by
    have h1 := D.dep d.1
    have h2 := E.dep d.2
    simp only [PyData.depthAll]
    omega, fun d e => by
    simp only [PyData.eqvAll, Bool.and_eq_true, D.eqv, E.eqv]
    exact ⟨fun h => Prod.ext h.1 h.2, fun h => by rw [h]; exact ⟨rfl, rfl⟩⟩⟩
def dTup (E : DeepA A) : Deep (tTup A) := ⟨fun d => .tuple (E.pd d), E.dp + 1, fun {K ds v R H} rb ⟨a, vs, e, h, r⟩ => by
    subst e
    obtain ⟨h1, h2⟩ := E.rep rb r
    exact ⟨.tup ((rb _ _ h rfl).imp id id) h1, h2⟩, fun ds => by simp only [PyData.depth]; have := E.dep ds; omega, fun d e => by
    simp only [PyData.eqv]
    exact E.eqv d e⟩
structure ChI (op : CmpOp) (f : Int → Int → Bool) : Prop where
  ex : ∀ {K : PySem.W.Frag} {X : Cx}, ∃ r, OpR X (compareOp op) r ∧ Op2 K r tInt tInt tBool (fun x y => .ok (f x y)) false
theorem ch_lt : ChI .Lt (fun x y => decide (x < y)) := ⟨⟨_, op_lt, ⟨fun rb rx ry q => ⟨_, _, rx, ry, q _ _ (Same.refl _) rfl⟩⟩⟩⟩
theorem ch_le : ChI .LtE (fun x y => decide (x ≤ y)) := ⟨⟨_, op_le, ⟨fun rb rx ry q => ⟨_, _, rx, ry, q _ _ (Same.refl _) rfl⟩⟩⟩⟩
variable {st : List Stmt} {D : δ → Out} {d : δ}
end
end Hd
namespace Hd
open PySem PySem.Spec L2
def ExQ (cls : Value) (a : Addr) : HO := .ext fun h => ∃ (oe : Obj) (vs : Array Value), h.get? a = some oe ∧ Zc cls none oe ∧ oe.data = .fields vs
theorem exQ_ok {P : Program} {w : World} {H : Hp} {h : Heap} {a : Addr} {cls : Value} {oe : Obj} {vs : Array Value} (e : h.get? a = some oe) (z : Zc cls none oe) (dd : oe.data = .fields vs) : ObjOk P w H h a (ExQ cls a) :=
  ⟨⟨oe, vs, e, z, dd⟩, ⟨oe, e⟩, fun _ _ ⟨o, v, q, r⟩ k => ⟨o, v, k o q, r⟩⟩
section
variable {X : Cx} {pins : List (Addr × Obj)} {σ : L2.St} {H : Hp} {s : Shared}
theorem track {a : Addr} {oe : Obj} {vs : Array Value} {cls : Value} (I : Inv X pins σ H s) (he : s.heap.get? a = some oe) (hz : Zc cls none oe) (hd : oe.data = .fields vs) (na : H a = none) (nL : a ≠ X.env.locals)
    (nC : ∀ y z, X.env.cells.lookup y = some z → z ≠ a) (nP : ∀ r ∈ X.pn ++ pins, r.1 ≠ a) (n0 : X.s_0.heap.get? a = none) : Inv X pins σ (upd H a (ExQ cls a)) s := by
  have ne : ∀ {b : Addr} {u : HO}, H b = some u → b ≠ a := fun e z => by rw [z, na] at e; cases e
  refine ⟨I.ok, I.os, I.bare, ⟨I.base.keep, I.base.slot, fun b o e n hx => ?_, I.base.there, fun b xs e => ?_, fun b o u e => ?_, fun b ps e => ?_⟩, I.loc, I.cell, ?_, fun y z e => ?_, fun r hr => ?_, fun b o e => ?_, I.len⟩
  · rw [upd_ne (fun z => by rw [z, n0] at e; cases e)]; exact I.base.free b o e n hx
  · have := I.base.tups b xs e
    rw [upd_ne (ne this)]; exact this
  · have := I.base.frzs b o u e
    rw [upd_ne (ne this)]; exact this
  · obtain ⟨more, this⟩ := I.base.tbls b ps e
    exact ⟨more, by rw [upd_ne (ne this)]; exact this⟩
  · rw [upd_ne (Ne.symm nL)]; exact I.free
  · rw [upd_ne (nC y z e)]; exact I.freeC y z e
  · obtain ⟨p1, p2, p3⟩ := I.pin r hr
    exact ⟨p1, by rw [upd_ne (nP r hr)]; exact p2, p3⟩
  · by_cases hb : b = a
    · subst hb
      rw [upd_same] at e
      cases e
      exact exQ_ok he hz hd
    · rw [upd_ne hb] at e
      exact (I.hok b o e).stay (fun c v _ q => q) (fun c q => by rw [upd_ne (ne q)]; exact q) fun c xs q => by rw [upd_ne (ne q)]; exact q
end
/-- what the clause wishes of an exception of the body -/
def wKp (K : PySem.W.Frag) (c : Value) (i : Nat) (ts : Addr → Value → Option Addr → TS) (Wout : WX) (D : Ends) : WX := fun cls dd σ H =>
  ∃ b, PySem.W.exmOne K cls c = some b ∧ (b = true → dd = none ∧ ∀ a, H a = none → ts a cls dd { nx := fun τ Hq => D.nx (τ.set i none) (upd Hq a (ExQ cls a)), rt := fun _ _ => False, bk := fun _ _ => False, ct := fun _ _ => False } (σ.set i (some (.ref a))) H) ∧ (b = false → Wout cls dd σ H)
section
variable {Y : Cx} {x n : Str} {c : Value} {i : Nat} {body suite : List Stmt} {b₀ : Stmt} {np pos pos' : Pos} {tb : WX → TS} {ts : Addr → Value → Option Addr → TS} {Wout : WX}
theorem ps_keep (hs : Y.stack = Y.env :: Y.outer) (hf : Y.env.frame = some Y.env.locals) (hex : Y.ex = []) (hN : Y.N.Nodup) (hi : Y.N[i]? = some n) (hln : Y.env.kindOf n = some .local) (hc : Names Y x c) (tk : Takes Y Wout)
    (hb : ∀ (W : WX) (pn : List (Addr × Obj)) (xe : Value → Shared → Prop), Takes (Y.tr pn xe) W → PassesOwn (model Y.prog Y.w) Y.A Y.env xe → PSs (Y.tr pn xe) body (tb W))
    (hsu : ∀ (ad : Addr) (oE : Obj) (cl : Value) (dd : Option Addr) (pn : List (Addr × Obj)), Zc cl dd oE → (∃ vs, oE.data = .fields vs) → PSs (Y.suite ad ((ad, oE) :: pn)) (b₀ :: suite) (ts ad cl dd)) :
    PS Y (.Try body [.ExceptHandler (some (.Name x np)) (some n) (b₀ :: suite) pos'] [] [] pos) (fun D σ H => tb (wKp Y.K c i ts Wout D) D σ H) := by
  refine ⟨fun pz s σ H D I h => ?_⟩
  have oK := I.ok
  have hfR : Y.A.frames = some (Y.env :: Y.outer) := by rw [oK.frames, hs]
  have hlC : Loc Y.env.scope n := .inl hln
  refine wpAny_Try_except ?_
  refine wpAny_mono ((hb (wKp Y.K c i ts Wout D) (Y.pn ++ pz) (fun e s₁ => wpAny (model Y.prog Y.w) Y.A (noteFrame e Y.env) (fun _ s₂ => wpAny (model Y.prog Y.w) Y.A (setFlight e none) (fun _ s₃ =>
    wpAny (model Y.prog Y.w) Y.A (handleBy e Y.env [.ExceptHandler (some (.Name x np)) (some n) (b₀ :: suite) pos']) (SP Y pz D) Y.xe s₃) Y.xe s₂) Y.xe s₁) (fun u sq xx => ?_) PassesOwn.looking).run [] s σ H D (I.toTry _) h) (fun f s1 hp => ?_) (fun e s1 hE => hE)
  · -- the catch
    obtain ⟨ad, B, sJ, py, τ, Hq, cl, dd, rfl, Jq, nB, uP, sKy, nA, oS, aG, b, bb1, hY, hN0⟩ := xx
    have Jz : Inv Y pz τ Hq sJ := Jq.ofTry oK
    have sKq : Sky B (Y.env :: Y.outer) ad (Zc cl dd) Y.env.locals sq.heap := by rw [← hs]; exact sKy
    show wpAny (model Y.prog Y.w) Y.A (noteFrame (.ref ad) Y.env) _ _ _
    refine Sky.land Zc.steady hfR hf sKq fun k3 fL uQ => ?_
    have Jt : Inv Y pz τ Hq { sq with heap := k3 } := Jz.landed nB fL.1 (uP.trans uQ) oS aG
    obtain ⟨oT, vT, eT, zT, dT⟩ := fL.there
    have nFr : ∀ {h : Heap} {o : Obj} {vs : Array Value}, h.FunFrames B (Y.env :: Y.outer) → h.get? ad = some o → o.data = .fields vs → ad ∉ frs (Y.env :: Y.outer) := fun {h o vs} ff e dd hm => by
      obtain ⟨_, o', e', hnf⟩ := ff.mem hm
      rw [e] at e'; cases e'
      exact hnf _ dd
    have nfq := nFr fL.2.2.1 eT dT
    have nL : ad ≠ Y.env.locals := fun z => nfq (List.mem_filterMap.mpr ⟨Y.env, List.mem_cons_self, by rw [hf, z]⟩)
    have nF : ad ∉ Y.fs := fun hm => by
      obtain ⟨e, hE, q⟩ := List.mem_filterMap.mp hm
      exact nfq (List.mem_filterMap.mpr ⟨e, List.mem_cons_of_mem _ hE, q⟩)
    have St := Jt.suite eT dT nA nL nF
    refine wpAny_handleBy_cons (codeAny_handlers_test ?_) (by intro q; cases q)
    have lT : PySem.W.Looks (model Y.prog Y.w) k3 (typeOf (.ref ad)) cl := fun A Q E s k q => wpAny_typeOf_ref (k _ _ eT) (by rw [zT.1]; exact q)
    have lM := PySem.W.exm_one (M := model Y.prog Y.w) (Jt.kIn) lT bb1
    have tst : ∀ {Q : Value → Shared → Prop} {E : Value → Shared → Prop}, Q c { sq with heap := k3 } → wpAny (model Y.prog Y.w) (Y.A.mark (some (.ref ad))) (eval (.Name x np) Y.env) Q E { sq with heap := k3 } := fun {Q E} q => by
      obtain ⟨hg, hdbg, hm | ⟨hm, hv, hnn⟩⟩ := hc
      · exact ld_glob (X := Y.suite ad ((ad, oT) :: (Y.pn ++ pz))) St hg hm q hdbg
      · exact ld_blt (X := Y.suite ad ((ad, oT) :: (Y.pn ++ pz))) St hg hm hv q hnn hdbg
    refine tst (lM.here ?_)
    cases b with
    | true =>
      obtain rfl := (hY rfl).1
      refine codeAny_handlers_suite_as ?_
      refine HandSPX.lands_againZ fL fun k4 fM uR => ?_
      have Ju : Inv Y pz τ Hq { sq with heap := k4 } := Jz.landed nB fM.1 ((uP.trans uQ).trans uR) oS aG
      obtain ⟨oU, vU, eU, zU, dU⟩ := fM.there
      have Su := Ju.suite eU dU nA nL nF
      refine store_ok (X := Y.suite ad ((ad, oU) :: (Y.pn ++ pz))) (v := .ref ad) Su hN hi hlC rfl (fun sv Sv => ?_) (.inr hln)
      refine wpAny_mono ((hsu ad oU cl none (Y.pn ++ pz) zU ⟨_, dU⟩).run [] sv _ Hq _ Sv ((hY rfl).2 ad nA)) (fun f sw hp => ?_) (fun _ _ z => False.elim z)
      have none_ : ∀ o, sJ.heap.get? ad = some o → False := fun o e => by
        have z := nB ad o e (by rw [hs]; exact nfq)
        rw [fM.2.1] at z
        cases z
      have n0 : Y.s_0.heap.get? ad = none := by
        cases e : Y.s_0.heap.get? ad with
        | none => rfl
        | some o =>
          obtain ⟨o2, e2⟩ := Jz.base.there ad o e (by rw [hex]; exact fun z => nomatch z)
          exact (none_ o2 e2).elim
      have nC : ∀ y z, Y.env.cells.lookup y = some z → z ≠ ad := fun y z e w => by
        obtain ⟨v, o, e2, _⟩ := Jz.cell y z e
        rw [w] at e2
        exact none_ o e2
      have nP : ∀ r ∈ Y.pn ++ pz, r.1 ≠ ad := fun r hr w => by
        have e2 := (Jz.pin r hr).1
        rw [w] at e2
        exact none_ _ e2
      cases f with
      | next =>
        obtain ⟨τw, Hw, Sw, qw⟩ := hp
        obtain ⟨g1, g2, _⟩ := Sw.pin (ad, oU) (List.mem_append.mpr (.inl List.mem_cons_self))
        exact gone_ok (track (Sw.unsuite oK) g1 zU dU g2 nL nC nP n0) hN hi hln fun sx Jx => ⟨_, _, Jx, qw⟩
      | brk =>
        obtain ⟨τw, Hw, Sw, qw⟩ := hp
        exact qw.elim
      | cont =>
        obtain ⟨τw, Hw, Sw, qw⟩ := hp
        exact qw.elim
      | ret u =>
        obtain ⟨v6, τw, Hw, Sw, r6, qw⟩ := hp
        exact qw.elim
    | false =>
      show wpAny _ Y.A (handleBy (.ref ad) Y.env []) _ _ _
      refine wpAny_handleBy_nil ?_
      obtain ⟨_, _, _, oE, vs, T, oT, _, hE, hz, hd, h1, hr⟩ := id fL
      unfold PySem.passOn
      refine wpAny_bind (wpAny_field hE hd h1 ?_)
      rw [if_neg (show ¬ ((Value.ref T == Value.none) = true) from by simp)]
      have fIn : wpAny (model Y.prog Y.w) Y.A (setFlight (.ref ad) Y.env.frame) (fun _ s4 => wpAny (model Y.prog Y.w) Y.A (throw (.ref ad) : Sem Flow) (SP Y pz D) Y.xe s4) Y.xe { sq with heap := k3 } := by
        rw [hf]
        refine HandSPX.setFlight_upZ fL fun k4 hh4 uR => wpAny_throw (tk _ _ ?_)
        exact ⟨ad, B, sJ, pz, τ, Hq, cl, dd, rfl, Jz, nB, (uP.trans uQ).trans uR, .inr (.inr (by rw [hs]; exact hh4)), nA, oS, aG, hN0 rfl⟩
      first
        | exact wpAny_bind (wpAny_pure (wpAny_bind fIn))
        | exact wpAny_bind fIn
  · cases f with
    | next =>
      obtain ⟨τ, Hq, Jq, q⟩ := hp
      exact wpAny_execs_nil ⟨τ, Hq, Jq.ofTry oK, q⟩
    | brk =>
      obtain ⟨τ, Hq, Jq, q⟩ := hp
      exact ⟨τ, Hq, Jq.ofTry oK, q⟩
    | cont =>
      obtain ⟨τ, Hq, Jq, q⟩ := hp
      exact ⟨τ, Hq, Jq.ofTry oK, q⟩
    | ret u =>
      obtain ⟨v, τ, Hq, Jq, r, q⟩ := hp
      exact ⟨v, τ, Hq, Jq.ofTry oK, r, q⟩
end
end Hd
namespace Hd
open PySem PySem.Spec L2
/-- c stands under d -/
def isB (c d : Ec) : Bool := decide (d = c) || decide (d = .weave)
/-- a caught refusal -/
def tExc (p : Pr) : Ty Ec := ⟨fun c v R => ∃ a, v = .ref a ∧ R a (ExQ (.ref (p.C c)) a), fun ⟨a, e, h⟩ s => ⟨a, e, s _ _ h⟩⟩
/-- a class of refusals, as a value -/
def tCls (p : Pr) : Ty Ec := ⟨fun c v _ => v = .ref (p.C c), fun h _ => h⟩
/-- what the head tells of the classes -/
structure Kn (p : Pr) (kn : List Ec) : Prop where
  isc : ∀ c ∈ kn, ExcC p.K (p.C c)
  exm : ∀ c ∈ kn, ∀ d ∈ kn, PySem.W.exmOne p.K (.ref (p.C c)) (.ref (p.C d)) = some (isB c d)
  kit : ∀ c ∈ kn, ∀ d ∈ kn, PySem.W.kitOne p.K (.ref (p.C c)) (.ref (p.C d)) = some (isB c d)
  kitV : ∀ c ∈ kn, PySem.W.kitOne p.K (.ref (p.C c)) (.type "ValueError") = some true
  kitN : ∀ c ∈ kn, PySem.W.kitOne p.K (.type "NoneType") (.ref (p.C c)) = some false
def tryM {β : Type} (kn : List Ec) (cx : Ec) (mb : M β) (h : Ec → β) : M β := match mb with
  | .ok s => .ok s
  | .ex c => if c ∈ kn then (if isB c cx = true then .ok (h c) else .ex c) else .no
  | .no => .no
section
variable {p : Pr} {sc : Scope} {NN VV GG VV' GG' : List Str} {k : Nat} {g : G} {L L' : List Slot} {a b c e e' : Expr} {es : List Expr} {md md' : Md} {α β γ δ ρ : Type} {S : Ty α} {T : Ty β} {U : Ty γ} {A : Ar δ} {pos : Pos} {K : PySem.W.Frag} {tg : Expr} {i j : Nat} {x : Str} {pp : Pos}
theorem At.setAnyV {fm : Fm} {kp : RdR} {σ : L2.St} {H : Hp} {own : List Addr} {v : Option V} (h : At fm kp L σ H own) : ∃ own', At fm kp (L.set i sAny) (σ.set i v) H own' ∧ ∀ p ∈ own', p ∈ own := by
  obtain ⟨h1, h2, ⟨Fs, h3, rfl⟩, h4, h5, h6⟩ := h
  have kk : ∀ p ∈ (Fs.set i []).flatten, p ∈ Fs.flatten := fun p hp => (set_sub (i := i)).subset hp
  exact ⟨_, ⟨h1, h2, ⟨Fs.set i [], (h3.st (RB.own kk) fun _ _ => rfl).set (s := sAny) (v := v) rfl i, rfl⟩, h4.sublist set_sub, fun p hp => h5 p (kk p hp), fun a o q => RX.own (md := .sh) (H := H) kk a o (h6 a o q)⟩, kk⟩
theorem wkL (h : g.LX = L') (w : Wk L L') : Wk L g.LX := h ▸ w
variable {st : List Stmt} {D : δ → Out} {d : δ}
/-- try: body / except X as e: y = e -/
theorem evb_tryA {kn : List Ec} {cx : Ec} {mb : M β} {h : Ec → β} {f : β → M δ} {LJ : β → List Slot} {body : List Stmt} {n y : Str} {iE iC jE jC : Nat} {np pos' p1 p2 p3 : Pos} (ok : OkS p sc NN VV GG k g) (wk : Wk L g.LX) (hkn : Kn p kn) (hcx : cx ∈ kn) (hx : p.mg x = some (.ref (p.C cx))) (hG : GG[j]? = some x)
    (hNE : NN[iE]? = some n) (hVE : VV[jE]? = some n) (hlE : isLoc sc n = true) (hNC : NN[iC]? = some y) (hVC : VV[jC]? = some y) {s₀ : Slot} (hLE : L[iE]? = some s₀)
    (hb : ∀ g', OkS p sc NN VV GG k g' → g'.LX = L → EvB g' L body (fun s => .nx (LJ s)) mb)
    (hh : ∀ c, Wk (((L.set iE sAny).set iC (sV false (tOpt (tExc p)) (some c))).set iE sAny) (LJ (h c))) (hr : ∀ s, EvB g (LJ s) st D (f s)) (hs : ∀ Y : Cx, swapsWith (.Name n p1) (some (.Name y p2)) p3.line Y.env = pure false := by intro _; rfl) :
    EvB g L (.Try body [.ExceptHandler (some (.Name x np)) (some n) [.Assign [.Name y p2] (.Name n p1) p3] pos'] [] [] pos :: st) D ((tryM kn cx mb h).bind f) := by
  obtain ⟨hg, ho⟩ := ok.gl hG
  obtain ⟨hvE, hoE⟩ := ok.vis hVE
  obtain ⟨n1, n2, _⟩ := okName_d hoE
  obtain ⟨_, hlE2⟩ := isLoc_k hlE
  have elE : g.X.env.scope.names.lookup n = some .local := by rw [ok.scp]; exact hlE2
  refine PSs.imp (pss_cons (ps_keep (i := iE) (c := .ref (p.C cx)) (tb := fun W D σ H => ∃ q : {W'' : Wx // ∀ c σ H, W'' c σ H → W (.ref (p.C c)) none σ H}, tB ⟨g.X, g.fm, q.1, L⟩ L (fun s => Out.nx (LJ s)) mb D σ H)
    (ts := fun ad cl dd => tAsg (tVar iE) (gName iC)) (Wout := fun cls d σ H => ∃ c, cls = .ref (p.C c) ∧ d = none ∧ g.W c σ H) ok.stk ok.frm ok.exn (by rw [ok.N]; exact ok.nd) (by rw [ok.N]; exact hNE) elE ⟨hg, (okName_d ho).1, .inl (by rw [ok.mg]; exact hx)⟩ ok.tk
    (fun W pn xe tkW psO => ?_) (fun ad oE cl dd pn _ _ => ?_)) (PSs.ex hr)) fun E σ H ⟨kp, own, at_, q⟩ => ?_
  · refine PSs.ex (t := fun (q : {W'' : Wx // ∀ c σ H, W'' c σ H → W (.ref (p.C c)) none σ H}) => tB ⟨g.X, g.fm, q.1, L⟩ L (fun s => Out.nx (LJ s)) mb) fun q => ?_
    exact hb ⟨g.X.tr pn xe, g.fm, q.1, L⟩
      { prog := ok.prog, w := ok.w, K := ok.K, mg := ok.mg, base := ok.base, N := ok.N, fmK := ok.fmK, tab := ok.tab, room := ok.room, nd := ok.nd, vis := ok.vis, gl := ok.gl
        tk := Takes.imp tkW fun cls d σ H ⟨c, e1, e2, z⟩ => by subst e1; subst e2; exact q.2 c σ H z
        calm := ok.calm, blk := ok.blk, loc := ok.loc, fnT := ok.fnT, psO := psO, scp := ok.scp, stk := ok.stk, frm := ok.frm, exn := ok.exn } rfl
  · exact pss_one (ps_set (i := iC) (by show g.X.N.Nodup; rw [ok.N]; exact ok.nd) (by show g.X.N[iC]? = _; rw [ok.N]; exact hNC) (ok.loc hVC) (pe_var (i := iE) (by show g.X.N[iE]? = _; rw [ok.N]; exact hNE) hvE n1 n2) (hs _) (.inl (ok.fnT y)))
  · have cont : ∀ c σ' H', c ∈ kn → isB c cx = true → (∃ own', At g.fm kp L σ' H' own') → BOk g kp E D (f (h c)) → ∀ ad, H' ad = none →
        ∃ d, tB g (LJ d) D (f d) E (((σ'.set iE (some (.ref ad))).set iC (some (.ref ad))).set iE none) (upd H' ad (ExQ (.ref (p.C c)) ad)) := fun c σ' H' _ _ ⟨own', a'⟩ qc ad hn => by
      have a1 := a'.ext (newSame (o := ExQ (.ref (p.C c)) ad) hn)
      obtain ⟨own2, a2, k2⟩ := At.setAnyV (i := iE) (v := some (.ref ad)) a1
      have hrep : (tOpt (tExc p)).rep (some c) (.ref ad) (RB g.fm own2 (upd H' ad (ExQ (.ref (p.C c)) ad)) false) := by
        refine ⟨⟨ad, rfl, .inl ⟨.inl (cl_of upd_same), fun z => ?_, fun z => ?_⟩⟩, fun z => nomatch z⟩
        · exact (a'.new ad (k2 ad z)).1 hn
        · exact a'.zin ad z hn
      obtain ⟨own3, a3⟩ := a2.setV (i := iC) (b := false) (T := tOpt (tExc p)) (d := some c) (v := .ref ad) hrep
      obtain ⟨own4, a4, _⟩ := At.setAnyV (i := iE) (v := none) a3
      obtain ⟨own5, a5, _⟩ := a4.weak (hh c)
      exact ⟨h c, kp, own5, a5, qc⟩
    refine ⟨⟨fun c σ' H' => (c ∈ kn → isB c cx = true → ∀ ad, H' ad = none → ∃ d, tB g (LJ d) D (f d) E (((σ'.set iE (some (.ref ad))).set iC (some (.ref ad))).set iE none) (upd H' ad (ExQ (.ref (p.C c)) ad))) ∧ (c ∈ kn) ∧ (isB c cx = false → g.W c σ' H') ∧ iE < σ'.length, fun c σ' H' ⟨z1, z2, z3, z4⟩ => ?_⟩, kp, own, at_, ?_⟩
    · refine ⟨isB c cx, by rw [ok.K]; exact hkn.exm c z2 cx hcx, fun hB => ⟨rfl, fun ad hn => ⟨.ref ad, by rw [List.getElem?_set_self z4], z1 z2 hB ad hn⟩⟩, fun hB => ⟨c, rfl, rfl, z3 hB⟩⟩
    · cases mb with
      | ok s => exact fun σ' H' own' a' => ⟨s, kp, own', a', q⟩
      | no => exact q.elim
      | ex c =>
        intro σ' H' own' a'
        have q : BOk g kp E D (((if c ∈ kn then (if isB c cx = true then M.ok (h c) else .ex c) else .no) : M β).bind f) := q
        by_cases hc : c ∈ kn
        · rw [if_pos hc] at q
          have hlen : iE < σ'.length := by rw [a'.len]; exact (List.getElem?_eq_some_iff.mp hLE).1
          refine ⟨fun _ hB ad hn => ?_, hc, fun hB => ?_, hlen⟩
          · rw [if_pos hB] at q
            exact cont c σ' H' hc hB ⟨own', a'⟩ q ad hn
          · rw [if_neg (by rw [hB]; exact Bool.false_ne_true)] at q
            obtain ⟨own2, a2, _⟩ := a'.weak wk
            exact q σ' H' own2 a2
        · rw [if_neg hc] at q; exact q.elim
def KitQ (K : PySem.W.Frag) (H : Hp) (v : V) (t : Value) : Prop := (v = .non ∧ t = .type "NoneType") ∨ ∃ a D, v = .ref a ∧ t = .ref D ∧ ExcC K D ∧ L2.Rd H a (ExQ (.ref D) a)
theorem kit_q {X : Cx} {pins : List (Addr × Obj)} {σ : L2.St} {H : Hp} {s : Shared} {v : V} {u t : Value} (I : Inv X pins σ H s) (rx : RelV v u) (q : KitQ X.K H v t) : ∃ P : Heap → Prop, PySem.W.KitX X.K u t P ∧ P s.heap ∧ u ≠ .builtin "__main__.__loader__#opaque" := by
  rcases q with ⟨rfl, rfl⟩ | ⟨a, D, rfl, rfl, C, h⟩
  · cases (show u = Value.none from rx)
    exact ⟨_, PySem.W.kitx_none, True.intro, fun z => nomatch z⟩
  · cases (show u = Value.ref a from rx)
    obtain ⟨⟨oe, vs, he, hz, hd⟩, _⟩ := (show ObjOk X.prog X.w H s.heap a (ExQ (.ref D) a) from h.ok I.hok)
    have J : PySem.W.InstAt s.heap a oe D none := by
      obtain ⟨oc, od, oda, osl⟩ := oe
      obtain ⟨h1, h2⟩ := hz
      dsimp only at h1 h2 hd
      subst h1 h2 hd
      exact ⟨he, rfl, rfl, trivial⟩
    exact ⟨_, PySem.W.handS_kitx_exc C.hg C.hk C.hs C.hd C.ha C.hn C.ht C.hm, J, fun z => nomatch z⟩
def rIsQ (K : PySem.W.Frag) : List V → Hp → VK → Prop := fun xs H Q => ∃ (x c : V) (t u : Value) (b : Bool), xs = [x, c] ∧ ClsV c u ∧ KitQ K H x t ∧ PySem.W.kitOne K t u = some b ∧ Q (.bl b) H
theorem call_isQ {X : Cx} : CallR X (.builtin "isinstance") (rIsQ X.K) := by
  intro pins s σ H xs us Q I r h
  obtain ⟨x, c, t, u, b, rfl, k, ty, e, q⟩ := h
  cases r with
  | cons r1 rr =>
    cases rr with
    | cons r2 rr =>
      cases rr
      have e2 := k.eq r2
      subst e2
      obtain ⟨P, Z, hP, hx⟩ := kit_q I r1 ty
      exact PySem.W.kia_one Z I.kIn hP e hx fun tk => ⟨.bl b, H, I.tok tk, rfl, q⟩
/-- isinstance(caught, X), X a class of refusals -/
def isEM (kn : List Ec) (c : Option Ec) (d : Ec) : M Bool := match c with
  | none => .ok false
  | some c => if c ∈ kn then .ok (isB c d) else .no
theorem isEM_ne {kn : List Ec} {c : Option Ec} {d : Ec} {z : Ec} : isEM kn c d ≠ .ex z := by unfold isEM; split <;> (try split) <;> exact fun h => nomatch h
theorem ev_cls {cc : Ec} (ok : Ok p sc NN VV GG k g) (hG : GG[j]? = some x) (hx : p.mg x = some (.ref (p.C cc))) : EvE g L (.Name x pos) md (tCls p) (.ok cc) := ev_glob (v := .ref (p.C cc)) ok hG hx rfl (fun _ => rfl)
theorem kitQ_some {kn : List Ec} (hkn : Kn p kn) {c : Ec} (hc : c ∈ kn) {R : RdR} {H : Hp} {v : V} (rb : Rdb p.K R H) (h : (tExc p).rep c v R) : KitQ p.K H v (.ref (p.C c)) := by
  obtain ⟨a, e, h⟩ := h
  exact .inr ⟨a, p.C c, e, rfl, hkn.isc c hc, (rb _ _ h rfl).resolve_right fun z => z⟩
theorem ev_isE {kn : List Ec} {dd : Ec} {m : M (Option Ec)} (ok : Ok p sc NN VV GG k g) (hkn : Kn p kn) (hd : dd ∈ kn) (hG : GG[j]? = some "isinstance") (hmg : p.mg "isinstance" = none) (ha : EvE g L a md (tOpt (tExc p)) m) (hb : EvE g L b md (tCls p) (.ok dd))
    (hs1 : starEach [a, b] g.X.env = (false, eval a g.X.env) :: starEach [b] g.X.env := by rfl) (hs2 : starEach [b] g.X.env = (false, eval b g.X.env) :: starEach [] g.X.env := by rfl)
    (hpl : (backTo pos (starEach [b] g.X.env)).any (·.1) = false := by rfl) : EvE g L (.Call (.Name "isinstance" pp) [a, b] [] pos) md' tBool (m.bind fun c => isEM kn c dd) := by
  have h := ev_b2 (S := tOpt (tExc p)) (T := (⟨fun _ v _ => v = .ref (p.C dd), fun h _ => h⟩ : Ty Unit)) (md' := md') (U := tBool) (f := fun c _ => isEM kn c dd) (m2 := .ok ()) (fr := true) (pp := pp) (pos := pos) ok call_isQ (fun {d e v w R H W} rb h1 h2 q => by
    unfold isEM at q
    cases d with
    | none =>
      cases (show v = .non from h1)
      exact ⟨.non, w, .type "NoneType", .ref (p.C dd), false, rfl, by rw [h2]; exact .own _, .inl ⟨rfl, rfl⟩, by rw [ok.K]; exact hkn.kitN dd hd, q _ _ (Same.refl _) rfl⟩
    | some c =>
      by_cases hc : c ∈ kn
      · simp only [if_pos hc] at q
        exact ⟨v, w, .ref (p.C c), .ref (p.C dd), isB c dd, rfl, by rw [h2]; exact .own _, by rw [ok.K]; exact kitQ_some hkn hc rb h1.1, by rw [ok.K]; exact hkn.kit c hc dd hd, q _ _ (Same.refl _) rfl⟩
      · simp only [if_neg hc] at q
        exact q.elim) (fun _ _ _ => isEM_ne) .fresh hG hmg (by decide +kernel) ha (ev_asP (T := (⟨fun _ v _ => v = .ref (p.C dd), fun h _ => h⟩ : Ty Unit)) (d2 := ()) (fun v R r => r) hb) hs1 hs2 hpl
  have e : (m.bind fun d => (M.ok ()).bind fun _ => isEM kn d dd) = m.bind fun c => isEM kn c dd := by cases m <;> rfl
  rwa [e] at h
end
end Hd
namespace Hd
open PySem PySem.Spec L2
section
variable {p : Pr} {sc : Scope} {NN VV GG VV' GG' : List Str} {k : Nat} {g : G} {L L' : List Slot} {a b c e e' : Expr} {es : List Expr} {md md' : Md} {α β γ δ ρ : Type} {S : Ty α} {T : Ty β} {U : Ty γ} {A : Ar δ} {pos : Pos} {K : PySem.W.Frag} {tg : Expr} {i j : Nat} {x : Str} {pp : Pos}
variable {st : List Stmt} {D : δ → Out} {d : δ}
def tAny : Ty Unit := ⟨fun _ _ _ => True, fun h _ => h⟩
end
def excCB (K : PySem.W.Frag) (D : Addr) : Bool :=
  He.eqO (PySem.W.findIn K (.ref D) "__getattribute__") (some (some (.builtin "BaseException.__getattribute__"))) && (He.eqO (PySem.W.findIn K (.ref D) "__getattr__") (some none) && (decide (PySem.W.subIn K (.ref D) (.type "BaseException") = some true) && (PySem.W.hasDictIn K D &&
    (He.eqO (PySem.W.findIn K (.ref D) "__class__") (some (some (.builtin "object.__class__"))) && (He.eqO (PySem.W.specialIn K (.builtin "object.__class__") "__get__") (some (some (.builtin "getset_descriptor.__get__"))) && (decide (PySem.W.takesIn K (.builtin "object.__class__") = some true) && decide (PySem.W.mroIn K D (.type "object") = some true)))))))
theorem excCB_ok {K : PySem.W.Frag} {D : Addr} (h : excCB K D = true) : ExcC K D := by
  obtain ⟨h1, h⟩ := He.ba h
  obtain ⟨h2, h⟩ := He.ba h
  obtain ⟨h3, h⟩ := He.ba h
  obtain ⟨h4, h⟩ := He.ba h
  obtain ⟨h5, h⟩ := He.ba h
  obtain ⟨h6, h⟩ := He.ba h
  obtain ⟨h7, h8⟩ := He.ba h
  exact ⟨He.eqO_ok h1, He.eqO_ok h2, of_decide_eq_true h3, h4, He.eqO_ok h5, He.eqO_ok h6, of_decide_eq_true h7, of_decide_eq_true h8⟩
def knB (kn : List Ec) (K : PySem.W.Frag) : Bool := kn.all fun c => excCB K (He.ga K (ecName c)) && (kn.all (fun d => decide (PySem.W.exmOne K (.ref (He.ga K (ecName c))) (.ref (He.ga K (ecName d))) = some (isB c d)) && decide (PySem.W.kitOne K (.ref (He.ga K (ecName c))) (.ref (He.ga K (ecName d))) = some (isB c d))) &&
  (decide (PySem.W.kitOne K (.ref (He.ga K (ecName c))) (.type "ValueError") = some true) && decide (PySem.W.kitOne K (.type "NoneType") (.ref (He.ga K (ecName c))) = some false)))
theorem kn_ok {kn : List Ec} {K : PySem.W.Frag} {P : Program} {w : World} {mg : Str → Option Value} {base : Heap} {T : Option Addr} (h : knB kn K = true) : Kn ⟨P, w, K, mg, base, fun c => He.ga K (ecName c), T⟩ kn := by
  have key := fun c hc => List.all_eq_true.mp h c hc
  refine ⟨fun c hc => ?_, fun c hc d hd => ?_, fun c hc d hd => ?_, fun c hc => ?_, fun c hc => ?_⟩
  · exact excCB_ok (He.ba (key c hc)).1
  · have h1 := (He.ba (He.ba (key c hc)).2).1
    exact of_decide_eq_true (He.ba (List.all_eq_true.mp h1 d hd)).1
  · have h1 := (He.ba (He.ba (key c hc)).2).1
    exact of_decide_eq_true (He.ba (List.all_eq_true.mp h1 d hd)).2
  · exact of_decide_eq_true (He.ba (He.ba (He.ba (key c hc)).2).2).1
  · exact of_decide_eq_true (He.ba (He.ba (He.ba (key c hc)).2).2).2
abbrev AlE : Type := Bool × He.AlD
def obsE (fa : List He.Fa) (fn : List He.DefD) (ex : PySem.W.Frag → Bool) (K : PySem.W.Frag) : AlE := (ex K, He.obsD fa fn K)
def obsEG (n : Nat) (fa : List He.Fa) (fn : List He.DefD) (ex : PySem.W.Frag → Bool) (g : Addr → Option Obj) : AlE := obsE fa fn ex (He.frG g (He.asD g n))
def hookE (n : Nat) (fa : List He.Fa) (fn : List He.DefD) (ex : PySem.W.Frag → Bool) : PySem.W.Hook where
  α := AlE
  obs := fun s => obsEG n fa fn ex s.heap.get?
  val := fun _ => (true, He.valD fn)
  says := fun _ h => ∃ K : PySem.W.Frag, K.In h ∧ ex K = true ∧ He.SaysD fa fn K
  of := fun _ _ e => ⟨_, He.frG_in, congrArg (fun z : AlE => z.1) e, congrArg (fun z : AlE => z.2) e⟩
  keeps := fun _ _ _ ⟨K, hK, h1, c⟩ kk => ⟨K, PySem.W.Frag.In.keeps hK kk, h1, c⟩
theorem obsEG_eq {n : Nat} {fa : List He.Fa} {fn : List He.DefD} {ex : PySem.W.Frag → Bool} {g : Addr → Option Obj} {s : Shared} (h : ∀ a, g a = s.heap.get? a) : obsEG n fa fn ex g = (hookE n fa fn ex).obs s := by
  have e : g = s.heap.get? := funext h
  rw [e]; rfl
def clsBody : Stmt → List Stmt
  | .ClassDef _ _ _ b _ _ _ _ _ _ _ => b
  | _ => []
end Hd
namespace Hd
open PySem PySem.Spec L2
end Hd
namespace Hd
open PySem PySem.Spec L2
section
variable {p : Pr} {sc : Scope} {NN VV GG : List Str} {k : Nat} {g : G} {α : Type} {S : Ty α}
theorem eqvN_l {x : PyData} (h : x ≠ .none) : PyData.eqv .none x = false := by cases x <;> first | rfl | exact absurd rfl h | simp [PyData.eqv]
theorem eqvN_r {x : PyData} (h : x ≠ .none) : PyData.eqv x .none = false := by cases x <;> first | rfl | exact absurd rfl h | simp [PyData.eqv]
/-- None or a thing -/
def dOpt (D : Deep S) (h : ∀ d, D.pd d ≠ .none) : Deep (tOpt S) := ⟨fun d => match d with | none => .none | some d => D.pd d, D.dp, fun {K d v R H} rb r => by
    cases d with
    | none => cases (show v = .non from r); exact ⟨.non, rfl⟩
    | some d => exact D.rep rb r.1, fun d => by
    cases d with
    | none => simp [PyData.depth]
    | some d => exact D.dep d, fun d e => by
    cases d with
    | none => cases e with
      | none => simp [PyData.eqv]
      | some e => simp [eqvN_l (h e)]
    | some d => cases e with
      | none => simp [eqvN_r (h d)]
      | some e => simpa using D.eqv d e⟩
variable {L : List Slot} {a b : Expr} {md md' : Md} {pos : Pos}
theorem evt_isN {m : M (Option α)} {j1 : Nat} {p1 : Pos} (ok : Ok p sc NN VV GG k g) (ha : EvE g L a md (tOpt S) m) : EvT g L (.Compare a [.Is] [.Constant .none j1 p1] pos) (m.bind fun d => .ok d.isNone) := by
  have h := evt_cmp (fr := true) (pos := pos) (S := tOpt S) (T := tNone) (f := fun d _ => .ok d.isNone) ok op_isN ⟨fun {d e x y R H W} rb rx ry q => ⟨ry, q _ _ (Same.refl _) (by
    show _ = V.bl _
    cases d with
    | none => cases (show x = .non from rx); rfl
    | some d => rw [decide_eq_false rx.2]; rfl)⟩⟩ (fun _ _ _ h => nomatch h) ha (ev_none (j := j1) (pos := p1)) (by first | exact nomark _ (by decide) (by decide) | rfl)
  have e : (m.bind fun d => (M.ok ()).bind fun _ => M.ok d.isNone) = m.bind fun d => .ok d.isNone := by cases m <;> rfl
  rwa [e] at h
end
end Hd
namespace Hd
open PySem PySem.Spec L2
section
end
end Hd
namespace Hd
open PySem PySem.Spec PyProof.Rows L2
section
variable {p : Pr} {sc : Scope} {NN VV GG : List Str} {k : Nat} {g : G} {L : List Slot} {a b e tg : Expr} {md md' : Md} {pos pp : Pos} {j : Nat} {α β δ : Type} {S : Ty α} {T : Ty β} {A : Ar δ}
structure HomA (A : Ar δ) (S : Ty α) (f : δ → List α) : Prop where
  r : ∀ {d vs R}, A.rep d vs R → Reps S R (f d) vs
theorem hom0 : HomA aNil S (fun _ => []) := ⟨fun {d vs R} h => by cases (show vs = [] from h); exact .nil⟩
end
end Hd
namespace Hd
open PySem PySem.Spec PyProof.Rows L2
section
end
end Hd
namespace Hd
open PySem PySem.Spec PyProof.Rows L2
section
end
end Hd
namespace Hd
open PySem PySem.Spec PyProof.Rows L2
section
end
end Hd
set_option maxHeartbeats 1000000
namespace Hd
open PySem PySem.Spec PyProof.Rows L2 RT
def IsRs (h : Heap) (a : Addr) (x : Str) (u : Tok) (i : Int) : Prop := ∃ o, h.get? a = some o ∧ o.cls = .type "reversed" ∧ o.data = .fields #[.str x u, rawInt i]
theorem IsRs.at {h h' : Heap} {a : Addr} {x : Str} {u : Tok} {i : Int} (y : IsRs h a x u i) (e : ∀ o, h.get? a = some o → h'.get? a = some o) : IsRs h' a x u i := let ⟨o, ho, r⟩ := y; ⟨o, e _ ho, r⟩
section
end
section
end
end Hd
namespace Hd
open PySem PySem.Spec PyProof.Rows L2
section
variable {p : Pr} {sc : Scope} {NN VV GG : List Str} {k : Nat} {g : G} {L : List Slot} {α β δ : Type} {S : Ty α} {md : Md} {pos : Pos} {st : List Stmt} {D : δ → Out} {i j : Nat} {x : Str}
def popM {α : Type} (xs : List α) : M (List α) := if 0 < xs.length then .ok xs.dropLast else .no
end
end Hd
namespace Hd
open PySem PySem.Spec PyProof.Rows L2
section
variable {p : Pr} {sc : Scope} {NN VV GG : List Str} {k : Nat} {g : G} {L : List Slot} {α β δ : Type} {S : Ty α} {T : Ty β} {md md' : Md} {pos : Pos} {st : List Stmt} {D : δ → Out} {i j : Nat} {x : Str} {a b c e : Expr}
inductive KReps {α : Type} (T : Ty α) (R : RdR) : List (Key × α) → List (Key × V) → Prop where
  | nil : KReps T R [] []
  | cons {k d v ds vs} : T.rep d v R → KReps T R ds vs → KReps T R ((k, d) :: ds) ((k, v) :: vs)
theorem KReps.mono {R R' : RdR} {ds : List (Key × α)} {vs : List (Key × V)} (h : KReps S R ds vs) (s : ∀ a o, R a o → R' a o) : KReps S R' ds vs := by
  induction h with
  | nil => exact .nil
  | cons r _ ih => exact .cons (S.mono r s) ih
theorem KReps.length {R : RdR} {ds : List (Key × α)} {vs : List (Key × V)} (h : KReps S R ds vs) : ds.length = vs.length := by
  induction h with
  | nil => rfl
  | cons r _ ih => simp [ih]
/-- what stands at a key -/
def dgetL {α : Type} (ds : List (Key × α)) (k : Key) : Option α := (ds.find? fun kv => decide (kv.1 = k)).map (·.2)
def dputL {α : Type} (ds : List (Key × α)) (k : Key) (d : α) : List (Key × α) := if (ds.any fun kv => decide (kv.1 = k)) = true then ds.map (fun kv => if kv.1 = k then (kv.1, d) else kv) else ds ++ [(k, d)]
theorem KReps.get {R : RdR} {ds : List (Key × α)} {vs : List (Key × V)} (h : KReps S R ds vs) (k : Key) : (dgetL ds k = none ∧ valV vs k = none) ∨ ∃ d v, dgetL ds k = some d ∧ valV vs k = some v ∧ S.rep d v R := by
  induction h with
  | nil => exact .inl ⟨rfl, rfl⟩
  | @cons k' d v ds vs r _ ih =>
    by_cases e : k' = k
    · exact .inr ⟨d, v, by simp [dgetL, List.find?_cons, e], valV_pos e, r⟩
    · have e1 : dgetL ((k', d) :: ds) k = dgetL ds k := by simp [dgetL, List.find?_cons, e]
      rw [e1, valV_neg e]
      exact ih
theorem KReps.map {R : RdR} {ds : List (Key × α)} {vs : List (Key × V)} (h : KReps S R ds vs) (k : Key) {d : α} {v : V} (r : S.rep d v R) : KReps S R (ds.map (fun kv => if kv.1 = k then (kv.1, d) else kv)) (vs.map (fun kv => if kv.1 = k then (kv.1, v) else kv)) := by
  induction h with
  | nil => exact .nil
  | @cons k' d' v' ds vs r' _ ih =>
    rw [List.map_cons, List.map_cons]
    by_cases e : k' = k
    · simp only [if_pos e]; exact .cons r ih
    · simp only [if_neg e]; exact .cons r' ih
theorem KReps.any {R : RdR} {ds : List (Key × α)} {vs : List (Key × V)} (h : KReps S R ds vs) (k : Key) : (ds.any fun kv => decide (kv.1 = k)) = (vs.any fun kv => decide (kv.1 = k)) := by
  induction h with
  | nil => rfl
  | cons r _ ih => rw [List.any_cons, List.any_cons, ih]
theorem KReps.snoc {R : RdR} {ds : List (Key × α)} {vs : List (Key × V)} (h : KReps S R ds vs) (k : Key) {d : α} {v : V} (r : S.rep d v R) : KReps S R (ds ++ [(k, d)]) (vs ++ [(k, v)]) := by
  induction h with
  | nil => exact .cons r .nil
  | cons r' _ ih => exact .cons r' ih
theorem KReps.put {R : RdR} {ds : List (Key × α)} {vs : List (Key × V)} (h : KReps S R ds vs) (k : Key) {d : α} {v : V} (r : S.rep d v R) : KReps S R (dputL ds k d) (putK vs k v) := by
  unfold dputL putK
  rw [h.any k]
  split
  · exact h.map k r
  · exact h.snoc k r
def sDict {α : Type} (b : Bool) (T : Ty α) (ds : List (Key × α)) : Slot := ⟨fun v H R F => ∃ p xs, v = some (.ref p) ∧ F = [p] ∧ H p = some (.dK xs) ∧ KReps T (R b) ds xs,
  fun ⟨p, xs, e, f, h, r⟩ s k => ⟨p, xs, e, f, by rw [k p (by simp [f])]; exact h, r.mono (s b)⟩, fun ⟨p, xs, e, f, h, r⟩ q hq => by subst f; rw [List.mem_singleton.mp hq, cl_of h]; exact fun z => nomatch z⟩
theorem At.mutD {fm : Fm} {kp : RdR} {σ : L2.St} {H : Hp} {own : List Addr} {b : Bool} {ds : List (Key × α)} {i : Nat} (h : At fm kp L σ H own) (hL : L[i]? = some (sDict b S ds)) :
    ∃ p vs, σ[i]? = some (some (.ref p)) ∧ H p = some (.dK vs) ∧ KReps S (RB fm own H b) ds vs ∧ ∀ ds' vs', KReps S (RB fm own H b) ds' vs' → At fm kp (L.set i (sDict b S ds')) σ (upd H p (.dK vs')) own := by
  obtain ⟨h1, h2, ⟨Fs, h3, rfl⟩, h4, h5, h6⟩ := h
  obtain ⟨v, F, e1, e2, q, vs, rfl, rfl, hp, r⟩ := h3.get hL
  have qin : q ∈ Fs.flatten := List.mem_flatten.mpr ⟨[q], List.mem_of_getElem? e2, by simp⟩
  refine ⟨q, vs, e1, hp, r, fun ds' vs' r' => ?_⟩
  have key : ∀ (md : Md) a o, RX fm Fs.flatten H H md a o → RX fm Fs.flatten (upd H q (.dK vs')) (upd H q (.dK vs')) md a o ∨ md = .fx := fun md a o z => by
    cases md with
    | sh =>
      rcases z with z | z
      · have n : a ≠ q := fun e => z.2.1 (by rw [e]; exact qin)
        refine .inl (.inl ⟨?_, z.2⟩)
        unfold Rd
        rw [cl_upd_ne n]
        exact z.1
      · exact .inl (.inr z)
    | f0 =>
      have n : a ≠ q := fun e => z.2.1 (by rw [e]; exact qin)
      exact .inl ⟨by rw [cl_upd_ne n]; exact z.1, z.2⟩
    | fx => exact .inr rfl
  have keyB : ∀ (b : Bool) a o, RB fm Fs.flatten H b a o → RB fm Fs.flatten (upd H q (.dK vs')) b a o := fun b a o z => by
    cases b with
    | false => exact (key .sh a o z).resolve_right (fun e => nomatch e)
    | true => exact (key .f0 a o z).resolve_right (fun e => nomatch e)
  have up : ∀ a, H a ≠ none → upd H q (.dK vs') a ≠ none := fun a n => by
    by_cases e : a = q
    · rw [e, upd_same]; exact fun z => by cases z
    · rw [upd_ne e]; exact n
  refine ⟨h1.wr (h5 q qin).2.1 hp (fun _ z => nomatch z) rfl, fun a z => up a (h2 a z), ⟨Fs, ?_, rfl⟩, h4, fun x hx => ⟨up x (h5 x hx).1, (h5 x hx).2⟩, fun a o z => (key .sh a o (h6 a o z)).resolve_right (fun e => nomatch e)⟩
  · -- the slots
    have gen : ∀ {L : List Slot} {σ : L2.St} {Fs' : List (List Addr)}, AllS H (RB fm Fs.flatten H) L σ Fs' → Fs'.flatten.Nodup → ∀ {i : Nat}, Fs'[i]? = some [q] → L[i]? = some (sDict b S ds) → σ[i]? = some (some (V.ref q)) →
        AllS (upd H q (.dK vs')) (RB fm Fs.flatten (upd H q (.dK vs'))) (L.set i (sDict b S ds')) σ Fs' := by
      intro L σ Fs' hA
      induction hA with
      | nil => intro _ i e _ _; simp at e
      | @cons sl L v σ F Fs' r t ih =>
        intro nd i e eL eσ
        rw [List.flatten_cons, List.nodup_append] at nd
        cases i with
        | zero =>
          simp at e eL eσ
          subst e; subst eL; subst eσ
          refine .cons ⟨q, vs', rfl, rfl, upd_same, r'.mono (keyB b)⟩ (t.st keyB fun x hx => ?_)
          exact upd_ne fun z => nd.2.2 q (by simp) x hx z.symm
        | succ i =>
          have e' : Fs'[i]? = some [q] := by simpa using e
          refine .cons (sl.st r keyB fun x hx => upd_ne fun z => nd.2.2 x hx q (List.mem_flatten.mpr ⟨[q], List.mem_of_getElem? e', by simp⟩) z) (ih nd.2.1 e' (by simpa using eL) (by simpa using eσ))
    exact gen h3 h4 e2 hL e1
theorem At.setOwnD {fm : Fm} {kp : RdR} {σ : L2.St} {H H' : Hp} {own : List Addr} {b : Bool} {ds : List (Key × α)} {vs : List (Key × V)} {q : Addr} (h : At fm kp L σ H own) (s : Same H H') (hn : H q = none) (h' : H' q = some (.dK vs))
    (r : KReps S (RB fm (q :: own) H' b) ds vs) : ∃ own', At fm kp (L.set i (sDict b S ds)) (σ.set i (some (.ref q))) H' own' := by
  obtain ⟨h1, h2, ⟨Fs, h3, rfl⟩, h4, h5, h6⟩ := h
  have hq : q ∉ Fs.flatten := fun z => (h5 q z).1 hn
  have sub : ∀ x ∈ (Fs.set i [q]).flatten, x ∈ q :: Fs.flatten := fun x hx => (set_own x hx).elim (fun e => by rw [e]; exact List.mem_cons_self) (List.mem_cons_of_mem _)
  have key : ∀ (md : Md) a o, RX fm Fs.flatten H H md a o → RX fm (Fs.set i [q]).flatten H H' md a o := fun md a o z => by
    refine RX.own sub a o ?_
    have z1 := RX.add (o' := .lst []) hn a o z
    have na : a ≠ q ∨ KObj fm.K a o := by
      rcases RX.sh a o z with z | z
      · exact .inl fun e => Rd.some z.1 (by rw [e]; exact cl_none hn)
      · exact .inr z
    cases md with
    | sh =>
      rcases z1 with z1 | z1
      · rcases z with z | z
        · exact .inl ⟨Rd.same s z.1, z1.2⟩
        · exact .inr z
      · exact .inr z1
    | f0 => exact ⟨s.cl _ _ z.1, z1.2⟩
    | fx => exact ⟨s.cl _ _ z.1, z1.2⟩
  have keyB : ∀ (b : Bool) a o, RB fm Fs.flatten H b a o → RB fm (Fs.set i [q]).flatten H' b a o := fun b a o z => by
    cases b with
    | false => exact key .sh a o z
    | true => exact key .f0 a o z
  refine ⟨_, h1.trans s, fun a z n => h2 a z (s.free n), ⟨Fs.set i [q], (h3.st (H' := H') keyB fun p hp => ?_).set (s := sDict b S ds) ⟨q, vs, rfl, rfl, h', r.mono fun a o z => ?_⟩ i, rfl⟩, set_own_nd hq h4, fun p hp => ?_, fun a o z => key .sh a o (h6 a o z)⟩
  · cases e : cl H p with
    | none => exact absurd e (h3.tb p hp)
    | some u => rw [cl_raw e]; exact s.keep _ _ (cl_raw e) (cl_nt e)
  · cases b <;> exact RX.own sub a o z
  · rcases set_own p hp with rfl | hp
    · exact ⟨by rw [h']; exact (fun z => by cases z), h1.free hn, fun z => h2 _ z hn⟩
    · exact ⟨fun e => (h5 p hp).1 (s.free e), (h5 p hp).2⟩
theorem evb_newD {f : List (Key × α) → M δ} {pos' pd : Pos} (ok : OkS p sc NN VV GG k g) (hN : NN[i]? = some x) (hV : VV[j]? = some x) (hr : ∀ ds, EvB g (L.set i (sDict false S ds)) st D (f ds))
    (hs : ∀ Y : Cx, swapsWith (.Dict [] [] pd) (some (.Name x pos')) pos.line Y.env = pure false := by intro _; rfl) : EvB g L (.Assign [.Name x pos'] (.Dict [] [] pd) pos :: st) D ((M.ok ([] : List (Key × α))).bind f) := by
  refine PSs.imp (pss_cons (ps_set (i := i) (by rw [ok.N]; exact ok.nd) (by rw [ok.N]; exact hN) (ok.loc hV) pe_dnewK (hs _) (okS_fn ok)) (PSs.ex hr)) fun E σ H ⟨kp, own, at_, q⟩ => ?_
  intro q' hq'
  obtain ⟨own', a'⟩ := at_.setOwnD (S := S) (i := i) (b := false) (ds := []) (vs := []) (newSame hq') hq' upd_same .nil
  exact ⟨[], kp, own', a', q⟩
def dputM {α : Type} (ds : List (Key × α)) (k : Key) (d : α) : M (List (Key × α)) := if ds.length < sizeLine then .ok (dputL ds k d) else .no
theorem evb_putD {bb : Bool} {ds : List (Key × α)} {m : M α} {mi : M Int} {f : List (Key × α) → M δ} {ix : Expr} {p1 p2 : Pos} (ok : OkS p sc NN VV GG k g) (wk : Wk L g.LX) (hN : NN[i]? = some x) (hV : VV[j]? = some x) (hL : L[i]? = some (sDict bb S ds)) (hb : SlB md bb)
    (he : EvE g L e md S m) (hi : EvE g L ix md' tInt mi) (hr : ∀ ds', EvB g (L.set i (sDict bb S ds')) st D (f ds'))
    (hs : swapsWith e (some (.Subscript (.Name x p1) ix p2)) pos.line g.X.env = pure false := by rfl) :
    EvB g L (.Assign [.Subscript (.Name x p1) ix p2] e pos :: st) D (m.bind fun d => mi.bind fun n => (dputM ds (.inl n) d).bind f) := by
  obtain ⟨hv, ho⟩ := ok.vis hV
  obtain ⟨h1, h2, _⟩ := okName_d ho
  refine PSs.imp (pss_cons (ps_dput (by have := ok.toOk.room.un; omega) (pe_var (i := i) (by rw [ok.N]; exact hN) hv h1 h2) hi he hs) (PSs.ex hr)) fun E σ H ⟨kp, own, at_, q⟩ => ?_
  refine tE_iff.mpr ⟨kp, own, at_, ?_⟩
  cases m with
  | ok d =>
    intro v H1 s1 r1
    have a1 := at_.ext s1
    obtain ⟨p', vs, e1, hp, r, mu⟩ := a1.mutD hL
    refine ⟨_, e1, tE_iff.mpr ⟨kp, own, a1, ?_⟩⟩
    cases mi with
    | ok n =>
      intro y H2 s2 r2
      cases (show y = .int n from r2)
      have a2 := a1.ext s2
      obtain ⟨p2', vs2, e12, hp2, rr2, mu2⟩ := a2.mutD hL
      rw [e1] at e12
      cases e12
      have q : BOk g kp E D ((dputM ds (.inl n) d).bind f) := q
      unfold dputM at q
      split at q
      · rename_i hlt
        exact ⟨p', _, rfl, DPut.k (k := .inl n) hp2 (by rw [← rr2.length]; exact hlt), dputL ds (.inl n) d, kp, own, mu2 _ _ (rr2.put (.inl n) (S.mono r1 fun a o z => RB.same s2 bb a o (hb.rb a o z))), q⟩
      · exact q.elim
    | ex c => exact BOk.exx wk a1 q
    | no => exact q
  | ex c => exact BOk.exx wk at_ q
  | no => exact q
end
end Hd
namespace Hd
open PySem PySem.Spec PyProof.Rows L2
section
variable {p : Pr} {sc : Scope} {NN VV GG : List Str} {k : Nat} {g : G} {L : List Slot} {α β δ : Type} {S : Ty α} {T : Ty β} {md md' : Md} {pos : Pos} {st : List Stmt} {D : δ → Out} {i j : Nat} {x : Str} {a b c e : Expr}
theorem KReps.some {R : RdR} {ds : List (Key × α)} {vs : List (Key × V)} (h : KReps S R ds vs) (k : Key) : (valV vs k).isSome = (dgetL ds k).isSome := by
  rcases h.get k with ⟨g1, g2⟩ | ⟨d, v, g1, g2, _⟩ <;> rw [g1, g2] <;> rfl
/-- n in d, a dict of one's own -/
theorem evt_inOwn {bb : Bool} {ds : List (Key × α)} {m1 : M Int} {npos : Pos} (ok : Ok p sc NN VV GG k g) (hN : NN[i]? = some x) (hV : VV[j]? = some x) (hL : L[i]? = some (sDict bb S ds)) (ha : EvE g L a .sh tInt m1)
    (hk : behindInMarks .In (.Name x npos) = false := by first | exact nobehind _ (by decide) (by decide) | rfl) : EvT g L (.Compare a [.In] [.Name x npos] pos) (m1.bind fun n => .ok (dgetL ds (.inl n)).isSome) := by
  obtain ⟨hv, ho⟩ := ok.vis hV
  obtain ⟨h1, h2, _⟩ := okName_d ho
  refine PT.imp (pt_cmp (pc_din (by have := ok.room.un; omega) ha (pe_var (i := i) (by rw [ok.N]; exact hN) hv h1 h2)) hk) fun σ H Q q => ?_
  obtain ⟨kp, own, at_, q⟩ := tT_iff.mp q
  obtain ⟨Fs, hA, rfl⟩ := at_.sl
  obtain ⟨v, F, e1, e2, pp, vs, rfl, rfl, hp, r⟩ := hA.get hL
  refine sub finT (Same.refl H) at_ q fun n y H2 s2 r2 at2 q2 => ?_
  cases (show y = .int n from r2)
  refine ⟨_, e1, pp, _, rfl, DGet.k (k := .inl n) (s2.keep _ _ hp rfl), _, rfl, ?_⟩
  rw [r.some]
  exact q2 H2 s2
end
end Hd
namespace Hd
open PySem PySem.Spec PyProof.Rows L2
section
end
end Hd
namespace Hd
open PySem PySem.Spec PyProof.Rows L2
section
end
end Hd
namespace Hd
open PySem PySem.Spec PyProof.Rows L2
section
end
section
end
end Hd
namespace Hd
open PySem PySem.Spec PyProof.Rows L2
section
end
section
open LamX
end
section
end
section
open LamX
end
section
open LamX
end
end Hd
namespace Hd
open PySem PySem.Spec L2
end Hd
namespace Hd
open PySem PySem.Spec PyProof.Rows L2
section
end
end Hd
namespace Hd
open PySem PySem.Spec PyProof.Rows L2
section
end
end Hd
namespace Hd
open PySem PySem.Spec PyProof.Rows L2
section
end
section
end
end Hd
namespace Hd
open PySem PySem.Spec PyProof.Rows L2
section
end
end Hd
namespace Hd
open PySem PySem.Spec PyProof.Rows L2
section
end
end Hd
namespace Hd
open PySem PySem.Spec PyProof.Rows L2
end Hd
namespace Hd
open PySem PySem.Spec PyProof.Rows L2
def tHl {δ : Type} (A : Ar δ) : Ty δ := ⟨fun d v R => ∃ a vs, v = .ref a ∧ R a (.lst vs) ∧ A.rep d vs R, fun ⟨a, vs, e, r, h⟩ s => ⟨a, vs, e, s _ _ r, A.mono h s⟩⟩
section
variable {α δ : Type} {p : Pr} {sc : Scope} {NN VV GG : List Str} {k : Nat} {g : G} {L : List Slot} {md : Md} {pos : Pos} {S : Ty α} {A : Ar δ} {es : List Expr} {a b : Expr}
theorem ev_hl {m : M δ} (hl : ∀ d vs R, A.rep d vs R → vs.length ≤ 1000) (ha : EvA g L es md A m) : EvE g L (.List es pos) md (tHl A) m := by
  refine PE.imp (pe_lst ha) fun σ H Q q => ?_
  obtain ⟨kp, own, at_, q⟩ := tE_iff.mp q
  refine tA_iff.mpr ⟨kp, own, at_, ?_⟩
  cases m with
  | ok d => exact fun vs H1 s1 r1 => ⟨Nat.le_trans (hl _ _ _ r1) (by decide), fun p hp => q _ _ (s1.trans (newSame hp)) ⟨p, vs, rfl, newRX (at_.ext s1) s1 hp, A.mono r1 (RX.same (newSame hp))⟩⟩
  | ex c => exact q
  | no => exact q
theorem ev_hlIx {n : Int} {f : δ → α} {m : M δ} (ok : Ok p sc NN VV GG k g) (hA : ArAt A n S f) (ha : EvE g L a md (tHl A) m) (hb : EvE g L b md tInt (.ok n)) (hs : PlainIx b := by exact fun _ _ => rfl) : EvE g L (.Subscript a b pos) md S (m.bind fun t => .ok (f t)) :=
  ev_ix (S := tHl A) (r := rIxL p.K) (m2 := .ok ()) (f := fun t _ => .ok (f t)) (T := tLit n) (fr := false) ok (by rw [← ok.K]; exact ix_list) ⟨fun {d e x y R H Q} rb ⟨a, vs, ex, h, r⟩ ry q => by
    obtain ⟨v, h1, h2⟩ := hA.get r
    refine ⟨a, vs, n, v, ex, ry, sq_of rb h, ?_, q _ _ (Same.refl _) (S.mono h2 (Nw.old rfl))⟩
    have := atI_nat (xs := vs) (j := n.toNat) h1
    rwa [Int.toNat_of_nonneg hA.nat] at this⟩ (fun _ _ _ h => nomatch h) .same ha (ev_lit hb) hs
end
end Hd
namespace Hd
open PySem PySem.Spec L2
section
end
end Hd
namespace Hd
open PySem PySem.Spec PyProof.Rows L2
section
end
section
end
end Hd
namespace Hd
open PySem PySem.Spec L2
/-- a field: its name, its kind, its worth -/
structure FldS : Type 1 where
  n : Str
  α : Type
  T : Ty α
  d : α
inductive FsR (R : RdR) : List FldS → List (Str × V) → Prop where
  | nil : FsR R [] []
  | cons {s : FldS} {l v fs} : s.T.rep s.d v R → FsR R l fs → FsR R (s :: l) ((s.n, v) :: fs)
section
variable {R R' : RdR} {l l' : List FldS} {fs fs' : List (Str × V)}
theorem FsR.mono (h : FsR R l fs) (s : ∀ a o, R a o → R' a o) : FsR R' l fs := by
  induction h with
  | nil => exact .nil
  | cons r _ ih => exact .cons (Ty.mono _ r s) ih
theorem FsR.snoc {s : FldS} {v : V} (h : FsR R l fs) (r : s.T.rep s.d v R) : FsR R (l ++ [s]) (fs ++ [(s.n, v)]) := by
  induction h with
  | nil => exact .cons r .nil
  | cons q _ ih => exact .cons q ih
theorem FsR.length (h : FsR R l fs) : l.length = fs.length := by
  induction h with
  | nil => rfl
  | cons _ _ ih => simp [ih]
theorem FsR.none {f : Str} (h : FsR R l fs) (hn : l.all (fun s => !(f == s.n)) = true) : fs.lookup f = none := by
  induction h with
  | nil => rfl
  | @cons s l v fs _ _ ih =>
    rw [List.all_cons, Bool.and_eq_true] at hn
    rw [List.lookup_cons]
    have : (f == s.n) = false := by simpa using hn.1
    rw [this]
    exact ih hn.2
theorem putF_new {f : Str} {y : V} : ∀ {fs : List (Str × V)}, fs.lookup f = none → putF f y fs = fs ++ [(f, y)]
  | [], _ => rfl
  | (g, x) :: r, h => by
    rw [List.lookup_cons] at h
    by_cases e : g = f
    · subst e; simp at h
    · have e2 : (f == g) = false := by simpa using fun z => e z.symm
      rw [e2] at h
      show (if g = f then _ else (g, x) :: putF f y r) = _
      rw [if_neg e, putF_new h]; rfl
end
/-- the field f is there -/
inductive FAt {β : Type} (f : Str) (T : Ty β) (d : β) : List FldS → Prop where
  | here {l} : FAt f T d (⟨f, β, T, d⟩ :: l)
  | there {s l} {n : Str} : s.n = n → (f == n) = false → FAt f T d l → FAt f T d (s :: l)
theorem FAt.get {β : Type} {f : Str} {T : Ty β} {d : β} {R : RdR} {l : List FldS} (h : FAt f T d l) : ∀ {fs : List (Str × V)}, FsR R l fs → ∃ v, fs.lookup f = some v ∧ T.rep d v R := by
  induction h with
  | here =>
    intro fs r
    cases r with
    | cons q _ => exact ⟨_, by rw [List.lookup_cons]; simp, q⟩
  | there e0 e _ ih =>
    subst e0
    intro fs r
    cases r with
    | cons _ q =>
      obtain ⟨v, h1, h2⟩ := ih q
      exact ⟨v, by rw [List.lookup_cons, e]; exact h1, h2⟩
/-- an object of the class at C -/
def tIns {δ : Type} (C : Addr) (fl : δ → List FldS) : Ty δ := ⟨fun d v R => ∃ a dx fs, v = .ref a ∧ R a (.ins C dx fs) ∧ FsR R (fl d) fs, fun ⟨a, dx, fs, e, r, h⟩ s => ⟨a, dx, fs, e, s _ _ r, h.mono s⟩⟩
/-- the address of a class -/
abbrev cA (p : Pr) (c : Str) : Addr := He.ga p.K c
section
variable {X : Cx} {pins : List (Addr × Obj)} {σ : L2.St} {H : Hp} {s : Shared} {a C dx : Addr} {fs : List (Str × V)} {f : Str} {v : V} {A : Around} {E : Value → Shared → Prop}
theorem ins_getR {P : Program} {w : World} {h : Heap} (x : ObjOk P w H h a (.ins C dx fs)) : ∃ mA, ObjM h a dx C mA ∧ (∀ f, RelO (fs.lookup f) (mA f)) := by
  obtain ⟨d, z, ne, ob, mA, n, r, q⟩ := x
  exact ⟨mA, ⟨ob, n, ne⟩, r⟩
theorem getattr_rd {b : Bool} {Q : Value → Shared → Prop} (I : Inv X pins σ H s) (e : L2.Rd H a (.ins C dx fs)) (c : Cls X.K C) (n : NoAttr X.K C f) (l : fs.lookup f = some v)
    (h : ∀ u s', Inv X pins σ H s' → RelV v u → Q u s') : wpAny (model X.prog X.w) A (getAttr (.ref a) f b) Q E s := by
  obtain ⟨mA, O, r⟩ := ins_getR (e.ok I.hok)
  obtain ⟨u, hu, ru⟩ := RelO.some_of (v := v) (o := mA f) (by rw [← l]; exact r f)
  exact get_map I.kIn O (c.get f) c.hd n hu (handed_of ru) (h u _ (I.tok _) ru)
theorem getmeth_rd {m : Str} {g : Addr} {pl : Sem Bool} {Q : Value × List Value → Shared → Prop} (I : Inv X pins σ H s) (e : L2.Rd H a (.ins C dx fs)) (c : Cls X.K C) (k : Meth X.K C m g) (l : fs.lookup m = none)
    (h : Q (.ref g, [.ref a]) s) : wpAny (model X.prog X.w) A (getMethod (.ref a) m pl) Q E s := by
  obtain ⟨mA, O, r⟩ := ins_getR (e.ok I.hok)
  have hn : mA m = none := RelO.none_of (by rw [← l]; exact r m)
  exact get_meth I.kIn O (c.get m) k.at_ k.fn hn h
def tFldR (K : PySem.W.Frag) (ta : TE) (f : Str) : TE := fun σ H Q => ta σ H fun x H1 => ∃ a C dx fs v, x = .ref a ∧ L2.Rd H1 a (.ins C dx fs) ∧ Cls K C ∧ NoAttr K C f ∧ fs.lookup f = some v ∧ Q v H1
theorem pe_fldR {e : Expr} {pos : Pos} {ta : TE} (he : PE X e ta) (hb : attributeBase e f X.env (eval e X.env) = eval e X.env) : PE X (.Attribute e f pos) (tFldR X.K ta f) := by
  refine ⟨fun pins s σ H Q I h => ?_⟩
  refine attr_of hb (thn (he.run pins s σ H _ I h) fun u s1 ⟨x, H1, I1, rx, a, C, dx, fs, v, ex, ea, c, n, l, q⟩ => ?_)
  subst ex
  obtain rfl : u = Value.ref a := rx
  exact getattr_rd I1 ea c n l fun u' s2 I2 ru => ⟨v, H1, I2, ru, q⟩
def tMethR (C : Addr) (m : Str) (sp : Sp) (E : L2.St → XK) (ta : TE) : TE := fun σ H Q => ta σ H fun x H1 => ∃ a dx fs, x = .ref a ∧ L2.Rd H1 a (.ins C dx fs) ∧ fs.lookup m = none ∧ sp [x] H1 Q (E σ)
theorem pe_methR0 {k : Nat} {o : Expr} {m : Str} {apos pos : Pos} {ta : TE} {f : Addr} {fd : FuncData} {ps : List Str} {sp : Sp} {E : L2.St → XK} {pl : Sem Bool} {CX' : CXT} (he : PE X o ta) (c : Cls X.K C) (hm : Meth X.K C m f) (F : FnOk X.prog X.w X.K X.mg X.base CX' k f fd ps sp) (hr : Room k X.A) (hb : Binds X.K fd ps []) (hx : ∀ σ, PassesAt CX' X σ (E σ))
    (ht : eval (.Call (.Attribute o m apos) [] [] pos) X.env = (do
      let ov ← eval o X.env
      standAt apos.atName
      let (f, first) ← holding [ov] (getMethod ov m pl)
      callWith pos f first (backTo pos (starEach [] X.env)) (backToKw pos (keywordEach [] X.env))) := by rfl) :
    PE X (.Call (.Attribute o m apos) [] [] pos) (tMethR C m sp E ta) := by
  refine ⟨fun pins s σ H Q I h => ?_⟩
  refine PySem.W.methodCall_KW (pl := pl) (thn (he.run pins s σ H _ I h) fun u s1 ⟨x, H1, I1, rx, a, dx, fs, ex, ea, l, q⟩ => ?_) ht
  subst ex
  obtain rfl : u = Value.ref a := rx
  refine getmeth_rd I1 ea c hm l ?_
  exact PySem.W.callWith_K0 (first := [.ref a]) I1.kIn hm.kp (run_fnS (us := [.ref a]) (vs := [.ref a]) F hr hb (hx σ) I1 (.cons rfl .nil) q)
theorem run_makeS {k : Nat} {f : Addr} {fd : FuncData} {ps : List Str} {sp : Sp} {E : XK} {CX' : CXT} {Q : VK} {us : List Value} {vs : List V} (M : Mk X.K C f) (F : FnOk X.prog X.w X.K X.mg X.base CX' k f fd ps sp) (hr : Room (k + 1) X.A) (hb : Binds X.K fd ps [])
    (hx : PassesAt CX' X σ E) (I : Inv X pins σ H s) (r : Vals vs us)
    (h : ∀ x dx, H x = none → H dx = none → dx ≠ x → sp (.ref x :: vs) (upd (upd H dx (.own x)) x (.ins C dx [])) (fun v H2 => v = .non ∧ Q (.ref x) H2) E) :
    wpAny (model X.prog X.w) X.A (call (.ref C) us) (EP X pins σ Q) X.xe s := by
  have hq := h (s.heap.objs.size + 1) s.heap.objs.size (I.hok.fresh (Nat.le_succ _)) (I.hok.fresh (Nat.le_refl _)) (Nat.ne_of_lt (Nat.lt_succ_self _))
  have I2 := Inv.made (C := C) I
  have r2 : Vals (V.ref (s.heap.objs.size + 1) :: vs) (Value.ref (s.heap.objs.size + 1) :: us) := .cons rfl r
  have hl : (Value.ref (s.heap.objs.size + 1) :: us).length = ps.length := by
    have e := r2.length
    rw [F.len _ _ _ _ hq] at e
    exact e.symm
  have hbb := hb _ (Value.ref (s.heap.objs.size + 1) :: us) I2.kIn (by rw [List.append_nil]; exact hl)
  rw [List.append_nil] at hbb
  refine wpAny_call (make_map (f := f) I.kIn M.makes M.init (beq_iff_eq.mp M.fn) (codeAny_mono (F.run _ X.stack _ _ ⟨Value.ref (s.heap.objs.size + 1) :: us, []⟩ (Value.ref (s.heap.objs.size + 1) :: us) _ _ E (hr.make C us [])
    (I2.env0.make C us []) hbb r2 hq) fun r s' hq' => ?_))
  cases r with
  | error e => exact hx pins _ _ e s' I2 hq'
  | ok fl =>
    cases fl with
    | ret u =>
      obtain ⟨v, H', I3, rv, ev, q3⟩ := I2.after hq'
      subst ev
      exact ⟨rv, ⟨V.ref (s.heap.objs.size + 1), H', I3, rfl, q3⟩⟩
    | next => exact False.elim hq'
    | brk => exact False.elim hq'
    | cont => exact False.elim hq'
def tMakeS (C : Addr) (sp : Sp) (E : L2.St → XK) (t : TA) : TE := fun σ H Q => t σ H fun vs H1 => ∀ x dx, H1 x = none → H1 dx = none → dx ≠ x →
  sp (.ref x :: vs) (upd (upd H1 dx (.own x)) x (.ins C dx [])) (fun v H2 => v = .non ∧ Q (.ref x) H2) (E σ)
theorem pe_makeS {k : Nat} {e : Expr} {es : List Expr} {x : Str} {pos p : Pos} {t : TA} {f : Addr} {fd : FuncData} {ps : List Str} {sp : Sp} {E : L2.St → XK} {CX' : CXT} (M : Mk X.K C f) (F : FnOk X.prog X.w X.K X.mg X.base CX' k f fd ps sp) (hr : Room (k + 1) X.A) (hg : Gl X x) (hm : X.mg x = some (.ref C)) (hb : Binds X.K fd ps []) (hx : ∀ σ, PassesAt CX' X σ (E σ))
    (ha : PA X (e :: es) t) (hdb : (x == ("__debug__" : Str)) = false := by decide) (he : starEach (e :: es) X.env = (false, eval e X.env) :: starEach es X.env := by rfl) (hpl : (backTo pos (starEach es X.env)).any (·.1) = false := by rfl) :
    PE X (.Call (.Name x p) (e :: es) [] pos) (tMakeS C sp E t) := by
  refine ⟨fun pins s σ H Q I h => ?_⟩
  refine wpAny_Call_Name_kw (ld_glob I hg hm ?_ hdb)
  refine PySem.W.callWith_K (h₀ := X.base) I.ok.mod.kin M.kp (thn (ha.run pos pins s σ H _ I h) fun us s1 ⟨vs, H1, I1, r, q⟩ => ⟨I1.kIn, ?_⟩) he hpl
  exact run_makeS M F hr hb (hx σ) I1 r q
end
section
variable {p : Pr} {sc : Scope} {NN VV GG : List Str} {k : Nat} {g : G} {L : List Slot} {a b c e e' : Expr} {es : List Expr} {md md' : Md} {α β γ δ ρ : Type} {S : Ty α} {T : Ty β} {U : Ty γ} {A : Ar δ} {pos : Pos} {i j : Nat} {x f : Str} {pp : Pos} {C : Addr}
variable {st : List Stmt} {D : δ → Out} {d : δ}
/-- o.f -/
theorem ev_fld {fl : δ → List FldS} {pr : δ → β} {m : M δ} (ok : Ok p sc NN VV GG k g) (hc : Cls p.K C) (hn : NoAttr p.K C f) (hA : ∀ d, FAt f T (pr d) (fl d)) (ha : EvE g L e md (tIns C fl) m)
    (hb : attributeBase e f g.X.env (eval e g.X.env) = eval e g.X.env := by rfl) : EvE g L (.Attribute e f pos) md T (m.bind fun d => .ok (pr d)) := by
  refine PE.imp (pe_fldR ha hb) fun σ H Q q => ?_
  obtain ⟨kp, own, at_, q⟩ := tE_iff.mp q
  refine sub finE (Same.refl H) at_ q fun d v H1 s1 r1 at1 q1 => ?_
  obtain ⟨ad, dx, fs, rfl, hR, rr⟩ := r1
  obtain ⟨w, hw, rw_⟩ := (hA d).get rr
  have hR' : L2.Rd H1 ad (.ins C dx fs) := (RX.rdb (md := md) _ _ hR rfl).resolve_right fun z => z
  exact ⟨ad, C, dx, fs, w, rfl, hR', by rw [ok.K]; exact hc, by rw [ok.K]; exact hn, hw, q1 w H1 s1 rw_⟩
/-- a class that is made by its __init__ -/
structure MkF (p : Pr) (k : Nat) (c : Str) (ps : List Str) (sp : Sp) : Prop where
  ex : ∃ (f : Addr) (fd : FuncData), FnOk p.P p.w p.K p.mg p.base (L2.CX p.P p.w) k f fd ("self" :: ps) sp ∧ Mk p.K (cA p c) f ∧ p.mg c = some (.ref (cA p c)) ∧ Binds p.K fd ("self" :: ps) []
/-- a method, as its callers know it -/
structure MeF (p : Pr) (k : Nat) (c m : Str) (ps : List Str) (sp : Sp) : Prop where
  ex : ∃ (f : Addr) (fd : FuncData), FnOk p.P p.w p.K p.mg p.base (L2.CX p.P p.w) k f fd ("self" :: ps) sp ∧ Cls p.K (cA p c) ∧ Meth p.K (cA p c) m f ∧ Binds p.K fd ("self" :: ps) []
theorem ev_meth0 {kf : Nat} {c x : Str} {fl : δ → List FldS} {F : δ × Unit → M β} {m : M δ} {apos : Pos} {pl : Sem Bool} (ok : Ok p sc NN VV GG k g) (hf : MeF p kf c x [] (spM p (aCons (tIns (cA p c) fl) aNil) (fun r => .rt false T r) F)) (hk : kf ≤ k) {nm : List Str} (hnm : ∀ d, (fl d).map (·.n) = nm) (hx0 : nm.all (fun n => !(x == n)) = true) (ha : EvE g L e md (tIns (cA p c) fl) m)
    (ht : eval (.Call (.Attribute e x apos) [] [] pos) g.X.env = (do
      let ov ← eval e g.X.env
      standAt apos.atName
      let (f, first) ← holding [ov] (getMethod ov x pl)
      callWith pos f first (backTo pos (starEach [] g.X.env)) (backToKw pos (keywordEach [] g.X.env))) := by rfl) :
    EvE g L (.Call (.Attribute e x apos) [] [] pos) .sh T (m.bind fun d => F (d, ())) := by
  have hx : ∀ d, (fl d).all (fun s => !(x == s.n)) = true := fun d => by have := hx0; rw [← hnm d, List.all_map] at this; exact this
  obtain ⟨f, fd, hF, hc, hm, hbd⟩ := hf.ex
  rw [← ok.prog, ← ok.w, ← ok.base] at hF
  have hF' : FnOk g.X.prog g.X.w g.X.K g.X.mg g.X.base (L2.CX g.X.prog g.X.w) kf f fd ["self"] (spM p (aCons (tIns (cA p c) fl) aNil) (fun r => .rt false T r) F) := by rw [ok.K, ok.mg]; exact hF
  refine PE.imp (pe_methR0 (pl := pl) ha (by rw [ok.K]; exact hc) (by rw [ok.K]; exact hm) hF' (ok.room.mono hk) (by rw [ok.K]; exact hbd) (tk_at ok) ht) fun σ H Q q => ?_
  obtain ⟨kp, own, at_, q⟩ := tE_iff.mp q
  refine sub finE (Same.refl H) at_ q fun d v H1 s1 r1 at1 q1 => ?_
  have r0 := r1
  obtain ⟨ad, dx, fs, rfl, hR, rr⟩ := r1
  have hR' : L2.Rd H1 ad (.ins (cA p c) dx fs) := (RX.rdb (md := md) _ _ hR rfl).resolve_right fun z => z
  refine ⟨ad, dx, fs, rfl, hR', rr.none (hx d), (d, ()), fun a => a ∈ own ∨ g.fm.z a, ⟨fun a z => ?_, fun P e => at1.same.tab P (ok.tab P e)⟩, ?_, ?_⟩
  · rcases z with z | z
    · exact (at1.new a z).1
    · exact at1.zin a z
  · rw [← ok.fmK]; exact args_in (A := aCons (tIns (cA p c) fl) aNil) (md := md) ⟨_, [], rfl, r0, rfl⟩
  · rw [← ok.fmK]
    cases hd : F (d, ()) with
    | ok r =>
      rw [hd] at q1
      exact fun v H' s r => q1 v H' (s1.trans s) (T.mono r (CaMd.sh.rx s1 at_.same))
    | ex c =>
      rw [hd] at q1
      exact fun H' s => ⟨c, rfl, rfl, q1 H' (s1.trans s)⟩
    | no => rw [hd] at q1; exact q1
theorem evl_meth0 {kf : Nat} {c x : Str} {fl : δ → List FldS} {F : δ × Unit → M (List β)} {m : M δ} {apos : Pos} {pl : Sem Bool} (ok : Ok p sc NN VV GG k g) (hf : MeF p kf c x [] (spM p (aCons (tIns (cA p c) fl) aNil) (fun r => .rtL false T r) F)) (hk : kf ≤ k) {nm : List Str} (hnm : ∀ d, (fl d).map (·.n) = nm) (hx0 : nm.all (fun n => !(x == n)) = true) (ha : EvE g L e md (tIns (cA p c) fl) m)
    (ht : eval (.Call (.Attribute e x apos) [] [] pos) g.X.env = (do
      let ov ← eval e g.X.env
      standAt apos.atName
      let (f, first) ← holding [ov] (getMethod ov x pl)
      callWith pos f first (backTo pos (starEach [] g.X.env)) (backToKw pos (keywordEach [] g.X.env))) := by rfl) :
    EvL g L (.Call (.Attribute e x apos) [] [] pos) .sh T (m.bind fun d => F (d, ())) := by
  have hx : ∀ d, (fl d).all (fun s => !(x == s.n)) = true := fun d => by have := hx0; rw [← hnm d, List.all_map] at this; exact this
  obtain ⟨f, fd, hF, hc, hm, hbd⟩ := hf.ex
  rw [← ok.prog, ← ok.w, ← ok.base] at hF
  have hF' : FnOk g.X.prog g.X.w g.X.K g.X.mg g.X.base (L2.CX g.X.prog g.X.w) kf f fd ["self"] (spM p (aCons (tIns (cA p c) fl) aNil) (fun r => .rtL false T r) F) := by rw [ok.K, ok.mg]; exact hF
  refine PE.imp (pe_methR0 (pl := pl) ha (by rw [ok.K]; exact hc) (by rw [ok.K]; exact hm) hF' (ok.room.mono hk) (by rw [ok.K]; exact hbd) (tk_at ok) ht) fun σ H Q q => ?_
  obtain ⟨kp, own, at_, q⟩ := tL_iff.mp q
  refine sub finL (Same.refl H) at_ q fun d v H1 s1 r1 at1 q1 => ?_
  have r0 := r1
  obtain ⟨ad, dx, fs, rfl, hR, rr⟩ := r1
  have hR' : L2.Rd H1 ad (.ins (cA p c) dx fs) := (RX.rdb (md := md) _ _ hR rfl).resolve_right fun z => z
  refine ⟨ad, dx, fs, rfl, hR', rr.none (hx d), (d, ()), fun a => a ∈ own ∨ g.fm.z a, ⟨fun a z => ?_, fun P e => at1.same.tab P (ok.tab P e)⟩, ?_, ?_⟩
  · rcases z with z | z
    · exact (at1.new a z).1
    · exact at1.zin a z
  · rw [← ok.fmK]; exact args_in (A := aCons (tIns (cA p c) fl) aNil) (md := md) ⟨_, [], rfl, r0, rfl⟩
  · rw [← ok.fmK]
    cases hd : F (d, ()) with
    | ok r =>
      rw [hd] at q1
      exact fun p' vs' H' s n1 n2 h' r => q1 p' vs' H' (s1.trans s) (s1.free n2) h' (r.mono (CaMd.sh.rx (q := some p') s1 at_.same))
    | ex c =>
      rw [hd] at q1
      exact fun H' s => ⟨c, rfl, rfl, q1 H' (s1.trans s)⟩
    | no => rw [hd] at q1; exact q1
end
end Hd
namespace Hd
open PySem PySem.Spec PyProof.Rows L2
def tLn : Ty Int := ⟨fun n v R => ∃ a vs, v = .ref a ∧ R a (.lst vs) ∧ (vs.length : Int) = n, fun ⟨a, vs, e, r, h⟩ s => ⟨a, vs, e, s _ _ r, h⟩⟩
section
variable {p : Pr} {sc : Scope} {NN VV GG : List Str} {k : Nat} {g : G} {L : List Slot} {α δ : Type} {S : Ty α} {A : Ar δ} {md md' : Md} {pos pp : Pos} {j : Nat} {e tg : Expr}
theorem homN {f : δ → List Int} (h : HomA A tLn f) : HomA (aCons (tList S) A) tLn (fun d => (d.1.length : Int) :: f d.2) := ⟨fun {d vs R} q => by
  obtain ⟨v, r, e, ⟨a, ws, e1, h1, h3⟩, h2⟩ := q
  subst e
  exact .cons ⟨a, ws, e1, h1, by rw [h3.length]⟩ (h.r h2)⟩
theorem evi_hlH {f : δ → List α} {m : M δ} (ok : Ok p sc NN VV GG k g) (hA : HomA A S f) (he : EvE g L e md (tHl A) m) : EvI g L tg e S (m.bind fun d => .ok (f d)) :=
  evi_list (S := S) ok (ev_as (S := tHl A) (T := tList S) (d2 := f) (fun d v R ⟨a, vs, e, h, r⟩ => ⟨a, vs, e, h, hA.r r⟩) he)
theorem ev_lenN {mx : M Int} (ok : Ok p sc NN VV GG k g) (hG : GG[j]? = some "len") (hmg : p.mg "len" = none) (ha : EvE g L e md tLn mx) (hs : starEach [e] g.X.env = (false, eval e g.X.env) :: starEach [] g.X.env := by rfl) : EvE g L (.Call (.Name "len" pp) [e] [] pos) md' tInt (mx.bind fun n => .ok n) := by
  have h := ev_callB (md' := md') (U := tInt) (A := aCons tLn aNil) (f := fun d => .ok d.1) (fr := true) (pos := pos) (pp := pp) ok call_len_seq ⟨fun {d xs R H Q} rb ⟨v, r, e1, ⟨a, vs, e2, h, rr⟩, e3⟩ q => by
    subst e1; cases (show r = [] from e3)
    exact ⟨a, vs, by rw [e2], .inl (by rw [ok.K]; exact sq_of rb h), q _ _ (Same.refl _) (by show _ = V.int _; rw [rr])⟩⟩ (fun _ _ h => nomatch h) .fresh hG hmg PySem.boot_len (eva_cons ha eva_nil hs) hs rfl
  have e : (mx.bind fun d => (M.ok ()).bind fun e => M.ok (d, e)).bind (fun d => M.ok d.1) = mx.bind fun n => .ok n := by cases mx <;> rfl
  rwa [e] at h
end
end Hd
namespace Hd
open PySem PySem.Spec L2
section
end
end Hd
namespace Hd
open PySem PySem.Spec L2
/-- an object that may be owned -/
def gd : HO → Bool
  | .lst _ => true
  | .tup _ => true
  | .dK _ => true
  | .dT _ => true
  | .set _ _ => true
  | .ins _ _ _ => true
  | _ => false
theorem gd_nt {o : HO} (h : gd o = true) : nt o = true := by cases o <;> first | rfl | cases h
theorem gd_ext {o : HO} (h : gd o = true) : ∀ φ, o ≠ .ext φ := fun φ e => by subst e; cases h
/-- a kind of things of one's own: what is owned of one stands in F; T: as it looks when it is shared -/
structure WTy (α : Type) where
  T : Ty α
  rep : α → V → Hp → RdR → List Addr → Prop
  st : ∀ {d v H H' F} {R R' : RdR}, rep d v H R F → (∀ a o, R a o → R' a o) → (∀ p ∈ F, H' p = H p) → rep d v H' R' F
  tb : ∀ {d v H F} {R : RdR}, rep d v H R F → ∀ p ∈ F, ∃ o, H p = some o ∧ gd o = true
  fz : ∀ {d v H F} {R R' : RdR}, rep d v H R F → (∀ a o, R a o → R' a o) → (∀ p ∈ F, ∀ o, H p = some o → R' p o) → T.rep d v R'
/-- shared things -/
def wV {α : Type} (T : Ty α) : WTy α where
  T := T
  rep := fun d v _ R F => F = [] ∧ T.rep d v R
  st := fun ⟨e, r⟩ s _ => ⟨e, T.mono r s⟩
  tb := fun ⟨e, _⟩ p hp => by subst e; exact nomatch hp
  fz := fun ⟨_, r⟩ s _ => T.mono r s
inductive RepsO {α : Type} (O : WTy α) (H : Hp) (R : RdR) : List α → List V → List (List Addr) → Prop where
  | nil : RepsO O H R [] [] []
  | cons {d v F ds vs Fs} : O.rep d v H R F → RepsO O H R ds vs Fs → RepsO O H R (d :: ds) (v :: vs) (F :: Fs)
section
variable {α : Type} {O : WTy α} {H H' : Hp} {R R' : RdR} {ds es : List α} {vs ws : List V} {Fs Gs : List (List Addr)}
theorem RepsO.st (h : RepsO O H R ds vs Fs) (s : ∀ a o, R a o → R' a o) (k : ∀ p ∈ Fs.flatten, H' p = H p) : RepsO O H' R' ds vs Fs := by
  induction h with
  | nil => exact .nil
  | cons r _ ih => exact .cons (O.st r s fun p hp => k p (by simp [hp])) (ih fun p hp => k p (by simp only [List.flatten_cons, List.mem_append]; exact .inr hp))
theorem RepsO.tb (h : RepsO O H R ds vs Fs) : ∀ p ∈ Fs.flatten, ∃ o, H p = some o ∧ gd o = true := by
  induction h with
  | nil => intro p hp; simp at hp
  | cons r _ ih => intro p hp; rw [List.flatten_cons, List.mem_append] at hp; exact hp.elim (O.tb r p) (ih p)
theorem RepsO.fz (h : RepsO O H R ds vs Fs) (s : ∀ a o, R a o → R' a o) (k : ∀ p ∈ Fs.flatten, ∀ o, H p = some o → R' p o) : Reps O.T R' ds vs := by
  induction h with
  | nil => exact .nil
  | cons r _ ih => exact .cons (O.fz r s fun p hp => k p (by simp [hp])) (ih fun p hp => k p (by simp only [List.flatten_cons, List.mem_append]; exact .inr hp))
theorem RepsO.length (h : RepsO O H R ds vs Fs) : ds.length = vs.length := by
  induction h with
  | nil => rfl
  | cons _ _ ih => simp [ih]
theorem RepsO.lengthF (h : RepsO O H R ds vs Fs) : ds.length = Fs.length := by
  induction h with
  | nil => rfl
  | cons _ _ ih => simp [ih]
theorem RepsO.get (h : RepsO O H R ds vs Fs) : ∀ {i : Nat} {d : α}, ds[i]? = some d → ∃ v F, vs[i]? = some v ∧ Fs[i]? = some F ∧ O.rep d v H R F := by
  induction h with
  | nil => intro i d e; simp at e
  | cons r _ ih =>
    intro i d e
    cases i with
    | zero => simp at e; subst e; exact ⟨_, _, rfl, rfl, r⟩
    | succ i => obtain ⟨v, F, e1, e2, r1⟩ := ih (i := i) (d := d) (by simpa using e); exact ⟨v, F, by simpa using e1, by simpa using e2, r1⟩
theorem RepsO.append (h : RepsO O H R ds vs Fs) (k : RepsO O H R es ws Gs) : RepsO O H R (ds ++ es) (vs ++ ws) (Fs ++ Gs) := by
  induction h with
  | nil => exact k
  | cons r _ ih => exact .cons r ih
theorem RepsO.set {d : α} {v : V} {F : List Addr} (h : RepsO O H R ds vs Fs) (r : O.rep d v H R F) : ∀ (i : Nat), RepsO O H R (ds.set i d) (vs.set i v) (Fs.set i F) := by
  induction h with
  | nil => intro i; exact .nil
  | cons q t ih =>
    intro i
    cases i with
    | zero => exact .cons r t
    | succ i => exact .cons q (ih i)
theorem RepsO.take (h : RepsO O H R ds vs Fs) : ∀ n, RepsO O H R (ds.take n) (vs.take n) (Fs.take n) := by
  induction h with
  | nil => intro n; simp; exact .nil
  | cons r _ ih => intro n; cases n with
    | zero => exact .nil
    | succ n => exact .cons r (ih n)
theorem RepsO.drop (h : RepsO O H R ds vs Fs) : ∀ n, RepsO O H R (ds.drop n) (vs.drop n) (Fs.drop n) := by
  induction h with
  | nil => intro n; simp; exact .nil
  | cons r t ih => intro n; cases n with
    | zero => exact .cons r t
    | succ n => exact ih n
/-- an item changes where it stands -/
theorem RepsO.chg {d' : α} {F F' : List Addr} {v : V} (h : RepsO O H R ds vs Fs) (s : ∀ a o, R a o → R' a o) : ∀ {i : Nat}, Fs.flatten.Nodup → Fs[i]? = some F → vs[i]? = some v → (∀ p ∈ Fs.flatten, p ∉ F → H' p = H p) → O.rep d' v H' R' F' → RepsO O H' R' (ds.set i d') vs (Fs.set i F') := by
  induction h with
  | nil => intro i _ e; simp at e
  | @cons d0 v0 F0 ds vs Fs q t ih =>
    intro i nd e1 e2 k r
    rw [List.flatten_cons, List.nodup_append] at nd
    cases i with
    | zero =>
      simp at e1 e2
      subst e1; subst e2
      exact .cons r (t.st s fun p hp => k p (by simp only [List.flatten_cons, List.mem_append]; exact .inr hp) fun hp' => nd.2.2 p hp' p hp rfl)
    | succ i =>
      have e1' : Fs[i]? = some F := by simpa using e1
      refine .cons (O.st q s fun p hp => k p (by simp [hp]) fun hp' => nd.2.2 p hp p (List.mem_flatten.mpr ⟨F, List.mem_of_getElem? e1', hp'⟩) rfl) ?_
      exact ih nd.2.1 e1' (by simpa using e2) (fun p hp => k p (by simp only [List.flatten_cons, List.mem_append]; exact .inr hp)) r
end
/-- the footprints' lists -/
theorem flat_set_mem {Fs : List (List Addr)} {F F' : List Addr} : ∀ {i : Nat}, Fs.flatten.Nodup → Fs[i]? = some F → ∀ x, x ∈ (Fs.set i F').flatten → x ∈ F' ∨ (x ∈ Fs.flatten ∧ x ∉ F) := by
  induction Fs with
  | nil => intro i _ e; simp at e
  | cons G Fs ih =>
    intro i nd e x hx
    rw [List.flatten_cons, List.nodup_append] at nd
    cases i with
    | zero =>
      simp at e; subst e
      rw [List.set_cons_zero, List.flatten_cons, List.mem_append] at hx
      rcases hx with h | h
      · exact .inl h
      · exact .inr ⟨by rw [List.flatten_cons, List.mem_append]; exact .inr h, fun h' => nd.2.2 x h' x h rfl⟩
    | succ i =>
      have e' : Fs[i]? = some F := by simpa using e
      rw [List.set_cons_succ, List.flatten_cons, List.mem_append] at hx
      rcases hx with h | h
      · exact .inr ⟨by rw [List.flatten_cons, List.mem_append]; exact .inl h, fun h' => nd.2.2 x h x (List.mem_flatten.mpr ⟨F, List.mem_of_getElem? e', h'⟩) rfl⟩
      · rcases ih nd.2.1 e' x h with h | ⟨h, h2⟩
        · exact .inl h
        · exact .inr ⟨by rw [List.flatten_cons, List.mem_append]; exact .inr h, h2⟩
theorem flat_set_nd {Fs : List (List Addr)} {F F' : List Addr} : ∀ {i : Nat}, Fs.flatten.Nodup → Fs[i]? = some F → F'.Nodup → (∀ x ∈ F', x ∈ F ∨ x ∉ Fs.flatten) → (Fs.set i F').flatten.Nodup := by
  induction Fs with
  | nil => intro i _ e; simp at e
  | cons G Fs ih =>
    intro i nd e n' k
    rw [List.flatten_cons, List.nodup_append] at nd
    cases i with
    | zero =>
      simp at e; subst e
      rw [List.set_cons_zero, List.flatten_cons, List.nodup_append]
      refine ⟨n', nd.2.1, fun a ha b hb e => ?_⟩
      subst e
      rcases k a ha with h | h
      · exact nd.2.2 a h a hb rfl
      · exact h (by rw [List.flatten_cons, List.mem_append]; exact .inr hb)
    | succ i =>
      have e' : Fs[i]? = some F := by simpa using e
      rw [List.set_cons_succ, List.flatten_cons, List.nodup_append]
      refine ⟨nd.1, ih nd.2.1 e' n' fun x hx => (k x hx).imp id (fun h h' => h (by rw [List.flatten_cons, List.mem_append]; exact .inr h')), fun a ha b hb e => ?_⟩
      subst e
      rcases flat_set_mem nd.2.1 e' a hb with h | ⟨h, _⟩
      · rcases k a h with h | h
        · exact nd.2.2 a ha a (List.mem_flatten.mpr ⟨F, List.mem_of_getElem? e', h⟩) rfl
        · exact h (by rw [List.flatten_cons, List.mem_append]; exact .inl ha)
      · exact nd.2.2 a ha a h rfl
theorem flat_mem {Fs : List (List Addr)} {F : List Addr} {i : Nat} (e : Fs[i]? = some F) : ∀ x ∈ F, x ∈ Fs.flatten := fun x hx => List.mem_flatten.mpr ⟨F, List.mem_of_getElem? e, hx⟩
theorem flat_nd {Fs : List (List Addr)} {F : List Addr} : ∀ {i : Nat}, Fs.flatten.Nodup → Fs[i]? = some F → F.Nodup := by
  induction Fs with
  | nil => intro i _ e; simp at e
  | cons G Fs ih =>
    intro i nd e
    rw [List.flatten_cons, List.nodup_append] at nd
    cases i with
    | zero => simp at e; subst e; exact nd.1
    | succ i => exact ih nd.2.1 (by simpa using e)
/-- a list of one's own -/
def wL {α : Type} (O : WTy α) : WTy (List α) where
  T := tList O.T
  rep := fun ds v H R F => ∃ p vs Fs, v = .ref p ∧ F = p :: Fs.flatten ∧ H p = some (.lst vs) ∧ RepsO O H R ds vs Fs
  st := by
    rintro d v H H' F R R' ⟨p, vs, Fs, e1, e2, h, r⟩ s k
    exact ⟨p, vs, Fs, e1, e2, by rw [k p (by rw [e2]; exact List.mem_cons_self)]; exact h, r.st s fun q hq => k q (by rw [e2]; exact List.mem_cons_of_mem _ hq)⟩
  tb := by
    rintro d v H F R ⟨p, vs, Fs, e1, e2, h, r⟩ q hq
    rw [e2] at hq
    rcases List.mem_cons.mp hq with e | hq
    · subst e; exact ⟨_, h, rfl⟩
    · exact r.tb q hq
  fz := by
    rintro d v H F R R' ⟨p, vs, Fs, e1, e2, h, r⟩ s k
    exact ⟨p, vs, e1, k p (by rw [e2]; exact List.mem_cons_self) _ h, r.fz s fun q hq => k q (by rw [e2]; exact List.mem_cons_of_mem _ hq)⟩
/-- written items of one's own -/
structure WAr (δ : Type) where
  A : Ar δ
  /-- as fields of an object with these names -/
  fl : List Str → δ → List FldS
  rep : δ → List V → Hp → RdR → List Addr → Prop
  st : ∀ {d vs H H' F} {R R' : RdR}, rep d vs H R F → (∀ a o, R a o → R' a o) → (∀ p ∈ F, H' p = H p) → rep d vs H' R' F
  tb : ∀ {d vs H F} {R : RdR}, rep d vs H R F → ∀ p ∈ F, ∃ o, H p = some o ∧ gd o = true
  fz : ∀ {d vs H F} {R R' : RdR}, rep d vs H R F → (∀ a o, R a o → R' a o) → (∀ p ∈ F, ∀ o, H p = some o → R' p o) → A.rep d vs R'
  fzF : ∀ {d vs H F} {R R' : RdR} {ns : List Str}, ns.length = vs.length → rep d vs H R F → (∀ a o, R a o → R' a o) → (∀ p ∈ F, ∀ o, H p = some o → R' p o) → FsR R' (fl ns d) (ns.zip vs)
def waNil : WAr Unit where
  A := aNil
  fl := fun _ _ => []
  rep := fun _ vs _ _ F => vs = [] ∧ F = []
  st := fun h _ _ => h
  tb := by
    rintro d vs H F R ⟨_, e⟩ p hp
    subst e; exact nomatch hp
  fz := fun h _ _ => h.1
  fzF := by
    rintro d vs H F R R' ns hl ⟨e, _⟩ _ _
    subst e
    cases ns with
    | nil => exact .nil
    | cons _ _ => cases hl
def waFl {α β : Type} (T : Ty α) (fl : List Str → β → List FldS) : List Str → α × β → List FldS
  | [], _ => []
  | n :: ns, d => ⟨n, α, T, d.1⟩ :: fl ns d.2
def waCons {α β : Type} (O : WTy α) (A : WAr β) : WAr (α × β) where
  A := aCons O.T A.A
  fl := waFl O.T A.fl
  rep := fun d vs H R F => ∃ v r F1 F2, vs = v :: r ∧ F = F1 ++ F2 ∧ O.rep d.1 v H R F1 ∧ A.rep d.2 r H R F2
  st := by
    rintro d vs H H' F R R' ⟨v, r, F1, F2, e1, e2, h1, h2⟩ s k
    exact ⟨v, r, F1, F2, e1, e2, O.st h1 s fun p hp => k p (by rw [e2]; exact List.mem_append_left _ hp), A.st h2 s fun p hp => k p (by rw [e2]; exact List.mem_append_right _ hp)⟩
  tb := by
    rintro d vs H F R ⟨v, r, F1, F2, e1, e2, h1, h2⟩ p hp
    rw [e2] at hp; exact (List.mem_append.mp hp).elim (O.tb h1 p) (A.tb h2 p)
  fz := by
    rintro d vs H F R R' ⟨v, r, F1, F2, e1, e2, h1, h2⟩ s k
    exact ⟨v, r, e1, O.fz h1 s fun p hp => k p (by rw [e2]; exact List.mem_append_left _ hp), A.fz h2 s fun p hp => k p (by rw [e2]; exact List.mem_append_right _ hp)⟩
  fzF := by
    rintro d vs H F R R' ns hl ⟨v, r, F1, F2, e1, e2, h1, h2⟩ s k
    subst e1
    cases ns with
    | nil => cases hl
    | cons n ns => exact .cons (O.fz h1 s fun p hp => k p (by rw [e2]; exact List.mem_append_left _ hp)) (A.fzF (by simpa using hl) h2 s fun p hp => k p (by rw [e2]; exact List.mem_append_right _ hp))
/-- a tuple of things of one's own -/
def wTup {δ : Type} (A : WAr δ) : WTy δ where
  T := tTup A.A
  rep := fun d v H R F => ∃ p vs G, v = .ref p ∧ F = p :: G ∧ H p = some (.tup vs) ∧ A.rep d vs H R G
  st := by
    rintro d v H H' F R R' ⟨p, vs, Fs, e1, e2, h, r⟩ s k
    exact ⟨p, vs, Fs, e1, e2, by rw [k p (by rw [e2]; exact List.mem_cons_self)]; exact h, A.st r s fun q hq => k q (by rw [e2]; exact List.mem_cons_of_mem _ hq)⟩
  tb := by
    rintro d v H F R ⟨p, vs, Fs, e1, e2, h, r⟩ q hq
    rw [e2] at hq
    rcases List.mem_cons.mp hq with e | hq
    · subst e; exact ⟨_, h, rfl⟩
    · exact A.tb r q hq
  fz := by
    rintro d v H F R R' ⟨p, vs, Fs, e1, e2, h, r⟩ s k
    exact ⟨p, vs, e1, k p (by rw [e2]; exact List.mem_cons_self) _ h, A.fz r s fun q hq => k q (by rw [e2]; exact List.mem_cons_of_mem _ hq)⟩
/-- a list of things of several kinds -/
def wHl {δ : Type} (A : WAr δ) : WTy δ where
  T := tHl A.A
  rep := fun d v H R F => ∃ p vs G, v = .ref p ∧ F = p :: G ∧ H p = some (.lst vs) ∧ A.rep d vs H R G
  st := by
    rintro d v H H' F R R' ⟨p, vs, Fs, e1, e2, h, r⟩ s k
    exact ⟨p, vs, Fs, e1, e2, by rw [k p (by rw [e2]; exact List.mem_cons_self)]; exact h, A.st r s fun q hq => k q (by rw [e2]; exact List.mem_cons_of_mem _ hq)⟩
  tb := by
    rintro d v H F R ⟨p, vs, Fs, e1, e2, h, r⟩ q hq
    rw [e2] at hq
    rcases List.mem_cons.mp hq with e | hq
    · subst e; exact ⟨_, h, rfl⟩
    · exact A.tb r q hq
  fz := by
    rintro d v H F R R' ⟨p, vs, Fs, e1, e2, h, r⟩ s k
    exact ⟨p, vs, e1, k p (by rw [e2]; exact List.mem_cons_self) _ h, A.fz r s fun q hq => k q (by rw [e2]; exact List.mem_cons_of_mem _ hq)⟩
/-- an object of the class at C, its fields of these names -/
def wIns {δ : Type} (C : Addr) (ns : List Str) (A : WAr δ) : WTy δ where
  T := tIns C (A.fl ns)
  rep := fun d v H R F => ∃ p dx vs G, v = .ref p ∧ F = p :: G ∧ H p = some (.ins C dx (ns.zip vs)) ∧ ns.length = vs.length ∧ A.rep d vs H R G
  st := by
    rintro d v H H' F R R' ⟨p, dx, vs, Fs, e1, e2, h, hl, r⟩ s k
    exact ⟨p, dx, vs, Fs, e1, e2, by rw [k p (by rw [e2]; exact List.mem_cons_self)]; exact h, hl, A.st r s fun q hq => k q (by rw [e2]; exact List.mem_cons_of_mem _ hq)⟩
  tb := by
    rintro d v H F R ⟨p, dx, vs, Fs, e1, e2, h, hl, r⟩ q hq
    rw [e2] at hq
    rcases List.mem_cons.mp hq with e | hq
    · subst e; exact ⟨_, h, rfl⟩
    · exact A.tb r q hq
  fz := by
    rintro d v H F R R' ⟨p, dx, vs, Fs, e1, e2, h, hl, r⟩ s k
    exact ⟨p, dx, _, e1, k p (by rw [e2]; exact List.mem_cons_self) _ h, A.fzF hl r s fun q hq => k q (by rw [e2]; exact List.mem_cons_of_mem _ hq)⟩
/-- what holds of all leaves however they are read -/
def FlatW {α : Type} (O : WTy α) : Prop := ∀ {d v H F} {R R' : RdR}, O.rep d v H R F → O.rep d v H R' F
section
variable {α β δ : Type} {O : WTy α} {A : WAr δ} {T : Ty α} {C : Addr} {ns : List Str}
theorem fw_v (h : Flat T) : FlatW (wV T) := fun ⟨e, r⟩ => ⟨e, h r⟩
theorem fw_reps (h : FlatW O) {H : Hp} {R R' : RdR} {ds : List α} {vs : List V} {Fs : List (List Addr)} (r : RepsO O H R ds vs Fs) : RepsO O H R' ds vs Fs := by
  induction r with
  | nil => exact .nil
  | cons q _ ih => exact .cons (h q) ih
theorem fw_l (h : FlatW O) : FlatW (wL O) := fun ⟨p, vs, Fs, e1, e2, q, r⟩ => ⟨p, vs, Fs, e1, e2, q, fw_reps h r⟩
end
/-- a slot of things of one's own; px: which value it is -/
def sP {α : Type} (px : V → Prop) (O : WTy α) (d : α) : Slot := ⟨fun v H R F => ∃ x, v = some x ∧ px x ∧ O.rep d x H (R false) F, fun ⟨x, e, hx, r⟩ s k => ⟨x, e, hx, O.st r (s false) k⟩,
  fun ⟨x, e, hx, r⟩ p hp => by obtain ⟨o, h, g⟩ := O.tb r p hp; rw [cl_of h (gd_nt g)]; exact fun z => nomatch z⟩
abbrev sO {α : Type} (O : WTy α) (d : α) : Slot := sP (fun _ => True) O d
abbrev sA {α : Type} (x : V) (O : WTy α) (d : α) : Slot := sP (fun v => v = x) O d
def FinN {β : Type} (fm : Fm) (W : Wx) (own : List Addr) (σ : L2.St) (H : Hp) (O : WTy β) (Q : VK) : M β → Prop
  | .ok d => ∀ v F H', Same H H' → F.Nodup → (∀ p ∈ F, H p = none) → O.rep d v H' (RD fm (F ++ own) H') F → Q v H'
  | .ex c => ∀ H', Same H H' → W c σ H'
  | .no => False
def EvN (g : G) (L : List Slot) (e : Expr) {β : Type} (O : WTy β) (m : M β) : Prop := PE g.X e (fun σ H Q => ∃ kp own, At g.fm kp L σ H own ∧ FinN g.fm g.W own σ H O Q m)
theorem RD.drop {fm : Fm} {own own' : List Addr} {H : Hp} (k : ∀ p ∈ own', p ∈ own) : ∀ a o, RD fm own H a o → RD fm own' H a o := RX.own (md := .sh) (H := H) k
/-- read ahead: what was there is none of the new -/
theorem RD.newer {fm : Fm} {own F : List Addr} {H H' : Hp} (s : Same H H') (n : ∀ p ∈ F, H p = none) : ∀ a o, RD fm own H a o → RD fm (F ++ own) H' a o := fun a o r => by
  rcases r with ⟨r1, r2, r3⟩ | r
  · refine .inl ⟨Rd.same s r1, fun h => ?_, r3⟩
    rcases List.mem_append.mp h with h | h
    · have := n a h
      rcases r1 with r1 | ⟨_, r1⟩ <;> rw [cl_none this] at r1 <;> cases r1
    · exact r2 h
  · exact .inr r
section
variable {p : Pr} {sc : Scope} {NN VV GG : List Str} {k : Nat} {g : G} {L L' : List Slot} {a b c e e' : Expr} {es : List Expr} {md md' : Md} {α β γ δ ρ : Type} {S : Ty α} {T : Ty β} {U : Ty γ} {O : WTy α} {A : WAr δ} {pos pp : Pos} {i j : Nat} {x : Str}
theorem evn_v {m : M α} (h : EvE g L e md S m) : EvN g L e (wV S) m := PE.imp h fun σ H Q ⟨kp, own, at_, q⟩ => by
  refine tE_iff.mpr ⟨kp, own, at_, ?_⟩
  cases m with
  | ok d => exact fun v H' s r => q v [] H' s List.nodup_nil (fun _ hp => nomatch hp) ⟨rfl, S.mono r fun a o z => RX.sh a o z⟩
  | ex c => exact q
  | no => exact q
theorem evn_l {m : M (List α)} (h : EvL g L e md S m) : EvN g L e (wL (wV S)) m := PE.imp h fun σ H Q ⟨kp, own, at_, q⟩ => by
  refine tL_iff.mpr ⟨kp, own, at_, ?_⟩
  cases m with
  | ok ds =>
    intro p vs H' s n h' r
    have fl : ∀ {ds : List α} {vs : List V} {R : RdR}, Reps S R ds vs → ∃ Fs, RepsO (wV S) H' R ds vs Fs ∧ Fs.flatten = [] := fun {ds vs R} r => by
      induction r with
      | nil => exact ⟨[], .nil, rfl⟩
      | cons r _ ih => obtain ⟨Fs, h1, h2⟩ := ih; exact ⟨[] :: Fs, .cons ⟨rfl, r⟩ h1, by simpa using h2⟩
    obtain ⟨Fs, r1, e1⟩ := fl (r.mono fun a o z => RX.sh a o z)
    exact q (.ref p) [p] H' s (by simp) (fun q hq => by rw [List.mem_singleton.mp hq]; exact n) ⟨p, vs, Fs, rfl, by rw [e1], h', r1⟩
  | ex c => exact q
  | no => exact q
end
end Hd
namespace Hd
open PySem PySem.Spec L2
structure Plc (H : Hp) (R : RdR) {α : Type} (O : WTy α) (v : V) (F : List Addr) {β : Type} (O2 : WTy β) (d2 : β) (put : β → α) (v2 : V) (F2 : List Addr) : Prop where
  rep : O2.rep d2 v2 H R F2
  sub : ∀ p ∈ F2, p ∈ F
  nd : F2.Nodup
  up : ∀ {H' : Hp} {R' : RdR} {d2' : β} {F2' : List Addr}, (∀ a o, R a o → R' a o) → (∀ p ∈ F, p ∉ F2 → H' p = H p) → O2.rep d2' v2 H' R' F2' → F2'.Nodup → (∀ p ∈ F2', p ∈ F2 ∨ p ∉ F) →
    ∃ F', O.rep (put d2') v H' R' F' ∧ F'.Nodup ∧ ∀ p ∈ F', p ∈ F2' ∨ (p ∈ F ∧ p ∉ F2)
/-- the item k of written items -/
inductive WAt : {δ : Type} → WAr δ → Nat → {α : Type} → WTy α → (δ → α) → (δ → α → δ) → Prop where
  | z {α δ : Type} {O : WTy α} {A : WAr δ} : WAt (waCons O A) 0 O (fun d => d.1) (fun d y => (y, d.2))
  | s {α β δ : Type} {O : WTy α} {O' : WTy β} {A : WAr δ} {k : Nat} {pr : δ → α} {st : δ → α → δ} : WAt A k O pr st → WAt (waCons O' A) (k + 1) O (fun d => pr d.2) (fun d y => (d.1, st d.2 y))
section
variable {α β γ δ : Type} {O : WTy α} {O2 : WTy β} {O3 : WTy γ} {A : WAr δ} {H H' : Hp} {R R' : RdR} {v v2 : V} {F F2 G : List Addr} {d : α} {d2 : β} {put : β → α}
theorem Plc.root (r : O.rep d v H R F) (nd : F.Nodup) : Plc H R O v F O d (fun y => y) v F := ⟨r, fun _ h => h, nd, fun _ _ r' nd' _ => ⟨_, r', nd', fun _ hp => .inl hp⟩⟩
theorem Plc.ext (h : Plc H R O v F O2 d2 put v2 F2) (s : ∀ a o, R a o → R' a o) (k : ∀ p ∈ F, H' p = H p) : Plc H' R' O v F O2 d2 put v2 F2 :=
  ⟨O2.st h.rep s fun p hp => k p (h.sub p hp), h.sub, h.nd, fun s' k' r' nd' n' => h.up (fun a o z => s' a o (s a o z)) (fun p hp hn => (k' p hp hn).trans (k p hp)) r' nd' n'⟩
theorem Plc.item {ds : List γ} {put : List γ → α} (h : Plc H R O v F (wL O3) ds put v2 F2) {i : Nat} {x : γ} (e : ds[i]? = some x) :
    ∃ p vs v3 F3, v2 = .ref p ∧ p ∈ F2 ∧ H p = some (.lst vs) ∧ vs.length = ds.length ∧ vs[i]? = some v3 ∧ (∀ q ∈ F3, q ∈ F2) ∧ Plc H R O v F O3 x (fun y => put (ds.set i y)) v3 F3 := by
  obtain ⟨p, vs, Fs, e1, e2, hp, rr⟩ := h.rep
  obtain ⟨v3, F3, e3, e4, r3⟩ := rr.get e
  have nd := h.nd
  rw [e2, List.nodup_cons] at nd
  have s3 : ∀ q ∈ F3, q ∈ Fs.flatten := flat_mem e4
  have s32 : ∀ q ∈ F3, q ∈ F2 := fun q hq => by rw [e2]; exact List.mem_cons_of_mem _ (s3 q hq)
  have pF2 : p ∈ F2 := by rw [e2]; exact List.mem_cons_self
  refine ⟨p, vs, v3, F3, e1, pF2, hp, rr.length.symm, e3, s32, r3, fun q hq => h.sub q (s32 q hq), flat_nd nd.2 e4, fun {H' R' d3' F3'} s k r' nd' n' => ?_⟩
  have np3 : p ∉ F3 := fun hq => nd.1 (s3 p hq)
  have n3' : ∀ q ∈ F3', q ∈ F3 ∨ q ∉ Fs.flatten := fun q hq => (n' q hq).imp id fun hn hq' => hn (h.sub q (by rw [e2]; exact List.mem_cons_of_mem _ hq'))
  have np : p ∉ (Fs.set i F3').flatten := fun hq => by
    rcases flat_set_mem nd.2 e4 p hq with hq | ⟨hq, _⟩
    · rcases n' p hq with hq | hq
      · exact np3 hq
      · exact hq (h.sub p pF2)
    · exact nd.1 hq
  obtain ⟨F', r4, nd4, n4⟩ := h.up (d2' := ds.set i d3') (F2' := p :: (Fs.set i F3').flatten) s (fun q hq hn => k q hq fun hq' => hn (s32 q hq'))
    ⟨p, vs, Fs.set i F3', e1, rfl, by rw [k p (h.sub p pF2) np3]; exact hp, rr.chg s nd.2 e4 e3 (fun q hq hn => k q (h.sub q (by rw [e2]; exact List.mem_cons_of_mem _ hq)) hn) r'⟩
    (List.nodup_cons.mpr ⟨np, flat_set_nd nd.2 e4 nd' n3'⟩) (fun q hq => by
      rcases List.mem_cons.mp hq with hq | hq
      · subst hq; exact .inl pF2
      · rcases flat_set_mem nd.2 e4 q hq with hq | ⟨hq, _⟩
        · exact (n' q hq).imp (s32 q) id
        · exact .inl (by rw [e2]; exact List.mem_cons_of_mem _ hq))
  refine ⟨F', r4, nd4, fun q hq => ?_⟩
  rcases n4 q hq with hq | ⟨hq, hn⟩
  · rcases List.mem_cons.mp hq with hq | hq
    · subst hq; exact .inr ⟨h.sub _ pF2, np3⟩
    · rcases flat_set_mem nd.2 e4 q hq with hq | ⟨hq, hn⟩
      · exact .inl hq
      · exact .inr ⟨h.sub q (by rw [e2]; exact List.mem_cons_of_mem _ hq), hn⟩
  · exact .inr ⟨hq, fun hq' => hn (s32 q hq')⟩
theorem WAt.get {k : Nat} {pr : δ → γ} {st : δ → γ → δ} (h : WAt A k O3 pr st) : ∀ {d : δ} {vs : List V} {G : List Addr}, A.rep d vs H R G → G.Nodup → ∃ v3 F3, vs[k]? = some v3 ∧ O3.rep (pr d) v3 H R F3 ∧ (∀ q ∈ F3, q ∈ G) ∧ F3.Nodup ∧
    ∀ {H' R' y F3'}, (∀ a o, R a o → R' a o) → (∀ q ∈ G, q ∉ F3 → H' q = H q) → O3.rep y v3 H' R' F3' → F3'.Nodup → (∀ q ∈ F3', q ∈ F3 ∨ q ∉ G) → ∃ G', A.rep (st d y) vs H' R' G' ∧ G'.Nodup ∧ ∀ q ∈ G', q ∈ F3' ∨ (q ∈ G ∧ q ∉ F3) := by
  induction h with
  | z =>
    rintro d vs G ⟨v, r, F1, F2, e1, e2, h1, h2⟩ nd
    subst e1; subst e2
    rw [List.nodup_append] at nd
    refine ⟨v, F1, rfl, h1, fun q hq => List.mem_append_left _ hq, nd.1, fun {H' R' y F3'} s k r' nd' n' => ?_⟩
    have dj : ∀ q ∈ F2, q ∉ F1 := fun q hq hq' => nd.2.2 q hq' q hq rfl
    refine ⟨F3' ++ F2, ⟨v, r, F3', F2, rfl, rfl, r', WAr.st _ h2 s fun q hq => k q (List.mem_append_right _ hq) (dj q hq)⟩, List.nodup_append.mpr ⟨nd', nd.2.1, fun a ha b hb e => ?_⟩, fun q hq => ?_⟩
    · subst e
      rcases n' a ha with hq | hq
      · exact dj a hb hq
      · exact hq (List.mem_append_right _ hb)
    · rcases List.mem_append.mp hq with hq | hq
      · exact .inl hq
      · exact .inr ⟨List.mem_append_right _ hq, dj q hq⟩
  | s _ ih =>
    rintro d vs G ⟨v, r, F1, F2, e1, e2, h1, h2⟩ nd
    subst e1; subst e2
    rw [List.nodup_append] at nd
    obtain ⟨v3, F3, e3, r3, s3, nd3, up3⟩ := ih h2 nd.2.1
    have dj : ∀ q ∈ F1, q ∉ F2 := fun q hq hq' => nd.2.2 q hq q hq' rfl
    refine ⟨v3, F3, by simpa using e3, r3, fun q hq => List.mem_append_right _ (s3 q hq), nd3, fun {H' R' y F3'} s k r' nd' n' => ?_⟩
    obtain ⟨G', r4, nd4, n4⟩ := up3 s (fun q hq hn => k q (List.mem_append_right _ hq) hn) r' nd' (fun q hq => (n' q hq).imp id fun hn hq' => hn (List.mem_append_right _ hq'))
    refine ⟨F1 ++ G', ⟨v, r, F1, G', rfl, rfl, WTy.st _ h1 s fun q hq => k q (List.mem_append_left _ hq) fun hq' => dj q hq (s3 q hq'), r4⟩, List.nodup_append.mpr ⟨nd.1, nd4, fun a ha b hb e => ?_⟩, fun q hq => ?_⟩
    · subst e
      rcases n4 a hb with hq | ⟨hq, _⟩
      · rcases n' a hq with hq | hq
        · exact dj a ha (s3 a hq)
        · exact hq (List.mem_append_left _ ha)
      · exact dj a ha hq
    · rcases List.mem_append.mp hq with hq | hq
      · exact .inr ⟨List.mem_append_left _ hq, fun hq' => dj q hq (s3 q hq')⟩
      · rcases n4 q hq with hq | ⟨hq, hn⟩
        · exact .inl hq
        · exact .inr ⟨List.mem_append_right _ hq, hn⟩
/-- a part of a thing that stands at one address and holds written items -/
theorem Plc.part {dd : δ} {put : δ → α} {B : WTy δ} {con : List V → HO} (h : Plc H R O v F B dd put v2 F2) {p : Addr} {vs : List V} {G : List Addr}
    (e1 : v2 = .ref p) (e2 : F2 = p :: G) (hp : H p = some (con vs)) (rr : A.rep dd vs H R G) (cl : ∀ H' R' d' G', H' p = some (con vs) → A.rep d' vs H' R' G' → B.rep d' v2 H' R' (p :: G'))
    {k : Nat} {pr : δ → γ} {st : δ → γ → δ} (hA : WAt A k O3 pr st) :
    ∃ v3 F3, vs[k]? = some v3 ∧ (∀ q ∈ F3, q ∈ F2) ∧ Plc H R O v F O3 (pr dd) (fun y => put (st dd y)) v3 F3 := by
  have nd := h.nd
  rw [e2, List.nodup_cons] at nd
  obtain ⟨v3, F3, e3, r3, s3, nd3, up3⟩ := hA.get rr nd.2
  have s32 : ∀ q ∈ F3, q ∈ F2 := fun q hq => by rw [e2]; exact List.mem_cons_of_mem _ (s3 q hq)
  have pF2 : p ∈ F2 := by rw [e2]; exact List.mem_cons_self
  have np3 : p ∉ F3 := fun hq => nd.1 (s3 p hq)
  refine ⟨v3, F3, e3, s32, r3, fun q hq => h.sub q (s32 q hq), nd3, fun {H' R' d3' F3'} s k r' nd' n' => ?_⟩
  obtain ⟨G', r4, nd4, n4⟩ := up3 s (fun q hq hn => k q (h.sub q (by rw [e2]; exact List.mem_cons_of_mem _ hq)) hn) r' nd' (fun q hq => (n' q hq).imp id fun hn hq' => hn (h.sub q (by rw [e2]; exact List.mem_cons_of_mem _ hq')))
  have np : p ∉ G' := fun hq => by
    rcases n4 p hq with hq | ⟨hq, _⟩
    · rcases n' p hq with hq | hq
      · exact np3 hq
      · exact hq (h.sub p pF2)
    · exact nd.1 hq
  obtain ⟨F', r5, nd5, n5⟩ := h.up (d2' := st dd d3') (F2' := p :: G') s (fun q hq hn => k q hq fun hq' => hn (s32 q hq')) (cl _ _ _ _ (by rw [k p (h.sub p pF2) np3]; exact hp) r4) (List.nodup_cons.mpr ⟨np, nd4⟩) (fun q hq => by
      rcases List.mem_cons.mp hq with hq | hq
      · subst hq; exact .inl pF2
      · rcases n4 q hq with hq | ⟨hq, _⟩
        · exact (n' q hq).imp (s32 q) id
        · exact .inl (by rw [e2]; exact List.mem_cons_of_mem _ hq))
  refine ⟨F', r5, nd5, fun q hq => ?_⟩
  rcases n5 q hq with hq | ⟨hq, hn⟩
  · rcases List.mem_cons.mp hq with hq | hq
    · subst hq; exact .inr ⟨h.sub _ pF2, np3⟩
    · rcases n4 q hq with hq | ⟨hq, hn⟩
      · exact .inl hq
      · exact .inr ⟨h.sub q (by rw [e2]; exact List.mem_cons_of_mem _ hq), hn⟩
  · exact .inr ⟨hq, fun hq' => hn (s32 q hq')⟩
end
/-- slot i holds a thing of one's own, of which d2 at v2 is a place -/
def AtP (fm : Fm) (L : List Slot) (σ : L2.St) (own : List Addr) (Fs : List (List Addr)) (i : Nat) (px : V → Prop) {α : Type} (O : WTy α) (d : α) (H : Hp) {β : Type} (O2 : WTy β) (d2 : β) (put : β → α) (v2 : V) (F2 : List Addr) : Prop :=
  ∃ v F, L[i]? = some (sP px O d) ∧ AllS H (RB fm own H) L σ Fs ∧ own = Fs.flatten ∧ σ[i]? = some (some v) ∧ px v ∧ Fs[i]? = some F ∧ Plc H (RD fm own H) O v F O2 d2 put v2 F2
section
variable {fm : Fm} {kp : RdR} {L : List Slot} {σ : L2.St} {H H' : Hp} {own : List Addr} {i : Nat} {px : V → Prop} {α β γ : Type} {O : WTy α} {O2 : WTy β} {d : α} {d2 : β} {put : β → α} {v2 : V} {F2 : List Addr} {Fs : List (List Addr)}
theorem At.gdo (h : At fm kp L σ H own) (hA : AtP fm L σ own Fs i px O d H O2 d2 put v2 F2) : ∀ p ∈ F2, p ∈ own := by
  obtain ⟨v, F, hL, hs, e, e1, hx, e2, pl⟩ := hA
  exact fun p hp => by rw [e]; exact flat_mem e2 p (pl.sub p hp)
theorem AtP.ext (hA : AtP fm L σ own Fs i px O d H O2 d2 put v2 F2) (s : Same H H') : AtP fm L σ own Fs i px O d H' O2 d2 put v2 F2 := by
  obtain ⟨v, F, hL, hs, e, e1, hx, e2, pl⟩ := hA
  have k : ∀ p ∈ Fs.flatten, H' p = H p := fun p hp => by
    cases r : cl H p with
    | none => exact absurd r (hs.tb p hp)
    | some o => rw [cl_raw r]; exact s.keep _ _ (cl_raw r) (cl_nt r)
  exact ⟨v, F, hL, hs.st (RB.same s) k, e, e1, hx, e2, pl.ext (RD.same s) fun p hp => k p (flat_mem e2 p hp)⟩
theorem At.toP (h : At fm kp L σ H own) (hs : AllS H (RB fm own H) L σ Fs) (e : own = Fs.flatten) (hL : L[i]? = some (sP px O d)) : ∃ v F, σ[i]? = some (some v) ∧ AtP fm L σ own Fs i px O d H O d (fun y => y) v F := by
  obtain ⟨v0, F, e1, e2, v, rfl, hx, r⟩ := hs.get hL
  have nd := h.nd
  rw [e] at nd
  exact ⟨v, F, e1, v, F, hL, hs, e, e1, hx, e2, Plc.root r (flat_nd nd e2)⟩
/-- one slot changes -/
theorem AllS.chg {R R' : Bool → RdR} {s' : Slot} : ∀ {L : List Slot} {σ : L2.St} {Fs : List (List Addr)} {i : Nat} {F F' : List Addr} {v : Option V}, AllS H R L σ Fs → Fs.flatten.Nodup → Fs[i]? = some F → σ[i]? = some v → (∀ b a o, R b a o → R' b a o) → (∀ p ∈ Fs.flatten, p ∉ F → H' p = H p) → s'.ok v H' R' F' → AllS H' R' (L.set i s') σ (Fs.set i F') := by
  intro L σ Fs i F F' v h
  induction h generalizing i with
  | nil => intro _ e; simp at e
  | @cons sl L v0 σ F0 Fs r t ih =>
    intro nd e1 e2 s k r'
    rw [List.flatten_cons, List.nodup_append] at nd
    cases i with
    | zero =>
      simp at e1 e2
      subst e1; subst e2
      exact .cons r' (t.st s fun p hp => k p (by simp only [List.flatten_cons, List.mem_append]; exact .inr hp) fun hp' => nd.2.2 p hp' p hp rfl)
    | succ i =>
      have e1' : Fs[i]? = some F := by simpa using e1
      refine .cons (sl.st r s fun p hp => k p (by simp [hp]) fun hp' => nd.2.2 p hp p (flat_mem e1' p hp') rfl) ?_
      exact ih nd.2.1 e1' (by simpa using e2) s (fun p hp => k p (by simp only [List.flatten_cons, List.mem_append]; exact .inr hp)) r'
/-- the heap without some things -/
def hm (H : Hp) (F : List Addr) : Hp := fun a => if a ∈ F then none else H a
theorem hm_in {H : Hp} {F : List Addr} {a : Addr} (h : a ∈ F) : hm H F a = none := by unfold hm; rw [if_pos h]
theorem hm_out {H : Hp} {F : List Addr} {a : Addr} (h : a ∉ F) : hm H F a = H a := by unfold hm; rw [if_neg h]
/-- the place changes, and nothing else that was there -/
theorem At.chg {d2' : β} {F2' : List Addr} (h : At fm kp L σ H own) (hA : AtP fm L σ own Fs i px O d H O2 d2 put v2 F2)
    (sm : Same (hm H F2) H') (nd' : F2'.Nodup) (n1 : ∀ p ∈ F2', p ∈ F2 ∨ H p = none) (n2 : ∀ p ∈ F2', H' p ≠ none)
    (r' : O2.rep d2' v2 H' (RD fm (F2' ++ own) H') F2') : ∃ own', At fm kp (L.set i (sP px O (put d2'))) σ H' own' ∧ ∀ p ∈ own', p ∈ F2' ∨ (p ∈ own ∧ p ∉ F2) := by
  have sub2 := h.gdo hA
  obtain ⟨v, F, hL, hs, e, e1, hx, e2, pl⟩ := hA
  obtain ⟨h1, h2, _, h4, h5, h6⟩ := h
  have nd := h4
  rw [e] at nd
  have keep : ∀ a o, H a = some o → nt o = true → a ∉ F2 → H' a = some o := fun a o ea na hn => sm.keep a o (by rw [hm_out hn]; exact ea) na
  have fr : ∀ a, H' a = none → a ∉ F2 → H a = none := fun a ea hn => by have := sm.fr a ea; rwa [hm_out hn] at this
  have tab : ∀ P, LamX.TabS H P lamQ → LamX.TabS H' P lamQ := fun P t => sm.tab P (by
    obtain ⟨ps, t1, t2, t3⟩ := t
    have ng : ∀ a o, H a = some o → gd o = false → a ∉ F2 := fun a o ea ga q => by
      obtain ⟨o', ho', go'⟩ := O2.tb pl.rep a q
      rw [ea] at ho'; cases ho'
      rw [ga] at go'; cases go'
    refine ⟨ps, by rw [hm_out (ng P _ t1 rfl)]; exact t1, t2, fun pos cv hc => ?_⟩
    obtain ⟨c, c1, c2⟩ := t3 pos cv hc
    exact ⟨c, c1, by rw [hm_out (ng c _ c2 rfl)]; exact c2⟩)
  have kcl : ∀ a o, cl H a = some o → a ∉ F2 → cl H' a = some o := fun a o ea hn => cl_of (keep a o (cl_raw ea) (cl_nt ea) hn) (cl_nt ea)
  have keq : ∀ a, cl H a ≠ none → a ∉ F2 → H' a = H a := fun a ha hn => by
    cases r : cl H a with
    | none => exact absurd r ha
    | some o => rw [cl_raw r]; exact keep a o (cl_raw r) (cl_nt r) hn
  have rdn : ∀ a o, RD fm own H a o → RD fm (F2' ++ own) H' a o := fun a o z => by
    rcases z with ⟨z1, z2, z3⟩ | z
    · have hne : H a ≠ none := fun q => by rcases z1 with z1 | ⟨_, z1⟩ <;> rw [cl_none q] at z1 <;> cases z1
      have n2 : a ∉ F2 := fun q => z2 (sub2 a q)
      refine .inl ⟨z1.imp (fun q => kcl a _ q n2) fun ⟨f, q⟩ => ⟨f, kcl a _ q n2⟩, fun hq => ?_, z3⟩
      rcases List.mem_append.mp hq with hq | hq
      · rcases n1 a hq with hq | hq
        · exact z2 (sub2 a hq)
        · exact hne hq
      · exact z2 hq
    · exact .inr z
  obtain ⟨F', r4, nd4, n4⟩ := pl.up rdn (fun p hp hn => keq p (hs.tb p (flat_mem e2 p hp)) hn) r' nd' (fun p hp => (n1 p hp).imp id fun q hq => (h5 p (by rw [e]; exact flat_mem e2 p hq)).1 q)
  have nF : ∀ p ∈ (Fs.set i F').flatten, p ∈ F2' ∨ (p ∈ own ∧ p ∉ F2) := fun p hp => by
    rcases flat_set_mem nd e2 p hp with hp | ⟨hp, hn⟩
    · rcases n4 p hp with hp | ⟨hp, hn⟩
      · exact .inl hp
      · exact .inr ⟨by rw [e]; exact flat_mem e2 p hp, hn⟩
    · exact .inr ⟨by rw [e]; exact hp, fun q => hn (pl.sub p q)⟩
  have dr : ∀ a o, RD fm (F2' ++ own) H' a o → RD fm (Fs.set i F').flatten H' a o := RD.drop fun p hp => List.mem_append.mpr ((nF p hp).imp id (·.1))
  have keyB : ∀ b a o, RB fm own H b a o → RB fm (Fs.set i F').flatten H' b a o := fun b a o z => by
    cases b with
    | false => exact dr a o (rdn a o z)
    | true =>
      obtain ⟨z1, z2, z3, z4⟩ := z
      have hne : H a ≠ none := fun q => by rw [cl_none q] at z1; cases z1
      refine ⟨kcl a _ z1 fun q => z2 (sub2 a q), fun hq => ?_, z3, z4⟩
      rcases nF a hq with hq | ⟨hq, _⟩
      · rcases n1 a hq with hq | hq
        · exact z2 (sub2 a hq)
        · exact hne hq
      · exact z2 hq
  have sH : Same fm.H0 H' := by
    refine ⟨fun a o ea na => keep a o (h1.keep a o ea na) na (fun q => by have := (h5 a (sub2 a q)).2.1; rw [this] at ea; cases ea), fun a ea => ?_, fun P t => tab P (h1.tab P t)⟩
    by_cases q2 : a ∈ F2
    · exact (h5 a (sub2 a q2)).2.1
    · exact h1.fr a (fr a ea q2)
  refine ⟨_, ⟨sH, fun a z ea => ?_, ⟨Fs.set i F', hs.chg nd e2 e1 keyB (fun p hp hn => keq p (hs.tb p hp) fun q => hn (pl.sub p q)) (s' := sP px O (put d2')) ⟨v, rfl, hx, O.st r4 dr fun _ _ => rfl⟩, rfl⟩, flat_set_nd nd e2 nd4 (fun p hp => ?_), fun p hp => ?_, fun a o z => dr a o (rdn a o (h6 a o z))⟩, nF⟩
  · exact h2 a z (fr a ea fun q => (h5 a (sub2 a q)).2.2 z)
  · rcases n4 p hp with hp | ⟨hp, _⟩
    · rcases n1 p hp with hp | hp
      · exact .inl (pl.sub p hp)
      · exact .inr fun q => (h5 p (by rw [e]; exact q)).1 hp
    · exact .inl hp
  · rcases nF p hp with hp | ⟨hp, hn⟩
    · refine ⟨n2 p hp, ?_, ?_⟩
      · rcases n1 p hp with hq | hq
        · exact (h5 p (sub2 p hq)).2.1
        · exact h1.free hq
      · rcases n1 p hp with hq | hq
        · exact (h5 p (sub2 p hq)).2.2
        · exact fun z => h2 p z hq
    · have q := h5 p hp
      exact ⟨fun z => q.1 (fr p z hn), q.2⟩
end
end Hd
namespace Hd
open PySem PySem.Spec L2
def FinP (fm : Fm) (W : Wx) (L : List Slot) (own : List Addr) (Fs : List (List Addr)) (σ : L2.St) (H : Hp) (i : Nat) (px : V → Prop) {α : Type} (O : WTy α) (d : α) {β : Type} (O2 : WTy β) (Q : VK) : M (β × (β → α)) → Prop
  | .ok q => ∀ v2 F2 H', Same H H' → AtP fm L σ own Fs i px O d H' O2 q.1 q.2 v2 F2 → Q v2 H'
  | .ex c => ∀ H', Same H H' → W c σ H'
  | .no => False
def EvP (g : G) (L : List Slot) (e : Expr) (i : Nat) (px : V → Prop) {α : Type} (O : WTy α) (d : α) {β : Type} (O2 : WTy β) (m : M (β × (β → α))) : Prop := PE g.X e (fun σ H Q => ∃ kp own Fs, At g.fm kp L σ H own ∧ AllS H (RB g.fm own H) L σ Fs ∧ own = Fs.flatten ∧ FinP g.fm g.W L own Fs σ H i px O d O2 Q m)
/-- the item n of a place that is a list -/
def atP {α γ : Type} (q : List γ × (List γ → α)) (n : Int) : M (γ × (γ → α)) :=
  match L2.ixN q.1.length n with
  | some j => match q.1[j]? with
    | some x => .ok (x, fun y => q.2 (q.1.set j y))
    | none => .no
  | none => .no
/-- which field it is -/
def fldIx : List Str → Str → Option Nat
  | [], _ => none
  | n :: ns, f => if f == n then some 0 else (fldIx ns f).map (· + 1)
theorem fld_lookup {f : Str} : ∀ {ns : List Str} {vs : List V} {k : Nat} {v : V}, fldIx ns f = some k → ns.length = vs.length → vs[k]? = some v → (ns.zip vs).lookup f = some v
  | [], vs, k, v, h, _, _ => by cases h
  | n :: ns, [], k, v, h, hl, _ => by cases hl
  | n :: ns, w :: vs, k, v, h, hl, hv => by
    unfold fldIx at h
    rw [List.zip_cons_cons, List.lookup_cons]
    cases e : f == n with
    | true =>
      rw [e, if_pos rfl] at h
      cases h
      simp at hv
      rw [hv]
    | false =>
      rw [e, if_neg (by simp)] at h
      obtain ⟨k', h1, rfl⟩ := Option.map_eq_some_iff.mp h
      exact fld_lookup h1 (by simpa using hl) (by simpa using hv)
def NoEx {α : Type} (m : M α) : Prop := ∀ c, m ≠ .ex c
theorem nx_ok {α : Type} {a : α} : NoEx (.ok a) := fun c h => nomatch h
section
variable {p : Pr} {sc : Scope} {NN VV GG : List Str} {k : Nat} {g : G} {L L' : List Slot} {a b c e e' ix : Expr} {es : List Expr} {md md' : Md} {α β γ δ ρ : Type} {S : Ty α} {T : Ty β} {O : WTy α} {O2 : WTy β} {O3 : WTy γ} {A : WAr ρ} {pos pp : Pos} {i j : Nat} {x f : Str} {px : V → Prop} {d : α}
theorem evp_name (ok : Ok p sc NN VV GG k g) (hN : NN[i]? = some x) (hV : VV[j]? = some x) (hL : L[i]? = some (sP px O d)) : EvP g L (.Name x pos) i px O d O (.ok (d, fun y => y)) := by
  obtain ⟨hv, ho⟩ := ok.vis hV
  obtain ⟨h1, h2, _⟩ := okName_d ho
  refine PE.imp (pe_var (i := i) (by rw [ok.N]; exact hN) hv h1 h2) fun σ H Q ⟨kp, own, Fs, at_, hsl, heo, q⟩ => ?_
  obtain ⟨v, F, e1, hA⟩ := at_.toP hsl heo hL
  exact ⟨v, e1, q v F H (Same.refl H) hA⟩
theorem atP_ok {q : List γ × (List γ → α)} {n : Int} {r : γ × (γ → α)} (h : atP q n = .ok r) : ∃ j, L2.ixN q.1.length n = some j ∧ q.1[j]? = some r.1 ∧ r.2 = fun y => q.2 (q.1.set j y) := by
  unfold atP at h
  split at h
  · rename_i j hj
    split at h
    · rename_i x hx; cases h; exact ⟨j, hj, hx, rfl⟩
    · cases h
  · cases h
theorem atP_ne {q : List γ × (List γ → α)} {n : Int} : NoEx (atP q n) := fun c h => by
  unfold atP at h
  split at h
  · split at h <;> cases h
  · cases h
theorem evp_ix {m : M (List γ × (List γ → α))} {mi : M Int} (ok : Ok p sc NN VV GG k g) (he : EvP g L e i px O d (wL O3) m) (hi : EvE g L ix md tInt mi) (hs : PlainIx ix := by exact fun _ _ => rfl) : EvP g L (.Subscript e ix pos) i px O d O3 (m.bind fun q => mi.bind fun n => atP q n) := by
  refine PE.imp (pe_ix (r := rIxL g.X.K) ix_list he hi hs) fun σ H Q ⟨kp, own, Fs, at_, hsl, heo, q⟩ => ?_
  refine ⟨kp, own, Fs, at_, hsl, heo, ?_⟩
  cases m with
  | ok q0 =>
    intro v2 F2 H1 s1 A1
    refine tE_iff.mpr ⟨kp, own, at_.ext s1, ?_⟩
    cases mi with
    | ok n =>
      intro y H2 s2 r2
      cases (show y = .int n from r2)
      have A2 := A1.ext s2
      have q : FinP g.fm g.W L own Fs σ H i px O d O3 Q (atP q0 n) := q
      cases hr : atP q0 n with
      | ok r =>
        rw [hr] at q
        obtain ⟨j, h1, h2, h3⟩ := atP_ok hr
        obtain ⟨v, F, hL, hs, e, e1, hx, e2, pl⟩ := A2
        obtain ⟨p', vs, v3, F3, e3, _, hp, hl, e4, _, pl3⟩ := pl.item h2
        refine ⟨p', vs, n, v3, e3, rfl, SqL.of hp, ?_, q v3 F3 H2 (s1.trans s2) ⟨v, F, hL, hs, e, e1, hx, e2, ?_⟩⟩
        · unfold L2.atI; rw [hl, h1]; exact e4
        · rw [h3]; exact pl3
      | ex c => exact absurd hr (atP_ne c)
      | no => rw [hr] at q; exact q.elim
    | ex c => exact fun H' s => q H' (s1.trans s)
    | no => exact q
  | ex c => exact q
  | no => exact q
/-- a field of a place that is an object -/
theorem evp_fld {C : Addr} {ns : List Str} {m : M (ρ × (ρ → α))} {kk : Nat} {pr : ρ → γ} {st : ρ → γ → ρ} (ok : Ok p sc NN VV GG k g) (hc : Cls p.K C) (hn : NoAttr p.K C f) (hA : WAt A kk O3 pr st) (hk : fldIx ns f = some kk) (he : EvP g L e i px O d (wIns C ns A) m)
    (hb : attributeBase e f g.X.env (eval e g.X.env) = eval e g.X.env := by rfl) : EvP g L (.Attribute e f pos) i px O d O3 (m.bind fun q => .ok (pr q.1, fun y => q.2 (st q.1 y))) := by
  refine PE.imp (pe_fld he hb) fun σ H Q ⟨kp, own, Fs, at_, hsl, heo, q⟩ => ?_
  refine ⟨kp, own, Fs, at_, hsl, heo, ?_⟩
  cases m with
  | ok q0 =>
    intro v2 F2 H1 s1 A1
    obtain ⟨v, F, hL, hs, e, e1, hx, e2, pl⟩ := A1
    obtain ⟨p', dx, vs, G, r1, r2, hp, hl, rr⟩ := pl.rep
    obtain ⟨v3, F3, e4, _, pl3⟩ := pl.part (con := fun vs => .ins C dx (ns.zip vs)) r1 r2 hp rr (fun H' R' d' G' h' r' => ⟨p', dx, vs, G', r1, rfl, h', hl, r'⟩) hA
    exact ⟨p', C, dx, _, v3, r1, hp, by rw [ok.K]; exact hc, by rw [ok.K]; exact hn, fld_lookup hk hl e4, q v3 F3 H1 s1 ⟨v, F, hL, hs, e, e1, hx, e2, pl3⟩⟩
  | ex c => exact q
  | no => exact q
theorem evp_hl {m : M (ρ × (ρ → α))} {kk : Nat} {pr : ρ → γ} {st : ρ → γ → ρ} (ok : Ok p sc NN VV GG k g) (hA : WAt A kk O3 pr st) (he : EvP g L e i px O d (wHl A) m) (hi : EvE g L ix md tInt (.ok (kk : Int))) (hs : PlainIx ix := by exact fun _ _ => rfl) : EvP g L (.Subscript e ix pos) i px O d O3 (m.bind fun q => .ok (pr q.1, fun y => q.2 (st q.1 y))) := by
  refine PE.imp (pe_ix (r := rIxL g.X.K) ix_list he hi hs) fun σ H Q ⟨kp, own, Fs, at_, hsl, heo, q⟩ => ?_
  refine ⟨kp, own, Fs, at_, hsl, heo, ?_⟩
  cases m with
  | ok q0 =>
    intro v2 F2 H1 s1 A1
    refine tE_iff.mpr ⟨kp, own, at_.ext s1, ?_⟩
    intro y H2 s2 r2
    cases (show y = .int kk from r2)
    obtain ⟨v, F, hL, hs, e, e1, hx, e2, pl⟩ := A1.ext s2
    obtain ⟨p', vs, G, r1, r2, hp, rr⟩ := pl.rep
    obtain ⟨v3, F3, e4, _, pl3⟩ := pl.part (con := .lst) r1 r2 hp rr (fun H' R' d' G' h' r' => ⟨p', vs, G', r1, rfl, h', r'⟩) hA
    exact ⟨p', vs, kk, v3, r1, rfl, .inl (.inl hp), atI_nat e4, q v3 F3 H2 (s1.trans s2) ⟨v, F, hL, hs, e, e1, hx, e2, pl3⟩⟩
  | ex c => exact q
  | no => exact q
variable {st : List Stmt} {D : δ → Out}
/-- exceptions: the slots ahead of them are told, or there are none -/
def Wkx (g : G) (L : List Slot) (n : Prop) : Prop := Wk L g.LX ∨ n
theorem BOk.exx' {kp : RdR} {E : Ends} {c : Ec} {σ : L2.St} {H : Hp} {own : List Addr} {n : Prop} (wk : Wkx g L n) (hn : n → False) (at_ : At g.fm kp L σ H own) (q : BOk g kp E D (.ex c)) : ∀ H', Same H H' → g.W c σ H' := by
  rcases wk with wk | z
  · exact BOk.exx wk at_ q
  · exact (hn z).elim
/-- one own thing is written -/
theorem hm_wr {H H1 : Hp} {F : List Addr} {q : Addr} {u o : HO} (s : Same H H1) (hq : q ∈ F) (h1 : H1 q = some u) (gu : gd u = true) (hg : ∀ a ∈ F, ∃ o, H a = some o ∧ gd o = true) : Same (hm H F) (upd H1 q o) := by
  have s0 : Same (hm H F) H := by
    refine ⟨fun a o e n => ?_, fun a e => ?_, fun P t => ?_⟩
    · by_cases z : a ∈ F
      · rw [hm_in z] at e; cases e
      · rwa [hm_out z] at e
    · unfold hm; split
      · rfl
      · exact e
    · obtain ⟨ps, t1, t2, t3⟩ := t
      have up : ∀ {a : Addr} {o : HO}, hm H F a = some o → H a = some o := fun {a o} e => by
        by_cases z : a ∈ F
        · rw [hm_in z] at e; cases e
        · rwa [hm_out z] at e
      exact ⟨ps, up t1, t2, fun pos cv hc => let ⟨c, c1, c2⟩ := t3 pos cv hc; ⟨c, c1, up c2⟩⟩
  exact (s0.trans s).wr (hm_in hq) h1 (gd_ext gu) (gd_nt gu)
/-- a list at a place changes -/
theorem At.chgL {fm : Fm} {kp : RdR} {σ : L2.St} {H1 H2 : Hp} {own : List Addr} {ds : List γ} {put : List γ → α} {v2 : V} {F1 F2 : List Addr} {Fs : List (List Addr)} (at1 : At fm kp L σ H1 own) (A1 : AtP fm L σ own Fs i px O d H1 (wL O3) ds put v2 F2) (s2 : Same H1 H2) (nF1 : ∀ q ∈ F1, H1 q = none) (tF1 : ∀ q ∈ F1, H2 q ≠ none) :
    ∃ p vs Gs, v2 = .ref p ∧ p ∈ own ∧ H1 p = some (.lst vs) ∧ H2 p = some (.lst vs) ∧ RepsO O3 H2 (RD fm (F1 ++ own) H2) ds vs Gs ∧ Gs.flatten.Nodup ∧ (∀ q ∈ Gs.flatten, H1 q ≠ none) ∧ (∀ q ∈ F1, q ∉ Gs.flatten) ∧
      ∀ ds' vs' Gs', RepsO O3 H2 (RD fm (F1 ++ own) H2) ds' vs' Gs' → Gs'.flatten.Nodup → (∀ q ∈ Gs'.flatten, q ∈ Gs.flatten ∨ q ∈ F1) → ∃ own', At fm kp (L.set i (sP px O (put ds'))) σ (upd H2 p (.lst vs')) own' ∧ ∀ q ∈ own', q ∈ own ∨ q ∈ F1 := by
  have sub2 := at1.gdo A1
  have A1' := A1
  obtain ⟨v, F, hL, hs, eo, e1, hx, e2, pl⟩ := A1
  obtain ⟨p, vs, Gs, r1, r2, hp, rr⟩ := pl.rep
  have nd := pl.nd
  rw [r2, List.nodup_cons] at nd
  have gH : ∀ q ∈ Gs.flatten, H1 q ≠ none := fun q hq => by obtain ⟨o, ho, _⟩ := rr.tb q hq; rw [ho]; exact fun z => nomatch z
  have h2p : H2 p = some (.lst vs) := s2.keep _ _ hp rfl
  have pF2 : p ∈ F2 := by rw [r2]; exact List.mem_cons_self
  have pown : p ∈ own := sub2 p pF2
  have dj : ∀ q ∈ F1, q ∉ Gs.flatten := fun q h1 h2 => gH q h2 (nF1 q h1)
  have np1 : p ∉ F1 := fun q => by rw [nF1 p q] at hp; cases hp
  have k2 : ∀ q ∈ Gs.flatten, H2 q = H1 q := fun q hq => by obtain ⟨o, ho, go⟩ := rr.tb q hq; rw [ho]; exact s2.keep _ _ ho (gd_nt go)
  refine ⟨p, vs, Gs, r1, pown, hp, h2p, rr.st (RD.newer s2 nF1) k2, nd.2, gH, dj, fun ds' vs' Gs' rr' nd' n' => ?_⟩
  have np : p ∉ Gs'.flatten := fun q => (n' p q).elim nd.1 np1
  have gdF2 : ∀ a ∈ F2, ∃ o, H1 a = some o ∧ gd o = true := fun a ha => by
    rw [r2] at ha
    rcases List.mem_cons.mp ha with e | ha
    · subst e; exact ⟨_, hp, rfl⟩
    · exact rr.tb a ha
  have rd : ∀ a o, RD fm (F1 ++ own) H2 a o → RD fm ((p :: Gs'.flatten) ++ own) (upd H2 p (.lst vs')) a o := fun a o z => by
    rcases z with ⟨z1, z2, z3⟩ | z
    · have ne : a ≠ p := fun e => z2 (by rw [e]; exact List.mem_append_right _ pown)
      refine .inl ⟨?_, fun hq => z2 ?_, z3⟩
      · unfold Rd at z1 ⊢; rw [cl_upd_ne ne]; exact z1
      · rcases List.mem_append.mp hq with hq | hq
        · rcases List.mem_cons.mp hq with e | hq
          · exact absurd e ne
          · rcases n' a hq with h | h
            · exact List.mem_append_right _ (sub2 a (by rw [r2]; exact List.mem_cons_of_mem _ h))
            · exact List.mem_append_left _ h
        · exact List.mem_append_right _ hq
    · exact .inr z
  have n1' : ∀ q ∈ p :: Gs'.flatten, q ∈ F2 ∨ H1 q = none := fun q hq => by
    rcases List.mem_cons.mp hq with e | hq
    · subst e; exact .inl pF2
    · exact (n' q hq).imp (fun h => by rw [r2]; exact List.mem_cons_of_mem _ h) (nF1 q)
  have n2' : ∀ q ∈ p :: Gs'.flatten, upd H2 p (.lst vs') q ≠ none := fun q hq => by
    rcases List.mem_cons.mp hq with e | hq
    · subst e; rw [upd_same]; exact fun z => nomatch z
    · rw [upd_ne fun e => np (by rw [← e]; exact hq)]
      rcases n' q hq with h | h
      · rw [k2 q h]; exact gH q h
      · exact tF1 q h
  obtain ⟨own', a', n3⟩ := at1.chg (d2' := ds') (F2' := p :: Gs'.flatten) A1' (hm_wr (o := .lst vs') s2 pF2 h2p rfl gdF2) (List.nodup_cons.mpr ⟨np, nd'⟩) n1' n2' ⟨p, vs', Gs', r1, rfl, upd_same, rr'.st rd fun q hq => upd_ne fun e => np (by rw [← e]; exact hq)⟩
  refine ⟨own', a', fun q hq => ?_⟩
  rcases n3 q hq with h | h
  · rcases List.mem_cons.mp h with e | h
    · subst e; exact .inl pown
    · rcases n' q h with h | h
      · exact .inl (sub2 q (by rw [r2]; exact List.mem_cons_of_mem _ h))
      · exact .inr h
  · exact .inl h.1
theorem flat_take {Gs : List (List Addr)} {n : Nat} : (Gs.take n).flatten.Sublist Gs.flatten := by
  conv => rhs; rw [← List.take_append_drop n Gs, List.flatten_append]
  exact List.sublist_append_left _ _
theorem flat_snoc {Gs : List (List Addr)} {F : List Addr} : (Gs ++ [F]).flatten = Gs.flatten ++ F := by simp
/-- place.append(e) -/
theorem evb_pAppend {mp : M (List γ × (List γ → α))} {m : M γ} {h : α → M δ} {ap cp : Pos} (ok : OkS p sc NN VV GG k g) (wk : Wkx g L (NoEx mp ∧ NoEx m)) (hp : EvP g L a i px O d (wL O3) mp) (he : EvN g L e O3 m) (hr : ∀ d', EvB g (L.set i (sP px O d')) st D (h d'))
    (hs : swapsWith (.Call (.Attribute a "append" ap) [e] [] cp) none pos.line g.X.env = pure false := by rfl)
    (hbase : attributeBase a "append" g.X.env (eval a g.X.env) = eval a g.X.env := by rfl)
    (hfew : ((backTo cp (starEach [e] g.X.env)).all (fun x => !x.1) && (backToKw cp (keywordEach [] g.X.env)).all (fun x => x.1.isSome)
      && decide (([e] : List Expr).length + ([] : List Keyword).length + (if ([] : List Keyword).isEmpty then 0 else 1) < 30)) = true := by rfl)
    (hline : (ap.endLine == cp.line) = true := by rfl) (hst : starEach [e] g.X.env = (false, eval e g.X.env) :: starEach [] g.X.env := by rfl) (hpl : (backTo cp (starEach [] g.X.env)).any (·.1) = false := by rfl) :
    EvB g L (.Expr (.Call (.Attribute a "append" ap) [e] [] cp) pos :: st) D (mp.bind fun q => m.bind fun x => (pushM q.1 x).bind fun l => h (q.2 l)) := by
  refine PSs.imp (pss_cons (ps_expr (pe_bm PySem.F.plainAttrs_list PySem.F.slot_list_append PySem.F.type_list_append mt_append hp (pa_cons he pa_nil hst) (hbase := hbase) (hfew := hfew) (hline := hline) (hs := hst) (hplain := hpl)) hs) (PSs.ex hr)) fun E σ H ⟨kp, own, at_, q⟩ => ?_
  obtain ⟨Fs, hsl, heo⟩ := at_.sl
  refine ⟨kp, own, Fs, at_, hsl, heo, ?_⟩
  cases mp with
  | ok q0 =>
    intro v2 F2 H1 s1 A1
    have at1 := at_.ext s1
    obtain ⟨p', vs, Gs, r1, _, hp', _⟩ := at1.chgL (F1 := []) A1 (Same.refl H1) (fun _ h => nomatch h) (fun _ h => nomatch h)
    subst r1
    refine ⟨Or.inl ⟨rfl, _, SqL.of hp'⟩, kp, own, at1, ?_⟩
    cases m with
    | ok x =>
      intro w F1 H2 s2 nd1 n1 rw_
      have q : BOk g kp E D ((pushM q0.1 x).bind fun l => h (q0.2 l)) := q
      obtain ⟨p2, vs, Gs, r1, _, _, hp2, rr, nd, gH, dj, up⟩ := at1.chgL A1 s2 n1 (fun q hq => by obtain ⟨o, ho, _⟩ := O3.tb rw_ q hq; rw [ho]; exact fun z => nomatch z)
      cases r1
      unfold pushM at q
      split at q
      · rename_i hlt
        obtain ⟨own', a', _⟩ := up (q0.1 ++ [x]) (vs ++ [w]) (Gs ++ [F1]) (rr.append (.cons rw_ .nil)) (by rw [flat_snoc]; exact List.nodup_append.mpr ⟨nd, nd1, fun a ha b hb e => dj b hb (by rw [← e]; exact ha)⟩) (fun q hq => by rw [flat_snoc] at hq; exact (List.mem_append.mp hq))
        exact ⟨_, vs, w, rfl, rfl, hp2, by rw [← rr.length]; exact hlt, q0.2 (q0.1 ++ [x]), kp, own', a', q⟩
      · exact q.elim
    | ex c => exact BOk.exx' wk (fun n => n.2 c rfl) at1 q
    | no => exact q
  | ex c => exact BOk.exx' wk (fun n => n.1 c rfl) at_ q
  | no => exact q
/-- place.pop() -/
theorem evb_pPop {mp : M (List γ × (List γ → α))} {h : α → M δ} {ap cp : Pos} (ok : OkS p sc NN VV GG k g) (wk : Wkx g L (NoEx mp)) (hp : EvP g L a i px O d (wL O3) mp) (hr : ∀ d', EvB g (L.set i (sP px O d')) st D (h d'))
    (hs : swapsWith (.Call (.Attribute a "pop" ap) [] [] cp) none pos.line g.X.env = pure false := by rfl)
    (hbase : attributeBase a "pop" g.X.env (eval a g.X.env) = eval a g.X.env := by rfl)
    (hline : (ap.endLine == cp.line) = true := by rfl) :
    EvB g L (.Expr (.Call (.Attribute a "pop" ap) [] [] cp) pos :: st) D (mp.bind fun q => (popM q.1).bind fun l => h (q.2 l)) := by
  refine PSs.imp (pss_cons (ps_expr (pe_bm0 PySem.F.plainAttrs_list PySem.F.slot_list_pop PySem.F.type_list_pop mt_pop hp (hbase := hbase) (hline := hline)) hs) (PSs.ex hr)) fun E σ H ⟨kp, own, at_, q⟩ => ?_
  obtain ⟨Fs, hsl, heo⟩ := at_.sl
  refine ⟨kp, own, Fs, at_, hsl, heo, ?_⟩
  cases mp with
  | ok q0 =>
    intro v2 F2 H1 s1 A1
    have at1 := at_.ext s1
    have q : BOk g kp E D ((popM q0.1).bind fun l => h (q0.2 l)) := q
    obtain ⟨p', vs, Gs, r1, _, hp', _, rr, nd, _, _, up⟩ := at1.chgL (F1 := []) A1 (Same.refl H1) (fun _ h => nomatch h) (fun _ h => nomatch h)
    subst r1
    unfold popM at q
    split at q
    · rename_i hlt
      have hl := rr.length
      have hy : vs[vs.length - 1]? = some (vs[vs.length - 1]'(by omega)) := by simp
      have rr2 := rr.take (q0.1.length - 1)
      have e1 : vs.take (q0.1.length - 1) = vs.dropLast := by rw [List.dropLast_eq_take, hl]
      rw [e1, ← List.dropLast_eq_take] at rr2
      have sl : (Gs.take (q0.1.length - 1)).flatten.Sublist Gs.flatten := flat_take
      obtain ⟨own', a', _⟩ := up _ _ _ rr2 (nd.sublist sl) (fun q hq => .inl (sl.subset hq))
      exact ⟨Or.inl ⟨rfl, _, SqL.of hp'⟩, _, vs, _, rfl, rfl, hp', hy, q0.2 q0.1.dropLast, kp, own', a', q⟩
    · exact q.elim
  | ex c => exact BOk.exx' wk (fun n => n c rfl) at_ q
  | no => exact q
/-- place[n] = e, the items shared things -/
theorem evb_pSet {mp : M (List β × (List β → α))} {m : M β} {mi : M Int} {h : α → M δ} {p2 : Pos} (ok : OkS p sc NN VV GG k g) (wk : Wkx g L (NoEx m ∧ NoEx mp ∧ NoEx mi)) (he : EvE g L e md T m) (hp : EvP g L a i px O d (wL (wV T)) mp) (hi : EvE g L ix md' tInt mi) (hr : ∀ d', EvB g (L.set i (sP px O d')) st D (h d'))
    (hs : swapsWith e (some (.Subscript a ix p2)) pos.line g.X.env = pure false := by rfl)
    (hsub : ∀ v, assign (.Subscript a ix p2) g.X.env v = (do
      let ov ← holding [v] (eval a g.X.env)
      let iv ← holding [v, ov] (eval ix g.X.env)
      standAt p2
      holding [v, ov, iv] (setItem ov iv v)
      release [v, ov, iv] []) := by intro _; rfl)
    (hs' : swapsWithSole [.Subscript a ix p2] e pos.line g.X.env = pure false := by rfl) (hw : swappedStores [.Subscript a ix p2] e g.X.env = pure none := by rfl) (ha1 : (assignEach [.Subscript a ix p2] g.X.env).map (·.2) = [assign (.Subscript a ix p2) g.X.env] := by rfl) :
    EvB g L (.Assign [.Subscript a ix p2] e pos :: st) D (m.bind fun x => mp.bind fun q => mi.bind fun n => (setM q.1 n x).bind fun l => h (q.2 l)) := by
  refine PSs.imp (pss_cons (ps_asg he (pg_sub hp hi set_list hsub) hs' hw ha1) (PSs.ex hr)) fun E σ H ⟨kp, own, at_, q⟩ => ?_
  refine tE_iff.mpr ⟨kp, own, at_, ?_⟩
  cases m with
  | ok x =>
    intro w H0 s0 r0
    have at0 := at_.ext s0
    obtain ⟨Fs, hsl, heo⟩ := at0.sl
    refine ⟨kp, own, Fs, at0, hsl, heo, ?_⟩
    cases mp with
    | ok q0 =>
      intro v2 F2 H1 s1 A1
      have at1 := at0.ext s1
      refine tE_iff.mpr ⟨kp, own, at1, ?_⟩
      cases mi with
      | ok n =>
        intro y H2 s2 r2
        cases (show y = .int n from r2)
        have at2 := at1.ext s2
        have q : BOk g kp E D ((setM q0.1 n x).bind fun l => h (q0.2 l)) := q
        obtain ⟨p', vs, Gs, r1, _, hp', _, rr, nd, _, _, up⟩ := at2.chgL (F1 := []) (A1.ext s2) (Same.refl H2) (fun _ h => nomatch h) (fun _ h => nomatch h)
        subst r1
        unfold setM at q
        split at q
        · rename_i j hj
          have rx : (wV T).rep x w H2 (RD g.fm ([] ++ own) H2) [] := ⟨rfl, T.mono r0 fun a o z => RD.same s2 a o (RD.same s1 a o (RX.sh a o z))⟩
          have hj' := ixN_seq hj
          have nd2 : (Gs.set j []).flatten.Sublist Gs.flatten := set_sub
          obtain ⟨own', a', _⟩ := up _ _ _ (rr.set rx j) (nd.sublist nd2) (fun q hq => .inl (nd2.subset hq))
          exact ⟨_, vs, n, j, rfl, rfl, hp', by rw [← rr.length]; exact hj, q0.2 (q0.1.set j x), kp, own', a', q⟩
        · exact q.elim
      | ex c => exact BOk.exx' wk (fun n => n.2.2 c rfl) at1 q
      | no => exact q
    | ex c => exact BOk.exx' wk (fun n => n.2.1 c rfl) at0 q
    | no => exact q
  | ex c => exact BOk.exx' wk (fun n => n.1 c rfl) at_ q
  | no => exact q
end
end Hd
namespace Hd
open PySem PySem.Spec L2
section
variable {p : Pr} {sc : Scope} {NN VV GG : List Str} {k : Nat} {g : G} {L L' : List Slot} {a b c e e' ix : Expr} {es : List Expr} {md md' : Md} {α β γ δ ρ : Type} {S : Ty α} {T : Ty β} {O : WTy α} {O2 : WTy β} {O3 : WTy γ} {A : WAr ρ} {pos pp pos' : Pos} {i j : Nat} {x f : Str} {px : V → Prop} {d : α}
variable {st : List Stmt} {D : δ → Out}
theorem AllS.lenF {H : Hp} {R : Bool → RdR} {L : List Slot} {σ : L2.St} {Fs : List (List Addr)} (h : AllS H R L σ Fs) : Fs.length = L.length := by
  induction h with
  | nil => rfl
  | cons _ _ ih => rw [List.length_cons, List.length_cons, ih]
theorem At.setW {fm : Fm} {kp : RdR} {σ : L2.St} {H H' : Hp} {own F1 : List Addr} {v : V} (h : At fm kp L σ H own) (s : Same H H') (nd1 : F1.Nodup) (n1 : ∀ q ∈ F1, H q = none) (r : O.rep d v H' (RD fm (F1 ++ own) H') F1) : ∃ own', At fm kp (L.set i (sO O d)) (σ.set i (some v)) H' own' := by
  obtain ⟨h1, h2, ⟨Fs, h3, e⟩, h4, h5, h6⟩ := h
  have nd := h4
  rw [e] at nd
  have hk : ∀ q ∈ Fs.flatten, H' q = H q := fun q hq => by
    cases r : cl H q with
    | none => exact absurd r (h3.tb q hq)
    | some o => rw [cl_raw r]; exact s.keep _ _ (cl_raw r) (cl_nt r)
  by_cases hi : i < Fs.length
  · have ei : Fs[i]? = some Fs[i] := List.getElem?_eq_getElem hi
    have nF : ∀ q ∈ (Fs.set i F1).flatten, q ∈ F1 ∨ q ∈ own := fun q hq => by
      rcases flat_set_mem nd ei q hq with hq | ⟨hq, _⟩
      · exact .inl hq
      · exact .inr (by rw [e]; exact hq)
    have dr : ∀ a o, RD fm (F1 ++ own) H' a o → RD fm (Fs.set i F1).flatten H' a o := RD.drop fun q hq => List.mem_append.mpr (nF q hq)
    have keyB : ∀ b a o, RB fm own H b a o → RB fm (Fs.set i F1).flatten H' b a o := fun b a o z => by
      cases b with
      | false => exact dr a o (RD.newer s n1 a o z)
      | true =>
        obtain ⟨z1, z2, z3, z4⟩ := z
        refine ⟨s.cl _ _ z1, fun hq => ?_, z3, z4⟩
        rcases nF a hq with hq | hq
        · rw [cl_none (n1 a hq)] at z1; cases z1
        · exact z2 hq
    refine ⟨_, h1.trans s, fun a z ea => h2 a z (s.free ea), ⟨Fs.set i F1, (h3.st keyB hk).set (s := sO O d) ⟨v, rfl, trivial, O.st r dr fun _ _ => rfl⟩ i, rfl⟩, flat_set_nd nd ei nd1 fun q hq => .inr fun hq' => (h5 q (by rw [e]; exact hq')).1 (n1 q hq), fun q hq => ?_, fun a o z => dr a o (RD.newer s n1 a o (h6 a o z))⟩
    rcases nF q hq with hq | hq
    · exact ⟨(fun z => by obtain ⟨o, ho, _⟩ := O.tb r q hq; rw [ho] at z; cases z), h1.free (n1 q hq), fun z => h2 q z (n1 q hq)⟩
    · exact ⟨fun z => (h5 q hq).1 (s.free z), (h5 q hq).2⟩
  · have hl := h3.len
    have hl2 : Fs.length = L.length := h3.lenF
    have e1 : L.set i (sO O d) = L := List.set_eq_of_length_le (by omega)
    have e2 : σ.set i (some v) = σ := List.set_eq_of_length_le (by omega)
    rw [e1, e2]
    exact ⟨own, At.ext ⟨h1, h2, ⟨Fs, h3, e⟩, h4, h5, h6⟩ s⟩
/-- x = e -/
theorem evb_setN {m : M α} {h : α → M δ} (ok : OkS p sc NN VV GG k g) (hN : NN[i]? = some x) (hV : VV[j]? = some x) (wk : Wkx g L (NoEx m)) (he : EvN g L e O m) (hr : ∀ d, EvB g (L.set i (sO O d)) st D (h d))
    (hs : swapsWith e (some (.Name x pos')) pos.line g.X.env = pure false := by rfl) : EvB g L (.Assign [.Name x pos'] e pos :: st) D (m.bind h) := by
  refine PSs.imp (pss_cons (ps_set (i := i) (by rw [ok.N]; exact ok.nd) (by rw [ok.N]; exact hN) (ok.loc hV) he hs (okS_fn ok)) (PSs.ex hr)) fun E σ H ⟨kp, own, at_, q⟩ => ?_
  refine ⟨kp, own, at_, ?_⟩
  cases m with
  | ok d =>
    intro v F H' s nd n r
    obtain ⟨own', a'⟩ := at_.setW (i := i) s nd n r
    exact ⟨d, kp, own', a', q⟩
  | ex c => exact BOk.exx' wk (fun n => n c rfl) at_ q
  | no => exact q
/-- looked at, as if it were shared -/
theorem At.freezeP {fm : Fm} {kp : RdR} {σ : L2.St} {H : Hp} {own : List Addr} (h : At fm kp L σ H own) (hL : L[i]? = some (sP px O d)) : ∃ own', At fm kp (L.set i (sV false O.T d)) σ H own' ∧ ∀ p ∈ own', p ∈ own := by
  obtain ⟨h1, h2, ⟨Fs, h3, e⟩, h4, h5, h6⟩ := h
  obtain ⟨v0, F, e1, e2, v, rfl, hx, r⟩ := h3.get hL
  have nd := h4
  rw [e] at nd
  have nF : ∀ q ∈ (Fs.set i []).flatten, q ∈ Fs.flatten ∧ q ∉ F := fun q hq => by
    rcases flat_set_mem nd e2 q hq with hq | hq
    · exact nomatch hq
    · exact hq
  have kk : ∀ q ∈ (Fs.set i []).flatten, q ∈ own := fun q hq => by rw [e]; exact (nF q hq).1
  have hk : ∀ q ∈ Fs.flatten, q ∉ F → H q = H q := fun _ _ _ => rfl
  refine ⟨_, ⟨h1, h2, ⟨Fs.set i [], h3.chg nd e2 e1 (RB.own kk) hk (s' := sV false O.T d) ⟨rfl, v, rfl, O.fz r (RB.own kk false) fun q hq o ho => ?_⟩, rfl⟩, flat_set_nd nd e2 List.nodup_nil (fun _ h => nomatch h), fun q hq => h5 q (kk q hq), fun a o z => RX.own (md := .sh) (H := H) kk a o (h6 a o z)⟩, kk⟩
  obtain ⟨o', ho', go⟩ := O.tb r q hq
  rw [ho] at ho'; cases ho'
  exact .inl ⟨.inl (cl_of ho (gd_nt go)), fun hq' => (nF q hq').2 hq, (h5 q (by rw [e]; exact flat_mem e2 q hq)).2.2⟩
theorem evb_freezeP {m : M δ} (hL : L[i]? = some (sP px O d)) (hr : EvB g (L.set i (sV false O.T d)) st D m) : EvB g L st D m := PSs.imp hr fun E σ H ⟨kp, own, at_, q⟩ => by
  obtain ⟨own', a', _⟩ := at_.freezeP hL
  exact ⟨kp, own', a', q⟩
theorem ev_borrowP {m : M β} (hf : Flat T ∨ md = .fx) (hL : L[i]? = some (sP px O d)) (h : EvE g (L.set i (sV false O.T d)) e md T m) : EvE g L e md T m := PE.imp h fun σ H Q q => by
  obtain ⟨kp, own, at_, q⟩ := tE_iff.mp q
  obtain ⟨own', a', sub⟩ := at_.freezeP hL
  refine tE_iff.mpr ⟨kp, own', a', ?_⟩
  cases m with
  | ok d =>
    refine fun v H' s r => q v H' s ?_
    rcases hf with hf | rfl
    · exact hf r
    · exact T.mono r fun a o z => ⟨z.1, fun y => (at_.new a y).1 z.2.2.2.2, z.2.2⟩
  | ex c => exact q
  | no => exact q
theorem evt_borrowP {m : M Bool} (hL : L[i]? = some (sP px O d)) (h : EvT g (L.set i (sV false O.T d)) e m) : EvT g L e m := PT.imp h fun σ H Q q => by
  obtain ⟨kp, own, at_, q⟩ := tT_iff.mp q
  obtain ⟨own', a', sub⟩ := at_.freezeP hL
  refine tT_iff.mpr ⟨kp, own', a', ?_⟩
  cases m <;> exact q
theorem evl_borrowP {m : M (List β)} (hf : Flat T) (hL : L[i]? = some (sP px O d)) (h : EvL g (L.set i (sV false O.T d)) e md T m) : EvL g L e md T m := PE.imp h fun σ H Q q => by
  obtain ⟨kp, own, at_, q⟩ := tL_iff.mp q
  obtain ⟨own', a', sub⟩ := at_.freezeP hL
  refine tL_iff.mpr ⟨kp, own', a', ?_⟩
  cases m with
  | ok d => exact fun p vs H' s n h' r => q p vs H' s n h' (r.flat hf)
  | ex c => exact q
  | no => exact q
end
end Hd
namespace Hd
open PySem PySem.Spec L2
/-- arguments: f: the slots they begin with; fo: the slots they end with; pj: what is owned of them; up: what they have become -/
inductive ArX : {δ ω : Type} → WAr δ → Nat → (δ → List V → List Slot) → (ω → List V → List Slot) → (δ → ω) → (δ → ω → δ) → Prop where
  | nil : ArX (ω := Unit) waNil 0 (fun _ _ => []) (fun _ _ => []) (fun _ => ()) (fun d _ => d)
  | sh {α δ ω : Type} {T : Ty α} {A : WAr δ} {n : Nat} {f : δ → List V → List Slot} {fo : ω → List V → List Slot} {pj : δ → ω} {up : δ → ω → δ} : ArX A n f fo pj up →
      ArX (ω := ω) (waCons (wV T) A) (n + 1) (fun d vs => sV false T d.1 :: f d.2 vs.tail) (fun w vs => sAny :: fo w vs.tail) (fun d => pj d.2) (fun d w => (d.1, up d.2 w))
  | ow {α δ ω : Type} {O : WTy α} {A : WAr δ} {n : Nat} {f : δ → List V → List Slot} {fo : ω → List V → List Slot} {pj : δ → ω} {up : δ → ω → δ} : ArX A n f fo pj up →
      ArX (ω := α × ω) (waCons O A) (n + 1) (fun d vs => sA (vs.headD .non) O d.1 :: f d.2 vs.tail) (fun w vs => sA (vs.headD .non) O w.1 :: fo w.2 vs.tail) (fun d => (d.1, pj d.2)) (fun d w => (w.1, up d.2 w.2))
section
variable {δ ω : Type} {A : WAr δ} {n : Nat} {f : δ → List V → List Slot} {fo : ω → List V → List Slot} {pj : δ → ω} {up : δ → ω → δ} {H H1 : Hp} {R : Bool → RdR} {R1 : RdR}
theorem ArX.all (h : ArX A n f fo pj up) : ∀ {d : δ} {vs : List V} {F : List Addr}, A.rep d vs H (R false) F → vs.length = n ∧ ∃ Fs, AllS H R (f d vs) (vs.map some) Fs ∧ Fs.flatten = F := by
  induction h with
  | nil => rintro d vs F ⟨e1, e2⟩; subst e1; subst e2; exact ⟨rfl, [], .nil, rfl⟩
  | sh _ ih =>
    rintro d vs F ⟨v, r, F1, F2, e1, e2, ⟨e3, h1⟩, h2⟩
    subst e1; subst e2; subst e3
    obtain ⟨hl, Fs, h3, h4⟩ := ih h2
    exact ⟨by simp [hl], [] :: Fs, .cons ⟨rfl, v, rfl, h1⟩ h3, by simp [h4]⟩
  | ow _ ih =>
    rintro d vs F ⟨v, r, F1, F2, e1, e2, h1, h2⟩
    subst e1; subst e2
    obtain ⟨hl, Fs, h3, h4⟩ := ih h2
    exact ⟨by simp [hl], F1 :: Fs, .cons ⟨v, rfl, rfl, h1⟩ h3, by simp [h4]⟩
theorem ArX.back (h : ArX A n f fo pj up) (s : ∀ a o, R1 a o → R false a o) {L : List Slot} (hL : ∀ {σ : L2.St} {Fs : List (List Addr)}, AllS H R L σ Fs → Fs.flatten = []) : ∀ {d : δ} {w : ω} {vs : List V} {F1 : List Addr} {σ : L2.St} {Fs : List (List Addr)}, A.rep d vs H1 R1 F1 → AllS H R (fo w vs ++ L) σ Fs → A.rep (up d w) vs H (R false) Fs.flatten := by
  induction h with
  | nil => rintro d w vs F1 σ Fs ⟨e1, e2⟩ ha; subst e1; exact ⟨rfl, hL ha⟩
  | sh _ ih =>
    rintro d w vs F1 σ Fs ⟨v, r, G1, G2, e1, e2, ⟨e3, h1⟩, h2⟩ ha
    subst e1
    cases ha with
    | @cons _ _ _ _ _ Fs' q t =>
      cases (show _ = [] from q)
      exact ⟨v, r, [], Fs'.flatten, rfl, by simp, ⟨rfl, Ty.mono _ h1 s⟩, ih h2 t⟩
  | ow _ ih =>
    rintro d w vs F1 σ Fs ⟨v, r, G1, G2, e1, e2, h1, h2⟩ ha
    subst e1
    cases ha with
    | @cons _ _ _ _ F0 Fs' q t =>
      obtain ⟨x, _, e6, r5⟩ := q
      have e6 : x = v := e6
      subst e6
      exact ⟨x, r, F0, Fs'.flatten, rfl, by simp, r5, ih h2 t⟩
theorem anys_flat : ∀ {m : Nat} {H : Hp} {R : Bool → RdR} {σ : L2.St} {Fs : List (List Addr)}, AllS H R (List.replicate m sAny) σ Fs → Fs.flatten = []
  | 0, _, _, _, _, h => by cases h; rfl
  | m + 1, _, _, _, _, h => by
    rw [List.replicate_succ] at h
    cases h with
    | cons q t => cases (show _ = [] from q); simpa using anys_flat t
theorem ArX.pu (h : ArX A n f fo pj up) : ∀ d, up d (pj d) = d := by
  induction h with
  | nil => exact fun _ => rfl
  | sh _ ih => intro d; show (d.1, _) = d; rw [ih]
  | ow _ ih => intro d; show (d.1, _) = d; rw [ih]
end
/-- what such a def promises: its answer, and what has become of what it may change -/
def spX (p : Pr) {δ ω ρ : Type} (A : WAr δ) (up : δ → ω → δ) (O : WTy ρ) (kx : Bool) (F : δ → M (ρ × ω)) : Sp := fun vs H Q E => ∃ d z Fa, ((∀ a, z a → H a ≠ none) ∧ ∀ P, p.T = some P → LamX.TabS H P lamQ) ∧ Fa.Nodup ∧ (∀ a ∈ Fa, ¬ z a) ∧ A.rep d vs H (RD ⟨p.K, hm H Fa, z⟩ Fa H) Fa ∧
  match F d with
  | .ok r => ∀ v H' Fr Fa', Same (hm H Fa) H' → (Fr ++ Fa').Nodup → (∀ a ∈ Fr ++ Fa', (a ∈ Fa ∨ H a = none) ∧ H' a ≠ none ∧ ¬ z a) → O.rep r.1 v H' (RD ⟨p.K, hm H Fa, z⟩ (Fr ++ Fa') H') Fr → A.rep (up d r.2) vs H' (RD ⟨p.K, hm H Fa, z⟩ (Fr ++ Fa') H') Fa' → Q v H'
  | .ex c => ∀ H', Same (hm H Fa) H' → (kx = true → ∃ Fa', Fa'.Nodup ∧ (∀ a ∈ Fa', (a ∈ Fa ∨ H a = none) ∧ H' a ≠ none ∧ ¬ z a) ∧ A.rep d vs H' (RD ⟨p.K, hm H Fa, z⟩ Fa' H') Fa') → E (.ref (p.C c)) none H'
  | .no => False
theorem hm_same {H : Hp} {F : List Addr} : Same (hm H F) H := by
  refine ⟨fun a o e n => ?_, fun a e => ?_, fun P t => ?_⟩
  · by_cases z : a ∈ F
    · rw [hm_in z] at e; cases e
    · rwa [hm_out z] at e
  · unfold hm; split
    · rfl
    · exact e
  · obtain ⟨ps, t1, t2, t3⟩ := t
    have up : ∀ {a : Addr} {o : HO}, hm H F a = some o → H a = some o := fun {a o} e => by
      by_cases z : a ∈ F
      · rw [hm_in z] at e; cases e
      · rwa [hm_out z] at e
    exact ⟨ps, up t1, t2, fun pos cv hc => let ⟨c, c1, c2⟩ := t3 pos cv hc; ⟨c, c1, up c2⟩⟩
theorem hm_tab {H : Hp} {F : List Addr} (hg : ∀ a ∈ F, ∃ o, H a = some o ∧ gd o = true) {P : Addr} {q : Str} (t : LamX.TabS H P q) : LamX.TabS (hm H F) P q := by
  obtain ⟨ps, t1, t2, t3⟩ := t
  have ng : ∀ a o, H a = some o → gd o = false → a ∉ F := fun a o ea ga q => by
    obtain ⟨o', ho', go'⟩ := hg a q
    rw [ea] at ho'; cases ho'
    rw [ga] at go'; cases go'
  refine ⟨ps, by rw [hm_out (ng P _ t1 rfl)]; exact t1, t2, fun pos cv hc => ?_⟩
  obtain ⟨c, c1, c2⟩ := t3 pos cv hc
  exact ⟨c, c1, by rw [hm_out (ng c _ c2 rfl)]; exact c2⟩
/-- how such a def's body ends -/
def xOut {ω ρ : Type} (fo : ω → List Slot) (O : WTy ρ) (r : ρ × ω) : Out := .gen fun fm rt => ∀ v σ H H' own Fr, At fm (fun _ _ => False) (fo r.2) σ H own → Same H H' → Fr.Nodup → (∀ a ∈ Fr, H a = none) → O.rep r.1 v H' (RD fm (Fr ++ own) H') Fr → rt v H'
section
variable {p : Pr} {sc : Scope} {NN VV GG : List Str} {k : Nat} {g : G} {L L' : List Slot} {a b c e e' ix : Expr} {es : List Expr} {md md' : Md} {α β γ δ ρ ω τ : Type} {S : Ty α} {T : Ty β} {O : WTy α} {O2 : WTy β} {O3 : WTy γ} {A : WAr δ} {pos pp pos' : Pos} {i j : Nat} {x : Str} {px : V → Prop} {d : α}
theorem fn_X {x qual : Str} {st : Stmt} {f : Addr} {fd : FuncData} {ps : List Str} {L0 : δ → List V → List Slot} {fo : ω → List V → List Slot} {pj : δ → ω} {up : δ → ω → δ} {n m : Nat} {O : WTy ρ} {F : δ → M (ρ × ω)} {kx : Bool} {D' : List V → ρ × ω → Out} (hF : FunD p.K x qual (defArgs st) (defBody st) (defScope st) [] [] f fd) (hS : Sc st NN VV ps GG) (ha : ArX A n L0 fo pj up) (hn : ps.length = n) (hm' : n + m = NN.length)
    (hD : ∀ (r : ρ × ω) (vs : List V) (fm : Fm) (Q : VK), OutOk fm (fun _ _ => False) { nx := fun _ H' => Q .non H', rt := Q } (xOut (fun w => fo w vs ++ List.replicate m sAny) O r) → OutOk fm (fun _ _ => False) { nx := fun _ H' => Q .non H', rt := Q } (D' vs r))
    (hb : ∀ vs g, OkS p (defScope st) NN VV GG k g → ∀ d, g.LX = (if kx = true then fo (pj d) vs ++ List.replicate m sAny else List.replicate NN.length sAny) → EvB g (L0 d vs ++ List.replicate m sAny) (defBody st) (D' vs) (F d)) :
    FnOk p.P p.w p.K p.mg p.base (L2.CX p.P p.w) (k + 1) f fd ps (spX p A up O kx F) := by
  refine hF.ok hS.S (fun vs H Q E h => ?_) (fun cdv A' outer s H vs Q E hr h => ?_)
  · obtain ⟨d, z, Fa, _, _, _, hrep, _⟩ := h
    exact (ha.all (R := fun _ => RD ⟨p.K, hm H Fa, z⟩ Fa H) hrep).1.trans hn.symm
  · obtain ⟨d, z, Fa, ⟨hz, htab⟩, hnd, hnz, hrep, q⟩ := h
    obtain ⟨hlen, Fs, hall, hfl⟩ := ha.all (R := RB ⟨p.K, hm H Fa, z⟩ Fa H) hrep
    have hg := A.tb hrep
    let X : Cx := cxOf (L2.CX p.P p.w) p.P p.w p.K p.mg p.base NN qual (defScope st) f cdv A' outer s H E
    let g : G := ⟨X, ⟨p.K, hm H Fa, z⟩, fun c _ H' => E (.ref (p.C c)) none H', if kx = true then fo (pj d) vs ++ List.replicate m sAny else List.replicate NN.length sAny⟩
    have hN : ∀ {j : Nat} {y : Str}, VV[j]? = some y → y ∈ VV := fun e => List.mem_of_getElem? e
    have ok : OkS p (defScope st) NN VV GG k g :=
      { prog := rfl, w := rfl, K := rfl, mg := rfl, base := rfl, N := rfl, fmK := rfl, tab := fun P e => hm_tab hg (htab P e), room := hr, nd := hS.S.nd
        vis := fun e => let h := seenB_v (List.all_eq_true.mp hS.vis _ (hN e)); ⟨h.2, h.1⟩
        gl := fun e => let h := glB_v (List.all_eq_true.mp hS.gl _ (List.mem_of_getElem? e)); ⟨h.2, h.1⟩
        tk := by
          refine Takes.imp (takes_of (X := X) rfl rfl rfl (E := E) rfl) ?_
          intro cls d' σ2 H2 h2
          obtain ⟨c, e1, e2, h3⟩ := h2
          rw [e1, e2]; exact h3
        calm := rfl
        blk := fun h => blkOk_by h
        loc := fun e => locB_v (List.all_eq_true.mp hS.loc _ (hN e))
        fnT := fun _ => rfl
        psO := passes_of (X := X) rfl
        scp := rfl
        stk := rfl
        frm := rfl
        exn := rfl }
    have fin : ∀ (w : ω) (σ' : L2.St) (H2 H' : Hp) (own : List Addr), At ⟨p.K, hm H Fa, z⟩ (fun _ _ => False) (fo w vs ++ List.replicate m sAny) σ' H2 own → Same H2 H' → ∀ Fr : List Addr, Fr.Nodup → (∀ a ∈ Fr, H2 a = none ∧ H' a ≠ none) → (Fr ++ own).Nodup ∧ (∀ a ∈ Fr ++ own, (a ∈ Fa ∨ H a = none) ∧ H' a ≠ none ∧ ¬ z a) ∧ A.rep (up d w) vs H' (RD ⟨p.K, hm H Fa, z⟩ (Fr ++ own) H') own := by
      intro w σ' H2 H' own at_ s2 Fr nd hFr
      obtain ⟨Fs', h3, e3⟩ := at_.sl
      have rd1 : ∀ a o, RD ⟨p.K, hm H Fa, z⟩ Fa H a o → RD ⟨p.K, hm H Fa, z⟩ own H2 a o := fun a o y => by
        rcases y with ⟨y1, y2, y3⟩ | y
        · have h1 : Rd (cl (hm H Fa)) a o := by
            have key : ∀ o', cl H a = some o' → cl (hm H Fa) a = some o' := fun o' ho => by
              unfold cl at ho ⊢; rw [hm_out y2]; exact ho
            exact y1.imp (key _) fun ⟨f, h⟩ => ⟨f, key _ h⟩
          have ne : hm H Fa a ≠ none := fun q => by rcases h1 with h1 | ⟨_, h1⟩ <;> rw [cl_none q] at h1 <;> cases h1
          exact .inl ⟨Rd.same at_.same h1, fun hq => ne (at_.new a hq).2.1, y3⟩
        · exact .inr y
      have r4 := ha.back (R := RB ⟨p.K, hm H Fa, z⟩ own H2) rd1 (fun h => anys_flat h) hrep h3
      rw [← e3] at r4
      have tb2 := A.tb r4
      refine ⟨List.nodup_append.mpr ⟨nd, at_.nd, fun a ha' b hb' e => ?_⟩, fun a ha' => ?_, A.st r4 (RD.newer s2 fun q hq => (hFr q hq).1) fun q hq => ?_⟩
      · subst e
        exact (at_.new a hb').1 (hFr a ha').1
      · have h0 : hm H Fa a = none ∧ H' a ≠ none ∧ ¬ z a := by
          rcases List.mem_append.mp ha' with ha' | ha'
          · exact ⟨at_.same.free (hFr a ha').1, (hFr a ha').2, fun y => at_.zin a y (hFr a ha').1⟩
          · exact ⟨(at_.new a ha').2.1, fun y => (at_.new a ha').1 (s2.free y), (at_.new a ha').2.2⟩
        refine ⟨?_, h0.2⟩
        by_cases y : a ∈ Fa
        · exact .inl y
        · exact .inr (by have := h0.1; rwa [hm_out y] at this)
      · obtain ⟨o, ho, go⟩ := tb2 q hq
        rw [ho]; exact s2.keep _ _ ho (gd_nt go)
    refine ⟨_, hb vs g ok d rfl, (fun _ _ => False), Fa, ?_, ?_⟩
    · refine ⟨hm_same, hz, ⟨Fs ++ List.replicate m [], ?_, by simp [flat_rep, hfl]⟩, hnd, fun a ha' => ⟨fun e => ?_, hm_in ha', hnz a ha'⟩, fun _ _ h => h.elim⟩
      · have e : L2.start NN vs = vs.map some ++ List.replicate m none := by
          unfold L2.start
          rw [show NN.length - vs.length = m by omega]
        rw [e]
        exact hall.append (AllS.anys m)
      · obtain ⟨o, ho, _⟩ := hg a ha'
        rw [ho] at e; cases e
    · cases hF' : F d with
      | ok r =>
        rw [hF'] at q
        refine hD r vs _ Q ?_
        intro v σ' H2 H' own Fr at_ s2 nd hFr r1
        obtain ⟨h1, h2, h3⟩ := fin r.2 σ' H2 H' own at_ s2 Fr nd (fun a ha' => ⟨hFr a ha', by obtain ⟨o, ho, _⟩ := O.tb r1 a ha'; rw [ho]; exact fun z => nomatch z⟩)
        exact q v H' Fr own (at_.same.trans s2) h1 h2 r1 h3
      | ex c =>
        rw [hF'] at q
        intro σ' H' own a'
        refine q H' a'.same fun hk => ?_
        have a2 : At ⟨p.K, hm H Fa, z⟩ (fun _ _ => False) (fo (pj d) vs ++ List.replicate m sAny) σ' H' own := by
          have : g.LX = fo (pj d) vs ++ List.replicate m sAny := if_pos hk
          rw [← this]; exact a'
        obtain ⟨h1, h2, h3⟩ := fin (pj d) σ' H' H' own a2 (Same.refl _) [] List.nodup_nil (fun _ h => nomatch h)
        rw [ha.pu] at h3
        exact ⟨own, h1, h2, h3⟩
      | no => rw [hF'] at q; exact q
end
end Hd
namespace Hd
open PySem PySem.Spec L2
/-- the slots, some of them set -/
def setAll (L : List Slot) : List (Nat × Slot) → List Slot
  | [] => L
  | c :: cs => (setAll L cs).set c.1 c.2
/-- pointwise, but for some places -/
structure Pw (H : Hp) (R : Bool → RdR) (L : List Slot) (σ : L2.St) (Fs : List (List Addr)) (out : Nat → Prop) : Prop where
  l1 : σ.length = L.length
  l2 : Fs.length = L.length
  ok : ∀ j, ¬ out j → ∀ s v F, L[j]? = some s → σ[j]? = some v → Fs[j]? = some F → s.ok v H R F
theorem AllS.pw {H : Hp} {R : Bool → RdR} {L : List Slot} {σ : L2.St} {Fs : List (List Addr)} (h : AllS H R L σ Fs) : Pw H R L σ Fs (fun _ => False) := by
  refine ⟨h.len, h.lenF, fun j _ s v F e1 e2 e3 => ?_⟩
  obtain ⟨v', F', e4, e5, r⟩ := h.get e1
  rw [e2] at e4; cases e4
  rw [e3] at e5; cases e5
  exact r
theorem Pw.all {H : Hp} {R : Bool → RdR} : ∀ {L : List Slot} {σ : L2.St} {Fs : List (List Addr)}, Pw H R L σ Fs (fun _ => False) → AllS H R L σ Fs
  | [], σ, Fs, h => by
    have e1 : σ = [] := List.length_eq_zero_iff.mp h.l1
    have e2 : Fs = [] := List.length_eq_zero_iff.mp h.l2
    subst e1; subst e2; exact .nil
  | s :: L, [], Fs, h => by have := h.l1; simp at this
  | s :: L, v :: σ, [], h => by have := h.l2; simp at this
  | s :: L, v :: σ, F :: Fs, h => .cons (h.ok 0 (fun z => z) s v F rfl rfl rfl) (Pw.all ⟨by have := h.l1; simpa using this, by have := h.l2; simpa using this, fun j _ s' v' F' e1 e2 e3 => h.ok (j + 1) (fun z => z) s' v' F' (by simpa using e1) (by simpa using e2) (by simpa using e3)⟩)
/-- arguments, some of them places in slots of their own -/
inductive ArgsAt (L : List Slot) (σ : L2.St) (Fs : List (List Addr)) (H : Hp) (R : RdR) : {δ ω τ : Type} → WAr δ → (δ → ω → δ) → δ → List V → List Addr → List Nat → (ω → τ) → (τ → List (Nat × Slot)) → Prop where
  | nil : ArgsAt L σ Fs H R (ω := Unit) (τ := Unit) waNil (fun d _ => d) () [] [] [] (fun _ => ()) (fun _ => [])
  | sh {α δ ω τ : Type} {T : Ty α} {A : WAr δ} {up : δ → ω → δ} {d : α} {ds : δ} {v : V} {vs : List V} {Fa : List Addr} {is : List Nat} {pu : ω → τ} {mk : τ → List (Nat × Slot)} : T.rep d v R → ArgsAt L σ Fs H R A up ds vs Fa is pu mk →
      ArgsAt L σ Fs H R (waCons (wV T) A) (fun d w => (d.1, up d.2 w)) (d, ds) (v :: vs) Fa is pu mk
  | ow {α β δ ω τ : Type} {O : WTy α} {O2 : WTy β} {A : WAr δ} {up : δ → ω → δ} {d : α} {d2 : β} {ds : δ} {v v2 : V} {vs : List V} {F F2 Fa : List Addr} {is : List Nat} {i : Nat} {put : β → α} {px : V → Prop} {pu : ω → τ} {mk : τ → List (Nat × Slot)} :
      L[i]? = some (sP px O d) → σ[i]? = some (some v) → px v → Fs[i]? = some F → Plc H R O v F O2 d2 put v2 F2 → i ∉ is → ArgsAt L σ Fs H R A up ds vs Fa is pu mk →
      ArgsAt L σ Fs H R (ω := β × ω) (τ := α × τ) (waCons O2 A) (fun d w => (w.1, up d.2 w.2)) (d2, ds) (v2 :: vs) (F2 ++ Fa) (i :: is) (fun w => (put w.1, pu w.2)) (fun t => (i, sP px O t.1) :: mk t.2)
section
variable {L : List Slot} {σ : L2.St} {Fs : List (List Addr)} {H H' : Hp} {R R' : RdR} {δ ω τ : Type} {A : WAr δ} {up : δ → ω → δ} {ds : δ} {vs : List V} {Fa : List Addr} {is : List Nat} {pu : ω → τ} {mk : τ → List (Nat × Slot)}
theorem ArgsAt.ext (h : ArgsAt L σ Fs H R A up ds vs Fa is pu mk) (s : ∀ a o, R a o → R' a o) (k : ∀ p ∈ Fs.flatten, H' p = H p) : ArgsAt L σ Fs H' R' A up ds vs Fa is pu mk := by
  induction h with
  | nil => exact .nil
  | sh r _ ih => exact .sh (Ty.mono _ r s) ih
  | ow h1 h2 h3 h4 pl hn _ ih => exact .ow h1 h2 h3 h4 (pl.ext s fun p hp => k p (flat_mem h4 p hp)) hn ih
/-- the roots: what they hold of the arguments -/
theorem ArgsAt.sub (h : ArgsAt L σ Fs H R A up ds vs Fa is pu mk) : ∀ q ∈ Fa, ∃ i ∈ is, ∃ F, Fs[i]? = some F ∧ q ∈ F := by
  induction h with
  | nil => exact fun q hq => nomatch hq
  | sh _ _ ih => exact ih
  | ow h1 h2 h3 h4 pl hn _ ih =>
    intro q hq
    rcases List.mem_append.mp hq with hq | hq
    · exact ⟨_, List.mem_cons_self, _, h4, pl.sub q hq⟩
    · obtain ⟨i, hi, F, e, hF⟩ := ih q hq
      exact ⟨i, List.mem_cons_of_mem _ hi, F, e, hF⟩
theorem ArgsAt.subF (h : ArgsAt L σ Fs H R A up ds vs Fa is pu mk) : ∀ q ∈ Fa, q ∈ Fs.flatten := fun q hq => by
  obtain ⟨i, _, F, e, hF⟩ := h.sub q hq
  exact flat_mem e q hF
theorem flat_two {i j : Nat} {F G : List Addr} (nd : Fs.flatten.Nodup) (h1 : Fs[i]? = some F) (h2 : Fs[j]? = some G) {q : Addr} (hF : q ∈ F) (hG : q ∈ G) : i = j := by
  induction Fs generalizing i j with
  | nil => simp at h1
  | cons E Fs ih =>
    rw [List.flatten_cons, List.nodup_append] at nd
    cases i with
    | zero =>
      cases j with
      | zero => rfl
      | succ j =>
        simp at h1; subst h1
        exact absurd rfl (nd.2.2 q hF q (flat_mem (by simpa using h2) q hG))
    | succ i =>
      cases j with
      | zero =>
        simp at h2; subst h2
        exact absurd rfl (nd.2.2 q hG q (flat_mem (by simpa using h1) q hF))
      | succ j =>
        have := ih nd.2.1 (i := i) (j := j) (by simpa using h1) (by simpa using h2)
        rw [this]
theorem ArgsAt.rep (h : ArgsAt L σ Fs H R A up ds vs Fa is pu mk) (nd : Fs.flatten.Nodup) : A.rep ds vs H R Fa ∧ Fa.Nodup := by
  induction h with
  | nil => exact ⟨⟨rfl, rfl⟩, List.nodup_nil⟩
  | sh r _ ih => exact ⟨⟨_, _, [], _, rfl, rfl, ⟨rfl, r⟩, ih.1⟩, ih.2⟩
  | ow h1 h2 h3 h4 pl hn t ih =>
    refine ⟨⟨_, _, _, _, rfl, rfl, pl.rep, ih.1⟩, List.nodup_append.mpr ⟨pl.nd, ih.2, fun a ha b hb e => ?_⟩⟩
    subst e
    obtain ⟨i', hi', F', e', hF'⟩ := t.sub a hb
    have := flat_two nd h4 e' (pl.sub a ha) hF'
    subst this
    exact hn hi'
/-- the roots hold again -/
theorem ArgsAt.done (h : ArgsAt L σ Fs H R A up ds vs Fa is pu mk) {FA : List Addr} {RR : Bool → RdR} (hFA : ∀ q ∈ Fa, q ∈ FA) (hR : ∀ a o, R a o → RR false a o) (hk : ∀ p ∈ Fs.flatten, p ∉ FA → H' p = H p) (nd : Fs.flatten.Nodup) {Gs : List (List Addr)} (eG : Gs = Fs.map (List.filter fun q => decide (q ∉ FA))) (ndG : Gs.flatten.Nodup)
    (hroot : ∀ i ∈ is, ∀ F, Fs[i]? = some F → ∀ q ∈ F, q ∈ FA → q ∈ Fa) {w : ω} : ∀ {Fa' : List Addr}, A.rep (up ds w) vs H' (RR false) Fa' → Fa'.Nodup → (∀ q ∈ Fa', q ∈ FA ∨ q ∉ Fs.flatten) →
    ∃ Fs' : List (List Addr), Fs'.length = Gs.length ∧ (∀ j, j ∉ is → Fs'[j]? = Gs[j]?) ∧ (∀ j ∈ is, ∀ s v F, (setAll L (mk (pu w)))[j]? = some s → σ[j]? = some v → Fs'[j]? = some F → s.ok v H' RR F) ∧ (∀ j, j ∉ is → (setAll L (mk (pu w)))[j]? = L[j]?) ∧ (setAll L (mk (pu w))).length = L.length ∧ Fs'.flatten.Nodup ∧ ∀ q ∈ Fs'.flatten, q ∈ Fa' ∨ q ∈ Gs.flatten := by
  have memG : ∀ {i : Nat} {F : List Addr}, Fs[i]? = some F → Gs[i]? = some (F.filter fun q => decide (q ∉ FA)) := fun {i F} e => by rw [eG, List.getElem?_map, e]; rfl
  have subG : ∀ q ∈ Gs.flatten, q ∈ Fs.flatten ∧ q ∉ FA := fun q hq => by
    rw [eG] at hq
    obtain ⟨G, hG, hq⟩ := List.mem_flatten.mp hq
    obtain ⟨F, hF, rfl⟩ := List.mem_map.mp hG
    rw [List.mem_filter, decide_eq_true_eq] at hq
    exact ⟨List.mem_flatten.mpr ⟨F, hF, hq.1⟩, hq.2⟩
  induction h with
  | nil => intro Fa' _ _ _; exact ⟨Gs, rfl, fun _ _ => rfl, (fun _ h => nomatch h), fun _ _ => rfl, rfl, ndG, fun q hq => .inr hq⟩
  | sh r t ih =>
    rintro Fa' ⟨v', r', G1, G2, e1, e2, ⟨e3, h1⟩, h2⟩ ndF nF
    cases e1
    subst e3; subst e2
    exact ih hFA hroot h2 ndF nF
  | @ow α β δ ω τ O O2 A up d d2 ds v v2 vs F F2 Fa is i put px pu mk h1 h2 h3 h4 pl hn t ih =>
    rintro Fa' ⟨v', r', G1, G2, e1, e2, r1, r2⟩ ndF nF
    cases e1
    subst e2
    rw [List.nodup_append] at ndF
    have hroot2 : ∀ i ∈ is, ∀ F, Fs[i]? = some F → ∀ q ∈ F, q ∈ FA → q ∈ Fa := fun j hj F' e' q hq hA => by
      rcases List.mem_append.mp (hroot j (List.mem_cons_of_mem _ hj) F' e' q hq hA) with z | z
      · have := flat_two nd h4 e' (pl.sub q z) hq
        subst this
        exact absurd hj hn
      · exact z
    obtain ⟨Fs1, l1, n1, k1, m1, ml, nd1, q1⟩ := ih (fun q hq => hFA q (List.mem_append_right _ hq)) hroot2 r2 ndF.2.1 (fun q hq => nF q (List.mem_append_right _ hq))
    have hF2 : ∀ q ∈ F, q ∈ FA → q ∈ F2 := fun q hq hA => by
      rcases List.mem_append.mp (hroot i List.mem_cons_self F h4 q hq hA) with z | z
      · exact z
      · obtain ⟨j, hj, F', e', hq'⟩ := t.sub q z
        have := flat_two nd h4 e' hq hq'
        subst this
        exact absurd hj hn
    obtain ⟨F', r3, nd3, n3⟩ := pl.up hR (fun p hp hpn => hk p (flat_mem h4 p hp) fun hA => hpn (hF2 p hp hA)) r1 ndF.1 (fun q hq => (nF q (List.mem_append_left _ hq)).elim (fun z => by
      by_cases y : q ∈ F
      · exact .inl (hF2 q y z)
      · exact .inr y) fun z => .inr fun y => z (flat_mem h4 q y))
    have ei : Fs1[i]? = some (F.filter fun q => decide (q ∉ FA)) := by rw [n1 i hn]; exact memG h4
    have hi : i < Fs1.length := (List.getElem?_eq_some_iff.mp ei).1
    have nF' : ∀ x ∈ F', x ∈ F.filter (fun q => decide (q ∉ FA)) ∨ x ∉ Fs1.flatten := fun x hx => by
      rcases n3 x hx with hx | ⟨hx, hx2⟩
      · refine .inr fun y => ?_
        rcases q1 x y with y | y
        · exact ndF.2.2 x hx x y rfl
        · obtain ⟨y1, y2⟩ := subG x y
          exact (nF x (List.mem_append_left _ hx)).elim y2 fun z => z y1
      · exact .inl (by rw [List.mem_filter, decide_eq_true_eq]; exact ⟨hx, fun hA => hx2 (hF2 x hx hA)⟩)
    refine ⟨Fs1.set i F', by rw [List.length_set, l1], fun j hj => ?_, fun j hj s v' F'' e1 e2 e3 => ?_, fun j hj => ?_, by show ((setAll L (mk (pu w.2))).set i _).length = _; rw [List.length_set, ml], flat_set_nd nd1 ei nd3 nF', fun q hq => ?_⟩
    · rw [List.getElem?_set_ne fun e => hj (by rw [e]; exact List.mem_cons_self)]
      exact n1 j fun z => hj (List.mem_cons_of_mem _ z)
    · have e1 : ((setAll L (mk (pu w.2))).set i (sP px O (put w.1)))[j]? = some s := e1
      by_cases hij : j = i
      · subst hij
        rw [List.getElem?_set_self hi] at e3
        have hj' : j < (setAll L (mk (pu w.2))).length := by rw [ml]; exact (List.getElem?_eq_some_iff.mp h1).1
        rw [List.getElem?_set_self hj'] at e1
        rw [h2] at e2
        cases e1; cases e2; cases e3
        exact ⟨v, rfl, h3, r3⟩
      · rw [List.getElem?_set_ne fun e => hij e.symm] at e1 e3
        exact k1 j ((List.mem_cons.mp hj).resolve_left hij) s v' F'' e1 e2 e3
    · show ((setAll L (mk (pu w.2))).set i _)[j]? = _
      rw [List.getElem?_set_ne fun e => hj (by rw [e]; exact List.mem_cons_self)]
      exact m1 j fun z => hj (List.mem_cons_of_mem _ z)
    · rcases flat_set_mem nd1 ei q hq with hq | ⟨hq, _⟩
      · rcases n3 q hq with hq | ⟨hq, hq2⟩
        · exact .inl (List.mem_append_left _ hq)
        · refine .inr (flat_mem (memG h4) q ?_)
          rw [List.mem_filter, decide_eq_true_eq]
          exact ⟨hq, fun hA => hq2 (hF2 q hq hA)⟩
      · exact (q1 q hq).imp (List.mem_append_right _) id
theorem flat_filter {f : Addr → Bool} : ∀ {Fs : List (List Addr)}, (Fs.map (List.filter f)).flatten.Sublist Fs.flatten
  | [] => List.Sublist.refl _
  | F :: Fs => by rw [List.map_cons, List.flatten_cons, List.flatten_cons]; exact List.Sublist.append List.filter_sublist flat_filter
/-- behind the call -/
theorem At.chgX {fm : Fm} {kp : RdR} {own Fr Fa' : List Addr} {w : ω} (h : At fm kp L σ H own) (hs : AllS H (RB fm own H) L σ Fs) (eo : own = Fs.flatten) (hA : ArgsAt L σ Fs H (RD fm own H) A up ds vs Fa is pu mk) (sm : Same (hm H Fa) H')
    (nd' : (Fr ++ Fa').Nodup) (n1 : ∀ a ∈ Fr ++ Fa', (a ∈ Fa ∨ H a = none) ∧ H' a ≠ none) (r : A.rep (up ds w) vs H' (RD fm (Fr ++ Fa' ++ own.filter fun q => decide (q ∉ Fa)) H') Fa') :
    ∃ own', At fm kp (setAll L (mk (pu w))) σ H' own' ∧ (∀ q ∈ own', q ∈ Fa' ∨ (q ∈ own ∧ q ∉ Fa)) ∧ (∀ a o, kp a o → RD fm (Fr ++ Fa' ++ own.filter fun q => decide (q ∉ Fa)) H' a o) ∧ ∃ Fs', AllS H' (RB fm (Fr ++ Fa' ++ own.filter fun q => decide (q ∉ Fa)) H') (setAll L (mk (pu w))) σ Fs' ∧ own' = Fs'.flatten := by
  obtain ⟨h1, h2, _, h4, h5, h6⟩ := h
  have nd := h4
  rw [eo] at nd
  have sub : ∀ q ∈ Fa, q ∈ own := fun q hq => by rw [eo]; exact hA.subF q hq
  obtain ⟨hrep, hFnd⟩ := hA.rep nd
  have hg := A.tb hrep
  have keep : ∀ a o, H a = some o → nt o = true → a ∉ Fa → H' a = some o := fun a o ea na hn => sm.keep a o (by rw [hm_out hn]; exact ea) na
  have fr : ∀ a, H' a = none → a ∉ Fa → H a = none := fun a ea hn => by have := sm.fr a ea; rwa [hm_out hn] at this
  have tab : ∀ P, LamX.TabS H P lamQ → LamX.TabS H' P lamQ := fun P t => sm.tab P (hm_tab hg t)
  have kcl : ∀ a o, cl H a = some o → a ∉ Fa → cl H' a = some o := fun a o ea hn => cl_of (keep a o (cl_raw ea) (cl_nt ea) hn) (cl_nt ea)
  have keq : ∀ a, cl H a ≠ none → a ∉ Fa → H' a = H a := fun a ha hn => by
    cases r : cl H a with
    | none => exact absurd r ha
    | some o => rw [cl_raw r]; exact keep a o (cl_raw r) (cl_nt r) hn
  have nA : ∀ a ∈ Fr ++ Fa', H a ≠ none → a ∈ Fa := fun a ha hne => (n1 a ha).1.resolve_right hne
  have rdB : ∀ b a o, RB fm own H b a o → RB fm (Fr ++ Fa' ++ own.filter fun q => decide (q ∉ Fa)) H' b a o := fun b a o z => by
    have out : cl H a ≠ none → a ∉ own → a ∉ Fr ++ Fa' ++ own.filter fun q => decide (q ∉ Fa) := fun hc hn hq => by
      rcases List.mem_append.mp hq with hq | hq
      · exact hn (sub a (nA a hq fun e => hc (cl_none e)))
      · exact hn (List.mem_filter.mp hq).1
    cases b with
    | false =>
      rcases z with ⟨z1, z2, z3⟩ | z
      · have hne : cl H a ≠ none := fun q => by rcases z1 with z1 | ⟨_, z1⟩ <;> rw [q] at z1 <;> cases z1
        have n2 : a ∉ Fa := fun q => z2 (sub a q)
        exact .inl ⟨z1.imp (fun q => kcl a _ q n2) fun ⟨f, q⟩ => ⟨f, kcl a _ q n2⟩, out hne z2, z3⟩
      · exact .inr z
    | true =>
      obtain ⟨z1, z2, z3, z4⟩ := z
      exact ⟨kcl a _ z1 fun q => z2 (sub a q), out (by rw [z1]; exact fun q => nomatch q) z2, z3, z4⟩
  have memF : ∀ {i : Nat} {F : List Addr}, Fs[i]? = some F → (Fs.map (List.filter fun q => decide (q ∉ Fa)))[i]? = some (F.filter fun q => decide (q ∉ Fa)) := fun {i F} e => by rw [List.getElem?_map, e]; rfl
  have flG : (Fs.map (List.filter fun q => decide (q ∉ Fa))).flatten.Sublist Fs.flatten := flat_filter
  have nG : ∀ q ∈ (Fs.map (List.filter fun q => decide (q ∉ Fa))).flatten, q ∉ Fa := fun q hq => by
    obtain ⟨G, hG, hq⟩ := List.mem_flatten.mp hq
    obtain ⟨F, hF, rfl⟩ := List.mem_map.mp hG
    rw [List.mem_filter, decide_eq_true_eq] at hq
    exact hq.2
  obtain ⟨Fs', l1, k0, k1, m1, ml, ndF, q1⟩ := hA.done (FA := Fa) (RR := RB fm (Fr ++ Fa' ++ own.filter fun q => decide (q ∉ Fa)) H') (H' := H') (w := w) (fun _ h => h) (fun a o z => rdB false a o z) (fun q hq hn => keq q (hs.tb q hq) hn) nd rfl (nd.sublist flG) (fun i hi F e q hq hF => hF) r (List.nodup_append.mp nd').2.1
    (fun q hq => by
      by_cases y : q ∈ Fs.flatten
      · exact .inl (nA q (List.mem_append_right _ hq) (h5 q (by rw [eo]; exact y)).1)
      · exact .inr y)
  have nF : ∀ q ∈ Fs'.flatten, q ∈ Fa' ∨ (q ∈ own ∧ q ∉ Fa) := fun q hq => (q1 q hq).imp id fun z => ⟨by rw [eo]; exact flG.subset z, nG q z⟩
  have dr : ∀ b a o, RB fm (Fr ++ Fa' ++ own.filter fun q => decide (q ∉ Fa)) H' b a o → RB fm Fs'.flatten H' b a o := RB.own fun q hq => by
    rcases nF q hq with hq | hq
    · exact List.mem_append_left _ (List.mem_append_right _ hq)
    · exact List.mem_append_right _ (List.mem_filter.mpr ⟨hq.1, by rw [decide_eq_true_eq]; exact hq.2⟩)
  have hpw := hs.pw
  have sl : AllS H' (RB fm (Fr ++ Fa' ++ own.filter fun q => decide (q ∉ Fa)) H') (setAll L (mk (pu w))) σ Fs' := by
    refine Pw.all ⟨by rw [ml]; exact hpw.l1, by rw [ml, l1, List.length_map]; exact hpw.l2, fun j _ s v F e1 e2 e3 => ?_⟩
    by_cases hj : j ∈ is
    · exact k1 j hj s v F e1 e2 e3
    · rw [m1 j hj] at e1
      have hlt : j < Fs.length := by rw [hpw.l2]; exact (List.getElem?_eq_some_iff.mp e1).1
      have e4 : Fs[j]? = some Fs[j] := List.getElem?_eq_getElem hlt
      have e5 : Fs[j].filter (fun q => decide (q ∉ Fa)) = Fs[j] := List.filter_eq_self.mpr fun q hq => by
        rw [decide_eq_true_eq]
        intro hF
        obtain ⟨i, hi, F0, e6, hF0⟩ := hA.sub q hF
        have := flat_two nd e4 e6 hq hF0
        subst this
        exact hj hi
      rw [k0 j hj, memF e4, e5] at e3
      cases e3
      refine s.st (hpw.ok j (fun z => z) s v _ e1 e2 e4) rdB fun q hq => keq q (hs.tb q (flat_mem e4 q hq)) fun hF => ?_
      rw [← e5, List.mem_filter, decide_eq_true_eq] at hq
      exact hq.2 hF
  have sH : Same fm.H0 H' := by
    refine ⟨fun a o ea na => keep a o (h1.keep a o ea na) na (fun q => by have := (h5 a (sub a q)).2.1; rw [this] at ea; cases ea), fun a ea => ?_, fun P t => tab P (h1.tab P t)⟩
    by_cases q2 : a ∈ Fa
    · exact (h5 a (sub a q2)).2.1
    · exact h1.fr a (fr a ea q2)
  refine ⟨Fs'.flatten, ⟨sH, fun a z ea => h2 a z (fr a ea fun q => (h5 a (sub a q)).2.2 z), ⟨Fs', sl.st dr fun _ _ => rfl, rfl⟩, ndF, fun q hq => ?_, fun a o z => dr false a o (rdB false a o (h6 a o z))⟩, nF, fun a o z => rdB false a o (h6 a o z), Fs', sl, rfl⟩
  rcases nF q hq with hq | ⟨hq, hn⟩
  · have hq' := n1 q (List.mem_append_right _ hq)
    refine ⟨hq'.2, ?_, ?_⟩
    · rcases hq'.1 with z | z
      · exact (h5 q (sub q z)).2.1
      · exact h1.free z
    · rcases hq'.1 with z | z
      · exact (h5 q (sub q z)).2.2
      · exact fun y => h2 q y z
  · have z := h5 q hq
    exact ⟨fun y => z.1 (fr q y hn), z.2⟩
end
end Hd
namespace Hd
open PySem PySem.Spec L2
def FinXA {δ ω τ : Type} (fm : Fm) (W : Wx) (L : List Slot) (own : List Addr) (Fs : List (List Addr)) (σ : L2.St) (H : Hp) (A : WAr δ) (up : δ → ω → δ) (is : List Nat) (mk : τ → List (Nat × Slot)) (Q : List V → Hp → Prop) : M (δ × (ω → τ)) → Prop
  | .ok q => ∀ vs Fa H', Same H H' → ArgsAt L σ Fs H' (RD fm own H') A up q.1 vs Fa is q.2 mk → Q vs H'
  | .ex c => ∀ H', Same H H' → W c σ H'
  | .no => False
def EvXA (g : G) (L : List Slot) (es : List Expr) {δ ω τ : Type} (A : WAr δ) (up : δ → ω → δ) (is : List Nat) (mk : τ → List (Nat × Slot)) (m : M (δ × (ω → τ))) : Prop :=
  PA g.X es (fun σ H Q => ∃ kp own Fs, At g.fm kp L σ H own ∧ AllS H (RB g.fm own H) L σ Fs ∧ own = Fs.flatten ∧ FinXA g.fm g.W L own Fs σ H A up is mk Q m)
/-- the end of an expression that changes the slots -/
def FinX {β τ : Type} (fm : Fm) (W : Wx) (kp : RdR) (σ : L2.St) (LX : List Slot) (L' : τ → List Slot) (O : WTy β) (Q : VK) : M (β × τ) → Prop
  | .ok r => ∀ v F H' own', At fm kp (L' r.2) σ H' own' → (F ++ own').Nodup → (∀ q ∈ F, H' q ≠ none ∧ fm.H0 q = none ∧ ¬ fm.z q) → (∀ a o, kp a o → RD fm (F ++ own') H' a o) → (∃ Fs, AllS H' (RB fm (F ++ own') H') (L' r.2) σ Fs ∧ own' = Fs.flatten) → O.rep r.1 v H' (RD fm (F ++ own') H') F → Q v H'
  | .ex c => ∀ H' own', At fm kp LX σ H' own' → W c σ H'
  | .no => False
def EvX (g : G) (L : List Slot) (e : Expr) {β τ : Type} (O : WTy β) (L' : τ → List Slot) (m : M (β × τ)) : Prop :=
  PE g.X e (fun σ H Q => ∃ kp own, At g.fm kp L σ H own ∧ FinX g.fm g.W kp σ g.LX L' O Q m)
section
variable {p : Pr} {sc : Scope} {NN VV GG : List Str} {k : Nat} {g : G} {L L' : List Slot} {a b c e e' ix : Expr} {es : List Expr} {md md' : Md} {α β γ δ ρ ω τ : Type} {S : Ty α} {T : Ty β} {O : WTy α} {O2 : WTy β} {O3 : WTy γ} {A : WAr δ} {pos pp pos' : Pos} {i j : Nat} {x f : Str} {px : V → Prop} {d : α}
theorem AllS.hk {fm : Fm} {own : List Addr} {L : List Slot} {σ : L2.St} {H H' : Hp} {Fs : List (List Addr)} {R : Bool → RdR} (hs : AllS H R L σ Fs) (s : Same H H') : ∀ q ∈ Fs.flatten, H' q = H q := fun q hq => by
  cases r : cl H q with
  | none => exact absurd r (hs.tb q hq)
  | some o => rw [cl_raw r]; exact s.keep _ _ (cl_raw r) (cl_nt r)
theorem evxa_nil : EvXA g L [] (ω := Unit) (τ := Unit) waNil (fun d _ => d) [] (fun _ => []) (.ok ((), fun _ => ())) :=
  PA.imp pa_nil fun σ H Q ⟨kp, own, Fs, at_, hsl, heo, q⟩ => q [] [] H (Same.refl H) .nil
theorem evxa_sh {up : δ → ω → δ} {is : List Nat} {mk : τ → List (Nat × Slot)} {m1 : M β} {m2 : M (δ × (ω → τ))} (ha : EvE g L a md T m1) (hb : EvXA g L es A up is mk m2) (hs : starEach (a :: es) g.X.env = (false, eval a g.X.env) :: starEach es g.X.env := by rfl) :
    EvXA g L (a :: es) (waCons (wV T) A) (fun d w => (d.1, up d.2 w)) is mk (m1.bind fun d => m2.bind fun r => .ok ((d, r.1), r.2)) := by
  refine PA.imp (pa_cons ha hb hs) fun σ H Q ⟨kp, own, Fs, at_, hsl, heo, q⟩ => ?_
  refine tE_iff.mpr ⟨kp, own, at_, ?_⟩
  cases m1 with
  | ok d =>
    intro v H1 s1 r1
    refine ⟨kp, own, Fs, at_.ext s1, hsl.st (RB.same s1) (hsl.hk (fm := g.fm) (own := own) s1), heo, ?_⟩
    cases m2 with
    | ok r =>
      intro vs Fa H2 s2 hA
      exact q (v :: vs) Fa H2 (s1.trans s2) (.sh (T.mono r1 fun a o z => RD.same s2 a o (RX.sh a o z)) hA)
    | ex c => exact fun H' s => q H' (s1.trans s)
    | no => exact q
  | ex c => exact q
  | no => exact q
theorem evxa_ow {up : δ → ω → δ} {is : List Nat} {mk : τ → List (Nat × Slot)} {m1 : M (β × (β → α))} {m2 : M (δ × (ω → τ))} (ha : EvP g L a i px O d O2 m1) (hb : EvXA g L es A up is mk m2) (hi : i ∉ is) (hs : starEach (a :: es) g.X.env = (false, eval a g.X.env) :: starEach es g.X.env := by rfl) :
    EvXA g L (a :: es) (ω := β × ω) (τ := α × τ) (waCons O2 A) (fun d w => (w.1, up d.2 w.2)) (i :: is) (fun t => (i, sP px O t.1) :: mk t.2) (m1.bind fun q => m2.bind fun r => .ok ((q.1, r.1), fun w => (q.2 w.1, r.2 w.2))) := by
  refine PA.imp (pa_cons ha hb hs) fun σ H Q ⟨kp, own, Fs, at_, hsl, heo, q⟩ => ?_
  refine ⟨kp, own, Fs, at_, hsl, heo, ?_⟩
  cases m1 with
  | ok q0 =>
    intro v2 F2 H1 s1 A1
    refine ⟨kp, own, Fs, at_.ext s1, hsl.st (RB.same s1) (hsl.hk (fm := g.fm) (own := own) s1), heo, ?_⟩
    cases m2 with
    | ok r =>
      intro vs Fa H2 s2 hA
      obtain ⟨v, F, hL, hs2, eo, e1, hx, e2, pl⟩ := A1.ext s2
      exact q (v2 :: vs) (F2 ++ Fa) H2 (s1.trans s2) (.ow hL e1 hx e2 pl hi hA)
    | ex c => exact fun H' s => q H' (s1.trans s)
    | no => exact q
  | ex c => exact q
  | no => exact q
/-- what is known where such a call refuses -/
inductive WkC {δ ω τ ρ : Type} (g : G) (L : List Slot) (up : δ → ω → δ) (mk : τ → List (Nat × Slot)) (m : M (δ × (ω → τ))) (F : δ → M (ρ × ω)) (kx : Bool) : Prop where
  | any : g.LX = List.replicate L.length sAny → WkC g L up mk m F kx
  | keep {pj : δ → ω} : kx = true → Wk L g.LX → (∀ d, up d (pj d) = d) → (∀ q, m = .ok q → setAll L (mk (q.2 (pj q.1))) = L) → WkC g L up mk m F kx
  | nx : NoEx m → (∀ q, m = .ok q → NoEx (F q.1)) → WkC g L up mk m F kx
theorem At.anys {fm : Fm} {kp : RdR} {σ : L2.St} {H H' : Hp} {own Fa : List Addr} {n : Nat} (h : At fm kp L σ H own) (sub : ∀ q ∈ Fa, q ∈ own) (sm : Same (hm H Fa) H') (hg : ∀ a ∈ Fa, ∃ o, H a = some o ∧ gd o = true) (hn : n = L.length) : At fm kp (List.replicate n sAny) σ H' [] := by
  have hl := h.len
  obtain ⟨h1, h2, ⟨Fs, h3, e⟩, h4, h5, h6⟩ := h
  have keep : ∀ a o, H a = some o → nt o = true → a ∉ Fa → H' a = some o := fun a o ea na hn => sm.keep a o (by rw [hm_out hn]; exact ea) na
  have fr : ∀ a, H' a = none → a ∉ Fa → H a = none := fun a ea hn => by have := sm.fr a ea; rwa [hm_out hn] at this
  have kcl : ∀ a o, cl H a = some o → a ∉ Fa → cl H' a = some o := fun a o ea hn => cl_of (keep a o (cl_raw ea) (cl_nt ea) hn) (cl_nt ea)
  refine ⟨⟨fun a o ea na => keep a o (h1.keep a o ea na) na (fun q => by have := (h5 a (sub a q)).2.1; rw [this] at ea; cases ea), fun a ea => ?_, fun P t => sm.tab P (hm_tab hg (h1.tab P t))⟩, fun a z ea => h2 a z (fr a ea fun q => (h5 a (sub a q)).2.2 z), ⟨List.replicate n [], ?_, by rw [flat_rep]⟩, List.nodup_nil, (fun _ h => nomatch h), fun a o z => ?_⟩
  · by_cases q2 : a ∈ Fa
    · exact (h5 a (sub a q2)).2.1
    · exact h1.fr a (fr a ea q2)
  · have : ∀ {H : Hp} {R : Bool → RdR} (n : Nat) (σ : L2.St), σ.length = n → AllS H R (List.replicate n sAny) σ (List.replicate n []) := by
      intro H R n
      induction n with
      | zero => intro σ hl; rw [List.length_eq_zero_iff.mp hl]; exact .nil
      | succ n ih =>
        intro σ hl
        cases σ with
        | nil => simp at hl
        | cons v σ => exact .cons rfl (ih σ (by simpa using hl))
    exact this n σ (by rw [hl, hn])
  · rcases h6 a o z with ⟨z1, z2, z3⟩ | z
    · have n2 : a ∉ Fa := fun q => z2 (sub a q)
      exact .inl ⟨z1.imp (fun q => kcl a _ q n2) fun ⟨f, q⟩ => ⟨f, kcl a _ q n2⟩, (fun q => nomatch q), z3⟩
    · exact .inr z
/-- exceptions ahead of the call -/
theorem WkC.pre {up : δ → ω → δ} {mk : τ → List (Nat × Slot)} {m : M (δ × (ω → τ))} {F : δ → M (ρ × ω)} {kx : Bool} {kp : RdR} {σ : L2.St} {H H' : Hp} {own : List Addr} {c : Ec} (wk : WkC g L up mk m F kx) (hn : m = .ex c) (at_ : At g.fm kp L σ H own) (s : Same H H') (q : ∀ H' own', At g.fm kp g.LX σ H' own' → g.W c σ H') : g.W c σ H' := by
  cases wk with
  | any h =>
    refine q H' [] (h ▸ At.anys (Fa := []) at_ (fun _ h => nomatch h) ?_ (fun _ h => nomatch h) rfl)
    have : hm H [] = H := funext fun a => hm_out (fun h => nomatch h)
    rw [this]; exact s
  | keep h1 h2 _ _ =>
    obtain ⟨own', a', _⟩ := (at_.ext s).weak h2
    exact q H' own' a'
  | nx h _ => exact absurd hn (h c)
theorem spX_of {up : δ → ω → δ} {is : List Nat} {mk : τ → List (Nat × Slot)} {m : M (δ × (ω → τ))} {q0 : δ × (ω → τ)} {F : δ → M (ρ × ω)} {O : WTy ρ} {kx : Bool} {kp : RdR} {σ : L2.St} {H : Hp} {own : List Addr} {Fs : List (List Addr)} {vs : List V} {Fa : List Addr} {Q : VK} (ok : Ok p sc NN VV GG k g) (wk : WkC g L up mk m F kx) (hm0 : m = .ok q0)
    (at_ : At g.fm kp L σ H own) (hs : AllS H (RB g.fm own H) L σ Fs) (eo : own = Fs.flatten) (hA : ArgsAt L σ Fs H (RD g.fm own H) A up q0.1 vs Fa is q0.2 mk)
    (q : FinX g.fm g.W kp σ g.LX (fun t => setAll L (mk t)) O Q ((F q0.1).bind fun r => .ok (r.1, q0.2 r.2))) :
    spX p A up O kx F vs H Q (fun cls d H => ∃ c, cls = .ref (p.C c) ∧ d = none ∧ g.W c σ H) := by
  have nd := at_.nd
  rw [eo] at nd
  obtain ⟨hrep, hFnd⟩ := hA.rep nd
  have hg := A.tb hrep
  have sub : ∀ q ∈ Fa, q ∈ own := fun q hq => by rw [eo]; exact hA.subF q hq
  let z : Addr → Prop := fun a => (a ∈ own ∧ a ∉ Fa) ∨ g.fm.z a
  -- what the callee may read at the end
  have rdO : ∀ {F1 Fa' : List Addr} {H' : Hp} {X : List Addr}, (∀ q ∈ X, q ∈ F1 ++ Fa' ∨ (q ∈ own ∧ q ∉ Fa)) → ∀ a o, RD ⟨p.K, hm H Fa, z⟩ (F1 ++ Fa') H' a o → RD g.fm X H' a o := fun {F1 Fa' H' X} hX a o y => by
    rcases y with ⟨y1, y2, y3⟩ | y
    · exact .inl ⟨y1, fun hq => (hX a hq).elim y2 fun h => y3 (.inl h), fun h => y3 (.inr h)⟩
    · rw [← ok.fmK] at y; exact .inr y
  refine ⟨q0.1, z, Fa, ⟨fun a y => ?_, fun P e => at_.same.tab P (ok.tab P e)⟩, hFnd, fun a ha y => ?_, A.st hrep (fun a o y => ?_) fun _ _ => rfl, ?_⟩
  · rcases y with y | y
    · exact (at_.new a y.1).1
    · exact at_.zin a y
  · rcases y with y | y
    · exact y.2 ha
    · exact (at_.new a (sub a ha)).2.2 y
  · rcases y with ⟨y1, y2, y3⟩ | y
    · exact .inl ⟨y1, fun h => y2 (sub a h), fun h => h.elim (fun h => y2 h.1) y3⟩
    · rw [ok.fmK] at y; exact .inr y
  cases hF : F q0.1 with
  | ok r =>
    rw [hF] at q
    intro v H' Fr Fa' sm ndf n1 rO rA
    obtain ⟨own', a', sub', kpt, Fs2, al2, eo2⟩ := at_.chgX (Fr := Fr) (w := r.2) hs eo hA sm ndf (fun a ha => ⟨(n1 a ha).1, (n1 a ha).2.1⟩) (A.st rA (rdO fun q hq => by
      rcases List.mem_append.mp hq with hq | hq
      · exact .inl hq
      · rw [List.mem_filter, decide_eq_true_eq] at hq; exact .inr hq) fun _ _ => rfl)
    have ndf2 := List.nodup_append.mp ndf
    have inc : ∀ q ∈ Fr ++ own', q ∈ Fr ++ Fa' ++ own.filter fun q => decide (q ∉ Fa) := fun q hq => by
      rcases List.mem_append.mp hq with hq | hq
      · exact List.mem_append_left _ (List.mem_append_left _ hq)
      · rcases sub' q hq with z | z
        · exact List.mem_append_left _ (List.mem_append_right _ z)
        · exact List.mem_append_right _ (List.mem_filter.mpr ⟨z.1, by rw [decide_eq_true_eq]; exact z.2⟩)
    refine q v Fr H' own' a' (List.nodup_append.mpr ⟨ndf2.1, a'.nd, fun a ha b hb e => ?_⟩) (fun a ha => ?_) (fun a o z => RD.drop (inc) a o (kpt a o z)) ⟨Fs2, al2.st (RB.own inc) (fun _ _ => rfl), eo2⟩ (O.st rO (rdO fun q hq => ?_) fun _ _ => rfl)
    · subst e
      rcases sub' a hb with h | h
      · exact ndf2.2.2 a ha a h rfl
      · rcases (n1 a (List.mem_append_left _ ha)).1 with y | y
        · exact h.2 y
        · exact (at_.new a h.1).1 y
    · have h := n1 a (List.mem_append_left _ ha)
      refine ⟨h.2.1, ?_, fun y => h.2.2 (.inr y)⟩
      rcases h.1 with y | y
      · exact (at_.new a (sub a y)).2.1
      · exact at_.same.free y
    · rcases List.mem_append.mp hq with hq | hq
      · exact .inl (List.mem_append_left _ hq)
      · exact (sub' q hq).imp (List.mem_append_right _) id
  | ex c =>
    rw [hF] at q
    intro H' sm hk
    refine ⟨c, rfl, rfl, ?_⟩
    cases wk with
    | any h => exact q H' [] (h ▸ At.anys at_ sub sm hg rfl)
    | nx _ h => exact absurd hF (h q0 hm0 c)
    | keep h1 h2 h3 h4 =>
      obtain ⟨Fa', nd', n1, rA⟩ := hk h1
      obtain ⟨own', a', _, _, _⟩ := at_.chgX (Fr := []) (Fa' := Fa') (H' := H') hs eo hA sm (by simpa using nd') (fun a ha => ⟨(n1 a (by simpa using ha)).1, (n1 a (by simpa using ha)).2.1⟩) (w := _) (by
        rw [h3]
        refine A.st rA (fun a o y => ?_) fun _ _ => rfl
        have := rdO (F1 := []) (Fa' := Fa') (H' := H') (X := [] ++ Fa' ++ own.filter fun q => decide (q ∉ Fa)) (fun q hq => by
          rcases List.mem_append.mp hq with hq | hq
          · exact .inl hq
          · rw [List.mem_filter, decide_eq_true_eq] at hq; exact .inr hq) a o
        exact this y)
      rw [h4 q0 hm0] at a'
      obtain ⟨own2, a2, _⟩ := a'.weak h2
      exact q H' own2 a2
  | no => rw [hF] at q; exact q
/-- a call of a def -/
theorem ex_call {up : δ → ω → δ} {is : List Nat} {mk : τ → List (Nat × Slot)} {m : M (δ × (ω → τ))} {F : δ → M (ρ × ω)} {O : WTy ρ} {kx : Bool} {kf : Nat} {ps : List Str} (ok : Ok p sc NN VV GG k g) (hf : Fn p kf x ps (spX p A up O kx F)) (hk : kf ≤ k) (hG : GG[j]? = some x) (wk : WkC g L up mk m F kx)
    (ha : EvXA g L (e :: es) A up is mk m) (he : starEach (e :: es) g.X.env = (false, eval e g.X.env) :: starEach es g.X.env := by rfl) (hpl : (backTo pos (starEach es g.X.env)).any (·.1) = false := by rfl) :
    EvX g L (.Call (.Name x pp) (e :: es) [] pos) O (fun t => setAll L (mk t)) (m.bind fun q => (F q.1).bind fun r => .ok (r.1, q.2 r.2)) := by
  obtain ⟨f, fd, hF, hm, hkp, hbd⟩ := hf.ex
  obtain ⟨hg, ho⟩ := ok.gl hG
  rw [← ok.prog, ← ok.w, ← ok.base] at hF
  have hF' : FnOk g.X.prog g.X.w g.X.K g.X.mg g.X.base (L2.CX g.X.prog g.X.w) kf f fd ps (spX p A up O kx F) := by rw [ok.K, ok.mg]; exact hF
  refine PE.imp (pe_callS hF' (ok.room.mono hk) hg (by rw [ok.mg]; exact hm) (by rw [ok.K]; exact hkp) (by rw [ok.K]; exact hbd) (tk_at ok) ha (okName_d ho).1 he hpl) fun σ H Q ⟨kp, own, at_, q⟩ => ?_
  obtain ⟨Fs, hsl, heo⟩ := at_.sl
  refine ⟨kp, own, Fs, at_, hsl, heo, ?_⟩
  cases hm0 : m with
  | ok q0 =>
    rw [hm0] at q
    intro vs Fa H1 s1 hA
    exact spX_of ok wk hm0 (at_.ext s1) (hsl.st (RB.same s1) (hsl.hk (fm := g.fm) (own := own) s1)) heo hA q
  | ex c =>
    rw [hm0] at q
    exact fun H' s => wk.pre hm0 at_ s q
  | no => rw [hm0] at q; exact q
end
def tMethS (C : Addr) (m : Str) (sp : Sp) (E : L2.St → XK) (ta : TE) (t : TA) : TE := fun σ H Q => ta σ H fun x H1 => ∃ a dx fs, x = .ref a ∧ L2.Rd H1 a (.ins C dx fs) ∧ fs.lookup m = none ∧ t σ H1 fun vs H2 => sp (x :: vs) H2 Q (E σ)
section
variable {X : Cx} {C : Addr}
theorem pe_methS {k : Nat} {o e : Expr} {es : List Expr} {m : Str} {apos pos : Pos} {ta : TE} {t : TA} {f : Addr} {fd : FuncData} {ps : List Str} {sp : Sp} {E : L2.St → XK} {pl : Sem Bool} {CX' : CXT} (he : PE X o ta) (c : Cls X.K C) (hm : Meth X.K C m f) (F : FnOk X.prog X.w X.K X.mg X.base CX' k f fd ps sp) (hr : Room k X.A) (hb : Binds X.K fd ps []) (hx : ∀ σ, PassesAt CX' X σ (E σ)) (ha : PA X (e :: es) t)
    (hst : starEach (e :: es) X.env = (false, eval e X.env) :: starEach es X.env := by rfl) (hpl : (backTo pos (starEach es X.env)).any (·.1) = false := by rfl)
    (ht : eval (.Call (.Attribute o m apos) (e :: es) [] pos) X.env = (do
      let ov ← eval o X.env
      standAt apos.atName
      let (f, first) ← holding [ov] (getMethod ov m pl)
      callWith pos f first (backTo pos (starEach (e :: es) X.env)) (backToKw pos (keywordEach [] X.env))) := by rfl) :
    PE X (.Call (.Attribute o m apos) (e :: es) [] pos) (tMethS C m sp E ta t) := by
  refine ⟨fun pins s σ H Q I h => ?_⟩
  refine PySem.W.methodCall_KW (pl := pl) (thn (he.run pins s σ H _ I h) fun u s1 ⟨x, H1, I1, rx, a, dx, fs, ex, ea, l, q⟩ => ?_) ht
  subst ex
  obtain rfl : u = Value.ref a := rx
  refine getmeth_rd I1 ea c hm l ?_
  refine PySem.W.callWith_K (first := [.ref a]) (h₀ := X.base) I.ok.mod.kin hm.kp (thn (ha.run pos pins s1 σ H1 _ I1 q) fun us s2 ⟨vs, H2, I2, r, q2⟩ => ⟨I2.kIn, ?_⟩) hst hpl
  exact run_fnS (us := .ref a :: us) (vs := .ref a :: vs) F hr hb (hx σ) I2 (.cons rfl r) q2
end
section
variable {p : Pr} {sc : Scope} {NN VV GG : List Str} {k : Nat} {g : G} {L L' : List Slot} {a b c e e' ix : Expr} {es : List Expr} {md md' : Md} {α β γ δ ρ ω τ ζ : Type} {S : Ty α} {T : Ty β} {O : WTy α} {O2 : WTy β} {O3 : WTy γ} {A : WAr δ} {pos pp pos' : Pos} {i j : Nat} {x f : Str} {px : V → Prop} {d : α}
theorem fld_none {f : Str} : ∀ {ns : List Str} {vs : List V}, fldIx ns f = none → (ns.zip vs).lookup f = none
  | [], vs, _ => rfl
  | n :: ns, [], _ => rfl
  | n :: ns, w :: vs, h => by
    unfold fldIx at h
    rw [List.zip_cons_cons, List.lookup_cons]
    cases e : f == n with
    | true => rw [e, if_pos rfl] at h; cases h
    | false =>
      rw [e, if_neg (by simp)] at h
      exact fld_none (Option.map_eq_none_iff.mp h)
/-- o.x(..), which may change o and its arguments -/
theorem ex_meth {B : WAr ζ} {ns : List Str} {cn : Str} {up : δ → ω → δ} {is : List Nat} {mk : τ → List (Nat × Slot)} {m1 : M (ζ × (ζ → α))} {m2 : M (δ × (ω → τ))} {F : ζ × δ → M (ρ × (ζ × ω))} {O' : WTy ρ} {kx : Bool} {kf : Nat} {ps : List Str} {apos : Pos} {pl : Sem Bool} (ok : Ok p sc NN VV GG k g)
    (hf : MeF p kf cn x ps (spX p (waCons (wIns (cA p cn) ns B) A) (fun d w => (w.1, up d.2 w.2)) O' kx F)) (hk : kf ≤ k) (hns : fldIx ns x = none) (hi : i ∉ is)
    (wk : WkC g L (fun (d : ζ × δ) (w : ζ × ω) => (w.1, up d.2 w.2)) (fun (t : α × τ) => (i, sP px O t.1) :: mk t.2) (m1.bind fun q => m2.bind fun r => .ok ((q.1, r.1), fun (w : ζ × ω) => (q.2 w.1, r.2 w.2))) F kx)
    (ho : EvP g L a i px O d (wIns (cA p cn) ns B) m1) (ha : EvXA g L (e :: es) A up is mk m2) (hst : starEach (e :: es) g.X.env = (false, eval e g.X.env) :: starEach es g.X.env := by rfl) (hpl : (backTo pos (starEach es g.X.env)).any (·.1) = false := by rfl)
    (ht : eval (.Call (.Attribute a x apos) (e :: es) [] pos) g.X.env = (do
      let ov ← eval a g.X.env
      standAt apos.atName
      let (f, first) ← holding [ov] (getMethod ov x pl)
      callWith pos f first (backTo pos (starEach (e :: es) g.X.env)) (backToKw pos (keywordEach [] g.X.env))) := by rfl) :
    EvX g L (.Call (.Attribute a x apos) (e :: es) [] pos) O' (fun (t : α × τ) => setAll L ((i, sP px O t.1) :: mk t.2)) ((m1.bind fun q => m2.bind fun r => .ok ((q.1, r.1), fun (w : ζ × ω) => (q.2 w.1, r.2 w.2))).bind fun q => (F q.1).bind fun r => .ok (r.1, q.2 r.2)) := by
  obtain ⟨f, fd, hF, hc, hm, hbd⟩ := hf.ex
  rw [← ok.prog, ← ok.w, ← ok.base] at hF
  have hF' : FnOk g.X.prog g.X.w g.X.K g.X.mg g.X.base (L2.CX g.X.prog g.X.w) kf f fd ("self" :: ps) (spX p (waCons (wIns (cA p cn) ns B) A) (fun d w => (w.1, up d.2 w.2)) O' kx F) := by rw [ok.K, ok.mg]; exact hF
  refine PE.imp (pe_methS (pl := pl) ho (by rw [ok.K]; exact hc) (by rw [ok.K]; exact hm) hF' (ok.room.mono hk) (by rw [ok.K]; exact hbd) (tk_at ok) ha hst hpl ht) fun σ H Q ⟨kp, own, at_, q⟩ => ?_
  obtain ⟨Fs, hsl, heo⟩ := at_.sl
  refine ⟨kp, own, Fs, at_, hsl, heo, ?_⟩
  cases h1 : m1 with
  | ok q0 =>
    intro v2 F2 H1 s1 A1
    have hs1 := hsl.st (RB.same s1) (hsl.hk (fm := g.fm) (own := own) s1)
    obtain ⟨v, F0, hL, hs2, eo, e1, hx, e2, pl2⟩ := A1
    obtain ⟨p', dx, vs0, G, r1, r2, hp, hl, rr⟩ := pl2.rep
    subst r1
    refine ⟨p', dx, _, rfl, .inl hp, fld_none hns, kp, own, Fs, at_.ext s1, hs1, heo, ?_⟩
    cases h2 : m2 with
    | ok r0 =>
      rw [h1, h2] at q
      intro vs Fa H2 s2 hA
      obtain ⟨v', F0', hL', hs2', eo', e1', hx', e2', pl3⟩ := AtP.ext (fm := g.fm) (own := own) (Fs := Fs) ⟨v, F0, hL, hs2, eo, e1, hx, e2, pl2⟩ s2
      exact spX_of ok wk (by rw [h1, h2]; rfl) ((at_.ext s1).ext s2) (hs1.st (RB.same s2) (hs1.hk (fm := g.fm) (own := own) s2)) heo (.ow hL' e1' hx' e2' pl3 hi hA) q
    | ex c =>
      rw [h1, h2] at q
      exact fun H' s => wk.pre (c := c) (by rw [h1, h2]; rfl) (at_.ext s1) s q
    | no => rw [h1, h2] at q; exact q
  | ex c =>
    rw [h1] at q
    exact fun H' s => wk.pre (c := c) (by rw [h1]; rfl) at_ s q
  | no => rw [h1] at q; exact q
/-- o.x() -/
theorem ex_meth0 {B : WAr ζ} {ns : List Str} {cn : Str} {m1 : M (ζ × (ζ → α))} {F : ζ × Unit → M (ρ × (ζ × Unit))} {O' : WTy ρ} {kx : Bool} {kf : Nat} {apos : Pos} {pl : Sem Bool} (ok : Ok p sc NN VV GG k g)
    (hf : MeF p kf cn x [] (spX p (waCons (wIns (cA p cn) ns B) waNil) (fun d w => (w.1, d.2)) O' kx F)) (hk : kf ≤ k) (hns : fldIx ns x = none)
    (wk : WkC g L (fun (d : ζ × Unit) (w : ζ × Unit) => (w.1, d.2)) (fun (t : α × Unit) => [(i, sP px O t.1)]) (m1.bind fun q => .ok ((q.1, ()), fun (w : ζ × Unit) => (q.2 w.1, ()))) F kx)
    (ho : EvP g L a i px O d (wIns (cA p cn) ns B) m1)
    (ht : eval (.Call (.Attribute a x apos) [] [] pos) g.X.env = (do
      let ov ← eval a g.X.env
      standAt apos.atName
      let (f, first) ← holding [ov] (getMethod ov x pl)
      callWith pos f first (backTo pos (starEach [] g.X.env)) (backToKw pos (keywordEach [] g.X.env))) := by rfl) :
    EvX g L (.Call (.Attribute a x apos) [] [] pos) O' (fun (t : α × Unit) => setAll L [(i, sP px O t.1)]) ((m1.bind fun q => .ok ((q.1, ()), fun (w : ζ × Unit) => (q.2 w.1, ()))).bind fun q => (F q.1).bind fun r => .ok (r.1, q.2 r.2)) := by
  obtain ⟨f, fd, hF, hc, hm, hbd⟩ := hf.ex
  rw [← ok.prog, ← ok.w, ← ok.base] at hF
  have hF' : FnOk g.X.prog g.X.w g.X.K g.X.mg g.X.base (L2.CX g.X.prog g.X.w) kf f fd ["self"] (spX p (waCons (wIns (cA p cn) ns B) waNil) (fun d w => (w.1, d.2)) O' kx F) := by rw [ok.K, ok.mg]; exact hF
  refine PE.imp (pe_methR0 (pl := pl) ho (by rw [ok.K]; exact hc) (by rw [ok.K]; exact hm) hF' (ok.room.mono hk) (by rw [ok.K]; exact hbd) (tk_at ok) ht) fun σ H Q ⟨kp, own, at_, q⟩ => ?_
  obtain ⟨Fs, hsl, heo⟩ := at_.sl
  refine ⟨kp, own, Fs, at_, hsl, heo, ?_⟩
  cases h1 : m1 with
  | ok q0 =>
    rw [h1] at q
    intro v2 F2 H1 s1 A1
    have hs1 := hsl.st (RB.same s1) (hsl.hk (fm := g.fm) (own := own) s1)
    obtain ⟨v, F0, hL, hs2, eo, e1, hx, e2, pl2⟩ := A1
    obtain ⟨p', dx, vs0, G, r1, r2, hp, hl, rr⟩ := pl2.rep
    subst r1
    refine ⟨p', dx, _, rfl, .inl hp, fld_none hns, ?_⟩
    exact spX_of ok wk (by rw [h1]; rfl) (at_.ext s1) hs1 heo (.ow hL e1 hx e2 pl2 List.not_mem_nil .nil) q
  | ex c =>
    rw [h1] at q
    exact fun H' s => wk.pre (c := c) (by rw [h1]; rfl) at_ s q
  | no => rw [h1] at q; exact q
end
end Hd
namespace Hd
open PySem PySem.Spec L2
section
variable {p : Pr} {sc : Scope} {NN VV GG VV' GG' : List Str} {k : Nat} {g : G} {L L' : List Slot} {a b c e e' : Expr} {es : List Expr} {md md' : Md} {α β γ δ ρ : Type} {S : Ty α} {O : WTy β} {U : Ty γ} {A : Ar δ} {pos : Pos} {K : PySem.W.Frag} {tg : Expr} {st : List Stmt} {D : δ → Out} {i j : Nat} {x : Str}
def tN (fm : Fm) (W : Wx) (L : List Slot) {β : Type} (O : WTy β) (m : M β) : TE := fun σ H Q => ∃ kp own, At fm kp L σ H own ∧ FinN fm W own σ H O Q m
/-- [elt for x in it if c] -/
theorem evn_lc2 {scope : Scope} {it elt : Expr} {m : M (List α)} {cm : α → M Bool} {f : α → M β} {tp : Pos} {ifs : List Expr} {s₀ : Slot} (ok : Ok p sc NN VV GG k g) (hI : EvI g L (.Name x tp) it S m) (hN : NN[i]? = some x) (hLi : L[i]? = some s₀) (hs₀ : NoOwn s₀) (hb : blkC NN sc scope [(x, i)] = true)
    (hv : VV'.all (seenB scope) = true) (hg : GG'.all (glB scope) = true) (hx : locB scope x = true)
    (hc : ∀ g', Ok p scope NN VV' GG' k g' → ∀ d, PTs g'.X ifs (tT g'.fm g'.W (L.set i (sV false S d)) (cm d)))
    (hO : FlatW O) (he : ∀ g', Ok p scope NN VV' GG' k g' → ∀ d, EvN g' (L.set i (sV false S d)) elt O (f d)) (hs : ∀ x, foldedSetIterable it g.X.env x = pure x := by intro _; rfl) :
    (EvN g L (.ListComp elt [⟨.Name x tp, it, ifs, 0⟩] scope pos) (wL O) (m.bind fun xs => compM (fun d => (cm d).bind fun c => if c = true then (f d).bind fun y => .ok (some y) else .ok none) xs)) ∧
    (∀ {y : Str} {i2 : Nat} {py spos : Pos}, NN[i2]? = some y → g.X.env.scope.names.lookup y = some .local → swapsWith (.ListComp elt [⟨.Name x tp, it, ifs, 0⟩] scope pos) (some (.Name y py)) spos.line g.X.env = pure true →
      PS g.X (.Assign [.Name y py] (.ListComp elt [⟨.Name x tp, it, ifs, 0⟩] scope pos) spos) (tAsg (tN g.fm g.W L (wL O) (m.bind fun xs => compM (fun d => (cm d).bind fun c => if c = true then (f d).bind fun y => .ok (some y) else .ok none) xs)) (gName i2))) := by
  have loc : ∀ (s : Shared) (H : Hp) (C : Addr) (cl : List (Str × Addr)) (fp : List Addr), L2.Loc (g.X.blk s H scope (compEnvC scope cl C g.X.env) fp).env.scope x ∧ ((g.X.blk s H scope (compEnvC scope cl C g.X.env) fp).fn x = true ∨ (g.X.blk s H scope (compEnvC scope cl C g.X.env) fp).env.scope.names.lookup x = some .local) := by
    intro s H C cl fp
    rcases locB_v hx with h | h
    · have q : (relabel scope g.X.env).names.lookup x = some .local := by
        rcases lookup_rl (env := g.X.env) h with q | ⟨q, _⟩
        · exact q
        · cases q
      exact ⟨.inl q, .inr q⟩
    · have q : (relabel scope g.X.env).names.lookup x = some .cell := by
        rcases lookup_rl (env := g.X.env) h with q | ⟨q, _⟩
        · exact q
        · cases q
      refine ⟨.inr q, .inl ?_⟩
      show (scope.names.lookup x == some .cell) = true
      rw [h]; rfl
  have BODY : ∀ σ H Q, tN g.fm g.W L (wL O) (m.bind fun xs => compM (fun d => (cm d).bind fun c => if c = true then (f d).bind fun y => .ok (some y) else .ok none) xs) σ H Q →
      tLc (tI g.fm g.W L S m) (gName i) (fun σ H Q => ∃ z : {fm' : Fm // fm'.K = p.K ∧ ∀ P, p.T = some P → LamX.TabS fm'.H0 P lamQ} × α, tT z.1.1 (fun _ _ _ => False) (L.set i (sV false S z.2)) (cm z.2) σ H Q)
        (fun σ H Q => ∃ z : {fm' : Fm // fm'.K = p.K ∧ ∀ P, p.T = some P → LamX.TabS fm'.H0 P lamQ} × α, tN z.1.1 (fun _ _ _ => False) (L.set i (sV false S z.2)) O (f z.2) σ H Q) ([(x, i)].map (·.2)) σ H Q := by
    intro σ H Q q
    obtain ⟨kp, own, at_, q⟩ := q
    cases m with
    | ex c => exact ⟨kp, own, at_, q⟩
    | no => exact q.elim
    | ok xs =>
    refine ⟨kp, own, at_, fun J H1 s1 hJ D hD => ?_⟩
    have at1 := at_.ext s1
    have hHD : H D = none := s1.free hD
    -- the inner frame
    let fm' : Fm := ⟨g.fm.K, g.fm.H0, fun a => a = D ∨ g.fm.z a⟩
    let hh : α → M (Option β) := fun d => (cm d).bind fun c => if c = true then (f d).bind fun y => .ok (some y) else .ok none
    have q : FinN g.fm g.W own σ H (wL O) Q (compM hh xs) := q
    unfold compM at q
    split at q
    case isFalse => exact q.elim
    rename_i hlen
    have aw : At g.fm kp (L.set i sAny) (σ.set i none) H1 own := at1.setN hLi hs₀ rfl
    have rdD : ∀ (md : Md) (H0 : Hp) a o, RX g.fm own H0 H1 md a o → RX fm' own H0 (upd H1 D (.lst [])) md a o := fun md H0 a o z => by
      have z2 := RX.add (o' := .lst []) hD a o z
      cases md with
      | sh => exact z2.imp (fun ⟨a1, a2, a3⟩ => ⟨a1, fun y => a2 (List.mem_cons_of_mem _ y), fun y => y.elim (fun e => a2 (by rw [e]; exact List.mem_cons_self)) a3⟩) id
      | f0 => exact ⟨z2.1, fun y => z2.2.1 (List.mem_cons_of_mem _ y), fun y => y.elim (fun e => z2.2.1 (by rw [e]; exact List.mem_cons_self)) z2.2.2.1, z2.2.2.2⟩
      | fx => exact ⟨z2.1, fun y => z2.2.1 (List.mem_cons_of_mem _ y), fun y => y.elim (fun e => z2.2.1 (by rw [e]; exact List.mem_cons_self)) z2.2.2.1, z2.2.2.2⟩
    have a0 : At fm' (RD g.fm own H1) (L.set i sAny) (wipe σ [i]) (upd H1 D (.lst [])) own := by
      obtain ⟨h1, h2, ⟨Fs, h3, e⟩, h4, h5, h6⟩ := aw
      refine ⟨h1.trans (newSame hD), fun a z => ?_, ⟨Fs, h3.st (fun b a o z => ?_) fun y hy => ?_, e⟩, h4, fun y hy => ⟨fun n => (h5 y hy).1 ((newSame hD).free n), (h5 y hy).2.1, fun z => z.elim (fun e => (h5 y hy).1 (by rw [e]; exact hD)) (h5 y hy).2.2⟩, fun a o z => rdD .sh H1 a o z⟩
      · rcases z with z | z
        · rw [z, upd_same]; exact fun n => by cases n
        · exact fun n => h2 a z ((newSame hD).free n)
      · cases b with
        | false => exact rdD .sh H1 a o z
        | true => exact rdD .f0 H1 a o z
      · exact upd_ne fun e' => (h5 y (by rw [e]; exact hy)).1 (by rw [e']; exact hD)
    refine ⟨fun n mm H' => mm = xs.length - n ∧ n ≤ xs.length ∧ ∃ vs ds Gs, H' D = some (.lst vs) ∧ vs.length ≤ n ∧ Same H H' ∧ RepsO O H' (fun _ _ => False) ds vs Gs ∧ Gs.flatten.Nodup ∧ (∀ q ∈ Gs.flatten, H q = none ∧ q ≠ D) ∧ At fm' (RD g.fm own H1) (L.set i sAny) (wipe σ [i]) H' own ∧
      FinN g.fm g.W own σ H (wL O) Q ((compG hh (xs.drop n)).bind fun l => .ok (ds ++ l)), ⟨_, rfl, Nat.zero_le _, [], [], [], upd_same, Nat.zero_le _, s1.trans (newSame hD), .nil, List.nodup_nil, (fun _ h => nomatch h), a0, ?_⟩, ?_⟩
    · rw [List.drop_zero]
      have e : ((compG hh xs).bind fun l => M.ok ([] ++ l)) = compG hh xs := by cases compG hh xs <;> rfl
      rw [e]; exact q
    rintro n mm H' ⟨rfl, hn, vs, ds, Gs, hDv, hvl, sH, rr, gnd, gn, a', q'⟩
    have rb : Rdb g.fm.K (RD g.fm own H1) H' := ⟨fun a o z n => (a'.kept a o z).imp (fun h => Rd.raw h.1 n) id⟩
    obtain ⟨hgo, hst⟩ := hJ H' rb n
    have rk : ∀ {H5 : Hp}, Same H' H5 → ∀ q ∈ Gs.flatten, H5 q = H' q := fun {H5} s q hq => by obtain ⟨o, ho, go⟩ := rr.tb q hq; rw [ho]; exact s.keep _ _ ho (gd_nt go)
    by_cases hlt : n < xs.length
    · have hx' : xs[n]? = some xs[n] := by simp [hlt]
      obtain ⟨go, yl⟩ := hgo _ hx'
      refine .inr ⟨go, fun H6 => ∃ vs ds Gs, H6 D = some (.lst vs) ∧ vs.length ≤ n + 1 ∧ Same H H6 ∧ RepsO O H6 (fun _ _ => False) ds vs Gs ∧ Gs.flatten.Nodup ∧ (∀ q ∈ Gs.flatten, H q = none ∧ q ≠ D) ∧ At fm' (RD g.fm own H1) (L.set i sAny) (wipe σ [i]) H6 own ∧
        FinN g.fm g.W own σ H (wL O) Q ((compG hh (xs.drop (n + 1))).bind fun l => .ok (ds ++ l)), fun H6 z => ⟨xs.length - (n + 1), by omega, rfl, hlt, z⟩, fun y H3 hy => ?_⟩
      obtain ⟨s3, r3⟩ := yl y H3 hy
      have a3 := a'.ext s3
      have ry : S.rep xs[n] y (RD fm' own H3) := S.mono r3 (Nw.rd a' a'.kept s3)
      have hLw : (L.set i sAny)[i]? = some sAny := by
        have hlt' := (List.getElem?_eq_some_iff.mp hLi).1
        rw [List.getElem?_set_self hlt']
      have a4 : At fm' (RD g.fm own H1) (L.set i (sV false S xs[n])) ((wipe σ [i]).set i (some y)) H3 own := by
        have := a3.setN (s' := sV false S xs[n]) (v := some y) hLw no_any ⟨rfl, y, rfl, ry⟩
        rwa [List.set_set] at this
      rw [List.drop_eq_getElem_cons hlt] at q'
      refine ⟨wipe1, ⟨⟨fm', ok.fmK, ok.tab⟩, xs[n]⟩, _, own, a4, ?_⟩
      have q2 : FinN g.fm g.W own σ H (wL O) Q (((hh xs[n]).nox.bind fun o => (compG hh (xs.drop (n + 1))).bind fun l => .ok (o.toList ++ l)).bind fun l => .ok (ds ++ l)) := q'
      cases hcm : cm xs[n] with
      | ex c => rw [show hh xs[n] = .ex c from by show (cm xs[n]).bind _ = _; rw [hcm]; rfl] at q2; exact q2.elim
      | no => rw [show hh xs[n] = .no from by show (cm xs[n]).bind _ = _; rw [hcm]; rfl] at q2; exact q2.elim
      | ok c =>
        intro H4 s4
        cases c with
        | false =>
          rw [show hh xs[n] = .ok none from by show (cm xs[n]).bind _ = _; rw [hcm]; rfl] at q2
          refine (if_neg (by decide)).mpr ?_
          have a5 : At fm' (RD g.fm own H1) (L.set i sAny) (wipe σ [i]) H4 own := a3.ext s4
          refine ⟨vs, ds, Gs, s4.keep _ _ (s3.keep _ _ hDv rfl) rfl, Nat.le_succ_of_le hvl, (sH.trans s3).trans s4, rr.st (fun _ _ h => h) (rk (s3.trans s4)), gnd, gn, a5, ?_⟩
          have e : (((M.ok (none : Option β)).nox.bind fun o => (compG hh (xs.drop (n + 1))).bind fun l => M.ok (o.toList ++ l)).bind fun l => M.ok (ds ++ l)) = (compG hh (xs.drop (n + 1))).bind fun l => M.ok (ds ++ l) := by
            cases compG hh (xs.drop (n + 1)) <;> rfl
          rw [e] at q2; exact q2
        | true =>
          refine (if_pos rfl).mpr ⟨⟨⟨fm', ok.fmK, ok.tab⟩, xs[n]⟩, _, own, a4.ext s4, ?_⟩
          cases hf : f xs[n] with
          | ex c => rw [show hh xs[n] = .ex c from by show (cm xs[n]).bind _ = _; rw [hcm]; show (f xs[n]).bind _ = _; rw [hf]; rfl] at q2; exact q2.elim
          | no => rw [show hh xs[n] = .no from by show (cm xs[n]).bind _ = _; rw [hcm]; show (f xs[n]).bind _ = _; rw [hf]; rfl] at q2; exact q2.elim
          | ok w =>
            rw [show hh xs[n] = .ok (some w) from by show (cm xs[n]).bind _ = _; rw [hcm]; show (f xs[n]).bind _ = _; rw [hf]; rfl] at q2
            intro v F5 H5 s5 nd5 n5 r5
            have s35 : Same H' H5 := (s3.trans s4).trans s5
            have sHH5 : Same H H5 := sH.trans s35
            have r6 := hO (R' := fun _ _ => False) r5
            have tb5 := O.tb r5
            have n5H' : ∀ q ∈ F5, H' q = none := fun q hq => (s3.trans s4).free (n5 q hq)
            have n5D : ∀ q ∈ F5, q ≠ D := fun q hq e => by have := n5H' q hq; rw [e, hDv] at this; cases this
            have dj : ∀ q ∈ Gs.flatten, q ∉ F5 := fun q h1 h2 => by obtain ⟨o, ho, _⟩ := rr.tb q h1; rw [n5H' q h2] at ho; cases ho
            have gn' : ∀ q ∈ (Gs ++ [F5]).flatten, H q = none ∧ q ≠ D := fun q hq => by
              rw [flat_snoc] at hq
              rcases List.mem_append.mp hq with hq | hq
              · exact gn q hq
              · exact ⟨sH.free (n5H' q hq), n5D q hq⟩
            refine ⟨vs, s35.keep _ _ hDv rfl, by omega, vs ++ [v], ds ++ [w], Gs ++ [F5], upd_same, by rw [List.length_append, List.length_singleton]; omega, sHH5.wr hHD (s35.keep _ _ hDv rfl) (fun _ z => nomatch z) rfl, ?_, ?_, gn', ?_, ?_⟩
            · exact ((rr.st (fun _ _ h => h) (rk s35)).append (.cons r6 .nil)).st (fun _ _ h => h) fun q hq => upd_ne (gn' q hq).2
            · rw [flat_snoc]; exact List.nodup_append.mpr ⟨gnd, nd5, fun a ha b hb e => dj a ha (by rw [e]; exact hb)⟩
            · -- the slots at the changed heap
              have a5 : At fm' (RD g.fm own H1) (L.set i sAny) (wipe σ [i]) H5 own := a'.ext s35
              obtain ⟨h1, h2, ⟨Fs, h3, e⟩, h4, h5, h6⟩ := a5
              have ne : ∀ {a : Addr}, ¬ fm'.z a → a ≠ D := fun h e => h (.inl e)
              have k0 : ∀ (md : Md) a o, RX fm' own H5 H5 md a o → md = .fx ∨ RX fm' own (upd H5 D (.lst (vs ++ [v]))) (upd H5 D (.lst (vs ++ [v]))) md a o := fun md a o z => by
                cases md with
                | sh =>
                  refine .inr (z.imp (fun ⟨a1, a2, a3⟩ => ⟨?_, a2, a3⟩) id)
                  unfold Rd
                  rw [cl_upd_ne (ne a3)]
                  exact a1
                | f0 => exact .inr ⟨by rw [cl_upd_ne (ne z.2.2.1)]; exact z.1, z.2⟩
                | fx => exact .inl rfl
              have up : ∀ a, H5 a ≠ none → upd H5 D (.lst (vs ++ [v])) a ≠ none := fun a hne => by
                by_cases e : a = D
                · rw [e, upd_same]; exact fun z => by cases z
                · rw [upd_ne e]; exact hne
              refine ⟨h1.wr (at_.same.free hHD) (s35.keep _ _ hDv rfl) (fun _ z => nomatch z) rfl, fun a z => up a (h2 a z), ⟨Fs, h3.st (fun b a o z => ?_) fun y hy => ?_, e⟩, h4, fun y hy => ⟨up y (h5 y hy).1, (h5 y hy).2⟩, fun a o z => (k0 .sh a o (h6 a o z)).resolve_left fun e => nomatch e⟩
              · cases b with
                | false => exact (k0 .sh a o z).resolve_left fun e => nomatch e
                | true => exact (k0 .f0 a o z).resolve_left fun e => nomatch e
              · exact upd_ne (ne (h5 y (by rw [e]; exact hy)).2.2)
            · have e : (((M.ok (some w)).nox.bind fun o => (compG hh (xs.drop (n + 1))).bind fun l => M.ok (o.toList ++ l)).bind fun l => M.ok (ds ++ l)) = (compG hh (xs.drop (n + 1))).bind fun l => M.ok ((ds ++ [w]) ++ l) := by
                cases compG hh (xs.drop (n + 1)) <;> simp [M.nox, M.bind]
              rw [e] at q2; exact q2
    · have e : n = xs.length := by omega
      subst e
      rw [List.drop_length] at q'
      refine .inl ⟨hst (by simp), ?_⟩
      have q2 : FinN g.fm g.W own σ H (wL O) Q (.ok (ds ++ [])) := q'
      rw [List.append_nil] at q2
      exact q2 (.ref D) (D :: Gs.flatten) H' sH (List.nodup_cons.mpr ⟨fun h => (gn D h).2 rfl, gnd⟩) (fun q hq => by
        rcases List.mem_cons.mp hq with e | hq
        · rw [e]; exact hHD
        · exact (gn q hq).1) ⟨D, vs, Gs, rfl, rfl, hDv, fw_reps hO rr⟩
  refine ⟨PE.imp (pe_lc (own := [(x, i)]) ok.calm (by rw [ok.N]; exact ok.nd) hI (by rw [ok.N]; exact ok.blk hb) (fun s H C cl fp => pg_name (i := i) (by show g.X.N.Nodup; rw [ok.N]; exact ok.nd) (by show g.X.N[i]? = _; rw [ok.N]; exact hN) (loc s H C cl fp).1 (loc s H C cl fp).2)
    (fun s H C cl fp => PTs.ex (t := fun (z : {fm' : Fm // fm'.K = p.K ∧ ∀ P, p.T = some P → LamX.TabS fm'.H0 P lamQ} × α) => tT z.1.1 (fun _ _ _ => False) (L.set i (sV false S z.2)) (cm z.2)) fun z => hc ⟨g.X.blk s H scope (compEnvC scope cl C g.X.env) fp, z.1.1, fun _ _ _ => False, []⟩ (blk_ok ok z.1.2 hv hg) z.2) (fun s H C cl fp => PE.ex (t := fun (z : {fm' : Fm // fm'.K = p.K ∧ ∀ P, p.T = some P → LamX.TabS fm'.H0 P lamQ} × α) => tN z.1.1 (fun _ _ _ => False) (L.set i (sV false S z.2)) O (f z.2)) fun z => he ⟨g.X.blk s H scope (compEnvC scope cl C g.X.env) fp, z.1.1, fun _ _ _ => False, []⟩ (blk_ok ok z.1.2 hv hg) z.2) hs) BODY, fun {y i2 py spos} hy hyl hsw => ?_⟩
  exact PS.imp (ps_setLc (own := [(x, i)]) ok.calm (by rw [ok.N]; exact ok.nd) (by rw [ok.N]; exact hy) hyl hsw hI (by rw [ok.N]; exact ok.blk hb) (fun s H C cl fp => pg_name (i := i) (by show g.X.N.Nodup; rw [ok.N]; exact ok.nd) (by show g.X.N[i]? = _; rw [ok.N]; exact hN) (loc s H C cl fp).1 (loc s H C cl fp).2)
    (fun s H C cl fp => PTs.ex (t := fun (z : {fm' : Fm // fm'.K = p.K ∧ ∀ P, p.T = some P → LamX.TabS fm'.H0 P lamQ} × α) => tT z.1.1 (fun _ _ _ => False) (L.set i (sV false S z.2)) (cm z.2)) fun z => hc ⟨g.X.blk s H scope (compEnvC scope cl C g.X.env) fp, z.1.1, fun _ _ _ => False, []⟩ (blk_ok ok z.1.2 hv hg) z.2) (fun s H C cl fp => PE.ex (t := fun (z : {fm' : Fm // fm'.K = p.K ∧ ∀ P, p.T = some P → LamX.TabS fm'.H0 P lamQ} × α) => tN z.1.1 (fun _ _ _ => False) (L.set i (sV false S z.2)) O (f z.2)) fun z => he ⟨g.X.blk s H scope (compEnvC scope cl C g.X.env) fp, z.1.1, fun _ _ _ => False, []⟩ (blk_ok ok z.1.2 hv hg) z.2) hs) fun E σ H q => BODY σ H _ q
end
end Hd
namespace Hd
open PySem PySem.Spec L2
def tSum {α β : Type} (S : Ty α) (T : Ty β) : Ty (α ⊕ β) := ⟨fun d v R => match d with | .inl a => S.rep a v R | .inr b => T.rep b v R, fun {d v R R'} h s => by
  cases d with
  | inl a => exact S.mono h s
  | inr b => exact T.mono h s⟩
def unr {α β : Type} : α ⊕ β → M β
  | .inl _ => .no
  | .inr b => .ok b
inductive It where
  | path (ns : List Int)
  | times (n : Int) (l : List It)
def itP : V := .str (Str.ofString "path")
def itT : V := .str (Str.ofString "times")
inductive ItR (R : RdR) : It → V → Prop where
  | path {ns : List Int} {a b : Addr} : R a (.tup [itP, .ref b]) → R b (.lst (ns.map V.int)) → ItR R (.path ns) (.ref a)
  | times {n : Int} {l : List It} {a b : Addr} {vs : List V} : R a (.tup [itT, .int n, .ref b]) → R b (.lst vs) → l.length = vs.length → (∀ (i : Nat) x v, l[i]? = some x → vs[i]? = some v → ItR R x v) → ItR R (.times n l) (.ref a)
theorem ItR.mono {R R' : RdR} (s : ∀ a o, R a o → R' a o) {x : It} {v : V} (h : ItR R x v) : ItR R' x v := by
  induction h with
  | path h1 h2 => exact .path (s _ _ h1) (s _ _ h2)
  | times h1 h2 h3 _ ih => exact .times (s _ _ h1) (s _ _ h2) h3 ih
theorem unr_ne {α β : Type} {d : α ⊕ β} : ∀ c, unr d ≠ .ex c := fun c => by cases d <;> exact fun h => nomatch h
section
variable {p : Pr} {sc : Scope} {NN VV GG : List Str} {k : Nat} {g : G} {L L' : List Slot} {a b c e e' : Expr} {es : List Expr} {md md' : Md} {α β γ δ ρ : Type} {S : Ty α} {T : Ty β} {U : Ty γ} {A : Ar δ} {pos pp : Pos} {j : Nat}
/-- seen as another kind -/
theorem ev_asM {m : M α} {f : α → M β} (hr : ∀ {d v R y}, S.rep d v R → f d = .ok y → T.rep y v R) (hne : ∀ {d} c, f d ≠ .ex c) (h : EvE g L e md S m) : EvE g L e md T (m.bind f) := PE.imp h fun σ H Q q => by
  obtain ⟨kp, own, at_, q⟩ := tE_iff.mp q
  refine tE_iff.mpr ⟨kp, own, at_, ?_⟩
  cases m with
  | ok d =>
    intro v H' s r
    have q : FinE g.fm g.W own σ H md T Q (f d) := q
    cases hf : f d with
    | ok y => rw [hf] at q; exact q v H' s (hr r hf)
    | ex c => exact absurd hf (hne c)
    | no => rw [hf] at q; exact q.elim
  | ex c => exact q
  | no => exact q
theorem ev_inl {m : M α} (h : EvE g L e md S m) : EvE g L e md (tSum S T) (m.bind fun d => .ok (.inl d)) := ev_as (fun d v R r => r) h
theorem ev_inr {m : M β} (h : EvE g L e md T m) : EvE g L e md (tSum S T) (m.bind fun d => .ok (.inr d)) := ev_as (fun d v R r => r) h
theorem unr_r {d : α ⊕ β} {v : V} {R : RdR} {y : β} (h : (tSum S T).rep d v R) (e : unr d = .ok y) : T.rep y v R := by
  cases d with
  | inl a => cases e
  | inr b => cases e; exact h
theorem ev_unr {m : M (α ⊕ β)} (h : EvE g L e md (tSum S T) m) : EvE g L e md T (m.bind unr) := ev_asM unr_r unr_ne h
/-- an item of a tuple, told by the tuple's kind -/
structure TupAt (S : Ty α) (n : Nat) (T : Ty β) (f : α → β) : Prop where
  r : ∀ {d v R}, S.rep d v R → ∃ a vs w, v = .ref a ∧ R a (.tup vs) ∧ vs[n]? = some w ∧ T.rep (f d) w R
/-- .. how long it is -/
structure TupLen (S : Ty α) (f : α → Int) : Prop where
  r : ∀ {d v R}, S.rep d v R → ∃ a vs, v = .ref a ∧ R a (.tup vs) ∧ (vs.length : Int) = f d
theorem ta_tup {n : Int} {f : δ → α} (hA : ArAt A n S f) : TupAt (tTup A) n.toNat S f := ⟨fun {d v R} ⟨a, vs, e, h, r⟩ => by
  obtain ⟨w, h1, h2⟩ := hA.get r
  exact ⟨a, vs, w, e, h, h1, h2⟩⟩
theorem tl_tup {n : Nat} (hA : ∀ {d vs R}, A.rep d vs R → vs.length = n) : TupLen (tTup A) (fun _ => (n : Int)) := ⟨fun {d v R} ⟨a, vs, e, h, r⟩ => ⟨a, vs, e, h, by rw [hA r]⟩⟩
theorem ev_ixG {n : Nat} {f : α → β} {m : M α} (ok : Ok p sc NN VV GG k g) (hA : TupAt S n T f) (ha : EvE g L a md S m) (hb : EvE g L b md tInt (.ok (n : Int))) (hs : PlainIx b := by exact fun _ _ => rfl) : EvE g L (.Subscript a b pos) md T (m.bind fun t => .ok (f t)) :=
  ev_ix (S := S) (r := rIxT p.K) (m2 := .ok ()) (f := fun t _ => .ok (f t)) (T := tLit n) (fr := false) ok (by rw [← ok.K]; exact ix_tup) ⟨fun {d e x y R H Q} rb rx ry q => by
    obtain ⟨a, vs, w, e1, h, h1, h2⟩ := hA.r rx
    exact ⟨a, vs, n, w, e1, ry, st_of rb h, atI_nat h1, q _ _ (Same.refl _) (T.mono h2 (Nw.old rfl))⟩⟩ (fun _ _ _ h => nomatch h) .same ha (ev_lit hb) hs
theorem ev_lenG {f : α → Int} {m : M α} (ok : Ok p sc NN VV GG k g) (hA : TupLen S f) (hG : GG[j]? = some "len") (hmg : p.mg "len" = none) (ha : EvE g L e md S m) (hs : starEach [e] g.X.env = (false, eval e g.X.env) :: starEach [] g.X.env := by rfl) : EvE g L (.Call (.Name "len" pp) [e] [] pos) md' tInt (m.bind fun x => .ok (f x)) := by
  have h := ev_callB (md' := md') (U := tInt) (A := aCons S aNil) (f := fun d => .ok (f d.1)) (fr := true) (pos := pos) (pp := pp) ok call_len_seq ⟨fun {d xs R H Q} rb ⟨v, r, e1, h1, e3⟩ q => by
    subst e1; cases (show r = [] from e3)
    obtain ⟨a, vs, e4, h4, h5⟩ := hA.r h1
    exact ⟨a, vs, by rw [e4], .inr (by rw [ok.K]; exact st_of rb h4), q _ _ (Same.refl _) (by show _ = V.int _; rw [← h5])⟩⟩ (fun _ _ h => nomatch h) .fresh hG hmg PySem.boot_len (eva_cons ha eva_nil hs) hs rfl
  have e : (m.bind fun d => (M.ok ()).bind fun e => M.ok (d, e)).bind (fun d => M.ok (f d.1)) = m.bind fun x => .ok (f x) := by cases m <;> rfl
  rwa [e] at h
theorem i_sum {ty : String} (h1 : IsT S ty) (h2 : IsT T ty) : IsT (tSum S T) ty := ⟨fun {K d v R H} rb h => by
  cases d with
  | inl a => exact h1.t rb h
  | inr b => exact h2.t rb h⟩
end
end Hd
namespace Hd
open PySem PySem.Spec L2
section
end
end Hd
namespace Hd
open PySem PySem.Spec L2
section
end
end Hd
namespace Hd
open PySem PySem.Spec L2
section
end
end Hd
namespace Hd
open PySem PySem.Spec L2
section
variable {p : Pr} {sc : Scope} {NN VV GG : List Str} {k : Nat} {g : G} {L : List Slot} {e : Expr} {α β γ δ τ : Type} {S : Ty α} {T : Ty β} {O : WTy α} {pos pos' : Pos} {i j : Nat} {x : Str} {d : α} {st : List Stmt} {D : δ → Out} {L' : τ → List Slot}
/-- what is handed back goes into a slot -/
theorem At.setX {fm : Fm} {kp : RdR} {σ : L2.St} {H : Hp} {own F1 : List Addr} {v : V} {L : List Slot} (h : At fm kp L σ H own) (nd1 : (F1 ++ own).Nodup) (n1 : ∀ q ∈ F1, H q ≠ none ∧ fm.H0 q = none ∧ ¬ fm.z q) (kpt : ∀ a o, kp a o → RD fm (F1 ++ own) H a o) (al : ∃ Fs, AllS H (RB fm (F1 ++ own) H) L σ Fs ∧ own = Fs.flatten) (r : O.rep d v H (RD fm (F1 ++ own) H) F1) : ∃ own', At fm kp (L.set i (sO O d)) (σ.set i (some v)) H own' := by
  obtain ⟨Fs, h3, e⟩ := al
  obtain ⟨h1, h2, _, h4, h5, h6⟩ := h
  have nd := h4
  rw [e] at nd
  have nda := List.nodup_append.mp nd1
  by_cases hi : i < Fs.length
  · have ei : Fs[i]? = some Fs[i] := List.getElem?_eq_getElem hi
    have nF : ∀ q ∈ (Fs.set i F1).flatten, q ∈ F1 ++ own := fun q hq => by
      rcases flat_set_mem nd ei q hq with hq | ⟨hq, _⟩
      · exact List.mem_append_left _ hq
      · exact List.mem_append_right _ (by rw [e]; exact hq)
    refine ⟨_, h1, h2, ⟨Fs.set i F1, (h3.st (RB.own nF) fun _ _ => rfl).set (s := sO O d) ⟨v, rfl, trivial, O.st r (RD.drop nF) fun _ _ => rfl⟩ i, rfl⟩, flat_set_nd nd ei nda.1 fun q hq => .inr fun hq' => nda.2.2 q hq q (by rw [e]; exact hq') rfl, fun q hq => ?_, fun a o z => RD.drop nF a o (kpt a o z)⟩
    rcases List.mem_append.mp (nF q hq) with hq | hq
    · exact n1 q hq
    · exact h5 q hq
  · have hl := h3.len
    have hl2 : Fs.length = L.length := h3.lenF
    have e1 : L.set i (sO O d) = L := List.set_eq_of_length_le (by omega)
    have e2 : σ.set i (some v) = σ := List.set_eq_of_length_le (by omega)
    rw [e1, e2]
    refine ⟨own, h1, h2, ⟨Fs, h3.st (RB.own fun q hq => List.mem_append_right _ hq) fun _ _ => rfl, e⟩, h4, h5, h6⟩
/-- x = f(a, b) -/
theorem evb_setX {m : M (α × τ)} {h : α × τ → M δ} (ok : OkS p sc NN VV GG k g) (hN : NN[i]? = some x) (hV : VV[j]? = some x) (he : EvX g L e O L' m) (hr : ∀ r, EvB g ((L' r.2).set i (sO O r.1)) st D (h r))
    (hs : swapsWith e (some (.Name x pos')) pos.line g.X.env = pure false := by rfl) : EvB g L (.Assign [.Name x pos'] e pos :: st) D (m.bind h) := by
  refine PSs.imp (pss_cons (ps_set (i := i) (by rw [ok.N]; exact ok.nd) (by rw [ok.N]; exact hN) (ok.loc hV) he hs (okS_fn ok)) (PSs.ex hr)) fun E σ H ⟨kp, own, at_, q⟩ => ?_
  refine ⟨kp, own, at_, ?_⟩
  cases m with
  | ok r =>
    intro v F H' own' a' nd n kpt al r1
    obtain ⟨own2, a2⟩ := a'.setX (i := i) nd n kpt al r1
    exact ⟨r, kp, own2, a2, q⟩
  | ex c => exact fun H' own' a' => q σ H' own' a'
  | no => exact q
/-- a slot whose thing owns nothing is one that is shared -/
theorem sO_sh {T : Ty β} {d : β} {v : Option V} {H : Hp} {R : Bool → RdR} {F : List Addr} (h : (sO (wV T) d).ok v H R F) : (sV false T d).ok v H R F := by
  obtain ⟨x, e, _, e2, r⟩ := h
  exact ⟨e2, x, e, r⟩
theorem At.setXV {fm : Fm} {kp : RdR} {σ : L2.St} {H : Hp} {own : List Addr} {T : Ty β} {d : β} {L : List Slot} (h : At fm kp (L.set i (sO (wV T) d)) σ H own) : At fm kp (L.set i (sV false T d)) σ H own := by
  obtain ⟨h1, h2, ⟨Fs, h3, e⟩, h4, h5, h6⟩ := h
  refine ⟨h1, h2, ⟨Fs, ?_, e⟩, h4, h5, h6⟩
  have hpw := h3.pw
  refine Pw.all ⟨by rw [List.length_set]; have := hpw.l1; rwa [List.length_set] at this, by rw [List.length_set]; have := hpw.l2; rwa [List.length_set] at this, fun j _ s v F e1 e2 e3 => ?_⟩
  by_cases hij : i = j
  · subst hij
    have hlt : i < L.length := by
      have := (List.getElem?_eq_some_iff.mp e1).1
      rwa [List.length_set] at this
    rw [List.getElem?_set_self hlt] at e1
    cases e1
    exact sO_sh (hpw.ok i (fun z => z) _ v F (List.getElem?_set_self hlt) e2 e3)
  · rw [List.getElem?_set_ne hij] at e1
    exact hpw.ok j (fun z => z) s v F (by rw [List.getElem?_set_ne hij]; exact e1) e2 e3
/-- x = f(a, b), what is handed back is shared -/
theorem evb_setXV {m : M (β × τ)} {h : β × τ → M δ} (ok : OkS p sc NN VV GG k g) (hN : NN[i]? = some x) (hV : VV[j]? = some x) (he : EvX g L e (wV T) L' m) (hr : ∀ r, EvB g ((L' r.2).set i (sV false T r.1)) st D (h r))
    (hs : swapsWith e (some (.Name x pos')) pos.line g.X.env = pure false := by rfl) : EvB g L (.Assign [.Name x pos'] e pos :: st) D (m.bind h) :=
  evb_setX ok hN hV he (fun r => PSs.imp (hr r) fun E σ H ⟨kp, own, at_, q⟩ => ⟨kp, own, at_.setXV, q⟩) hs
end
end Hd
namespace Hd
open PySem PySem.Spec L2
section
variable {p : Pr} {sc : Scope} {NN VV GG : List Str} {k : Nat} {g : G} {L : List Slot} {e : Expr} {α β γ δ ω ρ τ : Type} {S : Ty α} {T : Ty β} {O : WTy α} {pos pos' : Pos} {i j : Nat} {x : Str} {d : α} {st : List Stmt} {D : δ → Out}
theorem At.conv {fm : Fm} {kp : RdR} {σ : L2.St} {H : Hp} {own : List Addr} {s s' : Slot} (hL : L[i]? = some s) (c : ∀ v H R F, s.ok v H R F → s'.ok v H R F) (h : At fm kp L σ H own) : At fm kp (L.set i s') σ H own := by
  obtain ⟨h1, h2, ⟨Fs, h3, e⟩, h4, h5, h6⟩ := h
  refine ⟨h1, h2, ⟨Fs, ?_, e⟩, h4, h5, h6⟩
  have hpw := h3.pw
  refine Pw.all ⟨by rw [List.length_set]; exact hpw.l1, by rw [List.length_set]; exact hpw.l2, fun j _ s2 v F e1 e2 e3 => ?_⟩
  by_cases hij : i = j
  · subst hij
    rw [List.getElem?_set_self (List.getElem?_eq_some_iff.mp hL).1] at e1
    cases e1
    exact c _ _ _ _ (hpw.ok i (fun z => z) _ v F hL e2 e3)
  · rw [List.getElem?_set_ne hij] at e1
    exact hpw.ok j (fun z => z) s2 v F e1 e2 e3
theorem evb_conv {m : M δ} {s s' : Slot} (hL : L[i]? = some s) (c : ∀ v H R F, s.ok v H R F → s'.ok v H R F) (hr : EvB g (L.set i s') st D m) : EvB g L st D m := PSs.imp hr fun E σ H ⟨kp, own, at_, q⟩ => ⟨kp, own, at_.conv hL c, q⟩
/-- its end is reached -/
theorem x_nx {fo : ω → List Slot} {r : Unit × ω} {fm : Fm} {Q : VK} (h : OutOk fm (fun _ _ => False) { nx := fun _ H' => Q .non H', rt := Q } (xOut fo (wV tNone) r)) : OutOk fm (fun _ _ => False) { nx := fun _ H' => Q .non H', rt := Q } (.nx (fo r.2)) :=
  fun σ H own a => h .non σ H H own [] a (Same.refl H) List.nodup_nil (fun _ z => nomatch z) ⟨rfl, rfl⟩
/-- return e -/
theorem evb_retXo {fo : ω → List Slot} {w : ω} {m : M α} {mk : α → δ} (wk : Wkx g L (NoEx m)) (hD : ∀ d, D (mk d) = xOut fo O (d, w)) (hw : Wk L (fo w)) (he : EvN g L e O m) : EvB g L (.Return (some e) pos :: st) D (m.bind fun d => .ok (mk d)) := by
  refine PSs.imp (PSs.head (ps_ret he)) fun E σ H ⟨kp, own, at_, q⟩ => ?_
  refine ⟨kp, own, at_, ?_⟩
  cases m with
  | ok d =>
    have q : OutOk g.fm kp E (D (mk d)) := q
    rw [hD] at q
    obtain ⟨own2, a2, sub⟩ := at_.weak hw
    obtain ⟨b1, b2, b3, b4, b5, _⟩ := a2
    refine fun v F H' s nd n r => q v σ H H' own2 F ⟨b1, b2, b3, b4, b5, fun _ _ z => z.elim⟩ s nd n (O.st r (RD.drop fun y hy => ?_) fun _ _ => rfl)
    rcases List.mem_append.mp hy with z | z
    · exact List.mem_append_left _ z
    · exact List.mem_append_right _ (sub y z)
  | ex c => exact BOk.exx' wk (fun n => n c rfl) at_ q
  | no => exact q
end
end Hd
namespace Hd
open PySem PySem.Spec L2
section
variable {p : Pr} {sc : Scope} {NN VV GG : List Str} {k : Nat} {g : G} {L : List Slot} {e : Expr} {α β γ δ : Type} {O3 : WTy γ} {pos pos' np : Pos} {i j : Nat} {x : Str} {px : V → Prop} {ds : List γ} {st : List Stmt} {D : δ → Out}
theorem evb_nAppend {m : M γ} {h : List γ → M δ} {ap cp : Pos} (ok : OkS p sc NN VV GG k g) (hN : NN[i]? = some x) (hV : VV[j]? = some x) (hL : L[i]? = some (sP px (wL O3) ds)) (wk : Wk L g.LX) (he : EvN g L e O3 m) (hr : ∀ d', EvB g (L.set i (sP px (wL O3) d')) st D (h d'))
    (hs : swapsWith (.Call (.Attribute (.Name x np) "append" ap) [e] [] cp) none pos.line g.X.env = pure false := by rfl)
    (hbase : attributeBase (.Name x np) "append" g.X.env (eval (.Name x np) g.X.env) = eval (.Name x np) g.X.env := by rfl)
    (hfew : ((backTo cp (starEach [e] g.X.env)).all (fun x => !x.1) && (backToKw cp (keywordEach [] g.X.env)).all (fun x => x.1.isSome)
      && decide (([e] : List Expr).length + ([] : List Keyword).length + (if ([] : List Keyword).isEmpty then 0 else 1) < 30)) = true := by rfl)
    (hline : (ap.endLine == cp.line) = true := by rfl) (hst : starEach [e] g.X.env = (false, eval e g.X.env) :: starEach [] g.X.env := by rfl) (hpl : (backTo cp (starEach [] g.X.env)).any (·.1) = false := by rfl) :
    EvB g L (.Expr (.Call (.Attribute (.Name x np) "append" ap) [e] [] cp) pos :: st) D (m.bind fun y => (pushM ds y).bind h) :=
  evb_pAppend (mp := .ok (ds, fun y => y)) ok (.inl wk) (evp_name ok.toOk hN hV hL) he hr hs hbase hfew hline hst hpl
end
end Hd
namespace Hd
open PySem PySem.Spec L2
def popX {γ : Type} (xs : List γ) : M (γ × List γ) := match xs.getLast? with
  | some x => .ok (x, xs.dropLast)
  | none => .no
section
variable {p : Pr} {sc : Scope} {NN VV GG : List Str} {k : Nat} {g : G} {L : List Slot} {a e : Expr} {α β γ δ : Type} {O : WTy α} {O3 : WTy γ} {i j : Nat} {px : V → Prop} {d : α} {ap cp : Pos}
theorem ex_pop {mp : M (List γ × (List γ → α))} (ok : Ok p sc NN VV GG k g) (wk : Wkx g L (NoEx mp)) (hp : EvP g L a i px O d (wL O3) mp)
    (hbase : attributeBase a "pop" g.X.env (eval a g.X.env) = eval a g.X.env := by rfl)
    (hline : (ap.endLine == cp.line) = true := by rfl) :
    EvX g L (.Call (.Attribute a "pop" ap) [] [] cp) O3 (fun t => L.set i (sP px O t)) (mp.bind fun q => (popX q.1).bind fun r => .ok (r.1, q.2 r.2)) := by
  refine PE.imp (pe_bm0 PySem.F.plainAttrs_list PySem.F.slot_list_pop PySem.F.type_list_pop mt_pop hp (hbase := hbase) (hline := hline)) fun σ H Q ⟨kp, own, at_, q⟩ => ?_
  obtain ⟨Fs, hsl, heo⟩ := at_.sl
  refine ⟨kp, own, Fs, at_, hsl, heo, ?_⟩
  cases mp with
  | no => exact q
  | ex c =>
    intro H' s
    rcases wk with wk | n
    · obtain ⟨own', a', _⟩ := (at_.ext s).weak wk
      exact q H' own' a'
    · exact absurd rfl (n c)
  | ok q0 =>
    intro v2 F2 H1 s1 A1
    have at1 := at_.ext s1
    have sub2 := at1.gdo A1
    have q : FinX g.fm g.W kp σ g.LX (fun t => L.set i (sP px O t)) O3 Q ((popX q0.1).bind fun r => .ok (r.1, q0.2 r.2)) := q
    unfold popX at q
    cases hx0 : q0.1.getLast? with
    | none => rw [hx0] at q; exact q.elim
    | some x =>
      rw [hx0] at q
      obtain ⟨v, F, hL, hs, eo, e1, hx, e2, pl⟩ := A1
      obtain ⟨p', vs, Gs, r1, r2, hp', rr⟩ := pl.rep
      have ndF := pl.nd
      subst r1
      have hl := rr.length
      have hlF := rr.lengthF
      have hne : 0 < q0.1.length := by
        cases h : q0.1 with
        | nil => rw [h] at hx0; cases hx0
        | cons _ _ => simp
      have hxi : q0.1[q0.1.length - 1]? = some x := by rw [← List.getLast?_eq_getElem?]; exact hx0
      obtain ⟨y, G, hy, hG, ry⟩ := rr.get hxi
      have rr2 := rr.take (q0.1.length - 1)
      have eV : vs.take (q0.1.length - 1) = vs.dropLast := by rw [List.dropLast_eq_take, hl]
      rw [eV, ← List.dropLast_eq_take] at rr2
      have eG : Gs = Gs.take (q0.1.length - 1) ++ [G] := by
        have h1 : q0.1.length - 1 < Gs.length := by omega
        have h2 : Gs.drop (q0.1.length - 1) = [G] := by
          rw [List.drop_eq_getElem_cons h1, List.drop_eq_nil_of_le (by omega)]
          rw [List.getElem?_eq_getElem h1] at hG
          rw [Option.some.inj hG]
        rw [← h2, List.take_append_drop]
      generalize hT : Gs.take (q0.1.length - 1) = T at rr2 eG
      have eF : F2 = p' :: (T.flatten ++ G) := by rw [r2, eG, List.flatten_append]; simp
      have nd0 := ndF
      rw [eF, List.nodup_cons, List.nodup_append] at nd0
      obtain ⟨np, ndT, ndG, dis⟩ := nd0
      have inF : ∀ z, z ∈ G ++ (p' :: T.flatten) → z ∈ F2 := fun z hz => by
        rw [eF]
        rcases List.mem_append.mp hz with hz | hz
        · exact List.mem_cons_of_mem _ (List.mem_append_right _ hz)
        · rcases List.mem_cons.mp hz with hz | hz
          · rw [hz]; exact List.mem_cons_self
          · exact List.mem_cons_of_mem _ (List.mem_append_left _ hz)
      have nd' : (G ++ (p' :: T.flatten)).Nodup := by
        refine List.nodup_append.mpr ⟨ndG, List.nodup_cons.mpr ⟨fun h => np (List.mem_append_left _ h), ndT⟩, fun z hz w hw e => ?_⟩
        subst e
        rcases List.mem_cons.mp hw with hw | hw
        · exact np (by rw [← hw]; exact List.mem_append_right _ hz)
        · exact dis z hw z hz rfl
      let H' : Hp := upd H1 p' (.lst vs.dropLast)
      have hA : ArgsAt L σ Fs H1 (RD g.fm own H1) (waCons (wL O3) waNil) (fun (d : List γ × Unit) (w : List γ × Unit) => (w.1, d.2)) (q0.1, ()) [V.ref p'] (F2 ++ []) [i] (fun (w : List γ × Unit) => (q0.2 w.1, ())) (fun (t : α × Unit) => [(i, sP px O t.1)]) := .ow hL e1 hx e2 pl List.not_mem_nil .nil
      have tbF : ∀ z ∈ F2, ∃ o, H1 z = some o ∧ gd o = true := (wL O3).tb pl.rep
      have sm : Same (hm H1 (F2 ++ [])) H' := hm_wr (Same.refl H1) (by rw [List.append_nil, eF]; exact List.mem_cons_self) hp' rfl (by rw [List.append_nil]; exact tbF)
      have nz : ∀ z ∈ F2, H' z ≠ none := fun z hz => by
        by_cases ez : z = p'
        · rw [ez]; show upd H1 p' _ p' ≠ none; rw [upd_same]; exact fun h => nomatch h
        · show upd H1 p' _ z ≠ none
          rw [upd_ne ez]
          obtain ⟨o, ho, _⟩ := tbF z hz
          rw [ho]; exact fun h => nomatch h
      have mono : ∀ X : List Addr, (∀ z ∈ X, z ∈ own) → ∀ b o, RD g.fm own H1 b o → RD g.fm X H' b o := fun X hX b o z => by
        rcases z with ⟨z1, z2, z3⟩ | z
        · have ne : b ≠ p' := fun h => z2 (by rw [h]; exact sub2 p' (by rw [eF]; exact List.mem_cons_self))
          refine .inl ⟨?_, fun h => z2 (hX b h), z3⟩
          unfold Rd
          show _ ∨ _
          rw [cl_upd_ne ne]
          exact z1
        · exact .inr z
      have inO : ∀ z ∈ G ++ (p' :: T.flatten) ++ own.filter (fun z => decide (z ∉ F2 ++ [])), z ∈ own := fun z hz => by
        rcases List.mem_append.mp hz with hz | hz
        · exact sub2 z (inF z hz)
        · exact (List.mem_filter.mp hz).1
      have ne' : ∀ z ∈ T.flatten ++ G, H' z = H1 z := fun z hz => upd_ne fun h => np (by rw [← h]; exact hz)
      obtain ⟨own', a', sub', kpt, Fs2, al2, eo2⟩ := at1.chgX (Fr := G) (Fa' := p' :: T.flatten) (w := (q0.1.dropLast, ())) hs eo hA sm nd' (fun z hz => ⟨.inl (by rw [List.append_nil]; exact inF z hz), nz z (inF z hz)⟩)
        ⟨V.ref p', [], p' :: T.flatten, [], rfl, by simp, ⟨p', vs.dropLast, T, rfl, rfl, upd_same, rr2.st (mono _ inO) fun z hz => ne' z (List.mem_append_left _ hz)⟩, rfl, rfl⟩
      have inc : ∀ z ∈ G ++ own', z ∈ G ++ (p' :: T.flatten) ++ own.filter (fun z => decide (z ∉ F2 ++ [])) := fun z hz => by
        rcases List.mem_append.mp hz with hz | hz
        · exact List.mem_append_left _ (List.mem_append_left _ hz)
        · rcases sub' z hz with h | h
          · exact List.mem_append_left _ (List.mem_append_right _ h)
          · exact List.mem_append_right _ (List.mem_filter.mpr ⟨h.1, by rw [decide_eq_true_eq]; exact h.2⟩)
      have fin : Q y H' := by
        refine q y G H' own' a' (List.nodup_append.mpr ⟨ndG, a'.nd, fun z hz w hw e => ?_⟩) (fun z hz => ?_) (fun b o z => RD.drop inc b o (kpt b o z)) ⟨Fs2, al2.st (RB.own inc) (fun _ _ => rfl), eo2⟩ (O3.st ry (mono _ fun z hz => inO z (inc z hz)) fun z hz => ne' z (List.mem_append_right _ hz))
        · subst e
          have zF := inF z (List.mem_append_left _ hz)
          rcases sub' z hw with h | h
          · exact (List.nodup_append.mp nd').2.2 z hz z h rfl
          · exact h.2 (by rw [List.append_nil]; exact zF)
        · have zF := inF z (List.mem_append_left _ hz)
          have := at1.new z (sub2 z zF)
          exact ⟨nz z zF, this.2⟩
      have hyl : vs[vs.length - 1]? = some y := by rw [← hl]; exact hy
      exact ⟨Or.inl ⟨rfl, _, SqL.of hp'⟩, _, vs, _, rfl, rfl, hp', hyl, fin⟩
end
end Hd
namespace Hd
open PySem PySem.Spec L2
theorem WAt.set {δ : Type} {A : WAr δ} {kk : Nat} {α : Type} {O : WTy α} {pr : δ → α} {stt : δ → α → δ} (hA : WAt A kk O pr stt) : ∀ {d : δ} {vs : List V} {H : Hp} {R : RdR} {G F1 : List Addr} {x : α} {w : V}, A.rep d vs H R G → G.Nodup → O.rep x w H R F1 → F1.Nodup → (∀ q ∈ F1, q ∉ G) → ∃ G', A.rep (stt d x) (vs.set kk w) H R G' ∧ G'.Nodup ∧ (∀ q ∈ G', q ∈ F1 ∨ q ∈ G) ∧ kk < vs.length := by
  induction hA with
  | z =>
    rintro d vs H R G F1 x w ⟨v, r, Fa, Fb, e1, e2, h1, h2⟩ nd rx nd1 dis
    subst e1; subst e2
    have nd' := List.nodup_append.mp nd
    refine ⟨F1 ++ Fb, ⟨w, r, F1, Fb, rfl, rfl, rx, h2⟩, List.nodup_append.mpr ⟨nd1, nd'.2.1, fun q hq z hz e => dis q hq (by rw [e]; exact List.mem_append_right _ hz)⟩, fun q hq => ?_, by simp⟩
    rcases List.mem_append.mp hq with h | h
    · exact .inl h
    · exact .inr (List.mem_append_right _ h)
  | s _ ih =>
    rintro d vs H R G F1 x w ⟨v, r, Fa, Fb, e1, e2, h1, h2⟩ nd rx nd1 dis
    subst e1; subst e2
    have nd' := List.nodup_append.mp nd
    obtain ⟨G', g1, g2, g3, g4⟩ := ih h2 nd'.2.1 rx nd1 fun q hq hz => dis q hq (List.mem_append_right _ hz)
    refine ⟨Fa ++ G', ⟨v, _, Fa, G', rfl, rfl, h1, g1⟩, List.nodup_append.mpr ⟨nd'.1, g2, fun q hq z hz e => ?_⟩, fun q hq => ?_, by simp; omega⟩
    · subst e
      rcases g3 q hz with h | h
      · exact dis q h (List.mem_append_left _ hq)
      · exact nd'.2.2 q hq q h rfl
    · rcases List.mem_append.mp hq with h | h
      · exact .inr (List.mem_append_left _ h)
      · exact (g3 q h).imp id (List.mem_append_right _)
section
end
end Hd
namespace Hd
open PySem PySem.Spec PyProof.Rows L2
section
variable {p : Pr} {sc : Scope} {NN VV GG VV' GG' : List Str} {k : Nat} {g : G} {L L' : List Slot} {a b c e e' ix : Expr} {es : List Expr} {md md' : Md} {α β γ δ ρ : Type} {S : Ty α} {T : Ty β} {O : WTy α} {O2 : WTy β} {O3 : WTy γ} {A : WAr ρ} {pos pp pos' : Pos} {i j i2 : Nat} {x y f : Str} {px : V → Prop} {d : α} {st : List Stmt} {D : δ → Out} {py spos cpos tp : Pos} {elt it : Expr} {ifs : List Expr} {scope : Scope} {s₀ : Slot}
/-- y = [elt for x in it if c], items of one's own -/
theorem evn_lc {m : M (List α)} {cm : α → M Bool} {f : α → M β} (ok : Ok p sc NN VV GG k g) (hI : EvI g L (.Name x tp) it S m) (hN : NN[i]? = some x) (hLi : L[i]? = some s₀) (hs₀ : NoOwn s₀) (hb : blkC NN sc scope [(x, i)] = true)
    (hv : VV'.all (seenB scope) = true) (hg : GG'.all (glB scope) = true) (hx : locB scope x = true)
    (hc : ∀ g', Ok p scope NN VV' GG' k g' → ∀ d, PTs g'.X ifs (tT g'.fm g'.W (L.set i (sV false S d)) (cm d)))
    (hO : FlatW O2) (he : ∀ g', Ok p scope NN VV' GG' k g' → ∀ d, EvN g' (L.set i (sV false S d)) elt O2 (f d)) (hs : ∀ x, foldedSetIterable it g.X.env x = pure x := by intro _; rfl) :
    EvN g L (.ListComp elt [⟨.Name x tp, it, ifs, 0⟩] scope pos) (wL O2) (m.bind fun xs => compM (fun d => (cm d).bind fun c => if c = true then (f d).bind fun y => .ok (some y) else .ok none) xs) := (evn_lc2 ok hI hN hLi hs₀ hb hv hg hx hc hO he hs).1
/-- the statements over places, the rest behind a bind -/
theorem evb_qAppend {mp : M (List γ × (List γ → α))} {m : M γ} {h : α → M δ} {ap cp : Pos} (ok : OkS p sc NN VV GG k g) (wk : Wk L g.LX) (hp : EvP g L a i px O d (wL O3) mp) (he : EvN g L e O3 m) (hr : ∀ d', EvB g (L.set i (sP px O d')) st D (h d'))
    (hs : swapsWith (.Call (.Attribute a "append" ap) [e] [] cp) none pos.line g.X.env = pure false := by rfl)
    (hbase : attributeBase a "append" g.X.env (eval a g.X.env) = eval a g.X.env := by rfl)
    (hfew : ((backTo cp (starEach [e] g.X.env)).all (fun x => !x.1) && (backToKw cp (keywordEach [] g.X.env)).all (fun x => x.1.isSome)
      && decide (([e] : List Expr).length + ([] : List Keyword).length + (if ([] : List Keyword).isEmpty then 0 else 1) < 30)) = true := by rfl)
    (hline : (ap.endLine == cp.line) = true := by rfl) (hst : starEach [e] g.X.env = (false, eval e g.X.env) :: starEach [] g.X.env := by rfl) (hpl : (backTo cp (starEach [] g.X.env)).any (·.1) = false := by rfl) :
    EvB g L (.Expr (.Call (.Attribute a "append" ap) [e] [] cp) pos :: st) D (mp.bind fun q => m.bind fun x => (pushM q.1 x).bind fun l => M.bind (.ok (q.2 l)) h) :=
  evb_pAppend ok (.inl wk) hp he hr hs hbase hfew hline hst hpl
theorem evb_qPop {mp : M (List γ × (List γ → α))} {h : α → M δ} {ap cp : Pos} (ok : OkS p sc NN VV GG k g) (wk : Wk L g.LX) (hp : EvP g L a i px O d (wL O3) mp) (hr : ∀ d', EvB g (L.set i (sP px O d')) st D (h d'))
    (hs : swapsWith (.Call (.Attribute a "pop" ap) [] [] cp) none pos.line g.X.env = pure false := by rfl)
    (hbase : attributeBase a "pop" g.X.env (eval a g.X.env) = eval a g.X.env := by rfl)
    (hline : (ap.endLine == cp.line) = true := by rfl) :
    EvB g L (.Expr (.Call (.Attribute a "pop" ap) [] [] cp) pos :: st) D (mp.bind fun q => (popM q.1).bind fun l => M.bind (.ok (q.2 l)) h) :=
  evb_pPop ok (.inl wk) hp hr hs hbase hline
theorem evb_qSet {mp : M (List β × (List β → α))} {m : M β} {mi : M Int} {h : α → M δ} {p2 : Pos} (ok : OkS p sc NN VV GG k g) (wk : Wk L g.LX) (he : EvE g L e md T m) (hp : EvP g L a i px O d (wL (wV T)) mp) (hi : EvE g L ix md' tInt mi) (hr : ∀ d', EvB g (L.set i (sP px O d')) st D (h d'))
    (hs : swapsWith e (some (.Subscript a ix p2)) pos.line g.X.env = pure false := by rfl)
    (hsub : ∀ v, assign (.Subscript a ix p2) g.X.env v = (do
      let ov ← holding [v] (eval a g.X.env)
      let iv ← holding [v, ov] (eval ix g.X.env)
      standAt p2
      holding [v, ov, iv] (setItem ov iv v)
      release [v, ov, iv] []) := by intro _; rfl)
    (hs' : swapsWithSole [.Subscript a ix p2] e pos.line g.X.env = pure false := by rfl) (hw : swappedStores [.Subscript a ix p2] e g.X.env = pure none := by rfl) (ha1 : (assignEach [.Subscript a ix p2] g.X.env).map (·.2) = [assign (.Subscript a ix p2) g.X.env] := by rfl) :
    EvB g L (.Assign [.Subscript a ix p2] e pos :: st) D (m.bind fun x => mp.bind fun q => mi.bind fun n => (setM q.1 n x).bind fun l => M.bind (.ok (q.2 l)) h) :=
  evb_pSet ok (.inl wk) he hp hi hr hs hsub hs' hw ha1
end
end Hd
namespace Hd
open PySem PySem.Spec PyProof.Rows L2
section
end
end Hd
namespace Hd
open PySem PySem.Spec PyProof.Rows L2
def selm {α β γ : Type} (f : α → γ) (h : β → γ) : α ⊕ β → γ
  | .inl a => f a
  | .inr b => h b
@[simp] theorem selm_l {α β γ : Type} (f : α → γ) (h : β → γ) (a : α) : selm f h (.inl a) = f a := rfl
@[simp] theorem selm_r {α β γ : Type} (f : α → γ) (h : β → γ) (b : β) : selm f h (.inr b) = h b := rfl
section
variable {p : Pr} {sc : Scope} {NN VV GG : List Str} {k : Nat} {g : G} {L : List Slot} {a b e tg : Expr} {md md' : Md} {pos pp : Pos} {j : Nat} {α β γ δ : Type} {S : Ty α} {T : Ty β} {U : Ty γ} {A : Ar δ} {K : PySem.W.Frag} {O : WTy α}
theorem tl_sumE {f : α → Int} {h : β → Int} (h1 : TupLen S f) (h2 : TupLen T h) : TupLen (tSum S T) (selm f h) := ⟨fun {d v R} r => by
  cases d with
  | inl a => exact h1.r r
  | inr b => exact h2.r r⟩
theorem ta_sumE {n : Nat} {f : α → γ} {h : β → γ} (h1 : TupAt S n U f) (h2 : TupAt T n U h) : TupAt (tSum S T) n U (selm f h) := ⟨fun {d v R} r => by
  cases d with
  | inl a => exact h1.r r
  | inr b => exact h2.r r⟩
/-- an own list of nothing -/
theorem evn_lnil : EvN g L (.List [] pos) (wL O) (.ok []) := PE.imp (evl_nil (S := tNone) (md := .sh)) fun σ H Q ⟨kp, own, at_, q⟩ => by
  refine tL_iff.mpr ⟨kp, own, at_, ?_⟩
  intro p vs H' s n h' r
  have e : vs = [] := by cases r; rfl
  subst e
  exact q (.ref p) [p] H' s (by simp) (fun q hq => by rw [List.mem_singleton.mp hq]; exact n) ⟨p, [], [], rfl, rfl, h', .nil⟩
end
end Hd
namespace Hd
open PySem PySem.Spec L2
def FinM {β : Type} (fm : Fm) (W : Wx) (own : List Addr) (σ : L2.St) (H : Hp) (md : Md) (O : WTy β) (Q : VK) : M β → Prop
  | .ok d => ∀ v F H', Same H H' → F.Nodup → (∀ p ∈ F, H p = none) → O.rep d v H' (RX fm (F ++ own) H H' md) F → Q v H'
  | .ex c => ∀ H', Same H H' → W c σ H'
  | .no => False
theorem finM {β : Type} {O : WTy β} {fm : Fm} {W : Wx} {own : List Addr} {σ : L2.St} {H : Hp} {md : Md} {Q : VK} : Fin W σ H (FinM fm W own σ H md O Q) := ⟨fun h => h, fun h => h⟩
def EvM (g : G) (L : List Slot) (e : Expr) (md : Md) {β : Type} (O : WTy β) (m : M β) : Prop := PE g.X e (fun σ H Q => ∃ kp own, At g.fm kp L σ H own ∧ FinM g.fm g.W own σ H md O Q m)
section
variable {p : Pr} {sc : Scope} {NN VV GG : List Str} {k : Nat} {g : G} {L L' : List Slot} {a b c e e' : Expr} {es : List Expr} {md md' : Md} {α β γ δ ρ : Type} {S : Ty α} {T : Ty β} {U : Ty γ} {O : WTy α} {O2 : WTy β} {pos pp : Pos} {i j : Nat} {x f : Str} {px : V → Prop} {d : α}
theorem evm_n {m : M α} (h : EvM g L e md O m) : EvN g L e O m := PE.imp h fun σ H Q ⟨kp, own, at_, q⟩ => by
  refine ⟨kp, own, at_, ?_⟩
  cases m with
  | ok d => exact fun v F H' s nd n r => q v F H' s nd n (O.st r (fun a o z => RX.sh a o z) fun _ _ => rfl)
  | ex c => exact q
  | no => exact q
theorem evm_v {m : M α} (h : EvE g L e md S m) : EvM g L e md (wV S) m := PE.imp h fun σ H Q ⟨kp, own, at_, q⟩ => by
  refine tE_iff.mpr ⟨kp, own, at_, ?_⟩
  cases m with
  | ok d => exact fun v H' s r => q v [] H' s List.nodup_nil (fun _ hp => nomatch hp) ⟨rfl, r⟩
  | ex c => exact q
  | no => exact q
theorem evm_flat {m : M α} (hf : FlatW O) (h : EvN g L e O m) : EvM g L e md O m := PE.imp h fun σ H Q ⟨kp, own, at_, q⟩ => by
  refine ⟨kp, own, at_, ?_⟩
  cases m with
  | ok d => exact fun v F H' s nd n r => q v F H' s nd n (hf r)
  | ex c => exact q
  | no => exact q
theorem evm_lnil : EvM g L (.List [] pos) md (wL O) (.ok []) := PE.imp (evl_nil (S := tNone) (md := .sh)) fun σ H Q ⟨kp, own, at_, q⟩ => by
  refine tL_iff.mpr ⟨kp, own, at_, ?_⟩
  intro p vs H' s n h' r
  have e : vs = [] := by cases r; rfl
  subst e
  exact q (.ref p) [p] H' s (by simp) (fun q hq => by rw [List.mem_singleton.mp hq]; exact n) ⟨p, [], [], rfl, rfl, h', .nil⟩
theorem ev_ofM {m : M α} (h : EvM g L e md O m) : EvE g L e md O.T m := PE.imp h fun σ H Q q => by
  obtain ⟨kp, own, at_, q⟩ := tE_iff.mp q
  refine ⟨kp, own, at_, ?_⟩
  cases m with
  | ok d => exact fun v F H' s nd n r => q v H' s (O.fz r (RX.own fun p hp => List.mem_append_right _ hp) fun p hp o ho => by
      obtain ⟨o', h', g'⟩ := O.tb r p hp
      rw [ho] at h'; cases h'
      exact RX.fx md p o ⟨cl_of ho (gd_nt g'), fun hq => (at_.new p hq).1 (n p hp), fun hz => at_.zin p hz (n p hp), at_.same.free (n p hp), n p hp⟩)
  | ex c => exact q
  | no => exact q
end
structure WRp (δ : Type) where
  rep : δ → List V → Hp → RdR → List Addr → Prop
  st : ∀ {d vs H H' F} {R R' : RdR}, rep d vs H R F → (∀ a o, R a o → R' a o) → (∀ p ∈ F, H' p = H p) → rep d vs H' R' F
  tb : ∀ {d vs H F} {R : RdR}, rep d vs H R F → ∀ p ∈ F, ∃ o, H p = some o ∧ gd o = true
def WAr.rp {δ : Type} (A : WAr δ) : WRp δ := ⟨A.rep, A.st, A.tb⟩
def rpNil : WRp Unit := waNil.rp
def rpSnoc {δ α : Type} (P : WRp δ) (O : WTy α) : WRp (δ × α) where
  rep := fun d vs H R F => ∃ us v F1 F2, vs = us ++ [v] ∧ F = F1 ++ F2 ∧ P.rep d.1 us H R F1 ∧ O.rep d.2 v H R F2
  st := by
    rintro d vs H H' F R R' ⟨us, v, F1, F2, e1, e2, h1, h2⟩ s k
    exact ⟨us, v, F1, F2, e1, e2, P.st h1 s fun p hp => k p (by rw [e2]; exact List.mem_append_left _ hp), O.st h2 s fun p hp => k p (by rw [e2]; exact List.mem_append_right _ hp)⟩
  tb := by
    rintro d vs H F R ⟨us, v, F1, F2, e1, e2, h1, h2⟩ p hp
    rw [e2] at hp; exact (List.mem_append.mp hp).elim (P.tb h1 p) (O.tb h2 p)
/-- fields so far, then the others -/
structure Cat {δ ρ τ : Type} (P : WRp δ) (A : WAr ρ) (B : WAr τ) (f : δ → ρ → τ) : Prop where
  r : ∀ {d r us ws H R F1 F2}, P.rep d us H R F1 → A.rep r ws H R F2 → B.rep (f d r) (us ++ ws) H R (F1 ++ F2)
theorem cat_0 {ρ : Type} {A : WAr ρ} : Cat rpNil A A (fun _ r => r) := ⟨fun {d r us ws H R F1 F2} h1 h2 => by
  obtain ⟨e1, e2⟩ : us = [] ∧ F1 = [] := h1
  subst e1; subst e2
  exact h2⟩
theorem cat_s {δ α ρ τ : Type} {P : WRp δ} {O : WTy α} {A : WAr ρ} {B : WAr τ} {f : δ → α × ρ → τ} (h : Cat P (waCons O A) B f) : Cat (rpSnoc P O) A B (fun d r => f d.1 (d.2, r)) := ⟨fun {d r us ws H R F1 F2} h1 h2 => by
  obtain ⟨us', v, G1, G2, e1, e2, k1, k2⟩ := h1
  subst e1; subst e2
  have := h.r (d := d.1) (r := (d.2, r)) k1 (ws := v :: ws) (F2 := G2 ++ F2) ⟨v, ws, G2, F2, rfl, rfl, k2, h2⟩
  rw [show us' ++ v :: ws = (us' ++ [v]) ++ ws by simp, ← List.append_assoc] at this
  exact this⟩
/-- the slot of self -/
def sNew {δ : Type} (b : Bool) (x C : Addr) (ns : List Str) (P : WRp δ) (d : δ) : Slot := ⟨fun v H R F => ∃ dx vs G, v = some (.ref x) ∧ F = x :: G ∧ H x = some (.ins C dx (ns.zip vs)) ∧ ns.length = vs.length ∧ P.rep d vs H (R b) G,
  fun ⟨dx, vs, G, e, f, h, hl, r⟩ s k => ⟨dx, vs, G, e, f, by rw [k x (by simp [f])]; exact h, hl, P.st r (s b) fun q hq => k q (by rw [f]; exact List.mem_cons_of_mem _ hq)⟩,
  fun ⟨dx, vs, G, e, f, h, hl, r⟩ q hq => by
    rw [f] at hq
    rcases List.mem_cons.mp hq with e | hq
    · rw [e, cl_of h]; exact fun z => nomatch z
    · obtain ⟨o, ho, go⟩ := P.tb r q hq
      rw [cl_of ho (gd_nt go)]; exact fun z => nomatch z⟩
theorem new_conv {δ τ : Type} {b : Bool} {x C : Addr} {ns : List Str} {P : WRp δ} {B : WAr τ} {f : δ → Unit → τ} {d : δ} (h : Cat P waNil B f) (v : Option V) (H : Hp) (R : Bool → RdR) (F : List Addr) (q : (sNew b x C ns P d).ok v H R F) : (sNew b x C ns B.rp (f d ())).ok v H R F := by
  obtain ⟨dx, vs, G, e1, e2, e3, e4, r⟩ := q
  refine ⟨dx, vs, G, e1, e2, e3, e4, ?_⟩
  have := h.r (r := ()) (ws := []) (F2 := []) r ⟨rfl, rfl⟩
  rwa [List.append_nil, List.append_nil] at this
section
variable {p : Pr} {sc : Scope} {NN VV GG : List Str} {k : Nat} {g : G} {L : List Slot} {a c e e' : Expr} {es : List Expr} {md md' : Md} {α β γ δ ρ τ : Type} {O : WTy β} {pos pp : Pos} {i j : Nat} {x f : Str} {C : Addr} {st : List Stmt} {D : α → Out}
/-- self.f = e -/
theorem evb_fldN {b : Bool} {q : Addr} {ns : List Str} {P : WRp δ} {d : δ} {m : M β} {h : β → M α} {p1 p2 : Pos} {y : Str} (ok : OkS p sc NN VV GG k g) (wk : Wk L g.LX) (hN : NN[i]? = some y) (hV : VV[j]? = some y) (hL : L[i]? = some (sNew b q C ns P d)) (hc : Cls p.K C) (hn : NoAttr p.K C f) (hf : fldIx ns f = none) (hl : ns.length ≤ 100)
    (hb : SlB md b) (he : EvM g L e md O m) (hr : ∀ z, EvB g (L.set i (sNew b q C (ns ++ [f]) (rpSnoc P O) (d, z))) st D (h z)) (hs : swapsWith e (some (.Attribute (.Name y p1) f p2)) pos.line g.X.env = pure false := by rfl) :
    EvB g L (.Assign [.Attribute (.Name y p1) f p2] e pos :: st) D (m.bind h) := by
  obtain ⟨hv, ho⟩ := ok.vis hV
  obtain ⟨h1, h2, _⟩ := okName_d ho
  refine PSs.imp (pss_cons (ps_fld (pe_var (i := i) (by rw [ok.N]; exact hN) hv h1 h2) he hs) (PSs.ex hr)) fun E σ H ⟨kp, own, at_, q1⟩ => ?_
  refine ⟨kp, own, at_, ?_⟩
  cases m with
  | ok z =>
    intro v F1 H1 s1 nd1 n1 r1
    obtain ⟨h1, h2, ⟨Fs, h3, eo⟩, h4, h5, h6⟩ := at_
    obtain ⟨v0, F, e1, e2, dx, vs, G, rfl, rfl, hp, hlen, rr⟩ := h3.get hL
    have nd := h4
    rw [eo] at nd
    have qin : q ∈ own := by rw [eo]; exact flat_mem e2 q List.mem_cons_self
    have hp1 : H1 q = some (.ins C dx (ns.zip vs)) := s1.keep _ _ hp rfl
    have fn : (ns.zip vs).lookup f = none := fld_none hf
    refine ⟨_, e1, q, C, dx, ns.zip vs, rfl, hp1, by rw [ok.K]; exact hc, by rw [ok.K]; exact hn, by rw [List.length_zip]; omega, ?_⟩
    rw [putF_new fn]
    have ez : ns.zip vs ++ [(f, v)] = (ns ++ [f]).zip (vs ++ [v]) := by rw [List.zip_append hlen]; rfl
    rw [ez]
    have ne1 : ∀ y ∈ F1, y ≠ q := fun y hy e => (h5 q qin).1 (by rw [← e]; exact n1 y hy)
    have nG : q ∉ G := by have := flat_nd nd e2; exact (List.nodup_cons.mp this).1
    have nF : ∀ y ∈ (Fs.set i (q :: (G ++ F1))).flatten, y ∈ F1 ++ own := fun y hy => by
      rcases flat_set_mem nd e2 y hy with hy | ⟨hy, _⟩
      · rcases List.mem_cons.mp hy with e | hy
        · rw [e]; exact List.mem_append_right _ qin
        · rcases List.mem_append.mp hy with hy | hy
          · exact List.mem_append_right _ (by rw [eo]; exact flat_mem e2 y (List.mem_cons_of_mem _ hy))
          · exact List.mem_append_left _ hy
      · exact List.mem_append_right _ (by rw [eo]; exact hy)
    -- what is read at the changed heap
    have rdx : ∀ (md : Md) (Hx : Hp) a o, RX g.fm (F1 ++ own) Hx H1 md a o → RX g.fm (Fs.set i (q :: (G ++ F1))).flatten Hx (upd H1 q (.ins C dx ((ns ++ [f]).zip (vs ++ [v])))) md a o := fun md Hx a o z => by
      have out : a ∉ F1 ++ own → a ∉ (Fs.set i (q :: (G ++ F1))).flatten := fun h hy => h (nF a hy)
      have ne : a ∉ F1 ++ own → a ≠ q := fun h e => h (by rw [e]; exact List.mem_append_right _ qin)
      cases md with
      | sh =>
        refine z.imp (fun ⟨z1, z2, z3⟩ => ⟨?_, out z2, z3⟩) id
        unfold Rd
        rw [cl_upd_ne (ne z2)]
        exact z1
      | f0 => exact ⟨by rw [cl_upd_ne (ne z.2.1)]; exact z.1, out z.2.1, z.2.2⟩
      | fx => exact ⟨by rw [cl_upd_ne (ne z.2.1)]; exact z.1, out z.2.1, z.2.2⟩
    have old : ∀ (md : Md) a o, RX g.fm own H H md a o → md = .fx ∨ RX g.fm (F1 ++ own) H1 H1 md a o := fun md a o z => by
      cases md with
      | sh => exact .inr (RD.newer s1 n1 a o z)
      | f0 =>
        refine .inr ⟨s1.cl _ _ z.1, fun hy => ?_, z.2.2⟩
        rcases List.mem_append.mp hy with hy | hy
        · have := z.1; rw [cl_none (n1 a hy)] at this; cases this
        · exact z.2.1 hy
      | fx => exact .inl rfl
    have keyB : ∀ b a o, RB g.fm own H b a o → RB g.fm (Fs.set i (q :: (G ++ F1))).flatten (upd H1 q (.ins C dx ((ns ++ [f]).zip (vs ++ [v])))) b a o := fun b a o y => by
      cases b with
      | false => exact rdx .sh H1 a o ((old .sh a o y).resolve_left fun e => nomatch e)
      | true => exact rdx .f0 H1 a o ((old .f0 a o y).resolve_left fun e => nomatch e)
    have hk : ∀ y ∈ Fs.flatten, H1 y = H y := fun y hy => by
      cases r : cl H y with
      | none => exact absurd r (h3.tb y hy)
      | some o => rw [cl_raw r]; exact s1.keep _ _ (cl_raw r) (cl_nt r)
    have ndn : (q :: (G ++ F1)).Nodup := List.nodup_cons.mpr ⟨fun hy => (List.mem_append.mp hy).elim nG fun hy => ne1 q hy rfl, List.nodup_append.mpr ⟨(List.nodup_cons.mp (flat_nd nd e2)).2, nd1, fun y hy z hz e => (h5 y (by rw [eo]; exact flat_mem e2 y (List.mem_cons_of_mem _ hy))).1 (by rw [e]; exact n1 z hz)⟩⟩
    have leafb : ∀ a o, RX g.fm (F1 ++ own) H H1 md a o → RB g.fm (Fs.set i (q :: (G ++ F1))).flatten (upd H1 q (.ins C dx ((ns ++ [f]).zip (vs ++ [v])))) b a o := fun a o z => by
      have z2 := hb.rb a o (rdx md H a o z)
      exact z2
    refine ⟨z, kp, _, ⟨(h1.trans s1).wr (h5 q qin).2.1 hp1 (fun _ z => nomatch z) rfl, fun a y e => ?_, ⟨Fs.set i (q :: (G ++ F1)), h3.chg nd e2 e1 keyB (fun y hy hny => ?_) (s' := sNew b q C (ns ++ [f]) (rpSnoc P O) (d, z)) ⟨dx, vs ++ [v], G ++ F1, rfl, rfl, upd_same, by simp [hlen], vs, v, G, F1, rfl, rfl, P.st rr (keyB b) fun y hy => ?_, O.st r1 leafb fun y hy => ?_⟩, rfl⟩, flat_set_nd nd e2 ndn fun y hy => ?_, fun y hy => ?_, fun a o y => keyB false a o (h6 a o y)⟩, q1⟩
    · by_cases w : a = q
      · rw [w, upd_same] at e; cases e
      · rw [upd_ne w] at e; exact h2 a y (s1.free e)
    · rw [upd_ne fun e => hny (by rw [e]; exact List.mem_cons_self)]; exact hk y hy
    · rw [upd_ne fun e => nG (by rw [← e]; exact hy)]
      exact hk y (flat_mem e2 y (List.mem_cons_of_mem _ hy))
    · exact upd_ne (ne1 y hy)
    · rcases List.mem_cons.mp hy with e | hy
      · exact .inl (by rw [e]; exact List.mem_cons_self)
      · rcases List.mem_append.mp hy with hy | hy
        · exact .inl (List.mem_cons_of_mem _ hy)
        · exact .inr fun hq => (h5 y (by rw [eo]; exact hq)).1 (n1 y hy)
    · rcases List.mem_append.mp (nF y hy) with hy | hy
      · obtain ⟨o, ho, _⟩ := O.tb r1 y hy
        exact ⟨by rw [upd_ne (ne1 y hy), ho]; exact (fun z => nomatch z), h1.free (n1 y hy), fun z => h2 y z (n1 y hy)⟩
      · refine ⟨?_, (h5 y hy).2⟩
        by_cases w : y = q
        · rw [w, upd_same]; exact fun z => nomatch z
        · rw [upd_ne w]; exact fun z => (h5 y hy).1 (s1.free z)
  | ex c => exact BOk.exx wk at_ q1
  | no => exact q1
/-- what such an __init__ promises -/
def spIN (p : Pr) {δ ρ : Type} (C : Addr) (ns : List Str) (A : Ar δ) (B : WAr ρ) (b : Bool) (F : δ → M ρ) : Sp := fun vs H Q E => ∃ x dx H1 vs', vs = .ref x :: vs' ∧ H1 x = none ∧ H1 dx = none ∧ dx ≠ x ∧ H = upd (upd H1 dx (.own x)) x (.ins C dx []) ∧
  ∃ d z, ((∀ a, z a → H1 a ≠ none) ∧ ∀ P, p.T = some P → LamX.TabS H1 P lamQ) ∧ A.rep d vs' (RD ⟨p.K, H1, z⟩ [] H1) ∧
  match F d with
  | .ok r => ∀ H' dx' us G, Same H1 H' → H' x = some (.ins C dx' (ns.zip us)) → ns.length = us.length → (x :: G).Nodup → (∀ a ∈ G, H1 a = none ∧ ¬ z a) → B.rep r us H' (RX ⟨p.K, H1, z⟩ (x :: G) H' H' (if b then .f0 else .sh)) G → Q .non H'
  | .ex c => ∀ H', Same H1 H' → E (.ref (p.C c)) none H'
  | .no => False
theorem fn_initN {qual : Str} {st : Stmt} {f : Addr} {fd : FuncData} {ps ns : List Str} {A : Ar δ} {B : WAr ρ} {L0 : δ → List Slot} {n m : Nat} {LE : List Slot} {F : δ → M ρ} {b : Bool} (hF : FunD p.K "__init__" qual (defArgs st) (defBody st) (defScope st) [] [] f fd) (hS : Sc st NN VV ("self" :: ps) GG) (ha : ArS A n L0) (hn : ps.length = n) (hm : n + 1 + m = NN.length)
    (hb : ∀ x g, OkS p (defScope st) NN VV GG k g → g.LX = List.replicate NN.length sAny → ∀ d, EvB g (sNew b x C [] rpNil () :: (L0 d ++ List.replicate m sAny)) (defBody st) (fun r => .nx (sNew b x C ns B.rp r :: LE)) (F d)) :
    FnOk p.P p.w p.K p.mg p.base (L2.CX p.P p.w) (k + 1) f fd ("self" :: ps) (spIN p C ns A B b F) := by
  refine hF.ok hS.S (fun vs H Q E h => ?_) (fun cdv A' outer s H vs Q E hr h => ?_)
  · obtain ⟨x, dx, H1, vs', rfl, _, _, _, _, d, z, _, hrep, _⟩ := h
    have := (ha.all (H := H1) (R := fun _ => RD ⟨p.K, H1, z⟩ [] H1) hrep).1
    simp [this, hn]
  · obtain ⟨x, dx, H1, vs', rfl, nx, ndx, ne, rfl, d, z, ⟨hz, htab⟩, hrep, q⟩ := h
    have hlen : vs'.length = n := (ha.all (H := H1) (R := fun _ => RD ⟨p.K, H1, z⟩ [] H1) hrep).1
    have sm : Same H1 (upd (upd H1 dx (.own x)) x (.ins C dx [])) := (newSame ndx).trans (newSame (by rw [upd_ne (Ne.symm ne)]; exact nx))
    let X : Cx := cxOf (L2.CX p.P p.w) p.P p.w p.K p.mg p.base NN qual (defScope st) f cdv A' outer s (upd (upd H1 dx (.own x)) x (.ins C dx [])) E
    let g : G := ⟨X, ⟨p.K, H1, z⟩, fun c _ H' => E (.ref (p.C c)) none H', List.replicate NN.length sAny⟩
    have hN : ∀ {j : Nat} {y : Str}, VV[j]? = some y → y ∈ VV := fun e => List.mem_of_getElem? e
    have ok : OkS p (defScope st) NN VV GG k g :=
      { prog := rfl, w := rfl, K := rfl, mg := rfl, base := rfl, N := rfl, fmK := rfl, tab := htab, room := hr, nd := hS.S.nd
        vis := fun e => let h := seenB_v (List.all_eq_true.mp hS.vis _ (hN e)); ⟨h.2, h.1⟩
        gl := fun e => let h := glB_v (List.all_eq_true.mp hS.gl _ (List.mem_of_getElem? e)); ⟨h.2, h.1⟩
        tk := Takes.imp (takes_of (X := X) rfl rfl rfl (E := E) rfl) (fun cls d σ H ⟨c, e1, e2, h⟩ => by subst e1; subst e2; exact h)
        calm := rfl
        blk := fun h => blkOk_by h
        loc := fun e => locB_v (List.all_eq_true.mp hS.loc _ (hN e))
        fnT := fun _ => rfl
        psO := passes_of (X := X) rfl
        scp := rfl
        stk := rfl
        frm := rfl
        exn := rfl }
    have nz : ¬ z x := fun h => hz x h nx
    refine ⟨_, hb x g ok rfl d, (fun _ _ => False), [x], ?_, ?_⟩
    · refine ⟨sm, fun a h => fun e => hz a h (sm.free e), ⟨[x] :: (List.replicate n [] ++ List.replicate m []), ?_, by simp [flat_rep]⟩, by simp, fun a h => ?_, fun _ _ h => h.elim⟩
      · have h1 := (ha.all (H := H1) (R := RB ⟨p.K, H1, z⟩ [] H1) hrep).2
        have e : L2.start NN (V.ref x :: vs') = some (V.ref x) :: (vs'.map some ++ List.replicate m none) := by
          unfold L2.start
          rw [show NN.length - (V.ref x :: vs').length = m by simp; omega]
          rfl
        rw [e]
        refine .cons ⟨dx, [], [], rfl, rfl, upd_same, rfl, rfl, rfl⟩ (AllS.append (h1.st (fun b a o r => ?_) fun q hq => ?_) (AllS.anys m))
        · have out : ∀ {a : Addr} {o : HO}, cl H1 a = some o → a ∉ [x] := fun h hm => by
            rw [List.mem_singleton.mp hm] at h
            rw [cl_none nx] at h; cases h
          cases b with
          | false =>
            rcases r with ⟨r1, _, r3⟩ | r
            · refine .inl ⟨Rd.same sm r1, ?_, r3⟩
              rcases r1 with r1 | ⟨_, r1⟩ <;> exact out r1
            · exact .inr r
          | true => exact ⟨sm.cl _ _ r.1, out r.1, r.2.2⟩
        · rw [flat_rep] at hq; cases hq
      · rw [List.mem_singleton.mp h]
        exact ⟨by rw [upd_same]; exact (fun z => by cases z), nx, nz⟩
    · cases hF' : F d with
      | ok r =>
        rw [hF'] at q
        intro σ H' own at_
        obtain ⟨Fs, h3, e3⟩ := at_.sl
        obtain ⟨v, F', e1, e2, dx', us, G, _, rfl, hp, hl, rr⟩ := h3.get (i := 0) (s := sNew b x C ns B.rp r) rfl
        have nd := at_.nd
        rw [e3] at nd
        have sub : ∀ y ∈ x :: G, y ∈ own := fun y hy => by rw [e3]; exact flat_mem e2 y hy
        exact q H' dx' us G at_.same hp hl (flat_nd nd e2) (fun a h => (at_.new a (sub a (List.mem_cons_of_mem _ h))).2) (B.st rr (fun a o y => RX.own sub a o y) fun _ _ => rfl)
      | ex c =>
        rw [hF'] at q
        exact fun σ' H' own a' => q H' a'.same
      | no => rw [hF'] at q; exact q
theorem evm_make {kf : Nat} {c : Str} {ps ns : List Str} {A : Ar δ} {B : WAr ρ} {F : δ → M ρ} {m : M δ} {b : Bool} (ok : Ok p sc NN VV GG k g) (hf : MkF p kf c ps (spIN p (cA p c) ns A B b F)) (hk : kf + 1 ≤ k) (hG : GG[j]? = some c) (hc : CaMd b md')
    (ha : EvA g L (e :: es) md A m) (he : starEach (e :: es) g.X.env = (false, eval e g.X.env) :: starEach es g.X.env := by rfl) (hpl : (backTo pos (starEach es g.X.env)).any (·.1) = false := by rfl) :
    EvM g L (.Call (.Name c pp) (e :: es) [] pos) md' (wIns (cA p c) ns B) (m.bind F) := by
  obtain ⟨f, fd, hF, hmk, hmg, hbd⟩ := hf.ex
  obtain ⟨hg, ho⟩ := ok.gl hG
  rw [← ok.prog, ← ok.w, ← ok.base] at hF
  have hF' : FnOk g.X.prog g.X.w g.X.K g.X.mg g.X.base (L2.CX g.X.prog g.X.w) kf f fd ("self" :: ps) (spIN p (cA p c) ns A B b F) := by rw [ok.K, ok.mg]; exact hF
  refine PE.imp (pe_makeS (C := cA p c) (by rw [ok.K]; exact hmk) hF' (ok.room.mono hk) hg (by rw [ok.mg]; exact hmg) (by rw [ok.K]; exact hbd) (tk_at ok) ha (okName_d ho).1 he hpl) fun σ H Q ⟨kp, own, at_, q⟩ => ?_
  refine subA finM (Same.refl H) at_ q fun d vs H1 s1 r1 at1 q1 => fun x dx nx ndx ne => ⟨x, dx, H1, vs, rfl, nx, ndx, ne, rfl, d, fun a => a ∈ own ∨ g.fm.z a, ⟨fun a z => ?_, fun P e => at1.same.tab P (ok.tab P e)⟩, ?_, ?_⟩
  · rcases z with z | z
    · exact (at1.new a z).1
    · exact at1.zin a z
  · rw [← ok.fmK]; exact args_in r1
  · rw [← ok.fmK]
    cases hd : F d with
    | ok r =>
      rw [hd] at q1
      refine fun H' dx' us G s hx hl nd n rr => ⟨rfl, q1 _ (x :: G) H' (s1.trans s) nd (fun a ha => s1.free ?_) ⟨x, dx', us, G, rfl, rfl, hx, hl, B.st rr (fun a o z => ?_) fun _ _ => rfl⟩⟩
      · rcases List.mem_cons.mp ha with e | ha
        · rw [e]; exact nx
        · exact (n a ha).1
      · cases hc with
        | sh =>
          rcases z with ⟨z1, z2, z3⟩ | z
          · exact .inl ⟨z1, fun hq => (List.mem_append.mp hq).elim z2 fun hq => z3 (.inl hq), fun hq => z3 (.inr hq)⟩
          · exact .inr z
        | fx =>
          obtain ⟨z1, z2, z3, z4⟩ := (show _ ∧ _ ∧ _ ∧ _ from z)
          exact RX.fx md' a o ⟨z1, fun hq => (List.mem_append.mp hq).elim z2 fun hq => z3 (.inl hq), fun hq => z3 (.inr hq), at_.same.free (s1.free z4), s1.free z4⟩
    | ex c =>
      rw [hd] at q1
      exact fun H' s => ⟨c, rfl, rfl, q1 H' (s1.trans s)⟩
    | no => rw [hd] at q1; exact q1
end
end Hd
namespace Hd
open PySem PySem.Spec L2
/-- the addresses of the slots is -/
def Mv (Fs : List (List Addr)) (is : List Nat) (a : Addr) : Prop := ∃ i ∈ is, ∃ F, Fs[i]? = some F ∧ a ∈ F
def FinMR {β : Type} (fm : Fm) (W : Wx) (own : List Addr) (Fs : List (List Addr)) (is : List Nat) (σ : L2.St) (H : Hp) (O : WTy β) (Q : VK) : M β → Prop
  | .ok d => ∀ v F H', Same H H' → F.Nodup → (∀ p ∈ F, H p = none ∨ Mv Fs is p) → O.rep d v H' (RD fm (F ++ own) H') F → Q v H'
  | .ex c => ∀ H', Same H H' → W c σ H'
  | .no => False
/-- an expression that makes a thing of one's own, of which the slots is are parts -/
def EvR (g : G) (L : List Slot) (is : List Nat) (e : Expr) {β : Type} (O : WTy β) (m : M β) : Prop := PE g.X e (fun σ H Q => ∃ kp own Fs, At g.fm kp L σ H own ∧ AllS H (RB g.fm own H) L σ Fs ∧ own = Fs.flatten ∧ FinMR g.fm g.W own Fs is σ H O Q m)
def FinMA {δ : Type} (fm : Fm) (W : Wx) (own : List Addr) (Fs : List (List Addr)) (is : List Nat) (σ : L2.St) (H : Hp) (A : WAr δ) (Q : List V → Hp → Prop) : M δ → Prop
  | .ok d => ∀ vs F H', Same H H' → F.Nodup → (∀ p ∈ F, H p = none ∨ Mv Fs is p) → A.rep d vs H' (RD fm (F ++ own) H') F → Q vs H'
  | .ex c => ∀ H', Same H H' → W c σ H'
  | .no => False
def EvRA (g : G) (L : List Slot) (is : List Nat) (es : List Expr) {δ : Type} (A : WAr δ) (m : M δ) : Prop := PA g.X es (fun σ H Q => ∃ kp own Fs, At g.fm kp L σ H own ∧ AllS H (RB g.fm own H) L σ Fs ∧ own = Fs.flatten ∧ FinMA g.fm g.W own Fs is σ H A Q m)
theorem RD.more {fm : Fm} {own own' : List Addr} {H H' : Hp} (s : Same H H') (k : ∀ p ∈ own', p ∈ own ∨ H p = none) : ∀ a o, RD fm own H a o → RD fm own' H' a o := fun a o r => by
  rcases r with ⟨r1, r2, r3⟩ | r
  · refine .inl ⟨Rd.same s r1, fun h => ?_, r3⟩
    rcases k a h with h | h
    · exact r2 h
    · rcases r1 with r1 | ⟨_, r1⟩ <;> rw [cl_none h] at r1 <;> cases r1
  · exact .inr r
theorem flat_ij {Fs : List (List Addr)} : ∀ {i j : Nat} {F G : List Addr} {x : Addr}, Fs.flatten.Nodup → Fs[i]? = some F → Fs[j]? = some G → x ∈ F → x ∈ G → i = j := by
  induction Fs with
  | nil => intro i j F G x _ e; simp at e
  | cons K Fs ih =>
    intro i j F G x nd e1 e2 h1 h2
    rw [List.flatten_cons, List.nodup_append] at nd
    cases i with
    | zero =>
      cases j with
      | zero => rfl
      | succ j =>
        simp at e1 e2
        subst e1
        exact absurd rfl (nd.2.2 x h1 x (flat_mem e2 x h2))
    | succ i =>
      cases j with
      | zero =>
        simp at e1 e2
        subst e2
        exact absurd rfl (nd.2.2 x h2 x (flat_mem e1 x h1))
      | succ j => exact congrArg (· + 1) (ih nd.2.1 (by simpa using e1) (by simpa using e2) h1 h2)
section
variable {p : Pr} {sc : Scope} {NN VV GG : List Str} {k : Nat} {g : G} {L L' : List Slot} {a b c e e' ix : Expr} {es : List Expr} {md md' : Md} {α β γ δ ρ : Type} {S : Ty α} {T : Ty β} {O : WTy α} {O2 : WTy β} {O3 : WTy γ} {A : WAr δ} {pos pp pos' : Pos} {i j : Nat} {x : Str} {px : V → Prop} {d : α} {is is2 : List Nat}
theorem evr_n {m : M α} (h : EvN g L e O m) : EvR g L [] e O m := PE.imp h fun σ H Q ⟨kp, own, Fs, at_, hsl, heo, q⟩ => by
  refine ⟨kp, own, at_, ?_⟩
  cases m with
  | ok d => exact fun v F H' s nd n r => q v F H' s nd (fun p hp => .inl (n p hp)) r
  | ex c => exact q
  | no => exact q
theorem evra_nil : EvRA g L [] [] waNil (.ok ()) := PA.imp pa_nil fun σ H Q ⟨kp, own, Fs, at_, hsl, heo, q⟩ => q [] [] H (Same.refl H) List.nodup_nil (fun _ z => nomatch z) ⟨rfl, rfl⟩
theorem evra_cons {m1 : M α} {m2 : M δ} (ok : Ok p sc NN VV GG k g) (ha : EvR g L is a O m1) (hb : ∀ g', Ok p sc NN VV GG k g' → EvRA g' L is2 es A m2) (hd : ∀ i ∈ is, i ∉ is2)
    (hs : starEach (a :: es) g.X.env = (false, eval a g.X.env) :: starEach es g.X.env := by rfl) : EvRA g L (is ++ is2) (a :: es) (waCons O A) (m1.bind fun d => m2.bind fun e => .ok (d, e)) := by
  refine ⟨fun po pins s σ H Q I ⟨kp, own, Fs, at_, hsl, heo, q⟩ => ?_⟩
  refine (pa_cons (t := fun σ' H1 Q' => ∃ (g' : G) (hg' : g'.X = g.X) (_ : Ok p sc NN VV GG k g') (kp' : RdR) (own' : List Addr) (Fs' : List (List Addr)), At g'.fm kp' L σ' H1 own' ∧ AllS H1 (RB g'.fm own' H1) L σ' Fs' ∧ own' = Fs'.flatten ∧ FinMA g'.fm g'.W own' Fs' is2 σ' H1 A Q' m2) ha ?_ hs).run po pins s σ H Q I ?_
  · refine ⟨fun po pins s σ H Q I ⟨g', hg', ok', z⟩ => ?_⟩
    have h := (hb g' ok').run
    rw [hg'] at h
    exact h po pins s σ H Q I z
  · refine ⟨kp, own, Fs, at_, hsl, heo, ?_⟩
    have nd := at_.nd
    rw [heo] at nd
    cases m1 with
    | ok d =>
      intro v F1 H1 s1 nd1 n1 r1
      have F1n : ∀ y ∈ F1, H1 y ≠ none := fun y hy => by
        obtain ⟨o, ho, _⟩ := O.tb r1 y hy
        rw [ho]; exact fun z => nomatch z
      -- the fresh of the first are hidden from the rest
      let Fr : Addr → Prop := fun y => y ∈ F1 ∧ H y = none
      let fm' : Fm := ⟨g.fm.K, g.fm.H0, fun y => Fr y ∨ g.fm.z y⟩
      let g' : G := ⟨g.X, fm', g.W, g.LX⟩
      have ok' : Ok p sc NN VV GG k g' := { prog := ok.prog, w := ok.w, K := ok.K, mg := ok.mg, base := ok.base, N := ok.N, fmK := ok.fmK, tab := ok.tab, room := ok.room, nd := ok.nd, vis := ok.vis, gl := ok.gl, tk := ok.tk, calm := ok.calm, blk := ok.blk }
      have rdo : ∀ a o, RD g.fm own H a o → RD fm' own H1 a o := fun a o r => by
        rcases r with ⟨r1, r2, r3⟩ | r
        · refine .inl ⟨Rd.same s1 r1, r2, fun z => z.elim (fun z => ?_) r3⟩
          rcases r1 with r1 | ⟨_, r1⟩ <;> rw [cl_none z.2] at r1 <;> cases r1
        · exact .inr r
      have hk : ∀ y ∈ Fs.flatten, H1 y = H y := hsl.hk (fm := g.fm) (own := own) s1
      have sl1 : AllS H1 (RB fm' own H1) L σ Fs := hsl.st (fun b a o z => by
        cases b with
        | false => exact rdo a o z
        | true =>
          obtain ⟨z1, z2, z3, z4⟩ := z
          exact ⟨s1.cl _ _ z1, z2, fun y => y.elim (fun y => by rw [cl_none y.2] at z1; cases z1) z3, z4⟩) hk
      have at1 : At fm' kp L σ H1 own := ⟨at_.same.trans s1, fun y hy => hy.elim (fun hy => F1n y hy.1) fun hy ea => at_.zin y hy (s1.free ea), ⟨Fs, sl1, heo⟩, at_.nd, fun y hy => ⟨fun z => (at_.new y hy).1 (s1.free z), (at_.new y hy).2.1, fun z => z.elim (fun z => (at_.new y hy).1 z.2) (at_.new y hy).2.2⟩, fun a o z => rdo a o (at_.kept a o z)⟩
      refine ⟨g', rfl, ok', kp, own, Fs, at1, sl1, heo, ?_⟩
      cases m2 with
      | ok e =>
        intro vs F2 H2 s2 nd2 n2 r2
        have dj : ∀ y ∈ F1, y ∉ F2 := fun y h1 h2 => by
          rcases n2 y h2 with h | ⟨i2, hi2, G2, eG2, hG2⟩
          · exact F1n y h1 h
          · rcases n1 y h1 with h | ⟨i1, hi1, G1, eG1, hG1⟩
            · exact (at_.new y (by rw [heo]; exact flat_mem eG2 y hG2)).1 h
            · have := flat_ij nd eG1 eG2 hG1 hG2
              subst this
              exact hd i1 hi1 hi2
        refine q (v :: vs) (F1 ++ F2) H2 (s1.trans s2) (List.nodup_append.mpr ⟨nd1, nd2, fun y h1 z h2 e => dj y h1 (by rw [e]; exact h2)⟩) (fun y hy => ?_) ⟨v, vs, F1, F2, rfl, rfl, O.st r1 (RD.more s2 fun y hy => ?_) fun y hy => ?_, A.st r2 (fun a o z => ?_) fun _ _ => rfl⟩
        · rcases List.mem_append.mp hy with hy | hy
          · exact (n1 y hy).imp id fun ⟨i1, h1, z⟩ => ⟨i1, List.mem_append_left _ h1, z⟩
          · exact (n2 y hy).imp s1.free fun ⟨i1, h1, z⟩ => ⟨i1, List.mem_append_right _ h1, z⟩
        · rcases List.mem_append.mp hy with hy | hy
          · rcases List.mem_append.mp hy with hy | hy
            · exact .inl (List.mem_append_left _ hy)
            · rcases n2 y hy with h | ⟨i2, hi2, G2, eG2, hG2⟩
              · exact .inr h
              · exact .inl (List.mem_append_right _ (by rw [heo]; exact flat_mem eG2 y hG2))
          · exact .inl (List.mem_append_right _ hy)
        · obtain ⟨o, ho, go⟩ := O.tb r1 y hy
          rw [ho]; exact s2.keep _ _ ho (gd_nt go)
        · rcases z with ⟨z1, z2, z3⟩ | z
          · refine .inl ⟨z1, fun hq => ?_, fun y => z3 (.inr y)⟩
            rcases List.mem_append.mp hq with hq | hq
            · rcases List.mem_append.mp hq with hq | hq
              · rcases n1 a hq with h | ⟨i1, hi1, G1, eG1, hG1⟩
                · exact z3 (.inl ⟨hq, h⟩)
                · exact z2 (List.mem_append_right _ (by rw [heo]; exact flat_mem eG1 a hG1))
              · exact z2 (List.mem_append_left _ hq)
            · exact z2 (List.mem_append_right _ hq)
          · exact .inr z
      | ex c => exact fun H' s => q H' (s1.trans s)
      | no => exact q
    | ex c => exact q
    | no => exact q
theorem evr_tup {m : M δ} {x1} (hl : ∀ d vs H R F, A.rep d vs H R F → vs.length ≤ 1000) (ha : EvRA g L is es A m) : EvR g L is (.Tuple es x1 pos) (wTup A) m := by
  refine PE.imp (pe_tup ha) fun σ H Q ⟨kp, own, Fs, at_, hsl, heo, q⟩ => ⟨kp, own, Fs, at_, hsl, heo, ?_⟩
  cases m with
  | ok d =>
    refine fun vs F H1 s1 nd n r1 => ⟨Nat.le_trans (hl _ _ _ _ _ r1) (by decide), fun p hp => q _ (p :: F) _ (s1.trans (newSame hp)) (List.nodup_cons.mpr ⟨fun h => ?_, nd⟩) (fun y hy => ?_) ⟨p, vs, F, rfl, rfl, upd_same, A.st r1 (RD.more (newSame hp) fun y hy => ?_) fun y hy => ?_⟩⟩
    · obtain ⟨o, ho, _⟩ := A.tb r1 p h
      rw [hp] at ho; cases ho
    · rcases List.mem_cons.mp hy with e | hy
      · rw [e]; exact .inl (s1.free hp)
      · exact n y hy
    · rcases List.mem_cons.mp hy with e | hy
      · rw [e]; exact .inr hp
      · exact .inl hy
    · obtain ⟨o, ho, _⟩ := A.tb r1 y hy
      exact upd_ne (ne_of_none ho hp)
  | ex c => exact q
  | no => exact q
theorem evr_hl {m : M δ} (hl : ∀ d vs H R F, A.rep d vs H R F → vs.length ≤ 1000) (ha : EvRA g L is es A m) : EvR g L is (.List es pos) (wHl A) m := by
  refine PE.imp (pe_lst ha) fun σ H Q ⟨kp, own, Fs, at_, hsl, heo, q⟩ => ⟨kp, own, Fs, at_, hsl, heo, ?_⟩
  cases m with
  | ok d =>
    refine fun vs F H1 s1 nd n r1 => ⟨Nat.le_trans (hl _ _ _ _ _ r1) (by decide), fun p hp => q _ (p :: F) _ (s1.trans (newSame hp)) (List.nodup_cons.mpr ⟨fun h => ?_, nd⟩) (fun y hy => ?_) ⟨p, vs, F, rfl, rfl, upd_same, A.st r1 (RD.more (newSame hp) fun y hy => ?_) fun y hy => ?_⟩⟩
    · obtain ⟨o, ho, _⟩ := A.tb r1 p h
      rw [hp] at ho; cases ho
    · rcases List.mem_cons.mp hy with e | hy
      · rw [e]; exact .inl (s1.free hp)
      · exact n y hy
    · rcases List.mem_cons.mp hy with e | hy
      · rw [e]; exact .inr hp
      · exact .inl hy
    · obtain ⟨o, ho, _⟩ := A.tb r1 y hy
      exact upd_ne (ne_of_none ho hp)
  | ex c => exact q
  | no => exact q
theorem lenW0 {d : Unit} {vs : List V} {H : Hp} {R : RdR} {F : List Addr} (h : waNil.rep d vs H R F) : vs.length = 0 := by rw [h.1]; rfl
theorem lenWS {n : Nat} (h : ∀ d vs H R F, A.rep d vs H R F → vs.length = n) (d : α × δ) (vs : List V) (H : Hp) (R : RdR) (F : List Addr) (q : (waCons O A).rep d vs H R F) : vs.length = n + 1 := by
  obtain ⟨v, r, _, _, e, _, _, h2⟩ := q
  rw [e, List.length_cons, h _ _ _ _ _ h2]
theorem lenWl {n : Nat} (hn : n ≤ 1000) (h : ∀ d vs H R F, A.rep d vs H R F → vs.length = n) (d : δ) (vs : List V) (H : Hp) (R : RdR) (F : List Addr) (q : A.rep d vs H R F) : vs.length ≤ 1000 := by rw [h _ _ _ _ _ q]; exact hn
theorem evn_r {m : M α} (h : EvR g L [] e O m) : EvN g L e O m := PE.imp h fun σ H Q ⟨kp, own, at_, q⟩ => by
  obtain ⟨Fs, hsl, heo⟩ := at_.sl
  refine ⟨kp, own, Fs, at_, hsl, heo, ?_⟩
  cases m with
  | ok d => exact fun v F H' s nd n r => q v F H' s nd (fun p hp => (n p hp).resolve_right fun ⟨_, z, _⟩ => nomatch z) r
  | ex c => exact q
  | no => exact q
variable {st : List Stmt} {D : δ → Out}
end
end Hd
namespace Hd
open PySem PySem.Spec L2
section
variable {p : Pr} {sc : Scope} {NN VV GG : List Str} {k : Nat} {g : G} {L L' : List Slot} {a b c e e' ix : Expr} {es : List Expr} {md md' : Md} {α β γ δ ρ τ : Type} {S : Ty α} {T : Ty β} {O : WTy α} {O2 : WTy β} {O3 : WTy γ} {pos pp pos' : Pos} {i j : Nat} {x : Str} {px : V → Prop} {d : α} {st : List Stmt} {D : δ → Out}
theorem ev_meth {kf : Nat} {c x : Str} {ps : List Str} {fl : δ → List FldS} {A : Ar ρ} {F : δ × ρ → M β} {m1 : M δ} {m2 : M ρ} {apos : Pos} {pl : Sem Bool} (ok : Ok p sc NN VV GG k g) (hf : MeF p kf c x ps (spM p (aCons (tIns (cA p c) fl) A) (fun r => .rt false T r) F)) (hk : kf ≤ k) {nm : List Str} (hnm : ∀ d, (fl d).map (·.n) = nm) (hx0 : nm.all (fun n => !(x == n)) = true)
    (ha : EvE g L a md (tIns (cA p c) fl) m1) (hb : EvA g L (e :: es) md A m2) (hst : starEach (e :: es) g.X.env = (false, eval e g.X.env) :: starEach es g.X.env := by rfl) (hpl : (backTo pos (starEach es g.X.env)).any (·.1) = false := by rfl)
    (ht : eval (.Call (.Attribute a x apos) (e :: es) [] pos) g.X.env = (do
      let ov ← eval a g.X.env
      standAt apos.atName
      let (f, first) ← holding [ov] (getMethod ov x pl)
      callWith pos f first (backTo pos (starEach (e :: es) g.X.env)) (backToKw pos (keywordEach [] g.X.env))) := by rfl) :
    EvE g L (.Call (.Attribute a x apos) (e :: es) [] pos) .sh T (m1.bind fun d => m2.bind fun r => F (d, r)) := by
  have hx : ∀ d, (fl d).all (fun s => !(x == s.n)) = true := fun d => by have := hx0; rw [← hnm d, List.all_map] at this; exact this
  obtain ⟨f, fd, hF, hc, hm, hbd⟩ := hf.ex
  rw [← ok.prog, ← ok.w, ← ok.base] at hF
  have hF' : FnOk g.X.prog g.X.w g.X.K g.X.mg g.X.base (L2.CX g.X.prog g.X.w) kf f fd ("self" :: ps) (spM p (aCons (tIns (cA p c) fl) A) (fun r => .rt false T r) F) := by rw [ok.K, ok.mg]; exact hF
  refine PE.imp (pe_methS (C := cA p c) (pl := pl) ha (by rw [ok.K]; exact hc) (by rw [ok.K]; exact hm) hF' (ok.room.mono hk) (by rw [ok.K]; exact hbd) (tk_at ok) hb hst hpl ht) fun σ H Q q => ?_
  obtain ⟨kp, own, at_, q⟩ := tE_iff.mp q
  refine sub finE (Same.refl H) at_ q fun d v H1 s1 r1 at1 q1 => ?_
  have r0 := r1
  obtain ⟨ad, dx, fs, rfl, hR, rr⟩ := r1
  have hR' : L2.Rd H1 ad (.ins (cA p c) dx fs) := (RX.rdb (md := md) _ _ hR rfl).resolve_right fun z => z
  refine ⟨ad, dx, fs, rfl, hR', rr.none (hx d), ?_⟩
  refine subA finE s1 at1 q1 fun r vs H2 s2 r2 at2 q2 => ?_
  have s12 : Same H H2 := s1.trans s2
  refine ⟨(d, r), fun a => a ∈ own ∨ g.fm.z a, ⟨fun a z => ?_, fun P e => at2.same.tab P (ok.tab P e)⟩, ?_, ?_⟩
  · rcases z with z | z
    · exact (at2.new a z).1
    · exact at2.zin a z
  · rw [← ok.fmK]
    exact args_in (H := H) (A := aCons (tIns (cA p c) fl) A) (md := md) ⟨_, vs, rfl, (tIns (cA p c) fl).mono r0 (RX.same s2), r2⟩
  · rw [← ok.fmK]
    cases hd : F (d, r) with
    | ok r =>
      rw [hd] at q2
      exact fun v H' s r => q2 v H' (s12.trans s) (T.mono r (CaMd.sh.rx s12 at_.same))
    | ex c =>
      rw [hd] at q2
      exact fun H' s => ⟨c, rfl, rfl, q2 H' (s12.trans s)⟩
    | no => rw [hd] at q2; exact q2
def FinTX {τ : Type} (fm : Fm) (W : Wx) (kp : RdR) (σ : L2.St) (LX : List Slot) (L' : τ → List Slot) (Q : Bool → Hp → Prop) : M (Bool × τ) → Prop
  | .ok r => ∀ H' own', At fm kp (L' r.2) σ H' own' → Q r.1 H'
  | .ex c => ∀ H' own', At fm kp LX σ H' own' → W c σ H'
  | .no => False
def EvTX (g : G) (L : List Slot) (e : Expr) {τ : Type} (L' : τ → List Slot) (m : M (Bool × τ)) : Prop := PT g.X e (fun σ H Q => ∃ kp own, At g.fm kp L σ H own ∧ FinTX g.fm g.W kp σ g.LX L' Q m)
theorem evtx_of {Lt : τ → List Slot} {m : M (Bool × τ)} (h : EvX g L e (wV tBool) Lt m) (he : ∀ whole, isTrue e g.X.env whole = (do let v ← whole; standAt e.pos; holding [v] (truthy v)) := by intro _; rfl) : EvTX g L e Lt m := by
  refine PT.imp (pt_val h he) fun σ H Q ⟨kp, own, at_, q⟩ => ⟨kp, own, at_, ?_⟩
  cases m with
  | ok r => exact fun v F H' own' a' _ _ _ _ rr => ⟨r.1, rr.2, q H' own' a'⟩
  | ex c => exact q
  | no => exact q
theorem evtx_not {Lt : τ → List Slot} {m : M (Bool × τ)} (h : EvTX g L e Lt m) : EvTX g L (.UnaryOp .Not e pos) Lt (m.bind fun r => .ok (!r.1, r.2)) := by
  refine PT.imp (pt_not h) fun σ H Q ⟨kp, own, at_, q⟩ => ⟨kp, own, at_, ?_⟩
  cases m with
  | ok r => exact q
  | ex c => exact q
  | no => exact q
/-- one way leaves, the other goes on; the test changes slots -/
theorem evb_ifxX {Lt : τ → List Slot} {mc : M (Bool × τ)} {m1 m2 : Bool × τ → M δ} {sa : List Stmt} (hc : EvTX g L c Lt mc) (ha : ∀ r, EvB g (Lt r.2) sa (fun d => (D d).cut) (m1 r)) (hr : ∀ r, EvB g (Lt r.2) st D (m2 r)) (hn : ∀ d, (D d).isNx = false := by intro d; first | rfl | (cases d <;> first | rfl | (rename_i z; cases z <;> rfl))) :
    EvB g L (.If c sa [] pos :: st) D (mc.bind fun r => if r.1 = true then m1 r else m2 r) := by
  refine PSs.imp (pss_cons (ps_if hc (PSs.ex ha) pss_nil) (PSs.ex hr)) fun E σ H ⟨kp, own, at_, q⟩ => ?_
  refine ⟨kp, own, at_, ?_⟩
  cases mc with
  | ok r =>
    intro H' own' a'
    have q : BOk g kp E D (if r.1 = true then m1 r else m2 r) := q
    cases hr1 : r.1 with
    | true =>
      rw [hr1, if_pos rfl] at q
      refine ⟨r, kp, own', a', ?_⟩
      cases h1 : m1 r with
      | ok d => rw [h1] at q; exact OutOk.cut (E := E) (E' := { E with nx := fun σ H => ∃ d, tB g (Lt d.2) D (m2 d) E σ H }) rfl rfl (hn d) q
      | ex c => rw [h1] at q; exact q
      | no => rw [h1] at q; exact q
    | false =>
      rw [hr1, if_neg (by simp)] at q
      exact ⟨r, kp, own', a', q⟩
  | ex c => exact fun H' own' a' => q σ H' own' a'
  | no => exact q
theorem lookup_append' {β : Type} {f : Str} : ∀ {l1 l2 : List (Str × β)}, (l1 ++ l2).lookup f = (l1.lookup f).or (l2.lookup f)
  | [], l2 => by cases h : l2.lookup f <;> simp [h]
  | (n, w) :: l1, l2 => by
    rw [List.cons_append, List.lookup_cons, List.lookup_cons]
    cases f == n with
    | true => rfl
    | false => exact lookup_append'
structure FAtN {δ β : Type} (ns : List Str) (P : WRp δ) (f : Str) (T : Ty β) (pr : δ → β) : Prop where
  get : ∀ {d vs H F} {R : RdR}, P.rep d vs H R F → ns.length = vs.length → ∃ v, (ns.zip vs).lookup f = some v ∧ T.rep (pr d) v R
theorem fan_here {ns : List Str} {P : WRp δ} {f : Str} (hf : fldIx ns f = none) : FAtN (ns ++ [f]) (rpSnoc P (wV T)) f T (fun d => d.2) := by
  refine ⟨?_⟩
  rintro d vs H F R ⟨us, v, F1, F2, rfl, _, h1, h2⟩ hl
  have hl' : ns.length = us.length := by simpa using hl
  refine ⟨v, ?_, h2.2⟩
  rw [List.zip_append hl', lookup_append', fld_none hf]
  show (List.lookup f [(f, v)]) = _
  rw [List.lookup_cons]; simp
theorem ev_newFld {bb : Bool} {q : Addr} {C : Addr} {ns : List Str} {P : WRp δ} {d : δ} {f : Str} {pr : δ → β} {p1 : Pos} {y : Str} (ok : Ok p sc NN VV GG k g) (hN : NN[i]? = some y) (hV : VV[j]? = some y) (hL : L[i]? = some (sNew bb q C ns P d)) (hc : Cls p.K C) (hn : NoAttr p.K C f) (hA : FAtN ns P f T pr) {w0 : β} (hw0 : pr d = w0)
    (hb : attributeBase (.Name y p1) f g.X.env (eval (.Name y p1) g.X.env) = eval (.Name y p1) g.X.env := by rfl) : EvE g L (.Attribute (.Name y p1) f pos) .sh T (.ok w0) := by
  subst hw0
  obtain ⟨hv, ho⟩ := ok.vis hV
  obtain ⟨h1, h2, _⟩ := okName_d ho
  refine PE.imp (pe_fld (pe_var (i := i) (by rw [ok.N]; exact hN) hv h1 h2) hb) fun σ H Q ⟨kp, own, at_, q1⟩ => ?_
  obtain ⟨Fs, h3, e3⟩ := at_.sl
  obtain ⟨v, F, e1, e2, dx, vs, G, rfl, rfl, hp, hl, r⟩ := h3.get hL
  obtain ⟨w, hw, rw_⟩ := hA.get r hl
  exact ⟨_, e1, q, C, dx, _, w, rfl, hp, by rw [ok.K]; exact hc, by rw [ok.K]; exact hn, hw, q1 w H (Same.refl H) (T.mono rw_ fun a o z => by
    cases bb with
    | false => exact z
    | true => exact RX.sh (H := H) a o z)⟩
end
end Hd
namespace Hd
open PySem PySem.Spec L2
/-- a list of one's own, its place and its values known -/
def wLv {α : Type} (a : Addr) (ws : List V) (O : WTy α) : WTy (List α) where
  T := tList O.T
  rep := fun ds v H R F => ∃ Fs, v = .ref a ∧ F = a :: Fs.flatten ∧ H a = some (.lst ws) ∧ RepsO O H R ds ws Fs
  st := by
    rintro d v H H' F R R' ⟨Fs, e1, e2, h, r⟩ s k
    exact ⟨Fs, e1, e2, by rw [k a (by rw [e2]; exact List.mem_cons_self)]; exact h, r.st s fun q hq => k q (by rw [e2]; exact List.mem_cons_of_mem _ hq)⟩
  tb := by
    rintro d v H F R ⟨Fs, e1, e2, h, r⟩ q hq
    rw [e2] at hq
    rcases List.mem_cons.mp hq with e | hq
    · subst e; exact ⟨_, h, rfl⟩
    · exact r.tb q hq
  fz := by
    rintro d v H F R R' ⟨Fs, e1, e2, h, r⟩ s k
    exact ⟨a, ws, e1, k a (by rw [e2]; exact List.mem_cons_self) _ h, r.fz s fun q hq => k q (by rw [e2]; exact List.mem_cons_of_mem _ hq)⟩
inductive WPin {γ : Type} (O3 : WTy γ) : {δ : Type} → WAr δ → Nat → (Addr → List V → WAr δ) → (δ → List γ) → (δ → List γ → δ) → Prop where
  | z {δ : Type} {A : WAr δ} : WPin O3 (waCons (wL O3) A) 0 (fun a ws => waCons (wLv a ws O3) A) (fun d => d.1) (fun d y => (y, d.2))
  | s {β δ : Type} {O' : WTy β} {A : WAr δ} {k : Nat} {A' : Addr → List V → WAr δ} {pr : δ → List γ} {stt : δ → List γ → δ} : WPin O3 A k A' pr stt → WPin O3 (waCons O' A) (k + 1) (fun a ws => waCons O' (A' a ws)) (fun d => pr d.2) (fun d y => (d.1, stt d.2 y))
section
variable {γ δ : Type} {O3 : WTy γ} {A : WAr δ} {kk : Nat} {A' : Addr → List V → WAr δ} {pr : δ → List γ} {stt : δ → List γ → δ} {H : Hp} {R : RdR}
theorem WPin.of (h : WPin O3 A kk A' pr stt) : ∀ {d vs G a ws}, (A' a ws).rep d vs H R G → A.rep d vs H R G := by
  induction h with
  | z =>
    rintro d vs G a ws ⟨v, r, F1, F2, e1, e2, ⟨Fs, e3, e4, h3, h4⟩, h2⟩
    exact ⟨v, r, F1, F2, e1, e2, ⟨a, ws, Fs, e3, e4, h3, h4⟩, h2⟩
  | s _ ih =>
    rintro d vs G a ws ⟨v, r, F1, F2, e1, e2, h1, h2⟩
    exact ⟨v, r, F1, F2, e1, e2, h1, ih h2⟩
theorem WPin.at_ (h : WPin O3 A kk A' pr stt) (a : Addr) (ws : List V) : WAt (A' a ws) kk (wLv a ws O3) pr stt := by
  induction h with
  | z => exact .z
  | s _ ih => exact .s ih
end
section
end
end Hd
namespace Hd
open PySem PySem.Spec L2
section
variable {p : Pr} {sc scope : Scope} {NN VV GG VV' GG' : List Str} {k : Nat} {g : G} {L L' : List Slot} {a b c e e' ix it elt : Expr} {es ifs : List Expr} {md md' : Md} {α β γ δ ρ τ ε : Type} {S : Ty α} {T : Ty β} {O : WTy ε} {O3 : WTy γ} {pos pp pos' tp py cpos spos : Pos} {i j : Nat} {x y : Str} {px : V → Prop} {st : List Stmt} {D : δ → Out} {s₀ : Slot}
theorem evb_setCP {m : M (List α)} {cm : α → M Bool} {f : α → M β} {h : List β → M δ} {i2 ib : Nat} {db : ε} (ok : OkS p sc NN VV GG k g) (hN2 : NN[i2]? = some y) (wk : Wk L g.LX) (hf : Flat T) (hB : L[ib]? = some (sP px O db)) (hy : isLoc sc y = true) (hl : (py.line == cpos.line) = true) (ha : (scope.names.any fun (n, k) => n == y && (k == .local || k == .cell)) = false)
    (hI : EvI g (L.set ib (sV false O.T db)) (.Name x tp) it S m) (hN : NN[i]? = some x) (hLi : (L.set ib (sV false O.T db))[i]? = some s₀) (hs₀ : NoOwn s₀) (hb : blkC NN sc scope [(x, i)] = true) (hv : VV'.all (seenB scope) = true) (hg : GG'.all (glB scope) = true) (hx : locB scope x = true)
    (hc : ∀ g', Ok p scope NN VV' GG' k g' → ∀ d, PTs g'.X ifs (tT g'.fm g'.W ((L.set ib (sV false O.T db)).set i (sV false S d)) (cm d))) (he : ∀ g', Ok p scope NN VV' GG' k g' → ∀ d, EvE g' ((L.set ib (sV false O.T db)).set i (sV false S d)) elt md T (f d))
    (hr : ∀ d, EvB g (L.set i2 (sV false (tList T) d)) st D (h d)) (hs : ∀ x, foldedSetIterable it g.X.env x = pure x := by intro _; rfl) :
    EvB g L (.Assign [.Name y py] (.ListComp elt [⟨.Name x tp, it, ifs, 0⟩] scope cpos) spos :: st) D ((m.bind fun xs => compM (fun d => (cm d).bind fun c => if c = true then (f d).bind fun y => .ok (some y) else .ok none) xs).bind h) := by
  obtain ⟨e1, e2⟩ := sw_loc (elt := elt) (spos := spos) (gs := [⟨.Name x tp, it, ifs, 0⟩]) ok hy hl ha
  refine PSs.imp (pss_cons ((evl_lc2 ok.toOk hI hN hLi hs₀ hb hv hg hx hc he hs).2 hN2 e1 e2) (PSs.ex hr)) fun E σ H ⟨kp, own, at_, q⟩ => ?_
  unfold tSeq tAsg
  obtain ⟨ownB, aB, subB⟩ := at_.freezeP hB
  refine tL_iff.mpr ⟨kp, ownB, aB, ?_⟩
  generalize (m.bind fun xs => compM (fun d => (cm d).bind fun c => if c = true then (f d).bind fun y => .ok (some y) else .ok none) xs) = mm at q ⊢
  cases mm with
  | ok d =>
    intro v vs H' s n h' r
    obtain ⟨own', a'⟩ := (at_.ext s).setV (i := i2) (b := false) (T := tList T) (d := d) (v := .ref v) ⟨v, vs, rfl, RX.sh (H := H) _ _ (newRX' (md := .sh) at_ n h'), r.flat hf⟩
    exact ⟨d, kp, own', a', q⟩
  | ex c =>
    intro H' s
    obtain ⟨own2, a2, _⟩ := (at_.ext s).weak wk
    exact q σ H' own2 a2
  | no => exact q
end
end Hd
namespace Hd
open PySem PySem.Spec L2
section
variable {p : Pr} {sc : Scope} {NN VV GG : List Str} {k : Nat} {g : G} {L L' : List Slot} {md : Md} {α β δ ρ : Type} {S : Ty α} {pos yp : Pos} {i j : Nat} {y : Str} {st : List Stmt} {D : δ → Out}
variable {a b c : Expr} {γ : Type} {T : Ty β} {U : Ty γ} {md' : Md}
/-- a < b < c, as a value -/
theorem ev_chain {op op' : CmpOp} {r r' : R2} {f : α → β → Bool} {f' : β → γ → Bool} {d1 : α} {d2 : β} {d3 : γ} (ok : Ok p sc NN VV GG k g) (ho : OpR g.X (compareOp op) r) (ho' : OpR g.X (compareOp op') r')
    (F : Op2 p.K r S T tBool (fun x y => .ok (f x y)) false) (F' : Op2 p.K r' T U tBool (fun x y => .ok (f' x y)) false)
    (ha : EvE g L a md S (.ok d1)) (hb : EvE g L b md T (.ok d2)) (hc : EvE g L c md U (.ok d3)) (hm : lastMarks [op, op'] [b, c] = false := by with_unfolding_all rfl) : EvE g L (.Compare a [op, op'] [b, c] pos) md' tBool (.ok (f d1 d2 && f' d2 d3)) := by
  refine PE.imp (pe_chain ho ho' ha hb hc hm) fun σ H Q ⟨kp, own, at_, q⟩ => ?_
  refine ⟨kp, own, at_, fun x H1 s1 r1 => ⟨kp, own, at_.ext s1, fun y H2 s2 r2 => ?_⟩⟩
  rw [← ok.fmK] at F F'
  have at2 := (at_.ext s1).ext s2
  have r2' : T.rep d2 y (RX g.fm own H H2 md) := T.mono r2 (RX.later s1)
  refine F.run (R := RX g.fm own H H2 md) RX.rdb (S.mono r1 (RX.same s2)) r2' fun v H3 s3 r3 => ⟨f d1 d2, r3, ?_⟩
  cases hf : f d1 d2 with
  | true =>
    refine ⟨kp, own, at2.ext s3, fun z H4 s4 r4 => F'.run (R := RX g.fm own H H4 md) RX.rdb (T.mono r2' (RX.same (s3.trans s4))) (U.mono r4 (RX.later ((s1.trans s2).trans s3))) fun v' H5 s5 r5 => ?_⟩
    rw [hf, Bool.true_and] at q
    exact q v' H5 ((((s1.trans s2).trans s3).trans s4).trans s5) r5
  | false =>
    rw [hf, Bool.false_and] at q
    exact q (.bl false) H3 ((s1.trans s2).trans s3) rfl
theorem ev_chainI {op op' : CmpOp} {f f' : Int → Int → Bool} {m1 m2 m3 : M Int} {d1 d2 d3 : Int} (ok : Ok p sc NN VV GG k g) (F : ChI op f) (F' : ChI op' f') (ha : EvE g L a md tInt m1) (hb : EvE g L b md tInt m2) (hc : EvE g L c md tInt m3) (e1 : m1 = .ok d1) (e2 : m2 = .ok d2) (e3 : m3 = .ok d3)
    (hm : lastMarks [op, op'] [b, c] = false := by with_unfolding_all rfl) : EvE g L (.Compare a [op, op'] [b, c] pos) md' tBool (.ok (f d1 d2 && f' d2 d3)) := by
  subst e1; subst e2; subst e3
  obtain ⟨r, h1, h2⟩ := F.ex (K := p.K) (X := g.X)
  obtain ⟨r', h1', h2'⟩ := F'.ex (K := p.K) (X := g.X)
  exact ev_chain ok h1 h1' h2 h2' ha hb hc hm
end
end Hd
namespace Hd
open PySem PySem.Spec L2
section
end
end Hd
namespace Hd
open PySem PySem.Spec L2
theorem NoEx.bind {α β : Type} {m : M α} {f : α → M β} (h : NoEx m) (k : ∀ a, NoEx (f a)) : NoEx (m.bind f) := fun c e => by
  cases m with
  | ok a => exact k a c e
  | ex c' => exact h c' rfl
  | no => cases e
theorem pushM_nx {α : Type} {xs : List α} {d : α} : NoEx (pushM xs d) := fun c h => by
  unfold pushM at h
  split at h <;> cases h
theorem setM_nx {α : Type} {xs : List α} {i : Int} {d : α} : NoEx (setM xs i d) := fun c h => by
  unfold setM at h
  split at h <;> first | cases h | (split at h <;> cases h)
theorem popX_nx {α : Type} {xs : List α} : NoEx (popX xs) := fun c h => by
  unfold popX at h
  split at h <;> cases h
theorem popM_nx {α : Type} {xs : List α} : NoEx (popM xs) := fun c h => by
  unfold popM at h
  split at h <;> cases h
section
variable {p : Pr} {sc : Scope} {NN VV GG : List Str} {k : Nat} {g : G} {L L' : List Slot} {a b c e e' : Expr} {es : List Expr} {md md' : Md} {α β γ δ ρ τ : Type} {S : Ty α} {T : Ty β} {Q : Ty γ} {pos pp : Pos} {i j : Nat} {x : Str} {d : α} {st : List Stmt} {D : δ → Out}
theorem ev_tupleOf {Q : Ty γ} {S : Ty α} {m : M γ} {f : γ → List α} (ok : Ok p sc NN VV GG k g) (hG : GG[j]? = some "tuple") (hmg : p.mg "tuple" = none) (hq : ∀ {d v R H}, Rdb p.K R H → Q.rep d v R → ∃ q xs, v = .ref q ∧ SqL p.K H q xs ∧ Reps S R (f d) xs) (ha : EvE g L a md Q m)
    (hs : starEach [a] g.X.env = (false, eval a g.X.env) :: starEach [] g.X.env := by rfl) : EvE g L (.Call (.Name "tuple" pp) [a] [] pos) md (tTupL S) (m.bind fun d => .ok (f d)) := by
  obtain ⟨hg, ho⟩ := ok.gl hG
  refine PE.imp (pe_tupleOf hg (by rw [ok.mg]; exact hmg) ha hs) fun σ H W q => ?_
  obtain ⟨kp, own, at_, q⟩ := tE_iff.mp q
  refine tE_iff.mpr ⟨kp, own, at_, ?_⟩
  cases m with
  | ok d =>
    intro v H1 s1 rx
    obtain ⟨p', ws, rfl, h, rr⟩ := hq (by rw [← ok.fmK]; exact RX.rdb) rx
    exact .inl ⟨p', ws, rfl, by rw [ok.K]; exact h, fun l hl => q (.ref l) _ (s1.trans (newSame hl)) ⟨l, ws, rfl, newRX (at_.ext s1) s1 hl, rr.mono (RX.same (newSame hl))⟩⟩
  | ex c => exact q
  | no => exact q
theorem ev_tupleQ {Q : Ty (List α)} {m : M (List α)} (ok : Ok p sc NN VV GG k g) (hq : IsSq p.K Q S) (hG : GG[j]? = some "tuple") (hmg : p.mg "tuple" = none) (ha : EvE g L a md Q m) (hs : starEach [a] g.X.env = (false, eval a g.X.env) :: starEach [] g.X.env := by rfl) : EvE g L (.Call (.Name "tuple" pp) [a] [] pos) md (tTupL S) (m.bind fun d => .ok d) :=
  ev_tupleOf ok hG hmg (fun rb h => hq.sq rb h) ha hs
/-- what cannot refuse need keep nothing -/
theorem evb_noex {m : M δ} (ok : OkS p sc NN VV GG k g) (hm : NoEx m) (h : ∀ g' : G, OkS p sc NN VV GG k g' → g'.LX = List.replicate NN.length sAny → EvB g' L st D m) : EvB g L st D m := by
  let g' : G := ⟨g.X, g.fm, g.W, List.replicate NN.length sAny⟩
  have ok' : OkS p sc NN VV GG k g' := { prog := ok.prog, w := ok.w, K := ok.K, mg := ok.mg, base := ok.base, N := ok.N, fmK := ok.fmK, tab := ok.tab, room := ok.room, nd := ok.nd, vis := ok.vis, gl := ok.gl, tk := ok.tk, calm := ok.calm, blk := ok.blk, loc := ok.loc, fnT := ok.fnT, psO := ok.psO, scp := ok.scp, stk := ok.stk, frm := ok.frm, exn := ok.exn }
  refine PSs.imp (h g' ok' rfl) fun E σ H ⟨kp, own, at_, q⟩ => ⟨kp, own, at_, ?_⟩
  cases m with
  | ok d => exact q
  | ex c => exact absurd rfl (hm c)
  | no => exact q
end
end Hd
namespace Hd
open PySem PySem.Spec L2
section
variable {p : Pr} {sc : Scope} {NN VV GG : List Str} {k : Nat} {g : G} {L L' : List Slot} {a b c e e' : Expr} {es : List Expr} {md md' : Md} {α β γ δ ρ τ ω : Type} {S : Ty α} {T : Ty β} {Q : Ty γ} {pos pp : Pos} {i j : Nat} {x : Str} {d : α} {st : List Stmt} {D : δ → Out} {Lt : τ → List Slot} {O : WTy α} {op : CmpOp}
theorem ex_ixA {n : Int} {f : δ → α} {m : M (δ × τ)} {A : Ar δ} (ok : Ok p sc NN VV GG k g) (hA : ArAt A n S f) (ha : EvX g L a (wV (tTup A)) Lt m) (hb : ∀ t, EvE g (Lt t) b .sh tInt (.ok n)) (hs : PlainIx b := by exact fun _ _ => rfl) : EvX g L (.Subscript a b pos) (wV S) Lt (m.bind fun r => .ok (f r.1, r.2)) := by
  refine PE.imp (pe_ix (r := rIxT p.K) (by rw [← ok.K]; exact ix_tup) ha (PE.ex hb) hs) fun σ H Q ⟨kp, own, at_, q⟩ => ?_
  refine ⟨kp, own, at_, ?_⟩
  cases m with
  | ok r =>
    intro v F H1 own1 a1 nd n1 kpt al ⟨e, rr⟩
    subst e
    refine ⟨r.2, tE_iff.mpr ⟨kp, own1, a1, fun y H2 s ry => ?_⟩⟩
    obtain ⟨a, vs, ex, h, r'⟩ := (tTup A).mono rr (RD.same s)
    obtain ⟨w, h1, h2⟩ := hA.get r'
    have a2 := a1.ext s
    refine ⟨a, vs, n, w, ex, ry, st_of (by rw [← ok.fmK]; exact RX.rdb (md := .sh) (H := H1)) h, ?_, q w [] H2 own1 a2 nd (fun _ z => nomatch z) (fun a o z => RD.same s a o (kpt a o z)) a2.sl ⟨rfl, h2⟩⟩
    have := atI_nat (xs := vs) (j := n.toNat) h1
    rwa [Int.toNat_of_nonneg hA.nat] at this
  | ex c => exact q
  | no => exact q
theorem ex_one {op : BoolOp} {m : M (β × τ)} {O : WTy β} (h : EvX g L a O Lt m) : EvX g L (.BoolOp op [a] pos) O Lt m := pe_one h
theorem ex_and {m1 : M Bool} {m : M (Bool × τ)} {t0 : τ} (wk : Wkx g L (NoEx m1)) (h0 : Lt t0 = L) (h : EvE g L a .sh tBool m1) (h2 : EvX g L (.BoolOp .And (b :: es) pos) (wV tBool) Lt m) : EvX g L (.BoolOp .And (a :: b :: es) pos) (wV tBool) Lt (m1.bind fun c => if c = true then m else .ok (false, t0)) := by
  refine PE.imp (pe_and h h2) fun σ H Q ⟨kp, own, at_, q⟩ => ?_
  refine tE_iff.mpr ⟨kp, own, at_, ?_⟩
  cases m1 with
  | ok c =>
    intro v H1 s1 rx
    refine ⟨c, rx, ?_⟩
    have at1 := at_.ext s1
    cases c with
    | true => exact ⟨kp, own, at1, q⟩
    | false =>
      have q : FinX g.fm g.W kp σ g.LX Lt (wV tBool) Q (.ok (false, t0)) := q
      have rx : v = .bl false := rx
      subst rx
      exact q (.bl false) [] H1 own (by rw [h0]; exact at1) at1.nd (fun _ z => nomatch z) at1.kept (by rw [h0]; exact at1.sl) ⟨rfl, rfl⟩
  | ex c =>
    intro H' s
    rcases wk with wk | n
    · obtain ⟨own', a', _⟩ := (at_.ext s).weak wk
      exact q H' own' a'
    · exact absurd rfl (n c)
  | no => exact q
/-- what a call hands back, as None-or-it -/
theorem ex_some {m : M (α × τ)} (hn : NotNon S) (h : EvX g L a (wV S) Lt m) : EvX g L a (wV (tOpt S)) Lt (m.bind fun r => .ok (some r.1, r.2)) := by
  refine PE.imp h fun σ H Q ⟨kp, own, at_, q⟩ => ⟨kp, own, at_, ?_⟩
  cases m with
  | ok r => exact fun v F H1 own1 a1 nd n1 kpt al ⟨e, rr⟩ => q v F H1 own1 a1 nd n1 kpt al ⟨e, rr, hn.nn rr⟩
  | ex c => exact q
  | no => exact q
theorem evb_retXx {fo : ω → List Slot} {w : τ → ω} {m : M (α × τ)} {mk : α × τ → δ} (hD : ∀ r, D (mk r) = xOut fo (wV S) (r.1, w r.2)) (hw : ∀ t, Wk (Lt t) (fo (w t))) (he : EvX g L e (wV S) Lt m) : EvB g L (.Return (some e) pos :: st) D (m.bind fun r => .ok (mk r)) := by
  refine PSs.imp (PSs.head (ps_ret he)) fun E σ H ⟨kp, own, at_, q⟩ => ?_
  refine ⟨kp, own, at_, ?_⟩
  cases m with
  | ok r =>
    intro v F H' own' a' nd n1 kpt al ⟨e, r1⟩
    subst e
    have q : OutOk g.fm kp E (D (mk r)) := q
    rw [hD] at q
    obtain ⟨own2, a2, sub⟩ := a'.weak (hw r.2)
    obtain ⟨b1, b2, b3, b4, b5, _⟩ := a2
    exact q v σ H' H' own2 [] ⟨b1, b2, b3, b4, b5, fun _ _ z => z.elim⟩ (Same.refl H') List.nodup_nil (fun _ z => nomatch z) ⟨rfl, S.mono r1 (RD.drop sub)⟩
  | ex c => exact fun H' own' a' => q σ H' own' a'
  | no => exact q
/-- values of two kinds, compared -/
def dSum {S : Ty α} {T : Ty β} (D : Deep S) (E : Deep T) (h1 : ∀ a b, PyData.eqv (D.pd a) (E.pd b) = false) (h2 : ∀ a b, PyData.eqv (E.pd b) (D.pd a) = false) : Deep (tSum S T) := ⟨fun d => match d with | .inl a => D.pd a | .inr b => E.pd b, max D.dp E.dp, fun {K d v R H} rb r => by
  cases d with
  | inl a => exact D.rep rb r
  | inr b => exact E.rep rb r, fun d => by
  cases d with
  | inl a => exact Nat.le_trans (D.dep a) (Nat.le_max_left _ _)
  | inr b => exact Nat.le_trans (E.dep b) (Nat.le_max_right _ _), fun d e => by
  cases d with
  | inl a => cases e with
    | inl a' => exact (D.eqv a a').trans ⟨fun h => by rw [h], fun h => Sum.inl.inj h⟩
    | inr b' => exact ⟨fun h => absurd ((h1 a b').symm.trans h) (by decide), fun h => nomatch h⟩
  | inr b => cases e with
    | inl a' => exact ⟨fun h => absurd ((h2 a' b).symm.trans h) (by decide), fun h => nomatch h⟩
    | inr b' => exact (E.eqv b b').trans ⟨fun h => by rw [h], fun h => Sum.inr.inj h⟩⟩
def dS12 {S : Ty α} {T : Ty β} {U : Ty γ} (D : Deep S) (E : Deep T) (F : Deep U) : Deep (tSum (tTup (aCons S aNil)) (tTup (aCons T (aCons U aNil)))) := dSum (dTup (dCons D dNil)) (dTup (dCons E (dCons F dNil))) (fun a b => by
  show PyData.eqvAll [_] [_, _] = false
  simp [PyData.eqvAll]) (fun a b => by
  show PyData.eqvAll [_, _] [_] = false
  simp [PyData.eqvAll])
end
end Hd
namespace Hd
open PySem PySem.Spec L2
section
variable {fm : Fm} {kp : RdR} {L : List Slot} {σ : L2.St} {H H' : Hp} {own W : List Addr} {i : Nat} {px : V → Prop} {α β γ : Type} {O : WTy α} {O2 : WTy β} {d : α} {d2 : β} {put : β → α} {v v2 : V} {F F2 : List Addr} {Fs : List (List Addr)}
/-- the place changes; what is put there may come from W, of which nobody else knows -/
theorem At.chgW {d2' : β} {F2' : List Addr} (h1 : Same fm.H0 H) (h2 : ∀ a, fm.z a → H a ≠ none) (hs : AllS H (RB fm W H) L σ Fs) (e : own = Fs.flatten) (hW : ∀ p ∈ own, p ∈ W) (h4 : own.Nodup) (h5 : ∀ p ∈ W, H p ≠ none ∧ fm.H0 p = none ∧ ¬ fm.z p) (h6 : ∀ a o, kp a o → RD fm W H a o)
    (e1 : σ[i]? = some (some v)) (hx : px v) (e2 : Fs[i]? = some F) (pl : Plc H (RD fm W H) O v F O2 d2 put v2 F2)
    (sm : Same (hm H F2) H') (nd' : F2'.Nodup) (n1 : ∀ p ∈ F2', p ∈ F2 ∨ H p = none ∨ (p ∈ W ∧ p ∉ own)) (n2 : ∀ p ∈ F2', H' p ≠ none)
    (r' : O2.rep d2' v2 H' (RD fm (F2' ++ W) H') F2') : ∃ own', At fm kp (L.set i (sP px O (put d2'))) σ H' own' := by
  have sub0 : ∀ p ∈ F2, p ∈ own := fun p hp => by rw [e]; exact flat_mem e2 p (pl.sub p hp)
  have sub2 : ∀ p ∈ F2, p ∈ W := fun p hp => hW p (sub0 p hp)
  have nd := h4
  rw [e] at nd
  have keep : ∀ a o, H a = some o → nt o = true → a ∉ F2 → H' a = some o := fun a o ea na hn => sm.keep a o (by rw [hm_out hn]; exact ea) na
  have fr : ∀ a, H' a = none → a ∉ F2 → H a = none := fun a ea hn => by have := sm.fr a ea; rwa [hm_out hn] at this
  have tab : ∀ P, LamX.TabS H P lamQ → LamX.TabS H' P lamQ := fun P t => sm.tab P (by
    obtain ⟨ps, t1, t2, t3⟩ := t
    have ng : ∀ a o, H a = some o → gd o = false → a ∉ F2 := fun a o ea ga q => by
      obtain ⟨o', ho', go'⟩ := O2.tb pl.rep a q
      rw [ea] at ho'; cases ho'
      rw [ga] at go'; cases go'
    refine ⟨ps, by rw [hm_out (ng P _ t1 rfl)]; exact t1, t2, fun pos cv hc => ?_⟩
    obtain ⟨c, c1, c2⟩ := t3 pos cv hc
    exact ⟨c, c1, by rw [hm_out (ng c _ c2 rfl)]; exact c2⟩)
  have kcl : ∀ a o, cl H a = some o → a ∉ F2 → cl H' a = some o := fun a o ea hn => cl_of (keep a o (cl_raw ea) (cl_nt ea) hn) (cl_nt ea)
  have keq : ∀ a, cl H a ≠ none → a ∉ F2 → H' a = H a := fun a ha hn => by
    cases r : cl H a with
    | none => exact absurd r ha
    | some o => rw [cl_raw r]; exact keep a o (cl_raw r) (cl_nt r) hn
  have rdn : ∀ a o, RD fm W H a o → RD fm (F2' ++ W) H' a o := fun a o z => by
    rcases z with ⟨z1, z2, z3⟩ | z
    · have hne : H a ≠ none := fun q => by rcases z1 with z1 | ⟨_, z1⟩ <;> rw [cl_none q] at z1 <;> cases z1
      have n2 : a ∉ F2 := fun q => z2 (sub2 a q)
      refine .inl ⟨z1.imp (fun q => kcl a _ q n2) fun ⟨f, q⟩ => ⟨f, kcl a _ q n2⟩, fun hq => ?_, z3⟩
      rcases List.mem_append.mp hq with hq | hq
      · rcases n1 a hq with hq | hq | ⟨hq, _⟩
        · exact z2 (sub2 a hq)
        · exact hne hq
        · exact z2 hq
      · exact z2 hq
    · exact .inr z
  obtain ⟨F', r4, nd4, n4⟩ := pl.up rdn (fun p hp hn => keq p (hs.tb p (flat_mem e2 p hp)) hn) r' nd' (fun p hp => (n1 p hp).imp id fun q hq => by
    have hq' : p ∈ own := by rw [e]; exact flat_mem e2 p hq
    rcases q with q | q
    · exact (h5 p (hW p hq')).1 q
    · exact q.2 hq')
  have nF : ∀ p ∈ (Fs.set i F').flatten, p ∈ F2' ∨ (p ∈ own ∧ p ∉ F2) := fun p hp => by
    rcases flat_set_mem nd e2 p hp with hp | ⟨hp, hn⟩
    · rcases n4 p hp with hp | ⟨hp, hn⟩
      · exact .inl hp
      · exact .inr ⟨by rw [e]; exact flat_mem e2 p hp, hn⟩
    · exact .inr ⟨by rw [e]; exact hp, fun q => hn (pl.sub p q)⟩
  have dr : ∀ a o, RD fm (F2' ++ W) H' a o → RD fm (Fs.set i F').flatten H' a o := RD.drop fun p hp => List.mem_append.mpr ((nF p hp).imp id fun q => hW p q.1)
  have keyB : ∀ b a o, RB fm W H b a o → RB fm (Fs.set i F').flatten H' b a o := fun b a o z => by
    cases b with
    | false => exact dr a o (rdn a o z)
    | true =>
      obtain ⟨z1, z2, z3, z4⟩ := z
      have hne : H a ≠ none := fun q => by rw [cl_none q] at z1; cases z1
      refine ⟨kcl a _ z1 fun q => z2 (sub2 a q), fun hq => ?_, z3, z4⟩
      rcases nF a hq with hq | ⟨hq, _⟩
      · rcases n1 a hq with hq | hq | ⟨hq, _⟩
        · exact z2 (sub2 a hq)
        · exact hne hq
        · exact z2 hq
      · exact z2 (hW a hq)
  have sH : Same fm.H0 H' := by
    refine ⟨fun a o ea na => keep a o (h1.keep a o ea na) na (fun q => by have := (h5 a (sub2 a q)).2.1; rw [this] at ea; cases ea), fun a ea => ?_, fun P t => tab P (h1.tab P t)⟩
    by_cases q2 : a ∈ F2
    · exact (h5 a (sub2 a q2)).2.1
    · exact h1.fr a (fr a ea q2)
  refine ⟨_, ⟨sH, fun a z ea => ?_, ⟨Fs.set i F', hs.chg nd e2 e1 keyB (fun p hp hn => keq p (hs.tb p hp) fun q => hn (pl.sub p q)) (s' := sP px O (put d2')) ⟨v, rfl, hx, O.st r4 dr fun _ _ => rfl⟩, rfl⟩, flat_set_nd nd e2 nd4 (fun p hp => ?_), fun p hp => ?_, fun a o z => dr a o (rdn a o (h6 a o z))⟩⟩
  · exact h2 a z (fr a ea fun q => (h5 a (sub2 a q)).2.2 z)
  · rcases n4 p hp with hp | ⟨hp, _⟩
    · rcases n1 p hp with hp | hp
      · exact .inl (pl.sub p hp)
      · refine .inr fun q => ?_
        have q' : p ∈ own := by rw [e]; exact q
        rcases hp with hp | hp
        · exact (h5 p (hW p q')).1 hp
        · exact hp.2 q'
    · exact .inl hp
  · rcases nF p hp with hp | ⟨hp, hn⟩
    · refine ⟨n2 p hp, ?_, ?_⟩
      · rcases n1 p hp with hq | hq | ⟨hq, _⟩
        · exact (h5 p (sub2 p hq)).2.1
        · exact h1.free hq
        · exact (h5 p hq).2.1
      · rcases n1 p hp with hq | hq | ⟨hq, _⟩
        · exact (h5 p (sub2 p hq)).2.2
        · exact fun z => h2 p z hq
        · exact (h5 p hq).2.2
    · have q := h5 p (hW p hp)
      exact ⟨fun z => q.1 (fr p z hn), q.2⟩
end
section
variable {p : Pr} {sc : Scope} {NN VV GG : List Str} {k : Nat} {g : G} {L L' : List Slot} {a b e ix : Expr} {md md' : Md} {α β γ δ ρ : Type} {T : Ty β} {O : WTy α} {O1 : WTy β} {O3 : WTy γ} {A : WAr ρ} {pos : Pos} {i j : Nat} {px px1 : V → Prop} {d : α} {d1 : β} {st : List Stmt} {D : δ → Out}
/-- two slots' footprints -/
theorem flat_dis {Fs : List (List Addr)} {F F' : List Addr} : ∀ {i j : Nat}, Fs.flatten.Nodup → Fs[i]? = some F → Fs[j]? = some F' → i ≠ j → ∀ q ∈ F, q ∉ F' := by
  induction Fs with
  | nil => intro i j _ e; simp at e
  | cons G Fs ih =>
    intro i j nd e1 e2 ne q hq hq'
    rw [List.flatten_cons, List.nodup_append] at nd
    cases i with
    | zero =>
      cases j with
      | zero => exact ne rfl
      | succ j =>
        simp at e1 e2
        subst e1
        exact nd.2.2 q hq q (flat_mem (by simpa using e2) q hq') rfl
    | succ i =>
      cases j with
      | zero =>
        simp at e1 e2
        subst e2
        exact nd.2.2 q hq' q (flat_mem (by simpa using e1) q hq) rfl
      | succ j => exact ih nd.2.1 (by simpa using e1) (by simpa using e2) (fun h => ne (by rw [h])) q hq hq'
end
/-- a part taken out of written items -/
inductive WTk : {δ δ' : Type} → WAr δ → Nat → {α : Type} → WTy α → (δ → α) → WAr δ' → (δ → δ') → Prop where
  | z {α δ : Type} {O : WTy α} {A : WAr δ} : WTk (waCons O A) 0 O (fun d => d.1) (waCons (wV tAny) A) (fun d => ((), d.2))
  | s {α β δ δ' : Type} {O : WTy α} {O' : WTy β} {A : WAr δ} {A' : WAr δ'} {k : Nat} {pr : δ → α} {f : δ → δ'} : WTk A k O pr A' f → WTk (waCons O' A) (k + 1) O (fun d => pr d.2) (waCons O' A') (fun d => (d.1, f d.2))
theorem WTk.take {δ δ' γ : Type} {A : WAr δ} {A' : WAr δ'} {k : Nat} {O : WTy γ} {pr : δ → γ} {f : δ → δ'} (h : WTk A k O pr A' f) : ∀ {d : δ} {vs : List V} {H : Hp} {R : RdR} {G : List Addr}, A.rep d vs H R G → G.Nodup → ∃ v3 F3 G', vs[k]? = some v3 ∧ O.rep (pr d) v3 H R F3 ∧ A'.rep (f d) vs H R G' ∧ (∀ q ∈ G', q ∈ G ∧ q ∉ F3) ∧ (∀ q ∈ F3, q ∈ G) ∧ F3.Nodup ∧ G'.Nodup := by
  induction h with
  | z =>
    rintro d vs H R G ⟨v, r, F1, F2, e1, e2, h1, h2⟩ nd
    subst e1; subst e2
    rw [List.nodup_append] at nd
    exact ⟨v, F1, F2, rfl, h1, ⟨v, r, [], F2, rfl, rfl, ⟨rfl, trivial⟩, h2⟩, fun q hq => ⟨List.mem_append_right _ hq, fun hq' => nd.2.2 q hq' q hq rfl⟩, fun q hq => List.mem_append_left _ hq, nd.1, nd.2.1⟩
  | s _ ih =>
    rintro d vs H R G ⟨v, r, F1, F2, e1, e2, h1, h2⟩ nd
    subst e1; subst e2
    rw [List.nodup_append] at nd
    obtain ⟨v3, F3, G', e3, r3, rr, g1, g2, g3, g4⟩ := ih h2 nd.2.1
    refine ⟨v3, F3, F1 ++ G', by simpa using e3, r3, ⟨v, r, F1, G', rfl, rfl, h1, rr⟩, fun q hq => ?_, fun q hq => List.mem_append_right _ (g2 q hq), g3, List.nodup_append.mpr ⟨nd.1, g4, fun a ha b hb e => nd.2.2 a ha b (g1 b hb).1 e⟩⟩
    rcases List.mem_append.mp hq with hq | hq
    · exact ⟨List.mem_append_left _ hq, fun hq' => nd.2.2 q hq q (g2 q hq') rfl⟩
    · exact ⟨List.mem_append_right _ (g1 q hq).1, (g1 q hq).2⟩
section
variable {p : Pr} {sc : Scope} {NN VV GG : List Str} {k : Nat} {g : G} {L L' : List Slot} {a b e ix jx : Expr} {md md' : Md} {α β γ δ ρ ε ε' : Type} {T : Ty β} {O : WTy α} {O3 : WTy γ} {A : WAr ρ} {B : WAr ε} {B' : WAr ε'} {pos xp p3 : Pos} {i j iv : Nat} {px px1 : V → Prop} {d : α} {d1 : ε} {st : List Stmt} {D : δ → Out} {x : Str}
/-- place[k] = x[j], where x is a tuple of one's own and its part moves -/
theorem evb_pSetMv {mp : M (ρ × (ρ → α))} {h : α → M δ} {p2 : Pos} {kk jj : Nat} {pr : ρ → γ} {stt : ρ → γ → ρ} {prB : ε → γ} {f : ε → ε'} (ok : OkS p sc NN VV GG k g) (hA : WAt A kk O3 pr stt) (hB : WTk B jj O3 prB B' f) (wk : Wkx g L (NoEx mp)) (hij : i ≠ j) (hN : NN[j]? = some x) (hV : VV[iv]? = some x) (hLj : L[j]? = some (sP px1 (wTup B) d1)) (hj : EvE g L jx .sh tInt (.ok (jj : Int))) (hp : EvP g L a i px O d (wHl A) mp) (hi : EvE g L ix md' tInt (.ok (kk : Int))) (hr : ∀ d', EvB g ((L.set j (sP px1 (wTup B') (f d1))).set i (sP px O d')) st D (h d'))
    (hsub : ∀ v, assign (.Subscript a ix p2) g.X.env v = (do
      let ov ← holding [v] (eval a g.X.env)
      let iv ← holding [v, ov] (eval ix g.X.env)
      standAt p2
      holding [v, ov, iv] (setItem ov iv v)
      release [v, ov, iv] []) := by intro _; rfl)
    (hs' : swapsWithSole [.Subscript a ix p2] (.Subscript (.Name x xp) jx p3) pos.line g.X.env = pure false := by rfl) (hw : swappedStores [.Subscript a ix p2] (.Subscript (.Name x xp) jx p3) g.X.env = pure none := by rfl) (ha1 : (assignEach [.Subscript a ix p2] g.X.env).map (·.2) = [assign (.Subscript a ix p2) g.X.env] := by rfl) (hsj : PlainIx jx := by exact fun _ _ => rfl) :
    EvB g L (.Assign [.Subscript a ix p2] (.Subscript (.Name x xp) jx p3) pos :: st) D (mp.bind fun q => h (q.2 (stt q.1 (prB d1)))) := by
  obtain ⟨hv, ho⟩ := ok.toOk.vis hV
  obtain ⟨ho1, ho2, _⟩ := okName_d ho
  refine PSs.imp (pss_cons (ps_asg (pe_ix (r := rIxT g.X.K) ix_tup (pe_var (i := j) (by rw [ok.N]; exact hN) hv ho1 ho2) hj hsj) (pg_sub hp hi set_list hsub) hs' hw ha1) (PSs.ex hr)) fun E σ H ⟨kp, own, at_, q⟩ => ?_
  obtain ⟨Fs, hsl, heo⟩ := at_.sl
  obtain ⟨v0, Fj, ej, efj, vj, rfl, hxj, rj⟩ := hsl.get hLj
  have nd := at_.nd
  rw [heo] at nd
  refine ⟨vj, ej, tE_iff.mpr ⟨kp, own, at_, ?_⟩⟩
  intro y H0 s0 r0
  cases (show y = .int jj from r0)
  have at0 := at_.ext s0
  have hsl0 : AllS H0 (RB g.fm own H0) L σ Fs := hsl.st (RB.same s0) (hsl.hk (fm := g.fm) (own := own) s0)
  have rj0 := (wTup B).st rj (RD.same s0) fun z hz => hsl.hk (fm := g.fm) (own := own) s0 z (flat_mem efj z hz)
  obtain ⟨pj, vsj, Gj, rfl, eFj, hpj, rrj⟩ := rj0
  have ndj := flat_nd nd efj
  rw [eFj, List.nodup_cons] at ndj
  obtain ⟨v3, F3, G3, e3, r3, rr3, g1, g2, g3, g4⟩ := hB.take rrj ndj.2
  refine ⟨pj, vsj, jj, v3, rfl, rfl, .inl (.inl hpj), atI_nat e3, ?_⟩
  refine ⟨kp, own, Fs, at0, hsl0, heo, ?_⟩
  cases mp with
  | ok q0 =>
    intro v2 F2 H1 s1 A1
    have at1 := at0.ext s1
    refine tE_iff.mpr ⟨kp, own, at1, ?_⟩
    intro y H2 s2 r2
    cases (show y = .int kk from r2)
    have at2 := at1.ext s2
    have q : BOk g kp E D (h (q0.2 (stt q0.1 (prB d1)))) := q
    have A2 := A1.ext s2
    have hk : ∀ z ∈ Fs.flatten, H2 z = H0 z := hsl0.hk (fm := g.fm) (own := own) (s1.trans s2)
    have mem3 : ∀ z ∈ F3, z ∈ Fj := fun z hz => by rw [eFj]; exact List.mem_cons_of_mem _ (g2 z hz)
    have subA := at2.gdo A2
    obtain ⟨vi, Fi, hLi, hsl2, _, ei, hxi, efi, pli⟩ := A2
    obtain ⟨p', vs, G, r1, r3', hp', rr⟩ := pli.rep
    have ndF := pli.nd
    subst r1
    rw [r3', List.nodup_cons] at ndF
    have r32 : O3.rep (prB d1) v3 H2 (RD g.fm own H2) F3 := O3.st r3 (RD.same (s1.trans s2)) fun z hz => hk z (flat_mem efj z (mem3 z hz))
    have rr32 := B'.st rr3 (RD.same (s1.trans s2)) fun z hz => hk z (flat_mem efj z (by rw [eFj]; exact List.mem_cons_of_mem _ (g1 z hz).1))
    have hpj2 : H2 pj = some (.tup vsj) := by rw [hk pj (flat_mem efj pj (by rw [eFj]; exact List.mem_cons_self))]; exact hpj
    have dj : ∀ z ∈ F3, z ∉ F2 := fun z hz hz' => flat_dis nd efj efi (fun h => hij h.symm) z (mem3 z hz) (pli.sub z hz')
    have hsl3 : AllS H2 (RB g.fm own H2) (L.set j (sP px1 (wTup B') (f d1))) σ (Fs.set j (pj :: G3)) := hsl2.chg nd efj ej (fun _ _ _ z => z) (fun _ _ _ => rfl) (s' := sP px1 (wTup B') (f d1)) ⟨.ref pj, rfl, hxj, pj, vsj, G3, rfl, rfl, hpj2, rr32⟩
    have inJ : ∀ z ∈ pj :: G3, z ∈ Fj ∧ z ∉ F3 := fun z hz => by
      rcases List.mem_cons.mp hz with hz | hz
      · rw [hz, eFj]
        exact ⟨List.mem_cons_self, fun hq => ndj.1 (g2 _ hq)⟩
      · exact ⟨by rw [eFj]; exact List.mem_cons_of_mem _ (g1 z hz).1, (g1 z hz).2⟩
    obtain ⟨GA, a1, a2, a3, a4⟩ := hA.set rr ndF.2 r32 g3 fun z hz hz' => dj z hz (by rw [r3']; exact List.mem_cons_of_mem _ hz')
    have subB : ∀ z ∈ F3, z ∈ own := fun z hz => by rw [heo]; exact flat_mem efj z (mem3 z hz)
    have inF : ∀ z ∈ p' :: GA, z ∈ F2 ∨ z ∈ F3 := fun z hz => by
      rcases List.mem_cons.mp hz with hz | hz
      · exact .inl (by rw [hz, r3']; exact List.mem_cons_self)
      · exact (a3 z hz).symm.imp (fun hz => by rw [r3']; exact List.mem_cons_of_mem _ hz) id
    have inO : ∀ z ∈ (p' :: GA) ++ own, z ∈ own := fun z hz => by
      rcases List.mem_append.mp hz with hz | hz
      · exact (inF z hz).elim (subA z) (subB z)
      · exact hz
    have pin : p' ∈ F2 := by rw [r3']; exact List.mem_cons_self
    have tbF : ∀ z ∈ F2, ∃ o, H2 z = some o ∧ gd o = true := (wHl A).tb pli.rep
    have tb1 : ∀ z ∈ F3, ∃ o, H2 z = some o ∧ gd o = true := O3.tb r32
    have npA : p' ∉ GA := fun hz => (a3 _ hz).elim (fun hz => dj _ hz pin) ndF.1
    have mono : ∀ b o, RD g.fm own H2 b o → RD g.fm ((p' :: GA) ++ own) (upd H2 p' (.lst (vs.set kk v3))) b o := fun b o z => by
      rcases z with ⟨z1, z2, z3⟩ | z
      · have ne : b ≠ p' := fun h => z2 (by rw [h]; exact subA p' pin)
        refine .inl ⟨?_, fun h => z2 (inO b h), z3⟩
        unfold Rd
        show _ ∨ _
        rw [cl_upd_ne ne]
        exact z1
      · exact .inr z
    obtain ⟨own', a'⟩ := At.chgW (fm := g.fm) (kp := kp) (W := own) (L := L.set j (sP px1 (wTup B') (f d1))) (own := (Fs.set j (pj :: G3)).flatten) (F2' := p' :: GA) (d2' := stt q0.1 (prB d1)) (H' := upd H2 p' (.lst (vs.set kk v3))) at2.same at2.zin hsl3 rfl
      (fun z hz => by
        rw [heo]
        rcases flat_set_mem nd efj z hz with hz | ⟨hz, _⟩
        · exact flat_mem efj z (inJ z hz).1
        · exact hz)
      (flat_set_nd nd efj (List.nodup_cons.mpr ⟨fun h => ndj.1 (g1 _ h).1, g4⟩) fun z hz => .inl (inJ z hz).1) at2.new at2.kept ei hxi (by rw [List.getElem?_set_ne fun h => hij h.symm]; exact efi) pli
      (hm_wr (Same.refl H2) pin hp' rfl tbF) (List.nodup_cons.mpr ⟨npA, a2⟩)
      (fun z hz => (inF z hz).imp id fun hz => .inr ⟨subB z hz, fun hz' => by
        rcases flat_set_mem nd efj z hz' with hz' | ⟨_, hn⟩
        · exact (inJ z hz').2 hz
        · exact hn (mem3 z hz)⟩)
      (fun z hz => by
        by_cases ez : z = p'
        · rw [ez, upd_same]; exact fun h => nomatch h
        · rw [upd_ne ez]
          obtain ⟨o, ho, _⟩ := (inF z hz).elim (tbF z) (tb1 z)
          rw [ho]; exact fun h => nomatch h)
      ⟨p', vs.set kk v3, GA, rfl, rfl, upd_same, A.st a1 mono fun z hz => upd_ne fun h => npA (by rw [← h]; exact hz)⟩
    have hix : L2.ixN vs.length (kk : Int) = some kk := by
      unfold L2.ixN
      rw [if_pos (by omega), if_pos (by omega), Int.toNat_natCast]
    exact ⟨_, vs, (kk : Int), kk, rfl, rfl, hp', hix, q0.2 (stt q0.1 (prB d1)), kp, own', a', q⟩
  | ex c => exact BOk.exx' wk (fun n => n c rfl) at0 q
  | no => exact q
end
section
end
theorem RepsO.wv {α : Type} {S : Ty α} {H : Hp} {R : RdR} {ds : List α} {vs : List V} {Fs : List (List Addr)} (h : RepsO (wV S) H R ds vs Fs) : Reps S R ds vs := by
  induction h with
  | nil => exact .nil
  | cons r _ ih => exact .cons r.2 ih
section
variable {p : Pr} {sc : Scope} {NN VV GG : List Str} {k : Nat} {g : G} {L : List Slot} {e : Expr} {α β : Type} {S : Ty α} {O : WTy β} {d : β} {px : V → Prop} {pos pp : Pos} {i j : Nat}
/-- list(place), the items shared -/
theorem evl_copyP {mx : M (List α × (List α → β))} (ok : Ok p sc NN VV GG k g) (hG : GG[j]? = some "list") (hmg : p.mg "list" = none) (ha : EvP g L e i px O d (wL (wV S)) mx) (hs : starEach [e] g.X.env = (false, eval e g.X.env) :: starEach [] g.X.env := by rfl) : EvL g L (.Call (.Name "list" pp) [e] [] pos) .sh S (mx.bind fun q => .ok q.1) := by
  obtain ⟨hg, ho⟩ := ok.gl hG
  obtain ⟨h1, _, h3⟩ := okName_d ho
  refine PE.imp (pe_callTy call_list_of hg (by rw [ok.mg]; exact hmg) (by decide +kernel) (pa_cons ha pa_nil hs) h3 h1 hs rfl) fun σ H W q => ?_
  obtain ⟨kp, own, at_, q⟩ := tL_iff.mp q
  obtain ⟨Fs, hsl, heo⟩ := at_.sl
  refine ⟨kp, own, Fs, at_, hsl, heo, ?_⟩
  cases mx with
  | ok q0 =>
    intro v2 F2 H1 s1 A1
    obtain ⟨v, F, _, _, _, _, _, _, pl⟩ := A1
    obtain ⟨p', vs, Gs, rfl, e2, hp, rr⟩ := pl.rep
    exact ⟨p', vs, rfl, .inl (SqL.of hp), fun l hl => q l vs _ (s1.trans (newSame hl)) (s1.free hl) upd_same (rr.wv.mono (RX.add (md := .sh) (H := H1) hl))⟩
  | ex c => exact q
  | no => exact q
end
section
end
section
end
def Fl.mg {α : Type} : Fl α α → α
  | .nx a => a
  | .rt a => a
section
end
section
variable {p : Pr} {sc : Scope} {NN VV GG : List Str} {k : Nat} {g : G} {L L' : List Slot} {a b e ix jx : Expr} {md md' : Md} {α β γ δ ρ ε ε' : Type} {T : Ty β} {O : WTy α} {O3 : WTy γ} {A : WAr ρ} {B : WAr ε} {B' : WAr ε'} {pos xp p3 : Pos} {i j iv : Nat} {px px1 : V → Prop} {d : α} {d1 : ε} {st : List Stmt} {D : δ → Out} {x : Str}
theorem evb_qSetMv {mp : M (ρ × (ρ → α))} {h : α → M δ} {p2 : Pos} {kk jj : Nat} {pr : ρ → γ} {stt : ρ → γ → ρ} {prB : ε → γ} {f : ε → ε'} (ok : OkS p sc NN VV GG k g) (hA : WAt A kk O3 pr stt) (hB : WTk B jj O3 prB B' f) (wk : Wkx g L (NoEx mp)) (hij : i ≠ j) (hN : NN[j]? = some x) (hV : VV[iv]? = some x) (hLj : L[j]? = some (sP px1 (wTup B) d1)) (hj : EvE g L jx .sh tInt (.ok (jj : Int))) (hp : EvP g L a i px O d (wHl A) mp) (hi : EvE g L ix md' tInt (.ok (kk : Int))) (hr : ∀ d', EvB g ((L.set j (sP px1 (wTup B') (f d1))).set i (sP px O d')) st D (h d'))
    (hsub : ∀ v, assign (.Subscript a ix p2) g.X.env v = (do
      let ov ← holding [v] (eval a g.X.env)
      let iv ← holding [v, ov] (eval ix g.X.env)
      standAt p2
      holding [v, ov, iv] (setItem ov iv v)
      release [v, ov, iv] []) := by intro _; rfl)
    (hs' : swapsWithSole [.Subscript a ix p2] (.Subscript (.Name x xp) jx p3) pos.line g.X.env = pure false := by rfl) (hw : swappedStores [.Subscript a ix p2] (.Subscript (.Name x xp) jx p3) g.X.env = pure none := by rfl) (ha1 : (assignEach [.Subscript a ix p2] g.X.env).map (·.2) = [assign (.Subscript a ix p2) g.X.env] := by rfl) (hsj : PlainIx jx := by exact fun _ _ => rfl) :
    EvB g L (.Assign [.Subscript a ix p2] (.Subscript (.Name x xp) jx p3) pos :: st) D (mp.bind fun q => (M.ok (q.2 (stt q.1 (prB d1)))).bind h) := evb_pSetMv ok hA hB wk hij hN hV hLj hj hp hi hr hsub hs' hw ha1 hsj
end
section
end
end Hd
namespace Hd
open PySem PySem.Spec PyProof.Rows L2
section
end
section
end
end Hd
namespace Hd
open PySem PySem.Spec PyProof.Rows L2
section
end
end Hd
namespace Hd
open PySem PySem.Spec PyProof.Rows L2
section
end
end Hd
namespace Hd
open PySem PySem.Spec PyProof.Rows L2
section
end
end Hd
namespace Hd
open PySem PySem.Spec PyProof.Rows L2
def RN : RdR := fun _ _ => False
structure KyA {κ : Type} (A : Ar κ) (f : κ → List Key) : Prop where
  inj : ∀ {a b}, f a = f b → a = b
  to : ∀ {d vs R}, A.rep d vs R → vs = (f d).map kV
  flat : ∀ {d vs} {R R' : RdR}, A.rep d vs R → A.rep d vs R'
section
variable {p : Pr} {sc : Scope} {NN VV GG : List Str} {k : Nat} {g : G} {L : List Slot} {α β δ κ : Type} {S : Ty α} {T : Ty β} {md md' : Md} {pos : Pos} {st : List Stmt} {D : δ → Out} {i j : Nat} {x : Str} {a b c e : Expr} {es : List Expr} {A : Ar κ} {f : κ → List Key}
inductive TReps {κ α : Type} (A : Ar κ) (f : κ → List Key) (T : Ty α) (R : RdR) : List (κ × α) → List (List Key × V) → Prop where
  | nil : TReps A f T R [] []
  | cons {k d v ds vs} : A.rep k ((f k).map kV) RN → T.rep d v R → TReps A f T R ds vs → TReps A f T R ((k, d) :: ds) ((f k, v) :: vs)
theorem TReps.mono {R R' : RdR} {ds : List (κ × α)} {vs : List (List Key × V)} (h : TReps A f S R ds vs) (s : ∀ a o, R a o → R' a o) : TReps A f S R' ds vs := by
  induction h with
  | nil => exact .nil
  | cons a r _ ih => exact .cons a (S.mono r s) ih
theorem TReps.length {R : RdR} {ds : List (κ × α)} {vs : List (List Key × V)} (h : TReps A f S R ds vs) : ds.length = vs.length := by
  induction h with
  | nil => rfl
  | cons a r _ ih => simp [ih]
section
variable [DecidableEq κ]
def dgetT {κ α : Type} [DecidableEq κ] (ds : List (κ × α)) (k : κ) : Option α := (ds.find? fun kv => decide (kv.1 = k)).map (·.2)
def dputT {κ α : Type} [DecidableEq κ] (ds : List (κ × α)) (k : κ) (d : α) : List (κ × α) := if (ds.any fun kv => decide (kv.1 = k)) = true then ds.map (fun kv => if kv.1 = k then (kv.1, d) else kv) else ds ++ [(k, d)]
theorem TReps.get {R : RdR} {ds : List (κ × α)} {vs : List (List Key × V)} (hk : KyA A f) (h : TReps A f S R ds vs) (k : κ) : (dgetT ds k = none ∧ valV vs (f k) = none) ∨ ∃ d v, dgetT ds k = some d ∧ valV vs (f k) = some v ∧ S.rep d v R := by
  induction h with
  | nil => exact .inl ⟨rfl, rfl⟩
  | @cons k' d v ds vs a r _ ih =>
    by_cases e : k' = k
    · exact .inr ⟨d, v, by simp [dgetT, List.find?_cons, e], valV_pos (by rw [e]), r⟩
    · have e1 : dgetT ((k', d) :: ds) k = dgetT ds k := by simp [dgetT, List.find?_cons, e]
      rw [e1, valV_neg (fun z => e (hk.inj z))]
      exact ih
theorem TReps.some {R : RdR} {ds : List (κ × α)} {vs : List (List Key × V)} (hk : KyA A f) (h : TReps A f S R ds vs) (k : κ) : (valV vs (f k)).isSome = (dgetT ds k).isSome := by
  rcases h.get hk k with ⟨g1, g2⟩ | ⟨d, v, g1, g2, _⟩ <;> rw [g1, g2] <;> rfl
theorem TReps.map {R : RdR} {ds : List (κ × α)} {vs : List (List Key × V)} (hk : KyA A f) (h : TReps A f S R ds vs) (k : κ) {d : α} {v : V} (r : S.rep d v R) : TReps A f S R (ds.map (fun kv => if kv.1 = k then (kv.1, d) else kv)) (vs.map (fun kv => if kv.1 = f k then (kv.1, v) else kv)) := by
  induction h with
  | nil => exact .nil
  | @cons k' d' v' ds vs a r' _ ih =>
    rw [List.map_cons, List.map_cons]
    by_cases e : k' = k
    · have e' : f k' = f k := by rw [e]
      simp only [if_pos e, if_pos e']; exact .cons a r ih
    · have e' : ¬ f k' = f k := fun z => e (hk.inj z)
      simp only [if_neg e, if_neg e']; exact .cons a r' ih
theorem TReps.any {R : RdR} {ds : List (κ × α)} {vs : List (List Key × V)} (hk : KyA A f) (h : TReps A f S R ds vs) (k : κ) : (ds.any fun kv => decide (kv.1 = k)) = (vs.any fun kv => decide (kv.1 = f k)) := by
  induction h with
  | nil => rfl
  | @cons k' d' v' ds vs a r' _ ih =>
    rw [List.any_cons, List.any_cons, ih]
    congr 1
    by_cases e : k' = k
    · rw [decide_eq_true e, decide_eq_true (show f k' = f k by rw [e])]
    · rw [decide_eq_false e, decide_eq_false (fun z : f k' = f k => e (hk.inj z))]
theorem TReps.snoc {R : RdR} {ds : List (κ × α)} {vs : List (List Key × V)} (h : TReps A f S R ds vs) (k : κ) {d : α} {v : V} (a : A.rep k ((f k).map kV) RN) (r : S.rep d v R) : TReps A f S R (ds ++ [(k, d)]) (vs ++ [(f k, v)]) := by
  induction h with
  | nil => exact .cons a r .nil
  | cons a' r' _ ih => exact .cons a' r' ih
theorem TReps.put {R : RdR} {ds : List (κ × α)} {vs : List (List Key × V)} (hk : KyA A f) (h : TReps A f S R ds vs) (k : κ) {d : α} {v : V} (a : A.rep k ((f k).map kV) RN) (r : S.rep d v R) : TReps A f S R (dputT ds k d) (putK vs (f k) v) := by
  unfold dputT putK
  rw [h.any hk k]
  split
  · exact h.map hk k r
  · exact h.snoc k a r
end
section
end
end
end Hd
namespace Hd
open PySem PySem.Spec PyProof.Rows L2
section
end
end Hd
namespace Hd
open PySem PySem.Spec PyProof.Rows L2
section
end
end Hd
namespace Hd
open PySem PySem.Spec PyProof.Rows L2
section
end
section
end
end Hd
namespace Hd
open PySem PySem.Spec PyProof.Rows L2
section
end
section
end
end Hd
namespace Hd
open PySem PySem.Spec L2
inductive Pc where
  | Given (ends picks : Int) (texts : List Tx)
  | Named (ends picks : Int) (texts : List Tx) (name : Tx)
  | Twill (ends picks : Int) (many : Int) (more : Int)
  | Satin (ends picks : Int) (step : Int)
  | Beside (ends picks : Int) (left : Pc) (right : Pc)
  | Above (ends picks : Int) (first : Pc) (later : Pc)
  | Mirrored (ends picks : Int) (inner : Pc)
  | Backed (ends picks : Int) (inner : Pc)
  | Upended (ends picks : Int) (inner : Pc)
  | Quartered (ends picks : Int) (inner : Pc)
  | Repeated (ends picks : Int) (inner : Pc) (across : Int) (along : Int)
  | Blocked (ends picks : Int) (profile : Pc) (unit : Pc) (other : Pc)
  | Covered (ends picks : Int) (upper_one : Pc) (lower_one : Pc)
inductive PK where
  | Given | Named | Twill | Satin | Beside | Above | Mirrored | Backed | Upended | Quartered | Repeated | Blocked | Covered
  deriving DecidableEq
def PK.nm : PK → Str
  | .Given => "Given"
  | .Named => "Named"
  | .Twill => "Twill"
  | .Satin => "Satin"
  | .Beside => "Beside"
  | .Above => "Above"
  | .Mirrored => "Mirrored"
  | .Backed => "Backed"
  | .Upended => "Upended"
  | .Quartered => "Quartered"
  | .Repeated => "Repeated"
  | .Blocked => "Blocked"
  | .Covered => "Covered"
def PK.all : List PK := [.Given, .Named, .Twill, .Satin, .Beside, .Above, .Mirrored, .Backed, .Upended, .Quartered, .Repeated, .Blocked, .Covered]
theorem PK.mem (c : PK) : c ∈ PK.all := by cases c <;> decide
def Pc.k : Pc → PK
  | .Given _ _ _ => .Given
  | .Named _ _ _ _ => .Named
  | .Twill _ _ _ _ => .Twill
  | .Satin _ _ _ => .Satin
  | .Beside _ _ _ _ => .Beside
  | .Above _ _ _ _ => .Above
  | .Mirrored _ _ _ => .Mirrored
  | .Backed _ _ _ => .Backed
  | .Upended _ _ _ => .Upended
  | .Quartered _ _ _ => .Quartered
  | .Repeated _ _ _ _ _ => .Repeated
  | .Blocked _ _ _ _ _ => .Blocked
  | .Covered _ _ _ _ => .Covered
def pcRep (p : Pr) (R : RdR) : Pc → V → Prop
  | .Given e q d0, v => ∃ (a dx : Addr) (w0 : V), v = .ref a ∧ R a (.ins (cA p "Given") dx [("ends", .int e), ("picks", .int q), ("texts", w0)]) ∧ (tList tStr).rep d0 w0 R
  | .Named e q d0 d1, v => ∃ (a dx : Addr) (w0 : V), v = .ref a ∧ R a (.ins (cA p "Named") dx [("ends", .int e), ("picks", .int q), ("texts", w0), ("name", .str (toS d1))]) ∧ (tList tStr).rep d0 w0 R ∧ OkTx d1
  | .Twill e q d0 d1, v => ∃ (a dx : Addr), v = .ref a ∧ R a (.ins (cA p "Twill") dx [("ends", .int e), ("picks", .int q), ("many", .int d0), ("more", .int d1)])
  | .Satin e q d0, v => ∃ (a dx : Addr), v = .ref a ∧ R a (.ins (cA p "Satin") dx [("ends", .int e), ("picks", .int q), ("step", .int d0)])
  | .Beside e q d0 d1, v => ∃ (a dx : Addr) (w0 : V) (w1 : V), v = .ref a ∧ R a (.ins (cA p "Beside") dx [("ends", .int e), ("picks", .int q), ("left", w0), ("right", w1)]) ∧ pcRep p R d0 w0 ∧ pcRep p R d1 w1
  | .Above e q d0 d1, v => ∃ (a dx : Addr) (w0 : V) (w1 : V), v = .ref a ∧ R a (.ins (cA p "Above") dx [("ends", .int e), ("picks", .int q), ("first", w0), ("later", w1)]) ∧ pcRep p R d0 w0 ∧ pcRep p R d1 w1
  | .Mirrored e q d0, v => ∃ (a dx : Addr) (w0 : V), v = .ref a ∧ R a (.ins (cA p "Mirrored") dx [("ends", .int e), ("picks", .int q), ("inner", w0)]) ∧ pcRep p R d0 w0
  | .Backed e q d0, v => ∃ (a dx : Addr) (w0 : V), v = .ref a ∧ R a (.ins (cA p "Backed") dx [("ends", .int e), ("picks", .int q), ("inner", w0)]) ∧ pcRep p R d0 w0
  | .Upended e q d0, v => ∃ (a dx : Addr) (w0 : V), v = .ref a ∧ R a (.ins (cA p "Upended") dx [("ends", .int e), ("picks", .int q), ("inner", w0)]) ∧ pcRep p R d0 w0
  | .Quartered e q d0, v => ∃ (a dx : Addr) (w0 : V), v = .ref a ∧ R a (.ins (cA p "Quartered") dx [("ends", .int e), ("picks", .int q), ("inner", w0)]) ∧ pcRep p R d0 w0
  | .Repeated e q d0 d1 d2, v => ∃ (a dx : Addr) (w0 : V), v = .ref a ∧ R a (.ins (cA p "Repeated") dx [("ends", .int e), ("picks", .int q), ("inner", w0), ("across", .int d1), ("along", .int d2)]) ∧ pcRep p R d0 w0
  | .Blocked e q d0 d1 d2, v => ∃ (a dx : Addr) (w0 : V) (w1 : V) (w2 : V), v = .ref a ∧ R a (.ins (cA p "Blocked") dx [("ends", .int e), ("picks", .int q), ("profile", w0), ("unit", w1), ("other", w2)]) ∧ pcRep p R d0 w0 ∧ pcRep p R d1 w1 ∧ pcRep p R d2 w2
  | .Covered e q d0 d1, v => ∃ (a dx : Addr) (w0 : V) (w1 : V), v = .ref a ∧ R a (.ins (cA p "Covered") dx [("ends", .int e), ("picks", .int q), ("upper_one", w0), ("lower_one", w1)]) ∧ pcRep p R d0 w0 ∧ pcRep p R d1 w1
theorem pcRep_mono {p : Pr} {R R' : RdR} (s : ∀ a o, R a o → R' a o) : ∀ (d : Pc) {v : V}, pcRep p R d v → pcRep p R' d v
  | .Given e q d0, v, ⟨a, dx, w0, e1, h, r0⟩ => ⟨a, dx, w0,  e1, s _ _ h, (tList tStr).mono r0 s⟩
  | .Named e q d0 d1, v, ⟨a, dx, w0, e1, h, r0, r1⟩ => ⟨a, dx, w0,  e1, s _ _ h, (tList tStr).mono r0 s, r1⟩
  | .Twill e q d0 d1, v, ⟨a, dx, e1, h⟩ => ⟨a, dx,  e1, s _ _ h⟩
  | .Satin e q d0, v, ⟨a, dx, e1, h⟩ => ⟨a, dx,  e1, s _ _ h⟩
  | .Beside e q d0 d1, v, ⟨a, dx, w0, w1, e1, h, r0, r1⟩ => ⟨a, dx, w0, w1,  e1, s _ _ h, pcRep_mono s d0 r0, pcRep_mono s d1 r1⟩
  | .Above e q d0 d1, v, ⟨a, dx, w0, w1, e1, h, r0, r1⟩ => ⟨a, dx, w0, w1,  e1, s _ _ h, pcRep_mono s d0 r0, pcRep_mono s d1 r1⟩
  | .Mirrored e q d0, v, ⟨a, dx, w0, e1, h, r0⟩ => ⟨a, dx, w0,  e1, s _ _ h, pcRep_mono s d0 r0⟩
  | .Backed e q d0, v, ⟨a, dx, w0, e1, h, r0⟩ => ⟨a, dx, w0,  e1, s _ _ h, pcRep_mono s d0 r0⟩
  | .Upended e q d0, v, ⟨a, dx, w0, e1, h, r0⟩ => ⟨a, dx, w0,  e1, s _ _ h, pcRep_mono s d0 r0⟩
  | .Quartered e q d0, v, ⟨a, dx, w0, e1, h, r0⟩ => ⟨a, dx, w0,  e1, s _ _ h, pcRep_mono s d0 r0⟩
  | .Repeated e q d0 d1 d2, v, ⟨a, dx, w0, e1, h, r0⟩ => ⟨a, dx, w0,  e1, s _ _ h, pcRep_mono s d0 r0⟩
  | .Blocked e q d0 d1 d2, v, ⟨a, dx, w0, w1, w2, e1, h, r0, r1, r2⟩ => ⟨a, dx, w0, w1, w2,  e1, s _ _ h, pcRep_mono s d0 r0, pcRep_mono s d1 r1, pcRep_mono s d2 r2⟩
  | .Covered e q d0 d1, v, ⟨a, dx, w0, w1, e1, h, r0, r1⟩ => ⟨a, dx, w0, w1,  e1, s _ _ h, pcRep_mono s d0 r0, pcRep_mono s d1 r1⟩
def tPc (p : Pr) : Ty Pc := ⟨fun d v R => pcRep p R d v, fun {d v R R'} h s => pcRep_mono s d h⟩
/-- just this one -/
def tOnly (p : Pr) (d : Pc) : Ty Unit := ⟨fun _ v R => pcRep p R d v, fun h s => pcRep_mono s d h⟩
section
end
section
variable {p : Pr} {δ δ' ρ : Type} {A : Ar δ} {A' : Ar δ'} {D : ρ → Out} {F : δ → M ρ} {φ : δ' → δ} {k k' : Nat} {c m : Str} {ps : List Str}
theorem spM_as (h : ∀ d vs R, A'.rep d vs R → A.rep (φ d) vs R) {vs : List V} {H : Hp} {Q : VK} {E : XK} : spM p A' D (fun d => F (φ d)) vs H Q E → spM p A D F vs H Q E := fun ⟨d, z, h1, h2, h3⟩ => ⟨φ d, z, h1, h _ _ _ h2, h3⟩
/-- a method that no class of pieces has of its own -/
structure MuF (p : Pr) (k : Nat) (m : Str) (ps : List Str) (sp : Sp) : Prop where
  ex : ∃ (f : Addr) (fd : FuncData), FnOk p.P p.w p.K p.mg p.base (L2.CX p.P p.w) k f fd ("self" :: ps) sp ∧ (∀ c : PK, Cls p.K (cA p c.nm) ∧ Meth p.K (cA p c.nm) m f) ∧ Binds p.K fd ("self" :: ps) []
theorem MuF.at {A : Ar δ} {F : Pc × δ → M ρ} (hf : MuF p k m ps (spM p (aCons (tPc p) A) D F)) (d : Pc) : MeF p k d.k.nm m ps (spM p (aCons (tOnly p d) A) D (fun a => F (d, a.2))) := by
  obtain ⟨f, fd, h1, h2, h3⟩ := hf.ex
  exact ⟨f, fd, h1.imp fun vs H Q E => spM_as (A := aCons (tPc p) A) (A' := aCons (tOnly p d) A) (φ := fun a : Unit × δ => (d, a.2)) (fun a vs R ⟨v, r, e, r1, r2⟩ => ⟨v, r, e, r1, r2⟩), (h2 d.k).1, (h2 d.k).2, h3⟩
end
section
end
section
end
end Hd
namespace Hd
open PySem PySem.Spec L2
section
end
end Hd
namespace Hd
open PySem PySem.Spec L2
inductive PV where
  | num (n : Int)
  | text (t : Tx)
  | tree (w : Tx) (its : List PV)
inductive PVR (R : RdR) : PV → V → Prop where
  | num {n : Int} : PVR R (.num n) (.int n)
  | text {t : Tx} : OkTx t → PVR R (.text t) (.str (toS t))
  | tree {w : Tx} {its : List PV} {a b : Addr} {vs : List V} : OkTx w → R a (.tup [.str (toS w), .ref b]) → R b (.lst vs) → its.length = vs.length → (∀ (i : Nat) x v, its[i]? = some x → vs[i]? = some v → PVR R x v) → PVR R (.tree w its) (.ref a)
theorem PVR.mono {R R' : RdR} (s : ∀ a o, R a o → R' a o) {x : PV} {v : V} (h : PVR R x v) : PVR R' x v := by
  induction h with
  | num => exact .num
  | text h => exact .text h
  | tree h0 h1 h2 h3 _ ih => exact .tree h0 (s _ _ h1) (s _ _ h2) h3 ih
section
variable {p : Pr} {sc : Scope} {NN VV GG : List Str} {k : Nat} {g : G} {L L' : List Slot} {a b c e e' : Expr} {es : List Expr} {md md' : Md} {α β γ δ ρ : Type} {S : Ty α} {T : Ty β} {A : Ar δ} {pos pp : Pos} {j : Nat}
/-- where nothing comes -/
theorem evb_no {st : List Stmt} {D : δ → Out} : EvB g L st D (.no : M δ) := ⟨fun pins s σ H D I ⟨kp, own, at_, q⟩ => q.elim⟩
end
end Hd
namespace Hd
open PySem PySem.Spec L2
theorem getM_nx {α : Type} {xs : List α} {i : Int} : NoEx (getM xs i) := fun c h => getM_ne h
section
end
end Hd
set_option maxHeartbeats 1000000
namespace Hd
open PySem PySem.Spec PyProof.Rows L2 RT
section
end
section
end
end Hd
namespace Hd
open PySem PySem.Spec L2
def lOf {β : Type} (p : Pr) (iC : Nat) : List (Ec × β) → List V → List (Value × (Addr → Value → Option Addr → TS))
  | (d, _) :: r, v :: vs => (.ref (p.C d), fun _ _ _ => tAsg (fun σ H Q => Q v H) (gName iC)) :: lOf p iC r vs
  | _, _ => []
inductive Hds (p : Pr) (kn : List Ec) (GG : List Str) (L : List Slot) {α : Type} (S : Ty α) (y : Str) (iC : Nat) {β : Type} (LJ : β → List Slot) : List ExceptHandler → List (Ec × β) → List V → Prop
  | nil : Hds p kn GG L S y iC LJ [] [] []
  | cons {x : Str} {cx : Ec} {j : Nat} {np pos' p2 p3 : Pos} {e : Expr} {v : V} {dv : α} {h : β} {hs cl vs} (hcx : cx ∈ kn) (hx : p.mg x = some (.ref (p.C cx))) (hG : GG[j]? = some x) (he : ∀ Y : Cx, PE Y e (fun σ H Q => Q v H)) (hrep : ∀ R, S.rep dv v R)
      (hh : Wk (L.set iC (sV false S dv)) (LJ h)) (r : Hds p kn GG L S y iC LJ hs cl vs) (hsw : ∀ Y : Cx, swapsWith e (some (.Name y p2)) p3.line Y.env = pure false := by intro _; rfl) :
      Hds p kn GG L S y iC LJ (.ExceptHandler (some (.Name x np)) none [.Assign [.Name y p2] e p3] pos' :: hs) ((cx, h) :: cl) (v :: vs)
section
variable {p : Pr} {sc : Scope} {NN VV GG : List Str} {k : Nat} {g : G} {L L' : List Slot} {α β γ δ : Type} {S : Ty α} {pos : Pos} {st : List Stmt} {D : δ → Out}
theorem Hds.ok {kn : List Ec} {y : Str} {iC jC : Nat} {LJ : β → List Slot} {hs : List ExceptHandler} {cl : List (Ec × β)} {vs : List V} (ok : OkS p sc NN VV GG k g) (hNC : NN[iC]? = some y) (hVC : VV[jC]? = some y) (r : Hds p kn GG L S y iC LJ hs cl vs) : HdsOk g.X hs (lOf p iC cl vs) := by
  induction r with
  | nil => exact .nil
  | cons hcx hx hG he hrep hh r hsw ih =>
    obtain ⟨hg, ho⟩ := ok.gl hG
    refine .cons ⟨hg, (okName_d ho).1, .inl (by rw [ok.mg]; exact hx)⟩ (fun ad oE cl dd pn _ _ => ?_) ih
    exact pss_one (ps_set (i := iC) (by show g.X.N.Nodup; rw [ok.N]; exact ok.nd) (by show g.X.N[iC]? = _; rw [ok.N]; exact hNC) (ok.loc hVC) (he _) (hsw _) (.inl (ok.fnT y)))
end
end Hd
namespace Hd
open PySem PySem.Spec L2
section
end
end Hd
namespace Hd
open PySem PySem.Spec L2
section
end
end Hd
namespace Hd
open PySem PySem.Spec L2
section
end
section
end
end Hd
namespace Hd
open PySem PySem.Spec PyProof.Rows L2
section
end
end Hd
noncomputable section
namespace Hd
open PySem PySem.Spec PySem.W PySem.Calls PyProof.Rows HandSHeadRun
section
end
def oS (l : List Value) : Obj := ⟨.type "tuple", none, .seq ⟨l⟩ 0, #[]⟩
end Hd
namespace Hd
open PySem PySem.Spec L2
section
variable {α β γ δ ε : Type} {S : Ty α} {T : Ty β} {U : Ty γ} {W : Ty ε} {A : Ar δ}
theorem ta_sumX {n : Nat} {f : α → γ} {h : β → ε} (h1 : TupAt S n U f) (h2 : TupAt T n W h) : TupAt (tSum S T) n (tSum U W) (selm (fun a => .inl (f a)) (fun b => .inr (h b))) := ⟨fun {d v R} r => by
  cases d with
  | inl a => exact h1.r r
  | inr b => exact h2.r r⟩
/-- never the same -/
structure Apart (D : Deep S) (E : Deep T) : Prop where
  l : ∀ a b, PyData.eqv (D.pd a) (E.pd b) = false
  r : ∀ a b, PyData.eqv (E.pd b) (D.pd a) = false
end
section
end
end Hd
namespace Hd
open PySem PySem.Spec L2
section
variable {α β γ δ ε : Type} {S : Ty α} {T : Ty β} {S' : Ty γ} {A : Ar δ} {B : Ar ε}
theorem Apart.symm {D : Deep S} {E : Deep T} (h : Apart D E) : Apart E D := ⟨fun a b => h.r b a, fun a b => h.l b a⟩
end
section
end
end Hd
namespace Hd
open PySem PySem.Spec L2
section
end
end Hd
namespace Hd
open PySem PySem.Spec L2
section
end
end Hd
namespace Hd
open PySem PySem.Spec L2
section
end
section
end
section
end
section
end
/-- an item of another kind of owning, the same data -/
inductive WRe {γ : Type} (O O' : WTy γ) : {δ : Type} → WAr δ → Nat → WAr δ → (δ → γ) → (δ → γ → δ) → Prop where
  | z {δ : Type} {A : WAr δ} : WRe O O' (waCons O A) 0 (waCons O' A) (fun d => d.1) (fun d y => (y, d.2))
  | s {β δ : Type} {P : WTy β} {A A' : WAr δ} {k : Nat} {pr : δ → γ} {st : δ → γ → δ} : WRe O O' A k A' pr st → WRe O O' (waCons P A) (k + 1) (waCons P A') (fun d => pr d.2) (fun d y => (d.1, st d.2 y))
section
variable {γ δ : Type} {O O' : WTy γ} {A A' : WAr δ} {k : Nat} {pr : δ → γ} {stt : δ → γ → δ} {H : Hp} {R : RdR}
/-- .. and another one is put there -/
theorem WRe.put (h : WRe O (wV O.T) A k A' pr stt) : ∀ {d vs G F1 x w}, A'.rep d vs H R G → G.Nodup → O.rep x w H R F1 → F1.Nodup → (∀ q ∈ F1, q ∉ G) → ∃ G', A.rep (stt d x) (vs.set k w) H R G' ∧ G'.Nodup ∧ (∀ q ∈ G', q ∈ F1 ∨ q ∈ G) ∧ k < vs.length := by
  induction h with
  | z =>
    rintro d vs G F1 x w ⟨v, r, Fa, Fb, e1, e2, h1, h2⟩ nd rx nd1 dis
    subst e1; subst e2
    have nd' := List.nodup_append.mp nd
    refine ⟨F1 ++ Fb, ⟨w, r, F1, Fb, rfl, rfl, rx, h2⟩, List.nodup_append.mpr ⟨nd1, nd'.2.1, fun q hq z hz e => dis q hq (by rw [e]; exact List.mem_append_right _ hz)⟩, fun q hq => ?_, by simp⟩
    rcases List.mem_append.mp hq with h | h
    · exact .inl h
    · exact .inr (List.mem_append_right _ h)
  | s _ ih =>
    rintro d vs G F1 x w ⟨v, r, Fa, Fb, e1, e2, h1, h2⟩ nd rx nd1 dis
    subst e1; subst e2
    have nd' := List.nodup_append.mp nd
    obtain ⟨G', g1, g2, g3, g4⟩ := ih h2 nd'.2.1 rx nd1 fun q hq hz => dis q hq (List.mem_append_right _ hz)
    refine ⟨Fa ++ G', ⟨v, _, Fa, G', rfl, rfl, h1, g1⟩, List.nodup_append.mpr ⟨nd'.1, g2, fun q hq z hz e => ?_⟩, fun q hq => ?_, by simp; omega⟩
    · subst e
      rcases g3 q hz with h | h
      · exact dis q h (List.mem_append_left _ hq)
      · exact nd'.2.2 q hq q h rfl
    · rcases List.mem_append.mp hq with h | h
      · exact .inr (List.mem_append_left _ h)
      · exact (g3 q h).imp id (List.mem_append_right _)
end
section
end
section
end
section
end
end Hd
namespace Hd
open PySem PySem.Spec L2
section
end
end Hd
namespace Hd
open PySem PySem.Spec L2
section
variable {p : Pr} {sc : Scope} {NN VV GG : List Str} {k : Nat} {g : G} {L L' : List Slot} {a b c e e' : Expr} {es : List Expr} {md md' : Md} {α β γ δ ρ τ ω : Type} {S : Ty α} {T : Ty β} {pos pp : Pos} {O : WTy α} {Lt : τ → List Slot}
/-- what is handed back, told as another kind -/
theorem ex_as {f : α → β} {m : M (α × τ)} (hf : ∀ {d v R}, S.rep d v R → T.rep (f d) v R) (h : EvX g L a (wV S) Lt m) : EvX g L a (wV T) Lt (m.bind fun r => .ok (f r.1, r.2)) := by
  refine PE.imp h fun σ H Q ⟨kp, own, at_, q⟩ => ⟨kp, own, at_, ?_⟩
  cases m with
  | ok r => exact fun v F H1 own1 a1 nd n1 kpt al ⟨e, rr⟩ => q v F H1 own1 a1 nd n1 kpt al ⟨e, hf rr⟩
  | ex c => exact q
  | no => exact q
/-- (f(x),) -/
theorem ex_tup1 {m : M (α × τ)} {x1} (h : EvX g L e (wV S) Lt m) (hs : starEach [e] g.X.env = (false, eval e g.X.env) :: starEach [] g.X.env := by rfl) : EvX g L (.Tuple [e] x1 pos) (wV (tTup (aCons S aNil))) Lt (m.bind fun r => .ok ((r.1, ()), r.2)) := by
  refine PE.imp (pe_tup (pa_cons h pa_nil hs)) fun σ H Q ⟨kp, own, at_, q⟩ => ?_
  refine ⟨kp, own, at_, ?_⟩
  cases m with
  | ok r =>
    intro v F H1 own1 a1 nd n1 kpt al ⟨e, rr⟩
    subst e
    refine ⟨Nat.le_trans (show [v].length ≤ 1000 from by show 1 ≤ 1000; decide) (by decide), fun l hl => ?_⟩
    have s2 : Same H1 (upd H1 l (.tup [v])) := newSame hl
    have a2 := a1.ext s2
    exact q (.ref l) [] _ own1 a2 a2.nd (fun _ z => nomatch z) (fun a o z => RD.same s2 a o (kpt a o z)) a2.sl ⟨rfl, l, [v], rfl, newRX (md := .sh) a1 (Same.refl H1) hl, v, [], rfl, S.mono rr (RD.same s2), rfl⟩
  | ex c => exact q
  | no => exact q
/-- a list of two things of one's own -/
theorem evn_two {m : M (α × α × Unit)} (h : EvN g L e (wHl (waCons O (waCons O waNil))) m) : EvN g L e (wL O) (m.bind fun d => .ok [d.1, d.2.1]) := PE.imp h fun σ H Q ⟨kp, own, at_, q⟩ => by
  refine ⟨kp, own, at_, ?_⟩
  cases m with
  | ok d =>
    rintro v F H' s nd n ⟨p1, vs, G, rfl, rfl, hp, v1, r, F1, F2, rfl, rfl, h1, v2, r2, F3, F4, rfl, rfl, h2, h3⟩
    obtain ⟨rfl, rfl⟩ : r2 = [] ∧ F4 = [] := h3
    exact q _ _ H' s nd n ⟨p1, [v1, v2], [F1, F3], rfl, by simp, hp, .cons h1 (.cons h2 .nil)⟩
  | ex c => exact q
  | no => exact q
/-- values of two kinds, of one kind each time -/
def neqS {α β : Type} [DecidableEq α] [DecidableEq β] : α ⊕ β → α ⊕ β → M Bool
  | .inl a, .inl b => .ok (!decide (a = b))
  | .inr a, .inr b => .ok (!decide (a = b))
  | _, _ => .no
theorem neqS_ne {α β : Type} [DecidableEq α] [DecidableEq β] {x y : α ⊕ β} {c : Ec} : neqS x y ≠ .ex c := by
  cases x <;> cases y <;> exact fun h => nomatch h
theorem evt_neqS [DecidableEq α] [DecidableEq β] {m1 m2 : M (α ⊕ β)} (ok : Ok p sc NN VV GG k g) (D : Deep S) (E : Deep T) (hd : D.dp ≤ 64) (he : E.dp ≤ 64) (ha : EvE g L a md (tSum S T) m1) (hb : EvE g L b md (tSum S T) m2) (hk : behindInMarks .NotEq b = false := by first | exact nomark _ (by decide) (by decide) | rfl) :
    EvT g L (.Compare a [.NotEq] [b] pos) (m1.bind fun x => m2.bind fun y => neqS x y) :=
  evt_cmp (fr := true) (r := rNeD p.K) ok (by rw [← ok.K]; exact op_neD ok.room.units) ⟨fun {d e x y R H Q} rb rx ry q => by
    cases d with
    | inl d =>
      cases e with
      | inl e =>
        obtain ⟨a1, a2⟩ := D.rep rb (show S.rep d x R from rx)
        obtain ⟨b1, b2⟩ := D.rep rb (show S.rep e y R from ry)
        exact ⟨_, _, a1, b1, D.sh hd a2, D.sh hd b2, q _ _ (Same.refl _) (by show _ = V.bl _; rw [D.bq])⟩
      | inr e => exact q.elim
    | inr d =>
      cases e with
      | inl e => exact q.elim
      | inr e =>
        obtain ⟨a1, a2⟩ := E.rep rb (show T.rep d x R from rx)
        obtain ⟨b1, b2⟩ := E.rep rb (show T.rep e y R from ry)
        exact ⟨_, _, a1, b1, E.sh he a2, E.sh he b2, q _ _ (Same.refl _) (by show _ = V.bl _; rw [E.bq])⟩⟩ (fun _ _ _ => neqS_ne) ha hb hk
end
/-- either of two -/
theorem NoEx.ite {α : Type} {c : Bool} {m n : M α} (h : NoEx m) (h2 : NoEx n) : NoEx (if c = true then m else n) := by
  cases c
  · exact h2
  · exact h
theorem unM_nx {α : Type} {d : Option α} : NoEx (unM d) := fun c h => by cases d <;> exact nomatch h
end Hd
namespace Hd
open PySem PySem.Spec L2
def Okm {α : Type} (m : M α) (P : α → Prop) : Prop := ∃ a, m = .ok a ∧ P a
section
variable {α β γ ρ : Type} {m : M α} {f : α → M β} {P P' : α → Prop} {Q : β → Prop}
theorem okv {a : α} (h : P a) : Okm (.ok a) P := ⟨a, rfl, h⟩
theorem okb (h : Okm m P) (k : ∀ a, P a → Okm (f a) Q) : Okm (m.bind f) Q := by
  obtain ⟨a, rfl, ha⟩ := h
  exact k a ha
theorem okmono (h : Okm m P) (k : ∀ a, P a → P' a) : Okm m P' := by
  obtain ⟨a, e, ha⟩ := h
  exact ⟨a, e, k a ha⟩
theorem okif {c : Bool} {a b : M α} (h1 : c = true → Okm a P) (h2 : c = false → Okm b P) : Okm (if c = true then a else b) P := by
  cases c with
  | true => exact h1 rfl
  | false => exact h2 rfl
theorem oke {a : α} (h : Okm m (· = a)) : m = .ok a := by
  obtain ⟨b, e, rfl⟩ := h
  exact e
theorem ok_mod {x y : Int} (h : 0 < y) : Okm (modM x y) (· = x % y) := by unfold modM; rw [if_pos h]; exact okv rfl
theorem ok_div {x y : Int} (h : 0 < y) (h2 : y < 2 ^ 64) : Okm (divM x y) (· = x / y) := by
  unfold divM
  rw [if_pos ⟨h, Nat.lt_of_lt_of_le (show y.natAbs < 2 ^ 64 by omega) (Nat.pow_le_pow_right (by decide) (by decide))⟩]
  exact okv rfl
theorem ok_mul {x y : Int} (n m : Nat) (h : x.natAbs < 2 ^ n) (h2 : y.natAbs < 2 ^ m) (hn : n ≤ 10000 := by decide) (hm : m ≤ 10000 := by decide) : Okm (mulM x y) (· = x * y) := by
  unfold mulM
  rw [if_pos ⟨Nat.lt_of_lt_of_le h (Nat.pow_le_pow_right (by decide) hn), Nat.lt_of_lt_of_le h2 (Nat.pow_le_pow_right (by decide) hm)⟩]
  exact okv rfl
theorem getM_at {xs : List α} {i : Int} {v : α} (h0 : 0 ≤ i) (h : xs[i.toNat]? = some v) : getM xs i = .ok v := by
  have hl : i.toNat < xs.length := (List.getElem?_eq_some_iff.mp h).1
  unfold getM L2.atI L2.ixN
  rw [if_pos h0, if_pos (by omega)]
  show (match xs[i.toNat]? with | some d => M.ok d | none => .no) = _
  rw [h]
theorem getM_nat {xs : List α} {i : Nat} {v : α} (h : xs[i]? = some v) : getM xs (i : Int) = .ok v := getM_at (by omega) (by rw [Int.toNat_natCast]; exact h)
theorem ok_get {xs : List α} {i : Int} (h0 : 0 ≤ i) (h1 : i < xs.length) : Okm (getM xs i) (fun v => xs[i.toNat]? = some v) := by
  have hl : i.toNat < xs.length := by omega
  exact ⟨xs[i.toNat], getM_at h0 (by simp [hl]), by simp [hl]⟩
theorem getS_at {x : Tx} {i : Int} {c : Nat} (h0 : 0 ≤ i) (h : x[i.toNat]? = some c) : getS x i = .ok [c] := by
  have hl : i.toNat < x.length := (List.getElem?_eq_some_iff.mp h).1
  unfold getS L2.atI L2.ixN
  rw [if_pos h0, if_pos (by omega)]
  show (match x[i.toNat]? with | some d => M.ok [d] | none => .no) = _
  rw [h]
theorem ok_getS {x : Tx} {i : Int} (h0 : 0 ≤ i) (h1 : i < x.length) : Okm (getS x i) (fun v => ∃ c, x[i.toNat]? = some c ∧ v = [c]) := by
  have hl : i.toNat < x.length := by omega
  exact ⟨[x[i.toNat]], getS_at h0 (by simp [hl]), _, by simp [hl], rfl⟩
theorem ok_push {xs : List α} {d : α} (h : xs.length < 1000000) : Okm (pushM xs d) (· = xs ++ [d]) := by
  unfold pushM
  rw [if_pos (Nat.lt_trans h (by decide))]
  exact okv rfl
theorem ok_set {xs : List α} {i : Int} {d : α} (h0 : 0 ≤ i) (h1 : i < xs.length) : Okm (setM xs i d) (· = xs.set i.toNat d) := by
  unfold setM L2.ixN
  rw [if_pos h0, if_pos h1]
  exact okv rfl
theorem ok_cat {x y : Tx} (h : x.length + y.length ≤ 1000000) : Okm (catS x y) (· = x ++ y) := by
  unfold catS
  rw [if_pos (Nat.le_trans h (by decide))]
  exact okv rfl
theorem ok_range {lo hi : Int} (h1 : -(2 ^ 62) ≤ lo := by omega) (h2 : lo < 2 ^ 62 := by omega) (h3 : -(2 ^ 62) ≤ hi := by omega) (h4 : hi < 2 ^ 62 := by omega) : Okm (rangeM lo hi) (· = upFrom lo (hi - lo).toNat) := by
  unfold rangeM
  rw [if_pos ⟨h1, h2, h3, h4⟩]
  exact okv rfl
theorem range_eq {lo hi : Int} (h1 : -(2 ^ 62) ≤ lo := by omega) (h2 : lo < 2 ^ 62 := by omega) (h3 : -(2 ^ 62) ≤ hi := by omega) (h4 : hi < 2 ^ 62 := by omega) : rangeM lo hi = .ok (upFrom lo (hi - lo).toNat) := oke (ok_range h1 h2 h3 h4)
theorem upFrom_mem {lo x : Int} {n : Nat} : x ∈ upFrom lo n ↔ lo ≤ x ∧ x < lo + n := by
  induction n generalizing lo with
  | zero => simp [upFrom]
  | succ n ih => rw [upFrom, List.mem_cons, ih]; push_cast; omega
theorem ok_for {f : β → α → M β} {s0 : β} {xs : List α} (I : Nat → β → Prop) (h0 : I 0 s0) (hs : ∀ i x s, xs[i]? = some x → I i s → Okm (f s x) (I (i + 1))) : Okm (forM f s0 xs) (I xs.length) := by
  induction xs generalizing s0 I with
  | nil => exact okv h0
  | cons x r ih =>
    refine okb (hs 0 x s0 rfl h0) fun s1 h1 => ?_
    exact ih (fun i => I (i + 1)) h1 fun i y s e h => hs (i + 1) y s (by simpa using e) h
theorem ok_forR {f : β → Int → M β} {s0 : β} {lo : Int} {n : Nat} (I : Nat → β → Prop) (h0 : I 0 s0) (hs : ∀ i s, i < n → I i s → Okm (f s (lo + i)) (I (i + 1))) : Okm (forM f s0 (upFrom lo n)) (I n) := by
  have h := ok_for (f := f) (xs := upFrom lo n) I h0 fun i x s e h => by
    rw [upFrom_get] at e
    by_cases hi : i < n
    · rw [if_pos hi] at e
      cases e
      exact hs i s hi h
    · rw [if_neg hi] at e; cases e
  rwa [upFrom_len] at h
def FlP {β ρ : Type} (N : β → Prop) (R : ρ → Prop) : Fl β ρ → Prop
  | .nx s => N s
  | .rt r => R r
theorem ok_forF {f : β → α → M (Fl β ρ)} {s0 : β} {xs : List α} (I : Nat → β → Prop) (R : ρ → Prop) (h0 : I 0 s0) (hs : ∀ i x s, xs[i]? = some x → I i s → Okm (f s x) (FlP (I (i + 1)) R)) : Okm (forF f s0 xs) (FlP (I xs.length) R) := by
  induction xs generalizing s0 I with
  | nil => exact okv h0
  | cons x r ih =>
    refine okb (hs 0 x s0 rfl h0) fun s1 h1 => ?_
    cases s1 with
    | nx s1 => exact ih (fun i => I (i + 1)) h1 fun i y s e h => hs (i + 1) y s (by simpa using e) h
    | rt q => exact okv h1
theorem ok_forFR {f : β → Int → M (Fl β ρ)} {s0 : β} {lo : Int} {n : Nat} (I : Nat → β → Prop) (R : ρ → Prop) (h0 : I 0 s0) (hs : ∀ i s, i < n → I i s → Okm (f s (lo + i)) (FlP (I (i + 1)) R)) : Okm (forF f s0 (upFrom lo n)) (FlP (I n) R) := by
  have h := ok_forF (f := f) (xs := upFrom lo n) I R h0 fun i x s e h => by
    rw [upFrom_get] at e
    by_cases hi : i < n
    · rw [if_pos hi] at e
      cases e
      exact hs i s hi h
    · rw [if_neg hi] at e; cases e
  rwa [upFrom_len] at h
/-- a law's loop that leaves with no False: all its turns go on -/
theorem okel {g : β → M γ} {h : ρ → M γ} {m : M (Fl β ρ)} {N : β → Prop} {R : ρ → Prop} {Q : γ → Prop} (hm : Okm m (FlP N R)) (h1 : ∀ s, N s → Okm (g s) Q) (h2 : ∀ r, R r → Okm (h r) Q) : Okm (m.bind (Fl.el g h)) Q :=
  okb hm fun a ha => by
    cases a with
    | nx s => exact h1 s ha
    | rt r => exact h2 r ha
theorem comp_eq {h : α → M (Option β)} {g : α → Option β} {xs : List α} (hl : xs.length ≤ 1000000) (hs : ∀ x ∈ xs, h x = .ok (g x)) : compM h xs = .ok (xs.filterMap g) := by
  unfold compM
  rw [if_pos (Nat.le_trans hl (by decide))]
  clear hl
  induction xs with
  | nil => rfl
  | cons x r ih =>
    show ((h x).nox.bind fun o => (compG h r).bind fun l => M.ok (o.toList ++ l)) = _
    rw [hs x List.mem_cons_self, ih fun y hy => hs y (List.mem_cons_of_mem _ hy)]
    show M.ok ((g x).toList ++ r.filterMap g) = _
    rw [List.filterMap_cons]
    cases g x <;> rfl
theorem comp_map {h : α → M (Option β)} {g : α → β} {xs : List α} (hl : xs.length ≤ 1000000) (hs : ∀ x ∈ xs, h x = .ok (some (g x))) : compM h xs = .ok (xs.map g) := by
  rw [comp_eq (g := fun x => some (g x)) hl hs]
  congr 1
  induction xs with
  | nil => rfl
  | cons x r ih => rw [List.filterMap_cons]; simp only [List.map_cons]; rw [ih (by simp at hl; omega) fun y hy => hs y (List.mem_cons_of_mem _ hy)]
theorem ok_comp {h : α → M (Option β)} {xs : List α} (R : α → β → Prop) (hl : xs.length ≤ 1000000) (hs : ∀ x ∈ xs, Okm (h x) (fun o => ∃ y, o = some y ∧ R x y)) : Okm (compM h xs) (fun ys => ys.length = xs.length ∧ ∀ (i : Nat) (x : α) (y : β), xs[i]? = some x → ys[i]? = some y → R x y) := by
  unfold compM
  rw [if_pos (Nat.le_trans hl (by decide))]
  clear hl
  induction xs with
  | nil => exact okv ⟨rfl, fun i x y e => by simp at e⟩
  | cons x r ih =>
    obtain ⟨o, e, y, rfl, hy⟩ := hs x List.mem_cons_self
    obtain ⟨ys, e2, h2, h3⟩ := ih fun z hz => hs z (List.mem_cons_of_mem _ hz)
    show Okm ((h x).nox.bind fun o => (compG h r).bind fun l => M.ok (o.toList ++ l)) _
    rw [e, e2]
    refine okv ⟨by simp [h2], fun i a b ea eb => ?_⟩
    cases i with
    | zero => simp at ea eb; subst ea; subst eb; exact hy
    | succ i => exact h3 i a b (by simpa using ea) (by simpa using eb)
end
theorem tx_hash : tx "#" = [35] := by decide +kernel
theorem tx_dot : tx "." = [46] := by decide +kernel
theorem tx_nil : tx "" = [] := by decide +kernel
theorem join_nil_eq : ∀ xs : List Tx, TL.joinL [] xs = xs.flatten
  | [] => rfl
  | [x] => by simp [TL.joinL]
  | x :: y :: r => by rw [TL.joinL, join_nil_eq (y :: r)]; simp
theorem ok_join {xs : List Tx} (h : (xs.map List.length).sum ≤ 1000000) : Okm (joinM [] xs) (· = xs.flatten) := by
  unfold joinM
  rw [if_pos (by simp; omega), join_nil_eq]
  exact okv rfl
end Hd
set_option maxHeartbeats 0
namespace Hd
open PySem PySem.Spec L2
def topS (i : Nat) : Stmt := PySem.Challenge.pw_heddle_k16_whole_loom.main.body.getD i (.Pass ⟨0, 0, 0, 0⟩)
def kn_ : List Ec := [.weave, .tooLarge, .noDraft, .noDeed]
abbrev O_Draft : Type := (List Int) × (List (List Int)) × (List Int) × Unit
abbrev O_Loom : Type := (List Int) × (List (List Int)) × (List Bool) × (List ((List Int) × Tx × Tx × Unit)) × (List (Tx × Int × (Option ((List Int) × Tx × Tx × Unit)) × Unit)) × Unit
def fl_Loom (p : Pr) (d : O_Loom) : List FldS := [⟨"threading", (List Int), (tList tInt), d.1⟩, ⟨"ties", (List (List Int)), (tList (tList tInt)), d.2.1⟩, ⟨"pressed", (List Bool), (tList tBool), d.2.2.1⟩, ⟨"thrown", (List ((List Int) × Tx × Tx × Unit)), (tList (tTup (aCons (tTupL tInt) (aCons tStr (aCons tStr aNil))))), d.2.2.2.1⟩, ⟨"done_deeds", (List (Tx × Int × (Option ((List Int) × Tx × Tx × Unit)) × Unit)), (tList (tTup (aCons tStr (aCons tInt (aCons (tOpt (tTup (aCons (tTupL tInt) (aCons tStr (aCons tStr aNil))))) aNil))))), d.2.2.2.2.1⟩]
def dds : List He.DefD := ([⟨("_law_cell_at", none), "_law_cell_at", "_law_cell_at", defArgs (topS 17), defBody (topS 17), defScope (topS 17), [], []⟩, ⟨("_law_size", none), "_law_size", "_law_size", defArgs (topS 19), defBody (topS 19), defScope (topS 19), [], []⟩, ⟨("_law_sums", none), "_law_sums", "_law_sums", defArgs (topS 18), defBody (topS 18), defScope (topS 18), [], []⟩, ⟨("_law_threading", none), "_law_threading", "_law_threading", defArgs (topS 20), defBody (topS 20), defScope (topS 20), [], []⟩, ⟨("_law_tie", none), "_law_tie", "_law_tie", defArgs (topS 21), defBody (topS 21), defScope (topS 21), [], []⟩, ⟨("_law_ties", none), "_law_ties", "_law_ties", defArgs (topS 22), defBody (topS 22), defScope (topS 22), [], []⟩, ⟨("tie_rises", none), "tie_rises", "tie_rises", defArgs (topS 8), defBody (topS 8), defScope (topS 8), [], []⟩, ⟨("lists_fit", none), "lists_fit", "lists_fit", defArgs (topS 9), defBody (topS 9), defScope (topS 9), [], []⟩, ⟨("Draft", some "__init__"), "__init__", "Draft.__init__", defArgs ((clsBody (topS 10)).getD 0 (.Pass ⟨0, 0, 0, 0⟩)), defBody ((clsBody (topS 10)).getD 0 (.Pass ⟨0, 0, 0, 0⟩)), defScope ((clsBody (topS 10)).getD 0 (.Pass ⟨0, 0, 0, 0⟩)), [], []⟩, ⟨("Loom", some "__init__"), "__init__", "Loom.__init__", defArgs ((clsBody (topS 15)).getD 0 (.Pass ⟨0, 0, 0, 0⟩)), defBody ((clsBody (topS 15)).getD 0 (.Pass ⟨0, 0, 0, 0⟩)), defScope ((clsBody (topS 15)).getD 0 (.Pass ⟨0, 0, 0, 0⟩)), [], []⟩, ⟨("_law_treadle", none), "_law_treadle", "_law_treadle", defArgs (topS 31), defBody (topS 31), defScope (topS 31), [], []⟩, ⟨("_law_cannot", none), "_law_cannot", "_law_cannot", defArgs (topS 26), defBody (topS 26), defScope (topS 26), [], []⟩, ⟨("_law_lifted", none), "_law_lifted", "_law_lifted", defArgs (topS 23), defBody (topS 23), defScope (topS 23), [], []⟩, ⟨("_law_shed", none), "_law_shed", "_law_shed", defArgs (topS 24), defBody (topS 24), defScope (topS 24), [], []⟩, ⟨("_law_moved_on", none), "_law_moved_on", "_law_moved_on", defArgs (topS 27), defBody (topS 27), defScope (topS 27), [], []⟩, ⟨("Loom", some "has_treadle"), "has_treadle", "Loom.has_treadle", defArgs ((clsBody (topS 15)).getD 1 (.Pass ⟨0, 0, 0, 0⟩)), defBody ((clsBody (topS 15)).getD 1 (.Pass ⟨0, 0, 0, 0⟩)), defScope ((clsBody (topS 15)).getD 1 (.Pass ⟨0, 0, 0, 0⟩)), [], []⟩, ⟨("Loom", some "press"), "press", "Loom.press", defArgs ((clsBody (topS 15)).getD 2 (.Pass ⟨0, 0, 0, 0⟩)), defBody ((clsBody (topS 15)).getD 2 (.Pass ⟨0, 0, 0, 0⟩)), defScope ((clsBody (topS 15)).getD 2 (.Pass ⟨0, 0, 0, 0⟩)), [], []⟩, ⟨("Loom", some "lift"), "lift", "Loom.lift", defArgs ((clsBody (topS 15)).getD 3 (.Pass ⟨0, 0, 0, 0⟩)), defBody ((clsBody (topS 15)).getD 3 (.Pass ⟨0, 0, 0, 0⟩)), defScope ((clsBody (topS 15)).getD 3 (.Pass ⟨0, 0, 0, 0⟩)), [], []⟩, ⟨("Loom", some "lifted_shafts"), "lifted_shafts", "Loom.lifted_shafts", defArgs ((clsBody (topS 15)).getD 4 (.Pass ⟨0, 0, 0, 0⟩)), defBody ((clsBody (topS 15)).getD 4 (.Pass ⟨0, 0, 0, 0⟩)), defScope ((clsBody (topS 15)).getD 4 (.Pass ⟨0, 0, 0, 0⟩)), [], []⟩, ⟨("shed_over", none), "shed_over", "shed_over", defArgs (topS 14), defBody (topS 14), defScope (topS 14), [], []⟩, ⟨("Loom", some "throw"), "throw", "Loom.throw", defArgs ((clsBody (topS 15)).getD 6 (.Pass ⟨0, 0, 0, 0⟩)), defBody ((clsBody (topS 15)).getD 6 (.Pass ⟨0, 0, 0, 0⟩)), defScope ((clsBody (topS 15)).getD 6 (.Pass ⟨0, 0, 0, 0⟩)), [], []⟩, ⟨("Loom", some "unthrow"), "unthrow", "Loom.unthrow", defArgs ((clsBody (topS 15)).getD 7 (.Pass ⟨0, 0, 0, 0⟩)), defBody ((clsBody (topS 15)).getD 7 (.Pass ⟨0, 0, 0, 0⟩)), defScope ((clsBody (topS 15)).getD 7 (.Pass ⟨0, 0, 0, 0⟩)), [], []⟩, ⟨("Loom", some "undo"), "undo", "Loom.undo", defArgs ((clsBody (topS 15)).getD 8 (.Pass ⟨0, 0, 0, 0⟩)), defBody ((clsBody (topS 15)).getD 8 (.Pass ⟨0, 0, 0, 0⟩)), defScope ((clsBody (topS 15)).getD 8 (.Pass ⟨0, 0, 0, 0⟩)), [], []⟩, ⟨("_law_try", none), "_law_try", "_law_try", defArgs (topS 25), defBody (topS 25), defScope (topS 25), [], []⟩, ⟨("_law_same", none), "_law_same", "_law_same", defArgs (topS 28), defBody (topS 28), defScope (topS 28), [], []⟩, ⟨("Loom", some "deeds_done"), "deeds_done", "Loom.deeds_done", defArgs ((clsBody (topS 15)).getD 9 (.Pass ⟨0, 0, 0, 0⟩)), defBody ((clsBody (topS 15)).getD 9 (.Pass ⟨0, 0, 0, 0⟩)), defScope ((clsBody (topS 15)).getD 9 (.Pass ⟨0, 0, 0, 0⟩)), [], []⟩, ⟨("Loom", some "treadles_down"), "treadles_down", "Loom.treadles_down", defArgs ((clsBody (topS 15)).getD 10 (.Pass ⟨0, 0, 0, 0⟩)), defBody ((clsBody (topS 15)).getD 10 (.Pass ⟨0, 0, 0, 0⟩)), defScope ((clsBody (topS 15)).getD 10 (.Pass ⟨0, 0, 0, 0⟩)), [], []⟩, ⟨("_law_list", none), "_law_list", "_law_list", defArgs (topS 29), defBody (topS 29), defScope (topS 29), [], []⟩, ⟨("Loom", some "shed"), "shed", "Loom.shed", defArgs ((clsBody (topS 15)).getD 5 (.Pass ⟨0, 0, 0, 0⟩)), defBody ((clsBody (topS 15)).getD 5 (.Pass ⟨0, 0, 0, 0⟩)), defScope ((clsBody (topS 15)).getD 5 (.Pass ⟨0, 0, 0, 0⟩)), [], []⟩, ⟨("Loom", some "cloth"), "cloth", "Loom.cloth", defArgs ((clsBody (topS 15)).getD 11 (.Pass ⟨0, 0, 0, 0⟩)), defBody ((clsBody (topS 15)).getD 11 (.Pass ⟨0, 0, 0, 0⟩)), defScope ((clsBody (topS 15)).getD 11 (.Pass ⟨0, 0, 0, 0⟩)), [], []⟩] : List He.DefD) ++ ([⟨("_law_list", none), "_law_list", "_law_list", defArgs (topS 29), defBody (topS 29), defScope (topS 29), [], []⟩, ⟨("Loom", some "colours"), "colours", "Loom.colours", defArgs ((clsBody (topS 15)).getD 12 (.Pass ⟨0, 0, 0, 0⟩)), defBody ((clsBody (topS 15)).getD 12 (.Pass ⟨0, 0, 0, 0⟩)), defScope ((clsBody (topS 15)).getD 12 (.Pass ⟨0, 0, 0, 0⟩)), [], []⟩, ⟨("_law_answered", none), "_law_answered", "_law_answered", defArgs (topS 30), defBody (topS 30), defScope (topS 30), [], []⟩, ⟨("_law_done", none), "_law_done", "_law_done", defArgs (topS 32), defBody (topS 32), defScope (topS 32), [], []⟩, ⟨("law", none), "law", "law", defArgs (topS 33), defBody (topS 33), defScope (topS 33), [], []⟩] : List He.DefD)
def fas : List He.Fa := ([.glo "_law_cell_at", .glo "_law_size", .glo "_law_sums", .glo "_law_threading", .glo "_law_tie", .glo "_law_ties", .glo "tie_rises", .glo "lists_fit", .glo "_law_treadle", .glo "_law_cannot", .glo "_law_lifted", .glo "_law_shed", .glo "_law_moved_on", .glo "shed_over", .glo "_law_try", .glo "_law_same", .glo "_law_list", .glo "_law_answered", .glo "_law_done", .glo "law", .glo "Draft", .cls "Draft", .mkr "Draft", .glo "Loom", .cls "Loom", .mkr "Loom", .noat "Draft" "threading", .noat "Draft" "ties", .noat "Draft" "treading", .noat "Loom" "done_deeds"] : List He.Fa) ++ ([.noat "Loom" "pressed", .noat "Loom" "threading", .noat "Loom" "thrown", .noat "Loom" "ties", .meth "Loom" "has_treadle", .meth "Loom" "press", .meth "Loom" "lift", .meth "Loom" "lifted_shafts", .meth "Loom" "throw", .meth "Loom" "unthrow", .meth "Loom" "undo", .meth "Loom" "deeds_done", .meth "Loom" "treadles_down", .meth "Loom" "shed", .meth "Loom" "cloth", .meth "Loom" "colours", .free "bool", .free "enumerate", .free "int", .free "isinstance", .free "len", .free "list", .free "range", .free "str", .free "tuple", .int "MOST_IN_DRAFT" 40, .int "PICKS_OF_A_LOOM" 40, .int "SHAFTS_OF_A_LOOM" 40, .glo "NoDeed", .exc "NoDeed"] : List He.Fa) ++ ([.glo "NoDraft", .exc "NoDraft", .glo "TooLarge", .exc "TooLarge", .glo "WeaveError", .exc "WeaveError"] : List He.Fa)
def loose : List Str := (["_wall", "WeaveError", "TooLarge", "NoDraft", "NoDeed", "MOST_IN_DRAFT", "tie_rises", "lists_fit", "Draft", "SHAFTS_OF_A_LOOM", "PICKS_OF_A_LOOM", "shed_over", "Loom", "_law_cell_at", "_law_sums", "_law_size", "_law_threading", "_law_tie", "_law_ties", "_law_lifted", "_law_shed", "_law_try", "_law_cannot", "_law_moved_on", "_law_same", "_law_list", "_law_answered", "_law_treadle", "_law_done"] : List Str)
abbrev hdR : PySem.W.OpenRow := PySem.W.OpenLaw.row PySem.Challenge.rw_heddle_k16_whole_loom
abbrev hk : PySem.W.Hook := hookE 6 fas dds (knB kn_)
def ob (s : PySem.W.SharedT) : AlE := obsEG 6 fas dds (knB kn_) (HandSHeadRun.getT s)
theorem ob_eq (s : PySem.W.SharedT) : ob s = hk.obs s.abs := obsEG_eq (HandSHeadRun.getT_eq s)
theorem run (w : World) : HandSHeadRun.RunEq hdR (PySem.W.view hdR.prog [33]) hk ob 9000 loose w := by intro os; kernel_rfl
structure Facts (p : Pr) : Prop where
  g_bool : p.mg "bool" = none
  g_enumerate : p.mg "enumerate" = none
  g_int : p.mg "int" = none
  g_isinstance : p.mg "isinstance" = none
  g_len : p.mg "len" = none
  g_list : p.mg "list" = none
  g_range : p.mg "range" = none
  g_str : p.mg "str" = none
  g_tuple : p.mg "tuple" = none
  c_MOST_IN_DRAFT : ∃ t, p.mg "MOST_IN_DRAFT" = some (.int 40 t)
  c_PICKS_OF_A_LOOM : ∃ t, p.mg "PICKS_OF_A_LOOM" = some (.int 40 t)
  c_SHAFTS_OF_A_LOOM : ∃ t, p.mg "SHAFTS_OF_A_LOOM" = some (.int 40 t)
  x_NoDeed : ExF p "NoDeed" .noDeed
  x_NoDraft : ExF p "NoDraft" .noDraft
  x_TooLarge : ExF p "TooLarge" .tooLarge
  x_WeaveError : ExF p "WeaveError" .weave
  kn : Kn p kn_
  a_Draft : Cls p.K (cA p "Draft")
  a_Loom : Cls p.K (cA p "Loom")
  n_Draft_threading : NoAttr p.K (cA p "Draft") "threading"
  n_Draft_ties : NoAttr p.K (cA p "Draft") "ties"
  n_Draft_treading : NoAttr p.K (cA p "Draft") "treading"
  n_Loom_done_deeds : NoAttr p.K (cA p "Loom") "done_deeds"
  n_Loom_pressed : NoAttr p.K (cA p "Loom") "pressed"
  n_Loom_threading : NoAttr p.K (cA p "Loom") "threading"
  n_Loom_thrown : NoAttr p.K (cA p "Loom") "thrown"
  n_Loom_ties : NoAttr p.K (cA p "Loom") "ties"
  d__law_cell_at : ∃ f fd, FunD p.K "_law_cell_at" "_law_cell_at" (defArgs (topS 17)) (defBody (topS 17)) (defScope (topS 17)) [] [] f fd ∧ p.mg "_law_cell_at" = some (.ref f)
  d__law_size : ∃ f fd, FunD p.K "_law_size" "_law_size" (defArgs (topS 19)) (defBody (topS 19)) (defScope (topS 19)) [] [] f fd ∧ p.mg "_law_size" = some (.ref f)
  d__law_sums : ∃ f fd, FunD p.K "_law_sums" "_law_sums" (defArgs (topS 18)) (defBody (topS 18)) (defScope (topS 18)) [] [] f fd ∧ p.mg "_law_sums" = some (.ref f)
  d__law_threading : ∃ f fd, FunD p.K "_law_threading" "_law_threading" (defArgs (topS 20)) (defBody (topS 20)) (defScope (topS 20)) [] [] f fd ∧ p.mg "_law_threading" = some (.ref f)
  d__law_tie : ∃ f fd, FunD p.K "_law_tie" "_law_tie" (defArgs (topS 21)) (defBody (topS 21)) (defScope (topS 21)) [] [] f fd ∧ p.mg "_law_tie" = some (.ref f)
  d__law_ties : ∃ f fd, FunD p.K "_law_ties" "_law_ties" (defArgs (topS 22)) (defBody (topS 22)) (defScope (topS 22)) [] [] f fd ∧ p.mg "_law_ties" = some (.ref f)
  d_tie_rises : ∃ f fd, FunD p.K "tie_rises" "tie_rises" (defArgs (topS 8)) (defBody (topS 8)) (defScope (topS 8)) [] [] f fd ∧ p.mg "tie_rises" = some (.ref f)
  d_lists_fit : ∃ f fd, FunD p.K "lists_fit" "lists_fit" (defArgs (topS 9)) (defBody (topS 9)) (defScope (topS 9)) [] [] f fd ∧ p.mg "lists_fit" = some (.ref f)
  k_Draft_init : ∃ f fd, FunD p.K "__init__" "Draft.__init__" (defArgs ((clsBody (topS 10)).getD 0 (.Pass ⟨0, 0, 0, 0⟩))) (defBody ((clsBody (topS 10)).getD 0 (.Pass ⟨0, 0, 0, 0⟩))) (defScope ((clsBody (topS 10)).getD 0 (.Pass ⟨0, 0, 0, 0⟩))) [] [] f fd ∧ Mk p.K (cA p "Draft") f ∧ p.mg "Draft" = some (.ref (cA p "Draft"))
  k_Loom_init : ∃ f fd, FunD p.K "__init__" "Loom.__init__" (defArgs ((clsBody (topS 15)).getD 0 (.Pass ⟨0, 0, 0, 0⟩))) (defBody ((clsBody (topS 15)).getD 0 (.Pass ⟨0, 0, 0, 0⟩))) (defScope ((clsBody (topS 15)).getD 0 (.Pass ⟨0, 0, 0, 0⟩))) [] [] f fd ∧ Mk p.K (cA p "Loom") f ∧ p.mg "Loom" = some (.ref (cA p "Loom"))
  d__law_treadle : ∃ f fd, FunD p.K "_law_treadle" "_law_treadle" (defArgs (topS 31)) (defBody (topS 31)) (defScope (topS 31)) [] [] f fd ∧ p.mg "_law_treadle" = some (.ref f)
  d__law_cannot : ∃ f fd, FunD p.K "_law_cannot" "_law_cannot" (defArgs (topS 26)) (defBody (topS 26)) (defScope (topS 26)) [] [] f fd ∧ p.mg "_law_cannot" = some (.ref f)
  d__law_lifted : ∃ f fd, FunD p.K "_law_lifted" "_law_lifted" (defArgs (topS 23)) (defBody (topS 23)) (defScope (topS 23)) [] [] f fd ∧ p.mg "_law_lifted" = some (.ref f)
  d__law_shed : ∃ f fd, FunD p.K "_law_shed" "_law_shed" (defArgs (topS 24)) (defBody (topS 24)) (defScope (topS 24)) [] [] f fd ∧ p.mg "_law_shed" = some (.ref f)
  d__law_moved_on : ∃ f fd, FunD p.K "_law_moved_on" "_law_moved_on" (defArgs (topS 27)) (defBody (topS 27)) (defScope (topS 27)) [] [] f fd ∧ p.mg "_law_moved_on" = some (.ref f)
  m_Loom_has_treadle : ∃ f fd, FunD p.K "has_treadle" "Loom.has_treadle" (defArgs ((clsBody (topS 15)).getD 1 (.Pass ⟨0, 0, 0, 0⟩))) (defBody ((clsBody (topS 15)).getD 1 (.Pass ⟨0, 0, 0, 0⟩))) (defScope ((clsBody (topS 15)).getD 1 (.Pass ⟨0, 0, 0, 0⟩))) [] [] f fd ∧ Cls p.K (cA p "Loom") ∧ Meth p.K (cA p "Loom") "has_treadle" f
  m_Loom_press : ∃ f fd, FunD p.K "press" "Loom.press" (defArgs ((clsBody (topS 15)).getD 2 (.Pass ⟨0, 0, 0, 0⟩))) (defBody ((clsBody (topS 15)).getD 2 (.Pass ⟨0, 0, 0, 0⟩))) (defScope ((clsBody (topS 15)).getD 2 (.Pass ⟨0, 0, 0, 0⟩))) [] [] f fd ∧ Cls p.K (cA p "Loom") ∧ Meth p.K (cA p "Loom") "press" f
  m_Loom_lift : ∃ f fd, FunD p.K "lift" "Loom.lift" (defArgs ((clsBody (topS 15)).getD 3 (.Pass ⟨0, 0, 0, 0⟩))) (defBody ((clsBody (topS 15)).getD 3 (.Pass ⟨0, 0, 0, 0⟩))) (defScope ((clsBody (topS 15)).getD 3 (.Pass ⟨0, 0, 0, 0⟩))) [] [] f fd ∧ Cls p.K (cA p "Loom") ∧ Meth p.K (cA p "Loom") "lift" f
  m_Loom_lifted_shafts : ∃ f fd, FunD p.K "lifted_shafts" "Loom.lifted_shafts" (defArgs ((clsBody (topS 15)).getD 4 (.Pass ⟨0, 0, 0, 0⟩))) (defBody ((clsBody (topS 15)).getD 4 (.Pass ⟨0, 0, 0, 0⟩))) (defScope ((clsBody (topS 15)).getD 4 (.Pass ⟨0, 0, 0, 0⟩))) [] [] f fd ∧ Cls p.K (cA p "Loom") ∧ Meth p.K (cA p "Loom") "lifted_shafts" f
  d_shed_over : ∃ f fd, FunD p.K "shed_over" "shed_over" (defArgs (topS 14)) (defBody (topS 14)) (defScope (topS 14)) [] [] f fd ∧ p.mg "shed_over" = some (.ref f)
  m_Loom_throw : ∃ f fd, FunD p.K "throw" "Loom.throw" (defArgs ((clsBody (topS 15)).getD 6 (.Pass ⟨0, 0, 0, 0⟩))) (defBody ((clsBody (topS 15)).getD 6 (.Pass ⟨0, 0, 0, 0⟩))) (defScope ((clsBody (topS 15)).getD 6 (.Pass ⟨0, 0, 0, 0⟩))) [] [] f fd ∧ Cls p.K (cA p "Loom") ∧ Meth p.K (cA p "Loom") "throw" f
  m_Loom_unthrow : ∃ f fd, FunD p.K "unthrow" "Loom.unthrow" (defArgs ((clsBody (topS 15)).getD 7 (.Pass ⟨0, 0, 0, 0⟩))) (defBody ((clsBody (topS 15)).getD 7 (.Pass ⟨0, 0, 0, 0⟩))) (defScope ((clsBody (topS 15)).getD 7 (.Pass ⟨0, 0, 0, 0⟩))) [] [] f fd ∧ Cls p.K (cA p "Loom") ∧ Meth p.K (cA p "Loom") "unthrow" f
  m_Loom_undo : ∃ f fd, FunD p.K "undo" "Loom.undo" (defArgs ((clsBody (topS 15)).getD 8 (.Pass ⟨0, 0, 0, 0⟩))) (defBody ((clsBody (topS 15)).getD 8 (.Pass ⟨0, 0, 0, 0⟩))) (defScope ((clsBody (topS 15)).getD 8 (.Pass ⟨0, 0, 0, 0⟩))) [] [] f fd ∧ Cls p.K (cA p "Loom") ∧ Meth p.K (cA p "Loom") "undo" f
  d__law_try : ∃ f fd, FunD p.K "_law_try" "_law_try" (defArgs (topS 25)) (defBody (topS 25)) (defScope (topS 25)) [] [] f fd ∧ p.mg "_law_try" = some (.ref f)
  d__law_same : ∃ f fd, FunD p.K "_law_same" "_law_same" (defArgs (topS 28)) (defBody (topS 28)) (defScope (topS 28)) [] [] f fd ∧ p.mg "_law_same" = some (.ref f)
  m_Loom_deeds_done : ∃ f fd, FunD p.K "deeds_done" "Loom.deeds_done" (defArgs ((clsBody (topS 15)).getD 9 (.Pass ⟨0, 0, 0, 0⟩))) (defBody ((clsBody (topS 15)).getD 9 (.Pass ⟨0, 0, 0, 0⟩))) (defScope ((clsBody (topS 15)).getD 9 (.Pass ⟨0, 0, 0, 0⟩))) [] [] f fd ∧ Cls p.K (cA p "Loom") ∧ Meth p.K (cA p "Loom") "deeds_done" f
  m_Loom_treadles_down : ∃ f fd, FunD p.K "treadles_down" "Loom.treadles_down" (defArgs ((clsBody (topS 15)).getD 10 (.Pass ⟨0, 0, 0, 0⟩))) (defBody ((clsBody (topS 15)).getD 10 (.Pass ⟨0, 0, 0, 0⟩))) (defScope ((clsBody (topS 15)).getD 10 (.Pass ⟨0, 0, 0, 0⟩))) [] [] f fd ∧ Cls p.K (cA p "Loom") ∧ Meth p.K (cA p "Loom") "treadles_down" f
  d__law_list : ∃ f fd, FunD p.K "_law_list" "_law_list" (defArgs (topS 29)) (defBody (topS 29)) (defScope (topS 29)) [] [] f fd ∧ p.mg "_law_list" = some (.ref f)
  m_Loom_shed : ∃ f fd, FunD p.K "shed" "Loom.shed" (defArgs ((clsBody (topS 15)).getD 5 (.Pass ⟨0, 0, 0, 0⟩))) (defBody ((clsBody (topS 15)).getD 5 (.Pass ⟨0, 0, 0, 0⟩))) (defScope ((clsBody (topS 15)).getD 5 (.Pass ⟨0, 0, 0, 0⟩))) [] [] f fd ∧ Cls p.K (cA p "Loom") ∧ Meth p.K (cA p "Loom") "shed" f
  m_Loom_cloth : ∃ f fd, FunD p.K "cloth" "Loom.cloth" (defArgs ((clsBody (topS 15)).getD 11 (.Pass ⟨0, 0, 0, 0⟩))) (defBody ((clsBody (topS 15)).getD 11 (.Pass ⟨0, 0, 0, 0⟩))) (defScope ((clsBody (topS 15)).getD 11 (.Pass ⟨0, 0, 0, 0⟩))) [] [] f fd ∧ Cls p.K (cA p "Loom") ∧ Meth p.K (cA p "Loom") "cloth" f
  d__law_list__k2 : ∃ f fd, FunD p.K "_law_list" "_law_list" (defArgs (topS 29)) (defBody (topS 29)) (defScope (topS 29)) [] [] f fd ∧ p.mg "_law_list" = some (.ref f)
  m_Loom_colours : ∃ f fd, FunD p.K "colours" "Loom.colours" (defArgs ((clsBody (topS 15)).getD 12 (.Pass ⟨0, 0, 0, 0⟩))) (defBody ((clsBody (topS 15)).getD 12 (.Pass ⟨0, 0, 0, 0⟩))) (defScope ((clsBody (topS 15)).getD 12 (.Pass ⟨0, 0, 0, 0⟩))) [] [] f fd ∧ Cls p.K (cA p "Loom") ∧ Meth p.K (cA p "Loom") "colours" f
  d__law_answered : ∃ f fd, FunD p.K "_law_answered" "_law_answered" (defArgs (topS 30)) (defBody (topS 30)) (defScope (topS 30)) [] [] f fd ∧ p.mg "_law_answered" = some (.ref f)
  d__law_done : ∃ f fd, FunD p.K "_law_done" "_law_done" (defArgs (topS 32)) (defBody (topS 32)) (defScope (topS 32)) [] [] f fd ∧ p.mg "_law_done" = some (.ref f)
  d_law : ∃ f fd, FunD p.K "law" "law" (defArgs (topS 33)) (defBody (topS 33)) (defScope (topS 33)) [] [] f fd ∧ p.mg "law" = some (.ref f)
abbrev s__law_cell_at : Stmt := (topS 17)
abbrev N__law_cell_at : List Str := ["script", "k"]
abbrev V__law_cell_at : List Str := ["script", "k"]
abbrev G__law_cell_at : List Str := ["len"]
theorem sc__law_cell_at : Sc s__law_cell_at N__law_cell_at V__law_cell_at ["script", "k"] G__law_cell_at := ⟨⟨rfl, rfl, rfl, by decide +kernel, rfl, by decide +kernel, by decide +kernel⟩, by decide +kernel, by decide +kernel, by decide +kernel⟩
def q__law_cell_at (script1 : (List Int)) (k2 : Int) : M Int := M.bind (M.bind (M.ok k2) fun y4 => M.bind (M.bind (M.ok script1) fun y3 => M.ok (y3.length : Int)) fun y5 => M.ok (decide (y4 < y5))) fun c6 => if c6 = true then M.bind (M.bind (M.ok script1) fun y7 => M.bind (M.ok k2) fun y8 => getM y7 y8) fun y9 => M.ok (y9 % ((10 : Int) ^ 61)) else M.ok (0 : Int)
def f_law_cell_at (script1 : (List Int)) (k2 : Int) : M Int := if (decide (k2 < (script1.length : Int))) = true then M.bind (getM script1 k2) fun y9 => M.ok (y9 % ((10 : Int) ^ 61)) else M.ok (0 : Int)
def r__law_cell_at (d : ((List Int) × Int × Unit)) : M Int := q__law_cell_at d.1 d.2.1
def c__law_cell_at (d : ((List Int) × Int × Unit)) : M Int := f_law_cell_at d.1 d.2.1
theorem eq__law_cell_at : r__law_cell_at = c__law_cell_at := by funext d; first | (simp only [r__law_cell_at, c__law_cell_at, q__law_cell_at, f_law_cell_at, M.bind_assoc, M.bok]; done) | (simp only [r__law_cell_at, c__law_cell_at, q__law_cell_at, f_law_cell_at, M.bind_assoc, M.bok]; rfl)
theorem bb__law_cell_at {p : Pr} (X : Facts p) {g : G} (ok : OkS p (defScope s__law_cell_at) N__law_cell_at V__law_cell_at G__law_cell_at 0 g) (hX : g.LX = List.replicate N__law_cell_at.length sAny) (script1 : (List Int)) (k2 : Int) : EvB g [(sV false (tListK p.K tInt) script1), (sV false tInt k2)] (defBody s__law_cell_at) (fun r => .rt false tInt r) (q__law_cell_at script1 k2) := (evb_ifx (wkX hX rfl) (evt_c ok.toOk c_lt (ev_vsh ok.toOk (i := 1) (j := 1) rfl rfl rfl) (ev_lenQ (md' := .sh) ok.toOk sq_k (j := 0) rfl X.g_len (ev_vsh ok.toOk (i := 0) (j := 0) rfl rfl rfl))) (evb_ret (wkX hX rfl) .sh (by intro _; rfl) (ev_modC (md' := .sh) ok.toOk (by decide) (ev_ixQ ok.toOk sq_k (ev_vsh ok.toOk (i := 0) (j := 0) rfl rfl rfl) (ev_vsh ok.toOk (i := 1) (j := 1) rfl rfl rfl)) (ev_powC (md' := .sh) (n := 61) ok.toOk (by decide) (by decide) (ev_int (md := .sh)) (ev_int (md := .sh))))) (evb_ret (wkX hX rfl) .sh (by intro _; rfl) (ev_int (md := .sh))))
theorem b__law_cell_at {p : Pr} (X : Facts p) : Body p s__law_cell_at N__law_cell_at V__law_cell_at G__law_cell_at 0 (fun (d : ((List Int) × Int × Unit)) => [(sV false (tListK p.K tInt) d.1), (sV false tInt d.2.1)]) (fun r => .rt false tInt r) r__law_cell_at := fun g ok hX d => bb__law_cell_at X ok hX d.1 d.2.1
theorem fn__law_cell_at {p : Pr} (X : Facts p) : Fn p 1 "_law_cell_at" ["script", "k"] (spM p (aCons (tListK p.K tInt) (aCons tInt aNil)) (fun r => .rt false tInt r) c__law_cell_at) := by
  obtain ⟨f, fd, hF, hm⟩ := X.d__law_cell_at
  exact ⟨f, fd, eq__law_cell_at ▸ fn_rt (m := 0) hF sc__law_cell_at (.cons (.cons .nil)) rfl rfl (b__law_cell_at X), hm, hF.kp, hF.bindsN fun _ _ _ _ _ _ us hl => match us, hl with | [_, _], _ => rfl⟩
abbrev s__law_size : Stmt := (topS 19)
abbrev N__law_size : List Str := ["cell", "small"]
abbrev V__law_size : List Str := ["cell", "small"]
abbrev G__law_size : List Str := []
theorem sc__law_size : Sc s__law_size N__law_size V__law_size ["cell", "small"] G__law_size := ⟨⟨rfl, rfl, rfl, by decide +kernel, rfl, by decide +kernel, by decide +kernel⟩, by decide +kernel, by decide +kernel, by decide +kernel⟩
def q__law_size (cell1 : Int) (small2 : Int) : M Int := M.bind (M.bind (M.bind (M.bind (M.ok cell1) fun y3 => M.bind (M.ok small2) fun y4 => divM y3 y4) fun y5 => M.ok (y5 % (4 : Int))) fun y6 => M.bind (M.ok (1 : Int)) fun y7 => M.ok (decide (y6 = y7))) fun c8 => if c8 = true then M.bind (M.ok (1 : Int)) fun y13 => M.bind (M.bind (M.bind (M.ok cell1) fun y10 => M.bind (M.bind (M.ok small2) fun y9 => M.ok ((4 : Int) * y9)) fun y11 => divM y10 y11) fun y12 => M.ok (y12 % (40 : Int))) fun y14 => M.ok (y13 + y14) else M.bind (M.ok (1 : Int)) fun y18 => M.bind (M.bind (M.ok cell1) fun y16 => M.bind (M.ok small2) fun y17 => modM y16 y17) fun y19 => M.ok (y18 + y19)
def f_law_size (cell1 : Int) (small2 : Int) : M Int := M.bind (M.bind (M.bind (divM cell1 small2) fun y5 => M.ok (y5 % (4 : Int))) fun y6 => M.ok (decide (y6 = (1 : Int)))) fun c21 => if c21 = true then M.bind (M.bind (divM cell1 ((4 : Int) * small2)) fun y12 => M.ok (y12 % (40 : Int))) fun y14 => M.ok ((1 : Int) + y14) else M.bind (modM cell1 small2) fun y19 => M.ok ((1 : Int) + y19)
def r__law_size (d : (Int × Int × Unit)) : M Int := q__law_size d.1 d.2.1
def c__law_size (d : (Int × Int × Unit)) : M Int := f_law_size d.1 d.2.1
theorem eq__law_size : r__law_size = c__law_size := by funext d; first | (simp only [r__law_size, c__law_size, q__law_size, f_law_size, M.bind_assoc, M.bok]; done) | (simp only [r__law_size, c__law_size, q__law_size, f_law_size, M.bind_assoc, M.bok]; rfl)
theorem bb__law_size {p : Pr} (X : Facts p) {g : G} (ok : OkS p (defScope s__law_size) N__law_size V__law_size G__law_size 0 g) (hX : g.LX = List.replicate N__law_size.length sAny) (cell1 : Int) (small2 : Int) : EvB g [(sV false tInt cell1), (sV false tInt small2)] (defBody s__law_size) (fun r => .rt false tInt r) (q__law_size cell1 small2) := (evb_ifx (wkX hX rfl) (evt_c ok.toOk (c_eq s_int) (ev_modC (md' := .sh) ok.toOk (by decide) (ev_div (md' := .sh) ok.toOk (ev_vsh ok.toOk (i := 0) (j := 0) rfl rfl rfl) (ev_vsh ok.toOk (i := 1) (j := 1) rfl rfl rfl)) (ev_int (md := .sh))) (ev_int (md := .sh))) (evb_ret (wkX hX rfl) .sh (by intro _; rfl) (ev_add (md' := .sh) ok.toOk (ev_int (md := .sh)) (ev_modC (md' := .sh) ok.toOk (by decide) (ev_div (md' := .sh) ok.toOk (ev_vsh ok.toOk (i := 0) (j := 0) rfl rfl rfl) (ev_mulL (md' := .sh) ok.toOk (by decide) (ev_int (md := .sh)) (ev_vsh ok.toOk (i := 1) (j := 1) rfl rfl rfl))) (ev_int (md := .sh))))) (evb_ret (wkX hX rfl) .sh (by intro _; rfl) (ev_add (md' := .sh) ok.toOk (ev_int (md := .sh)) (ev_mod (md' := .sh) ok.toOk (ev_vsh ok.toOk (i := 0) (j := 0) rfl rfl rfl) (ev_vsh ok.toOk (i := 1) (j := 1) rfl rfl rfl)))))
theorem b__law_size {p : Pr} (X : Facts p) : Body p s__law_size N__law_size V__law_size G__law_size 0 (fun (d : (Int × Int × Unit)) => [(sV false tInt d.1), (sV false tInt d.2.1)]) (fun r => .rt false tInt r) r__law_size := fun g ok hX d => bb__law_size X ok hX d.1 d.2.1
theorem fn__law_size {p : Pr} (X : Facts p) : Fn p 1 "_law_size" ["cell", "small"] (spM p (aCons tInt (aCons tInt aNil)) (fun r => .rt false tInt r) c__law_size) := by
  obtain ⟨f, fd, hF, hm⟩ := X.d__law_size
  exact ⟨f, fd, eq__law_size ▸ fn_rt (m := 0) hF sc__law_size (.cons (.cons .nil)) rfl rfl (b__law_size X), hm, hF.kp, hF.bindsN fun _ _ _ _ _ _ us hl => match us, hl with | [_, _], _ => rfl⟩
abbrev s__law_sums : Stmt := (topS 18)
abbrev N__law_sums : List Str := ["script", "behind", "many", "sums", "k", "at"]
abbrev V__law_sums : List Str := ["script", "behind", "many", "sums", "k", "at"]
abbrev G__law_sums : List Str := ["range", "len"]
theorem sc__law_sums : Sc s__law_sums N__law_sums V__law_sums ["script", "behind", "many"] G__law_sums := ⟨⟨rfl, rfl, rfl, by decide +kernel, rfl, by decide +kernel, by decide +kernel⟩, by decide +kernel, by decide +kernel, by decide +kernel⟩
def r_f_law_sums_l1 (script1 : (List Int)) (behind2 : Int) (many3 : Int) : ((List Int)) → Int → M ((List Int)) := fun s13 k14 => M.bind (M.bind (M.bind (M.ok k14) fun y16 => M.bind (M.ok behind2) fun y17 => M.ok (y16 - y17)) fun y18 => M.bind (M.ok many3) fun y19 => modM y18 y19) fun at15 => M.bind (M.bind (M.bind (M.ok s13) fun y20 => M.bind (M.ok at15) fun y21 => getM y20 y21) fun y25 => M.bind (M.bind (M.bind (M.ok script1) fun y22 => M.bind (M.ok k14) fun y23 => getM y22 y23) fun y24 => M.ok (y24 % ((10 : Int) ^ 61))) fun y26 => M.ok (y25 + y26)) fun y27 => M.bind (M.ok at15) fun i28 => M.bind (setM s13 i28 y27) fun sums29 => M.ok sums29
def f_law_sums_l1 (script1 : (List Int)) (behind2 : Int) (many3 : Int) : ((List Int)) → Int → M ((List Int)) := fun s13 k14 => M.bind (modM (k14 - behind2) many3) fun at15 => M.bind (M.bind (getM s13 at15) fun y25 => M.bind (M.bind (getM script1 k14) fun y24 => M.ok (y24 % ((10 : Int) ^ 61))) fun y26 => M.ok (y25 + y26)) fun y27 => M.bind (setM s13 at15 y27) fun sums29 => M.ok sums29
theorem eq_f_law_sums_l1 (script1 : (List Int)) (behind2 : Int) (many3 : Int) : r_f_law_sums_l1 script1 behind2 many3 = f_law_sums_l1 script1 behind2 many3 := by funext s13 k14; first | (simp only [r_f_law_sums_l1, f_law_sums_l1, M.bind_assoc, M.bok]; done) | (simp only [r_f_law_sums_l1, f_law_sums_l1, M.bind_assoc, M.bok]; rfl)
def q__law_sums (script1 : (List Int)) (behind2 : Int) (many3 : Int) : M (List Int) := M.bind (M.bind (M.bind (M.ok many3) fun y5 => rangeM 0 y5) fun xs9 => compM (fun k6 => M.bind (M.ok true) fun c7 => if c7 = true then M.bind (M.ok (0 : Int)) fun y8 => M.ok (some y8) else M.ok none) xs9) fun sums4 => M.bind (M.bind (M.ok behind2) fun y11 => M.bind (M.bind (M.ok script1) fun y10 => M.ok (y10.length : Int)) fun y12 => rangeM y11 y12) fun xs30 => M.bind (forM (r_f_law_sums_l1 script1 behind2 many3) sums4 xs30) fun (s31 : ((List Int))) => M.ok s31
def f_law_sums (script1 : (List Int)) (behind2 : Int) (many3 : Int) : M (List Int) := M.bind (M.bind (rangeM 0 many3) fun xs9 => compM (fun k6 => M.ok (some (0 : Int))) xs9) fun sums4 => M.bind (rangeM behind2 (script1.length : Int)) fun xs30 => M.bind (forM (f_law_sums_l1 script1 behind2 many3) sums4 xs30) fun (s31 : ((List Int))) => M.ok s31
def r__law_sums (d : ((List Int) × Int × Int × Unit)) : M (List Int) := q__law_sums d.1 d.2.1 d.2.2.1
def c__law_sums (d : ((List Int) × Int × Int × Unit)) : M (List Int) := f_law_sums d.1 d.2.1 d.2.2.1
theorem eq__law_sums : r__law_sums = c__law_sums := by funext d; first | (simp only [r__law_sums, c__law_sums, q__law_sums, f_law_sums, M.bind_assoc, M.bok, eq_f_law_sums_l1]; done) | (simp only [r__law_sums, c__law_sums, q__law_sums, f_law_sums, M.bind_assoc, M.bok, eq_f_law_sums_l1]; rfl)
theorem bb__law_sums {p : Pr} (X : Facts p) {g : G} (ok : OkS p (defScope s__law_sums) N__law_sums V__law_sums G__law_sums 0 g) (hX : g.LX = List.replicate N__law_sums.length sAny) (script1 : (List Int)) (behind2 : Int) (many3 : Int) : EvB g [(sV false (tListK p.K tInt) script1), (sV false tInt behind2), (sV false tInt many3), sAny, sAny, sAny] (defBody s__law_sums) (fun r => .rtL false tInt r) (q__law_sums script1 behind2 many3) := (evb_ownC (md := .sh) (VV' := []) (GG' := []) (i := 4) (i2 := 3) ok rfl (wkX hX rfl) .sh (by decide +kernel) (by rfl) (by decide +kernel) (evi_range1 ok.toOk (j := 0) rfl X.g_range (ev_vsh ok.toOk (i := 2) (j := 2) rfl rfl rfl)) rfl rfl no_any (by decide +kernel) (by decide +kernel) (by decide +kernel) (by decide +kernel) (fun g' okc k6 => evpts_nil) (fun g' okc k6 => (ev_int (md := .sh))) fun sums4 => (evb_for (LF := (fun (s13 : ((List Int))) => [(sV false (tListK p.K tInt) script1), (sV false tInt behind2), (sV false tInt many3), (sOwn false tInt s13), sAny, sAny])) (s0 := sums4) ok (wkX hX rfl) (evi_range2 ok.toOk (j := 0) rfl X.g_range (ev_vsh ok.toOk (i := 1) (j := 1) rfl rfl rfl) (ev_lenQ (md' := .sh) ok.toOk sq_k (j := 1) rfl X.g_len (ev_vsh ok.toOk (i := 0) (j := 0) rfl rfl rfl))) (Wk.s (Wk.s (Wk.s (Wk.s (Wk.s (Wk.s Wk.n)))))) (fun _ => evg_name ok (i := 4) (j := 4) rfl rfl) (fun s13 k14 => (evb_set ok (i := 5) (j := 5) rfl rfl (wkX hX rfl) .sh (ev_mod (md' := .sh) ok.toOk (ev_subt (md' := .sh) ok.toOk (ev_vsh ok.toOk (i := 4) (j := 4) rfl rfl rfl) (ev_vsh ok.toOk (i := 1) (j := 1) rfl rfl rfl)) (ev_vsh ok.toOk (i := 2) (j := 2) rfl rfl rfl)) fun at15 => (evb_setitem ok (wkX hX rfl) (i := 3) (j := 3) rfl rfl rfl .sh (ev_borrow (i := 3) (.inl flInt) rfl (ev_add (md' := .sh) ok.toOk (ev_ixQ ok.toOk sq_l (ev_vsh ok.toOk (i := 3) (j := 3) rfl rfl rfl) (ev_vsh ok.toOk (i := 5) (j := 5) rfl rfl rfl)) (ev_modC (md' := .sh) ok.toOk (by decide) (ev_ixQ ok.toOk sq_k (ev_vsh ok.toOk (i := 0) (j := 0) rfl rfl rfl) (ev_vsh ok.toOk (i := 4) (j := 4) rfl rfl rfl)) (ev_powC (md' := .sh) (n := 61) ok.toOk (by decide) (by decide) (ev_int (md := .sh)) (ev_int (md := .sh)))))) (ev_vsh ok.toOk (i := 5) (j := 5) rfl rfl rfl) fun sums29 => (evb_go (by rfl) (Wk.s (Wk.s (Wk.s (Wk.s (Wk.a (Wk.a Wk.n)))))))))) fun s31 => (evb_retOwn ok.toOk (i := 3) (j := 3) rfl rfl rfl (.inl rfl) (by rfl))))
theorem b__law_sums {p : Pr} (X : Facts p) : Body p s__law_sums N__law_sums V__law_sums G__law_sums 0 (fun (d : ((List Int) × Int × Int × Unit)) => [(sV false (tListK p.K tInt) d.1), (sV false tInt d.2.1), (sV false tInt d.2.2.1), sAny, sAny, sAny]) (fun r => .rtL false tInt r) r__law_sums := fun g ok hX d => bb__law_sums X ok hX d.1 d.2.1 d.2.2.1
theorem fn__law_sums {p : Pr} (X : Facts p) : Fn p 1 "_law_sums" ["script", "behind", "many"] (spM p (aCons (tListK p.K tInt) (aCons tInt (aCons tInt aNil))) (fun r => .rtL false tInt r) c__law_sums) := by
  obtain ⟨f, fd, hF, hm⟩ := X.d__law_sums
  exact ⟨f, fd, eq__law_sums ▸ fn_rtL (m := 3) hF sc__law_sums (.cons (.cons (.cons .nil))) rfl rfl (b__law_sums X), hm, hF.kp, hF.bindsN fun _ _ _ _ _ _ us hl => match us, hl with | [_, _, _], _ => rfl⟩
abbrev s__law_threading : Stmt := (topS 20)
abbrev N__law_threading : List Str := ["script", "ends", "high", "step", "sums", "k"]
abbrev V__law_threading : List Str := ["script", "ends", "high", "step", "sums"]
abbrev G__law_threading : List Str := ["_law_cell_at", "_law_sums", "range"]
theorem sc__law_threading : Sc s__law_threading N__law_threading V__law_threading ["script", "ends", "high"] G__law_threading := ⟨⟨rfl, rfl, rfl, by decide +kernel, rfl, by decide +kernel, by decide +kernel⟩, by decide +kernel, by decide +kernel, by decide +kernel⟩
def q__law_threading (script1 : (List Int)) (ends2 : Int) (high3 : Int) : M (List Int) := M.bind (M.bind (M.bind (M.bind (M.ok script1) fun y7 => M.bind (M.bind (M.ok (2 : Int)) fun y5 => M.bind (M.ok ()) fun y6 => M.ok (y5, y6)) fun y8 => M.ok (y7, y8)) c__law_cell_at) fun y11 => M.ok (y11 / (3 : Int))) fun step4 => M.bind (M.bind (M.bind (M.ok script1) fun y17 => M.bind (M.bind (M.ok (3 : Int)) fun y15 => M.bind (M.bind (M.ok ends2) fun y13 => M.bind (M.ok ()) fun y14 => M.ok (y13, y14)) fun y16 => M.ok (y15, y16)) fun y18 => M.ok (y17, y18)) c__law_sums) fun sums12 => M.bind (M.bind (M.ok ends2) fun y22 => rangeM 0 y22) fun xs34 => compM (fun k23 => M.bind (M.ok true) fun c32 => if c32 = true then M.bind (M.bind (M.bind (M.bind (M.ok sums12) fun y24 => M.bind (M.ok k23) fun y25 => getM y24 y25) fun y28 => M.bind (M.bind (M.ok k23) fun y26 => M.bind (M.ok step4) fun y27 => mulM y26 y27) fun y29 => M.ok (y28 + y29)) fun y30 => M.bind (M.ok high3) fun y31 => modM y30 y31) fun y33 => M.ok (some y33) else M.ok none) xs34
def f_law_threading (script1 : (List Int)) (ends2 : Int) (high3 : Int) : M (List Int) := M.bind (M.bind (f_law_cell_at script1 (2 : Int)) fun y11 => M.ok (y11 / (3 : Int))) fun step4 => M.bind (f_law_sums script1 (3 : Int) ends2) fun sums12 => M.bind (rangeM 0 ends2) fun xs34 => compM (fun k23 => M.bind (M.bind (M.bind (getM sums12 k23) fun y28 => M.bind (mulM k23 step4) fun y29 => M.ok (y28 + y29)) fun y30 => modM y30 high3) fun y33 => M.ok (some y33)) xs34
def r__law_threading (d : ((List Int) × Int × Int × Unit)) : M (List Int) := q__law_threading d.1 d.2.1 d.2.2.1
def c__law_threading (d : ((List Int) × Int × Int × Unit)) : M (List Int) := f_law_threading d.1 d.2.1 d.2.2.1
theorem eq__law_threading : r__law_threading = c__law_threading := by funext d; first | (simp only [r__law_threading, c__law_threading, q__law_threading, f_law_threading, M.bind_assoc, M.bok, c__law_cell_at, c__law_sums]; done) | (simp only [r__law_threading, c__law_threading, q__law_threading, f_law_threading, M.bind_assoc, M.bok, c__law_cell_at, c__law_sums]; rfl)
theorem bb__law_threading {p : Pr} (X : Facts p) {g : G} (ok : OkS p (defScope s__law_threading) N__law_threading V__law_threading G__law_threading 1 g) (hX : g.LX = List.replicate N__law_threading.length sAny) (script1 : (List Int)) (ends2 : Int) (high3 : Int) : EvB g [(sV false (tListK p.K tInt) script1), (sV false tInt ends2), (sV false tInt high3), sAny, sAny, sAny] (defBody s__law_threading) (fun r => .rtL false tInt r) (q__law_threading script1 ends2 high3) := (evb_set ok (i := 3) (j := 3) rfl rfl (wkX hX rfl) .sh (ev_divC (md' := .sh) ok.toOk (by decide) (by decide) (ev_call (md' := .sh) ok.toOk (fn__law_cell_at X) (by decide) (j := 0) rfl .sh (eva_cons (md := .sh) (ev_vsh ok.toOk (i := 0) (j := 0) rfl rfl rfl) (eva_cons (md := .sh) (ev_int (md := .sh)) eva_nil))) (ev_int (md := .sh))) fun step4 => (evb_set ok (i := 4) (j := 4) rfl rfl (wkX hX rfl) .sh (ev_ofL (evl_call (md' := .sh) ok.toOk (fn__law_sums X) (by decide) (j := 1) rfl .sh (eva_cons (md := .sh) (ev_vsh ok.toOk (i := 0) (j := 0) rfl rfl rfl) (eva_cons (md := .sh) (ev_int (md := .sh)) (eva_cons (md := .sh) (ev_vsh ok.toOk (i := 1) (j := 1) rfl rfl rfl) eva_nil))))) fun sums12 => (evb_retL (wkX hX rfl) .sh (by intro _; rfl) (evl_lc (md := .sh) (VV' := ["sums", "k", "step", "high"]) (GG' := []) (i := 5) ok.toOk (evi_range1 ok.toOk (j := 2) rfl X.g_range (ev_vsh ok.toOk (i := 1) (j := 1) rfl rfl rfl)) rfl rfl no_any (by decide +kernel) (by decide +kernel) (by decide +kernel) (by decide +kernel) (fun g' okc k23 => evpts_nil) (fun g' okc k23 => (ev_mod (md' := .sh) okc (ev_add (md' := .sh) okc (ev_ixQ okc sq_l (ev_vsh okc (i := 4) (j := 0) rfl rfl rfl) (ev_vsh okc (i := 5) (j := 1) rfl rfl rfl)) (ev_mul (md' := .sh) okc (ev_vsh okc (i := 5) (j := 1) rfl rfl rfl) (ev_vsh okc (i := 3) (j := 2) rfl rfl rfl))) (ev_vsh okc (i := 2) (j := 3) rfl rfl rfl)))))))
theorem b__law_threading {p : Pr} (X : Facts p) : Body p s__law_threading N__law_threading V__law_threading G__law_threading 1 (fun (d : ((List Int) × Int × Int × Unit)) => [(sV false (tListK p.K tInt) d.1), (sV false tInt d.2.1), (sV false tInt d.2.2.1), sAny, sAny, sAny]) (fun r => .rtL false tInt r) r__law_threading := fun g ok hX d => bb__law_threading X ok hX d.1 d.2.1 d.2.2.1
theorem fn__law_threading {p : Pr} (X : Facts p) : Fn p 2 "_law_threading" ["script", "ends", "high"] (spM p (aCons (tListK p.K tInt) (aCons tInt (aCons tInt aNil))) (fun r => .rtL false tInt r) c__law_threading) := by
  obtain ⟨f, fd, hF, hm⟩ := X.d__law_threading
  exact ⟨f, fd, eq__law_threading ▸ fn_rtL (m := 3) hF sc__law_threading (.cons (.cons (.cons .nil))) rfl rfl (b__law_threading X), hm, hF.kp, hF.bindsN fun _ _ _ _ _ _ us hl => match us, hl with | [_, _, _], _ => rfl⟩
abbrev s__law_tie : Stmt := (topS 21)
abbrev N__law_tie : List Str := ["number", "high", "tie", "shaft"]
abbrev V__law_tie : List Str := ["number", "high", "tie", "shaft"]
abbrev G__law_tie : List Str := ["range"]
theorem sc__law_tie : Sc s__law_tie N__law_tie V__law_tie ["number", "high"] G__law_tie := ⟨⟨rfl, rfl, rfl, by decide +kernel, rfl, by decide +kernel, by decide +kernel⟩, by decide +kernel, by decide +kernel, by decide +kernel⟩
def r_f_law_tie_l1  : (Int × (List Int)) → Int → M (Int × (List Int)) := fun s5 shaft6 => M.bind (M.bind (M.bind (M.ok s5.1) fun y7 => M.ok (y7 % (2 : Int))) fun y8 => M.bind (M.ok (1 : Int)) fun y9 => M.ok (decide (y8 = y9))) fun c10 => M.bind (if c10 = true then M.bind (M.ok shaft6) fun y12 => M.bind (pushM s5.2 y12) fun tie11 => M.ok tie11 else M.ok s5.2) fun (s13 : ((List Int))) => M.bind (M.bind (M.ok s5.1) fun y15 => M.ok (y15 / (2 : Int))) fun number14 => M.ok (number14, s13)
def f_law_tie_l1  : (Int × (List Int)) → Int → M (Int × (List Int)) := fun s5 shaft6 => M.bind (if (decide ((s5.1 % (2 : Int)) = (1 : Int))) = true then M.bind (pushM s5.2 shaft6) fun tie11 => M.ok tie11 else M.ok s5.2) fun (s13 : ((List Int))) => let number14 : Int := (s5.1 / (2 : Int)); M.ok (number14, s13)
theorem eq_f_law_tie_l1  : r_f_law_tie_l1  = f_law_tie_l1  := by funext s5 shaft6; first | (simp only [r_f_law_tie_l1, f_law_tie_l1, M.bind_assoc, M.bok]; done) | (simp only [r_f_law_tie_l1, f_law_tie_l1, M.bind_assoc, M.bok]; rfl)
def q__law_tie (number1 : Int) (high2 : Int) : M (List Int) := M.bind (M.ok []) fun tie3 => M.bind (M.bind (M.ok high2) fun y4 => rangeM 0 y4) fun xs16 => M.bind (forM r_f_law_tie_l1 (number1, tie3) xs16) fun (s17 : (Int × (List Int))) => M.ok s17.2
def f_law_tie (number1 : Int) (high2 : Int) : M (List Int) := let tie3 : (List Int) := []; M.bind (rangeM 0 high2) fun xs16 => M.bind (forM f_law_tie_l1 (number1, tie3) xs16) fun (s17 : (Int × (List Int))) => M.ok s17.2
def r__law_tie (d : (Int × Int × Unit)) : M (List Int) := q__law_tie d.1 d.2.1
def c__law_tie (d : (Int × Int × Unit)) : M (List Int) := f_law_tie d.1 d.2.1
theorem eq__law_tie : r__law_tie = c__law_tie := by funext d; first | (simp only [r__law_tie, c__law_tie, q__law_tie, f_law_tie, M.bind_assoc, M.bok, eq_f_law_tie_l1]; done) | (simp only [r__law_tie, c__law_tie, q__law_tie, f_law_tie, M.bind_assoc, M.bok, eq_f_law_tie_l1]; rfl)
theorem bb__law_tie {p : Pr} (X : Facts p) {g : G} (ok : OkS p (defScope s__law_tie) N__law_tie V__law_tie G__law_tie 0 g) (hX : g.LX = List.replicate N__law_tie.length sAny) (number1 : Int) (high2 : Int) : EvB g [(sV false tInt number1), (sV false tInt high2), sAny, sAny] (defBody s__law_tie) (fun r => .rtL false tInt r) (q__law_tie number1 high2) := (evb_own ok (i := 2) (j := 2) rfl rfl (wkX hX rfl) .sh (evl_nil (md := .sh) (S := tInt)) fun tie3 => (evb_for (LF := (fun (s5 : (Int × (List Int))) => [(sV false tInt s5.1), (sV false tInt high2), (sOwn false tInt s5.2), sAny])) (s0 := (number1, tie3)) ok (wkX hX rfl) (evi_range1 ok.toOk (j := 0) rfl X.g_range (ev_vsh ok.toOk (i := 1) (j := 1) rfl rfl rfl)) (Wk.s (Wk.s (Wk.s (Wk.s Wk.n)))) (fun _ => evg_name ok (i := 3) (j := 3) rfl rfl) (fun s5 shaft6 => (evb_if (LJ := (fun (s13 : ((List Int))) => [(sV false tInt s5.1), (sV false tInt high2), (sOwn false tInt s13), (sV false tInt shaft6)])) (wkX hX rfl) (evt_c ok.toOk (c_eq s_int) (ev_modC (md' := .sh) ok.toOk (by decide) (ev_vsh ok.toOk (i := 0) (j := 0) rfl rfl rfl) (ev_int (md := .sh))) (ev_int (md := .sh))) (evb_append ok (wkX hX rfl) (i := 2) (j := 2) rfl rfl rfl .sh (ev_vsh ok.toOk (i := 3) (j := 3) rfl rfl rfl) fun tie11 => (evb_nx (by rfl) (Wk.s (Wk.s (Wk.s (Wk.s Wk.n)))))) (evb_nx (by rfl) (Wk.s (Wk.s (Wk.s (Wk.s Wk.n))))) fun s13 => (evb_set ok (i := 0) (j := 0) rfl rfl (wkX hX rfl) .sh (ev_divC (md' := .sh) ok.toOk (by decide) (by decide) (ev_vsh ok.toOk (i := 0) (j := 0) rfl rfl rfl) (ev_int (md := .sh))) fun number14 => (evb_go (by rfl) (Wk.s (Wk.s (Wk.s (Wk.a Wk.n)))))))) fun s17 => (evb_retOwn ok.toOk (i := 2) (j := 2) rfl rfl rfl (.inl rfl) (by rfl))))
theorem b__law_tie {p : Pr} (X : Facts p) : Body p s__law_tie N__law_tie V__law_tie G__law_tie 0 (fun (d : (Int × Int × Unit)) => [(sV false tInt d.1), (sV false tInt d.2.1), sAny, sAny]) (fun r => .rtL false tInt r) r__law_tie := fun g ok hX d => bb__law_tie X ok hX d.1 d.2.1
theorem fn__law_tie {p : Pr} (X : Facts p) : Fn p 1 "_law_tie" ["number", "high"] (spM p (aCons tInt (aCons tInt aNil)) (fun r => .rtL false tInt r) c__law_tie) := by
  obtain ⟨f, fd, hF, hm⟩ := X.d__law_tie
  exact ⟨f, fd, eq__law_tie ▸ fn_rtL (m := 2) hF sc__law_tie (.cons (.cons .nil)) rfl rfl (b__law_tie X), hm, hF.kp, hF.bindsN fun _ _ _ _ _ _ us hl => match us, hl with | [_, _], _ => rfl⟩
abbrev s__law_ties : Stmt := (topS 22)
abbrev N__law_ties : List Str := ["script", "treadles", "high", "sums", "start", "k"]
abbrev V__law_ties : List Str := ["script", "treadles", "high", "sums", "start"]
abbrev G__law_ties : List Str := ["_law_sums", "_law_cell_at", "range"]
theorem sc__law_ties : Sc s__law_ties N__law_ties V__law_ties ["script", "treadles", "high"] G__law_ties := ⟨⟨rfl, rfl, rfl, by decide +kernel, rfl, by decide +kernel, by decide +kernel⟩, by decide +kernel, by decide +kernel, by decide +kernel⟩
def q__law_ties (script1 : (List Int)) (treadles2 : Int) (high3 : Int) : M (List (List Int)) := M.bind (M.bind (M.bind (M.ok script1) fun y9 => M.bind (M.bind (M.ok (3 : Int)) fun y7 => M.bind (M.bind (M.ok treadles2) fun y5 => M.bind (M.ok ()) fun y6 => M.ok (y5, y6)) fun y8 => M.ok (y7, y8)) fun y10 => M.ok (y9, y10)) c__law_sums) fun sums4 => M.bind (M.bind (M.bind (M.bind (M.bind (M.ok script1) fun y17 => M.bind (M.bind (M.ok (1 : Int)) fun y15 => M.bind (M.ok ()) fun y16 => M.ok (y15, y16)) fun y18 => M.ok (y17, y18)) c__law_cell_at) fun y21 => M.ok (y21 / (160 : Int))) fun y22 => M.ok (y22 % (2147483647 : Int))) fun start14 => M.bind (M.bind (M.ok treadles2) fun y23 => rangeM 0 y23) fun xs45 => compM (fun k24 => M.bind (M.ok true) fun c43 => if c43 = true then M.bind (M.bind (M.bind (M.bind (M.bind (M.bind (M.ok sums4) fun y25 => M.bind (M.ok k24) fun y26 => getM y25 y26) fun y27 => M.ok (y27 / (41 : Int))) fun y35 => M.bind (M.bind (M.bind (M.ok start14) fun y32 => M.bind (M.bind (M.bind (M.ok k24) fun y28 => M.bind (M.ok k24) fun y29 => mulM y28 y29) fun y30 => M.bind (M.ok (1 : Int)) fun y31 => M.ok (y30 + y31)) fun y33 => mulM y32 y33) fun y34 => M.ok (y34 % (1000003 : Int))) fun y36 => M.ok (y35 + y36)) fun y39 => M.bind (M.bind (M.ok high3) fun y37 => M.bind (M.ok ()) fun y38 => M.ok (y37, y38)) fun y40 => M.ok (y39, y40)) c__law_tie) fun y44 => M.ok (some y44) else M.ok none) xs45
def f_law_ties (script1 : (List Int)) (treadles2 : Int) (high3 : Int) : M (List (List Int)) := M.bind (f_law_sums script1 (3 : Int) treadles2) fun sums4 => M.bind (M.bind (M.bind (f_law_cell_at script1 (1 : Int)) fun y21 => M.ok (y21 / (160 : Int))) fun y22 => M.ok (y22 % (2147483647 : Int))) fun start14 => M.bind (rangeM 0 treadles2) fun xs45 => compM (fun k24 => M.bind (M.bind (M.bind (M.bind (getM sums4 k24) fun y27 => M.ok (y27 / (41 : Int))) fun y35 => M.bind (M.bind (M.bind (M.bind (mulM k24 k24) fun y30 => M.ok (y30 + (1 : Int))) fun y33 => mulM start14 y33) fun y34 => M.ok (y34 % (1000003 : Int))) fun y36 => M.ok (y35 + y36)) fun y41 => f_law_tie y41 high3) fun y44 => M.ok (some y44)) xs45
def r__law_ties (d : ((List Int) × Int × Int × Unit)) : M (List (List Int)) := q__law_ties d.1 d.2.1 d.2.2.1
def c__law_ties (d : ((List Int) × Int × Int × Unit)) : M (List (List Int)) := f_law_ties d.1 d.2.1 d.2.2.1
theorem eq__law_ties : r__law_ties = c__law_ties := by funext d; first | (simp only [r__law_ties, c__law_ties, q__law_ties, f_law_ties, M.bind_assoc, M.bok, c__law_cell_at, c__law_sums, c__law_tie]; done) | (simp only [r__law_ties, c__law_ties, q__law_ties, f_law_ties, M.bind_assoc, M.bok, c__law_cell_at, c__law_sums, c__law_tie]; rfl)
theorem bb__law_ties {p : Pr} (X : Facts p) {g : G} (ok : OkS p (defScope s__law_ties) N__law_ties V__law_ties G__law_ties 1 g) (hX : g.LX = List.replicate N__law_ties.length sAny) (script1 : (List Int)) (treadles2 : Int) (high3 : Int) : EvB g [(sV false (tListK p.K tInt) script1), (sV false tInt treadles2), (sV false tInt high3), sAny, sAny, sAny] (defBody s__law_ties) (fun r => .rtL false (tList tInt) r) (q__law_ties script1 treadles2 high3) := (evb_set ok (i := 3) (j := 3) rfl rfl (wkX hX rfl) .sh (ev_ofL (evl_call (md' := .sh) ok.toOk (fn__law_sums X) (by decide) (j := 0) rfl .sh (eva_cons (md := .sh) (ev_vsh ok.toOk (i := 0) (j := 0) rfl rfl rfl) (eva_cons (md := .sh) (ev_int (md := .sh)) (eva_cons (md := .sh) (ev_vsh ok.toOk (i := 1) (j := 1) rfl rfl rfl) eva_nil))))) fun sums4 => (evb_set ok (i := 4) (j := 4) rfl rfl (wkX hX rfl) .sh (ev_modC (md' := .sh) ok.toOk (by decide) (ev_divC (md' := .sh) ok.toOk (by decide) (by decide) (ev_call (md' := .sh) ok.toOk (fn__law_cell_at X) (by decide) (j := 1) rfl .sh (eva_cons (md := .sh) (ev_vsh ok.toOk (i := 0) (j := 0) rfl rfl rfl) (eva_cons (md := .sh) (ev_int (md := .sh)) eva_nil))) (ev_int (md := .sh))) (ev_int (md := .sh))) fun start14 => (evb_retL (wkX hX rfl) .sh (by intro _; rfl) (evl_lc (md := .sh) (VV' := ["sums", "k", "start", "high"]) (GG' := ["_law_tie"]) (i := 5) ok.toOk (evi_range1 ok.toOk (j := 2) rfl X.g_range (ev_vsh ok.toOk (i := 1) (j := 1) rfl rfl rfl)) rfl rfl no_any (by decide +kernel) (by decide +kernel) (by decide +kernel) (by decide +kernel) (fun g' okc k24 => evpts_nil) (fun g' okc k24 => (ev_ofL (evl_call (md' := .sh) okc (fn__law_tie X) (by decide) (j := 0) rfl .sh (eva_cons (md := .sh) (ev_add (md' := .sh) okc (ev_divC (md' := .sh) okc (by decide) (by decide) (ev_ixQ okc sq_l (ev_vsh okc (i := 3) (j := 0) rfl rfl rfl) (ev_vsh okc (i := 5) (j := 1) rfl rfl rfl)) (ev_int (md := .sh))) (ev_modC (md' := .sh) okc (by decide) (ev_mul (md' := .sh) okc (ev_vsh okc (i := 4) (j := 2) rfl rfl rfl) (ev_add (md' := .sh) okc (ev_mul (md' := .sh) okc (ev_vsh okc (i := 5) (j := 1) rfl rfl rfl) (ev_vsh okc (i := 5) (j := 1) rfl rfl rfl)) (ev_int (md := .sh)))) (ev_int (md := .sh)))) (eva_cons (md := .sh) (ev_vsh okc (i := 2) (j := 3) rfl rfl rfl) eva_nil)))))))))
theorem b__law_ties {p : Pr} (X : Facts p) : Body p s__law_ties N__law_ties V__law_ties G__law_ties 1 (fun (d : ((List Int) × Int × Int × Unit)) => [(sV false (tListK p.K tInt) d.1), (sV false tInt d.2.1), (sV false tInt d.2.2.1), sAny, sAny, sAny]) (fun r => .rtL false (tList tInt) r) r__law_ties := fun g ok hX d => bb__law_ties X ok hX d.1 d.2.1 d.2.2.1
theorem fn__law_ties {p : Pr} (X : Facts p) : Fn p 2 "_law_ties" ["script", "treadles", "high"] (spM p (aCons (tListK p.K tInt) (aCons tInt (aCons tInt aNil))) (fun r => .rtL false (tList tInt) r) c__law_ties) := by
  obtain ⟨f, fd, hF, hm⟩ := X.d__law_ties
  exact ⟨f, fd, eq__law_ties ▸ fn_rtL (m := 3) hF sc__law_ties (.cons (.cons (.cons .nil))) rfl rfl (b__law_ties X), hm, hF.kp, hF.bindsN fun _ _ _ _ _ _ us hl => match us, hl with | [_, _, _], _ => rfl⟩
abbrev s_tie_rises : Stmt := (topS 8)
abbrev N_tie_rises : List Str := ["tie", "last", "shaft"]
abbrev V_tie_rises : List Str := ["tie", "last", "shaft"]
abbrev G_tie_rises : List Str := ["MOST_IN_DRAFT"]
theorem sc_tie_rises : Sc s_tie_rises N_tie_rises V_tie_rises ["tie"] G_tie_rises := ⟨⟨rfl, rfl, rfl, by decide +kernel, rfl, by decide +kernel, by decide +kernel⟩, by decide +kernel, by decide +kernel, by decide +kernel⟩
def r_f_tie_rises_l1  : (Int) → Int → M (Fl (Int) Bool) := fun s4 shaft5 => M.bind (M.ok ((decide (shaft5 ≤ s4)) || (decide ((40 : Int) ≤ shaft5)))) fun c11 => if c11 = true then M.bind (M.ok false) fun r12 => M.ok (Fl.rt r12) else M.bind (M.ok shaft5) fun last13 => M.ok (Fl.nx last13)
def f_tie_rises_l1  : (Int) → Int → M (Fl (Int) Bool) := fun s4 shaft5 => if ((decide (shaft5 ≤ s4)) || (decide ((40 : Int) ≤ shaft5))) = true then M.ok (Fl.rt false) else let last13 : Int := shaft5; M.ok (Fl.nx last13)
theorem eq_f_tie_rises_l1  : r_f_tie_rises_l1  = f_tie_rises_l1  := by funext s4 shaft5; first | (simp only [r_f_tie_rises_l1, f_tie_rises_l1, M.bind_assoc, M.bok]; done) | (simp only [r_f_tie_rises_l1, f_tie_rises_l1, M.bind_assoc, M.bok]; rfl)
def q_tie_rises (tie1 : (List Int)) : M Bool := M.bind (M.bind (M.ok (1 : Int)) fun y3 => M.ok (-y3)) fun last2 => M.bind (M.ok tie1) fun xs15 => M.bind (forF r_f_tie_rises_l1 last2 xs15) (Fl.el (fun (s16 : (Int)) => M.ok true) fun r18 => M.ok r18)
def f_tie_rises (tie1 : (List Int)) : M Bool := let last2 : Int := (-(1 : Int)); M.bind (forF f_tie_rises_l1 last2 tie1) (Fl.el (fun (s16 : (Int)) => M.ok true) fun r18 => M.ok r18)
def r_tie_rises (d : ((List Int) × Unit)) : M Bool := q_tie_rises d.1
def c_tie_rises (d : ((List Int) × Unit)) : M Bool := f_tie_rises d.1
theorem eq_tie_rises : r_tie_rises = c_tie_rises := by funext d; first | (simp only [r_tie_rises, c_tie_rises, q_tie_rises, f_tie_rises, M.bind_assoc, M.bok, eq_f_tie_rises_l1]; done) | (simp only [r_tie_rises, c_tie_rises, q_tie_rises, f_tie_rises, M.bind_assoc, M.bok, eq_f_tie_rises_l1]; rfl)
theorem bb_tie_rises {p : Pr} (X : Facts p) {g : G} (ok : OkS p (defScope s_tie_rises) N_tie_rises V_tie_rises G_tie_rises 0 g) (hX : g.LX = List.replicate N_tie_rises.length sAny) (tie1 : (List Int)) : EvB g [(sV false (tList tInt) tie1), sAny, sAny] (defBody s_tie_rises) (fun r => .rt false tBool r) (q_tie_rises tie1) := (evb_set ok (i := 1) (j := 1) rfl rfl (wkX hX rfl) .sh (ev_neg (md' := .sh) ok.toOk (ev_int (md := .sh))) fun last2 => (evb_forF (LF := (fun (s4 : (Int)) => [(sV false (tList tInt) tie1), (sV false tInt s4), sAny])) (s0 := last2) (dr := fun r18 => r18) ok (wkX hX rfl) (evi_seq ok.toOk sq_l (ev_vsh ok.toOk (i := 0) (j := 0) rfl rfl rfl)) (Wk.s (Wk.s (Wk.s Wk.n))) (fun _ => evg_name ok (i := 2) (j := 2) rfl rfl) (fun s4 shaft5 => (evb_ifx (wkX hX rfl) (EvW.t (evw_orP (pureT (m := M.bind (M.ok shaft5) fun y6 => M.bind (M.ok s4) fun y7 => M.ok (decide (y6 ≤ y7))) (evt_c ok.toOk c_le (ev_vsh ok.toOk (i := 2) (j := 2) rfl rfl rfl) (ev_vsh ok.toOk (i := 1) (j := 1) rfl rfl rfl)) rfl) (pureW (m := M.bind (M.ok shaft5) fun y8 => M.bind (M.ok (40 : Int)) fun y9 => M.ok (decide (y9 ≤ y8))) (evw_or1 (evt_c ok.toOk c_ge (ev_vsh ok.toOk (i := 2) (j := 2) rfl rfl rfl) (ev_gint (md := .sh) ok.toOk (j := 0) rfl X.c_MOST_IN_DRAFT))) rfl))) (evb_retF (mk := fun r12 => Fl.rt r12) (wkX hX rfl) .sh (by intro _; rfl) (ev_bool (md := .sh))) (evb_set ok (i := 1) (j := 1) rfl rfl (wkX hX rfl) .sh (ev_vsh ok.toOk (i := 2) (j := 2) rfl rfl rfl) fun last13 => (evb_go (by rfl) (Wk.s (Wk.s (Wk.a Wk.n))))))) fun s16 => (evb_ret (wkX hX rfl) .sh (by intro _; rfl) (ev_bool (md := .sh)))))
theorem b_tie_rises {p : Pr} (X : Facts p) : Body p s_tie_rises N_tie_rises V_tie_rises G_tie_rises 0 (fun (d : ((List Int) × Unit)) => [(sV false (tList tInt) d.1), sAny, sAny]) (fun r => .rt false tBool r) r_tie_rises := fun g ok hX d => bb_tie_rises X ok hX d.1
theorem fn_tie_rises {p : Pr} (X : Facts p) : Fn p 1 "tie_rises" ["tie"] (spM p (aCons (tList tInt) aNil) (fun r => .rt false tBool r) c_tie_rises) := by
  obtain ⟨f, fd, hF, hm⟩ := X.d_tie_rises
  exact ⟨f, fd, eq_tie_rises ▸ fn_rt (m := 2) hF sc_tie_rises (.cons .nil) rfl rfl (b_tie_rises X), hm, hF.kp, hF.bindsN fun _ _ _ _ _ _ us hl => match us, hl with | [_], _ => rfl⟩
abbrev s_lists_fit : Stmt := (topS 9)
abbrev N_lists_fit : List Str := ["threading", "ties", "treading", "part", "shaft", "tie", "treadle"]
abbrev V_lists_fit : List Str := ["threading", "ties", "treading", "part", "shaft", "tie", "treadle"]
abbrev G_lists_fit : List Str := ["len", "MOST_IN_DRAFT", "tie_rises"]
theorem sc_lists_fit : Sc s_lists_fit N_lists_fit V_lists_fit ["threading", "ties", "treading"] G_lists_fit := ⟨⟨rfl, rfl, rfl, by decide +kernel, rfl, by decide +kernel, by decide +kernel⟩, by decide +kernel, by decide +kernel, by decide +kernel⟩
def r_f_lists_fit_l1  : Unit → Int → M (Fl Unit Bool) := fun s14 part15 => M.bind (M.ok ((decide (part15 < (1 : Int))) || (decide ((40 : Int) < part15)))) fun c23 => if c23 = true then M.bind (M.ok false) fun r24 => M.ok (Fl.rt r24) else M.ok (Fl.nx ())
def f_lists_fit_l1  : Unit → Int → M (Fl Unit Bool) := fun s14 part15 => if ((decide (part15 < (1 : Int))) || (decide ((40 : Int) < part15))) = true then M.ok (Fl.rt false) else M.ok (Fl.nx ())
theorem eq_f_lists_fit_l1  : r_f_lists_fit_l1  = f_lists_fit_l1  := by funext s14 part15; first | (simp only [r_f_lists_fit_l1, f_lists_fit_l1, M.bind_assoc, M.bok, c_tie_rises]; done) | (simp only [r_f_lists_fit_l1, f_lists_fit_l1, M.bind_assoc, M.bok, c_tie_rises]; rfl)
def r_f_lists_fit_l2  : Unit → Int → M (Fl Unit Bool) := fun s28 shaft29 => M.bind (M.ok ((decide (shaft29 < (0 : Int))) || (decide ((40 : Int) ≤ shaft29)))) fun c35 => if c35 = true then M.bind (M.ok false) fun r36 => M.ok (Fl.rt r36) else M.ok (Fl.nx ())
def f_lists_fit_l2  : Unit → Int → M (Fl Unit Bool) := fun s28 shaft29 => if ((decide (shaft29 < (0 : Int))) || (decide ((40 : Int) ≤ shaft29))) = true then M.ok (Fl.rt false) else M.ok (Fl.nx ())
theorem eq_f_lists_fit_l2  : r_f_lists_fit_l2  = f_lists_fit_l2  := by funext s28 shaft29; first | (simp only [r_f_lists_fit_l2, f_lists_fit_l2, M.bind_assoc, M.bok, eq_f_lists_fit_l1, c_tie_rises]; done) | (simp only [r_f_lists_fit_l2, f_lists_fit_l2, M.bind_assoc, M.bok, eq_f_lists_fit_l1, c_tie_rises]; rfl)
def r_f_lists_fit_l3  : Unit → (List Int) → M (Fl Unit Bool) := fun s40 tie41 => M.bind (M.bind (M.bind (M.bind (M.ok tie41) fun y42 => M.bind (M.ok ()) fun y43 => M.ok (y42, y43)) c_tie_rises) fun y45 => M.ok (!y45)) fun c46 => if c46 = true then M.bind (M.ok false) fun r47 => M.ok (Fl.rt r47) else M.ok (Fl.nx ())
def f_lists_fit_l3  : Unit → (List Int) → M (Fl Unit Bool) := fun s40 tie41 => M.bind (M.bind (f_tie_rises tie41) fun y45 => M.ok (!y45)) fun c48 => if c48 = true then M.ok (Fl.rt false) else M.ok (Fl.nx ())
theorem eq_f_lists_fit_l3  : r_f_lists_fit_l3  = f_lists_fit_l3  := by funext s40 tie41; first | (simp only [r_f_lists_fit_l3, f_lists_fit_l3, M.bind_assoc, M.bok, eq_f_lists_fit_l1, eq_f_lists_fit_l2, c_tie_rises]; done) | (simp only [r_f_lists_fit_l3, f_lists_fit_l3, M.bind_assoc, M.bok, eq_f_lists_fit_l1, eq_f_lists_fit_l2, c_tie_rises]; rfl)
def r_f_lists_fit_l4 (ties2 : (List (List Int))) : Unit → Int → M (Fl Unit Bool) := fun s51 treadle52 => M.bind (M.ok ((decide (treadle52 < (0 : Int))) || (decide ((ties2.length : Int) ≤ treadle52)))) fun c59 => if c59 = true then M.bind (M.ok false) fun r60 => M.ok (Fl.rt r60) else M.ok (Fl.nx ())
def f_lists_fit_l4 (ties2 : (List (List Int))) : Unit → Int → M (Fl Unit Bool) := fun s51 treadle52 => if ((decide (treadle52 < (0 : Int))) || (decide ((ties2.length : Int) ≤ treadle52))) = true then M.ok (Fl.rt false) else M.ok (Fl.nx ())
theorem eq_f_lists_fit_l4 (ties2 : (List (List Int))) : r_f_lists_fit_l4 ties2 = f_lists_fit_l4 ties2 := by funext s51 treadle52; first | (simp only [r_f_lists_fit_l4, f_lists_fit_l4, M.bind_assoc, M.bok, eq_f_lists_fit_l1, eq_f_lists_fit_l2, eq_f_lists_fit_l3, c_tie_rises]; done) | (simp only [r_f_lists_fit_l4, f_lists_fit_l4, M.bind_assoc, M.bok, eq_f_lists_fit_l1, eq_f_lists_fit_l2, eq_f_lists_fit_l3, c_tie_rises]; rfl)
def q_lists_fit (threading1 : (List Int)) (ties2 : (List (List Int))) (treading3 : (List Int)) : M Bool := M.bind (M.bind (M.bind (M.ok threading1) fun y8 => M.bind (M.bind (M.ok ties2) fun y6 => M.bind (M.bind (M.ok treading3) fun y4 => M.bind (M.ok ()) fun y5 => M.ok (y4, y5)) fun y7 => M.ok (y6, y7)) fun y9 => M.ok (y8, y9)) fun y13 => M.ok ([(y13.1.length : Int), (y13.2.1.length : Int), (y13.2.2.1.length : Int)])) fun xs26 => M.bind (forF r_f_lists_fit_l1 () xs26) (Fl.el (fun (s27 : Unit) => M.bind (M.ok threading1) fun xs38 => M.bind (forF r_f_lists_fit_l2 () xs38) (Fl.el (fun (s39 : Unit) => M.bind (M.ok ties2) fun xs49 => M.bind (forF r_f_lists_fit_l3 () xs49) (Fl.el (fun (s50 : Unit) => M.bind (M.ok treading3) fun xs62 => M.bind (forF (r_f_lists_fit_l4 ties2) () xs62) (Fl.el (fun (s63 : Unit) => M.ok true) fun r65 => M.ok r65)) fun r66 => M.ok r66)) fun r67 => M.ok r67)) fun r68 => M.ok r68)
def f_lists_fit (threading1 : (List Int)) (ties2 : (List (List Int))) (treading3 : (List Int)) : M Bool := M.bind (forF f_lists_fit_l1 () ([((threading1, ties2, treading3, ()).1.length : Int), ((threading1, ties2, treading3, ()).2.1.length : Int), ((threading1, ties2, treading3, ()).2.2.1.length : Int)])) (Fl.el (fun (s27 : Unit) => M.bind (forF f_lists_fit_l2 () threading1) (Fl.el (fun (s39 : Unit) => M.bind (forF f_lists_fit_l3 () ties2) (Fl.el (fun (s50 : Unit) => M.bind (forF (f_lists_fit_l4 ties2) () treading3) (Fl.el (fun (s63 : Unit) => M.ok true) fun r65 => M.ok r65)) fun r66 => M.ok r66)) fun r67 => M.ok r67)) fun r68 => M.ok r68)
def r_lists_fit (d : ((List Int) × (List (List Int)) × (List Int) × Unit)) : M Bool := q_lists_fit d.1 d.2.1 d.2.2.1
def c_lists_fit (d : ((List Int) × (List (List Int)) × (List Int) × Unit)) : M Bool := f_lists_fit d.1 d.2.1 d.2.2.1
theorem eq_lists_fit : r_lists_fit = c_lists_fit := by funext d; first | (simp only [r_lists_fit, c_lists_fit, q_lists_fit, f_lists_fit, M.bind_assoc, M.bok, eq_f_lists_fit_l1, eq_f_lists_fit_l2, eq_f_lists_fit_l3, eq_f_lists_fit_l4, c_tie_rises]; done) | (simp only [r_lists_fit, c_lists_fit, q_lists_fit, f_lists_fit, M.bind_assoc, M.bok, eq_f_lists_fit_l1, eq_f_lists_fit_l2, eq_f_lists_fit_l3, eq_f_lists_fit_l4, c_tie_rises]; rfl)
theorem bb_lists_fit {p : Pr} (X : Facts p) {g : G} (ok : OkS p (defScope s_lists_fit) N_lists_fit V_lists_fit G_lists_fit 1 g) (hX : g.LX = List.replicate N_lists_fit.length sAny) (threading1 : (List Int)) (ties2 : (List (List Int))) (treading3 : (List Int)) : EvB g [(sV false (tList tInt) threading1), (sV false (tList (tList tInt)) ties2), (sV false (tList tInt) treading3), sAny, sAny, sAny, sAny] (defBody s_lists_fit) (fun r => .rt false tBool r) (q_lists_fit threading1 ties2 treading3) := (evb_forF (LF := (fun (s14 : Unit) => [(sV false (tList tInt) threading1), (sV false (tList (tList tInt)) ties2), (sV false (tList tInt) treading3), sAny, sAny, sAny, sAny])) (s0 := ()) (dr := fun r68 => r68) ok (wkX hX rfl) (evi_hlH ok.toOk (homN (homN (homN hom0))) (ev_hl (fun d vs R h => by rw [(lenS (lenS (lenS len0))) h]; decide) (eva_cons (ev_vsh ok.toOk (i := 0) (j := 0) rfl rfl rfl) (eva_cons (ev_vsh ok.toOk (i := 1) (j := 1) rfl rfl rfl) (eva_cons (ev_vsh ok.toOk (i := 2) (j := 2) rfl rfl rfl) eva_nil))))) (Wk.s (Wk.s (Wk.s (Wk.s (Wk.s (Wk.s (Wk.s Wk.n))))))) (fun _ => evg_name ok (i := 3) (j := 3) rfl rfl) (fun s14 part15 => (evb_ifl (wkX hX rfl) (EvW.t (evw_orP (pureT (m := M.bind (M.bind (M.ok part15) fun y16 => M.ok y16) fun y17 => M.bind (M.ok (1 : Int)) fun y18 => M.ok (decide (y17 < y18))) (evt_c ok.toOk c_lt (ev_lenN (md' := .sh) ok.toOk (j := 0) rfl X.g_len (ev_vsh ok.toOk (i := 3) (j := 3) rfl rfl rfl)) (ev_int (md := .sh))) rfl) (pureW (m := M.bind (M.bind (M.ok part15) fun y19 => M.ok y19) fun y20 => M.bind (M.ok (40 : Int)) fun y21 => M.ok (decide (y21 < y20))) (evw_or1 (evt_c ok.toOk c_gt (ev_lenN (md' := .sh) ok.toOk (j := 0) rfl X.g_len (ev_vsh ok.toOk (i := 3) (j := 3) rfl rfl rfl)) (ev_gint (md := .sh) ok.toOk (j := 1) rfl X.c_MOST_IN_DRAFT))) rfl))) (evb_retF (mk := fun r24 => Fl.rt r24) (wkX hX rfl) .sh (by intro _; rfl) (ev_bool (md := .sh))) (evb_go (by rfl) (Wk.s (Wk.s (Wk.s (Wk.a (Wk.s (Wk.s (Wk.s Wk.n)))))))))) fun s27 => (evb_forF (LF := (fun (s28 : Unit) => [(sV false (tList tInt) threading1), (sV false (tList (tList tInt)) ties2), (sV false (tList tInt) treading3), sAny, sAny, sAny, sAny])) (s0 := ()) (dr := fun r67 => r67) ok (wkX hX rfl) (evi_seq ok.toOk sq_l (ev_vsh ok.toOk (i := 0) (j := 0) rfl rfl rfl)) (Wk.s (Wk.s (Wk.s (Wk.s (Wk.s (Wk.s (Wk.s Wk.n))))))) (fun _ => evg_name ok (i := 4) (j := 4) rfl rfl) (fun s28 shaft29 => (evb_ifl (wkX hX rfl) (EvW.t (evw_orP (pureT (m := M.bind (M.ok shaft29) fun y30 => M.bind (M.ok (0 : Int)) fun y31 => M.ok (decide (y30 < y31))) (evt_c ok.toOk c_lt (ev_vsh ok.toOk (i := 4) (j := 4) rfl rfl rfl) (ev_int (md := .sh))) rfl) (pureW (m := M.bind (M.ok shaft29) fun y32 => M.bind (M.ok (40 : Int)) fun y33 => M.ok (decide (y33 ≤ y32))) (evw_or1 (evt_c ok.toOk c_ge (ev_vsh ok.toOk (i := 4) (j := 4) rfl rfl rfl) (ev_gint (md := .sh) ok.toOk (j := 1) rfl X.c_MOST_IN_DRAFT))) rfl))) (evb_retF (mk := fun r36 => Fl.rt r36) (wkX hX rfl) .sh (by intro _; rfl) (ev_bool (md := .sh))) (evb_go (by rfl) (Wk.s (Wk.s (Wk.s (Wk.s (Wk.a (Wk.s (Wk.s Wk.n)))))))))) fun s39 => (evb_forF (LF := (fun (s40 : Unit) => [(sV false (tList tInt) threading1), (sV false (tList (tList tInt)) ties2), (sV false (tList tInt) treading3), sAny, sAny, sAny, sAny])) (s0 := ()) (dr := fun r66 => r66) ok (wkX hX rfl) (evi_seq ok.toOk sq_l (ev_vsh ok.toOk (i := 1) (j := 1) rfl rfl rfl)) (Wk.s (Wk.s (Wk.s (Wk.s (Wk.s (Wk.s (Wk.s Wk.n))))))) (fun _ => evg_name ok (i := 5) (j := 5) rfl rfl) (fun s40 tie41 => (evb_ifl (wkX hX rfl) (evt_not (evt_of (ev_call (md' := .sh) ok.toOk (fn_tie_rises X) (by decide) (j := 2) rfl .sh (eva_cons (md := .sh) (ev_vsh ok.toOk (i := 5) (j := 5) rfl rfl rfl) eva_nil)))) (evb_retF (mk := fun r47 => Fl.rt r47) (wkX hX rfl) .sh (by intro _; rfl) (ev_bool (md := .sh))) (evb_go (by rfl) (Wk.s (Wk.s (Wk.s (Wk.s (Wk.s (Wk.a (Wk.s Wk.n)))))))))) fun s50 => (evb_forF (LF := (fun (s51 : Unit) => [(sV false (tList tInt) threading1), (sV false (tList (tList tInt)) ties2), (sV false (tList tInt) treading3), sAny, sAny, sAny, sAny])) (s0 := ()) (dr := fun r65 => r65) ok (wkX hX rfl) (evi_seq ok.toOk sq_l (ev_vsh ok.toOk (i := 2) (j := 2) rfl rfl rfl)) (Wk.s (Wk.s (Wk.s (Wk.s (Wk.s (Wk.s (Wk.s Wk.n))))))) (fun _ => evg_name ok (i := 6) (j := 6) rfl rfl) (fun s51 treadle52 => (evb_ifl (wkX hX rfl) (EvW.t (evw_orP (pureT (m := M.bind (M.ok treadle52) fun y53 => M.bind (M.ok (0 : Int)) fun y54 => M.ok (decide (y53 < y54))) (evt_c ok.toOk c_lt (ev_vsh ok.toOk (i := 6) (j := 6) rfl rfl rfl) (ev_int (md := .sh))) rfl) (pureW (m := M.bind (M.ok treadle52) fun y56 => M.bind (M.bind (M.ok ties2) fun y55 => M.ok (y55.length : Int)) fun y57 => M.ok (decide (y57 ≤ y56))) (evw_or1 (evt_c ok.toOk c_ge (ev_vsh ok.toOk (i := 6) (j := 6) rfl rfl rfl) (ev_lenQ (md' := .sh) ok.toOk sq_l (j := 0) rfl X.g_len (ev_vsh ok.toOk (i := 1) (j := 1) rfl rfl rfl)))) rfl))) (evb_retF (mk := fun r60 => Fl.rt r60) (wkX hX rfl) .sh (by intro _; rfl) (ev_bool (md := .sh))) (evb_go (by rfl) (Wk.s (Wk.s (Wk.s (Wk.s (Wk.s (Wk.s (Wk.a Wk.n)))))))))) fun s63 => (evb_ret (wkX hX rfl) .sh (by intro _; rfl) (ev_bool (md := .sh)))))))
theorem b_lists_fit {p : Pr} (X : Facts p) : Body p s_lists_fit N_lists_fit V_lists_fit G_lists_fit 1 (fun (d : ((List Int) × (List (List Int)) × (List Int) × Unit)) => [(sV false (tList tInt) d.1), (sV false (tList (tList tInt)) d.2.1), (sV false (tList tInt) d.2.2.1), sAny, sAny, sAny, sAny]) (fun r => .rt false tBool r) r_lists_fit := fun g ok hX d => bb_lists_fit X ok hX d.1 d.2.1 d.2.2.1
theorem fn_lists_fit {p : Pr} (X : Facts p) : Fn p 2 "lists_fit" ["threading", "ties", "treading"] (spM p (aCons (tList tInt) (aCons (tList (tList tInt)) (aCons (tList tInt) aNil))) (fun r => .rt false tBool r) c_lists_fit) := by
  obtain ⟨f, fd, hF, hm⟩ := X.d_lists_fit
  exact ⟨f, fd, eq_lists_fit ▸ fn_rt (m := 4) hF sc_lists_fit (.cons (.cons (.cons .nil))) rfl rfl (b_lists_fit X), hm, hF.kp, hF.bindsN fun _ _ _ _ _ _ us hl => match us, hl with | [_, _, _], _ => rfl⟩
abbrev s_Draft_init : Stmt := ((clsBody (topS 10)).getD 0 (.Pass ⟨0, 0, 0, 0⟩))
abbrev N_Draft_init : List Str := ["self", "threading", "ties", "treading", "tie"]
abbrev V_Draft_init : List Str := ["self", "threading", "ties", "treading"]
abbrev G_Draft_init : List Str := ["lists_fit", "list", "NoDraft"]
theorem sc_Draft_init : Sc s_Draft_init N_Draft_init V_Draft_init ["self", "threading", "ties", "treading"] G_Draft_init := ⟨⟨rfl, rfl, rfl, by decide +kernel, rfl, by decide +kernel, by decide +kernel⟩, by decide +kernel, by decide +kernel, by decide +kernel⟩
def q_Draft_init (threading1 : (List Int)) (ties2 : (List (List Int))) (treading3 : (List Int)) : M O_Draft := M.bind (M.bind (M.bind (M.bind (M.ok threading1) fun y8 => M.bind (M.bind (M.ok ties2) fun y6 => M.bind (M.bind (M.ok treading3) fun y4 => M.bind (M.ok ()) fun y5 => M.ok (y4, y5)) fun y7 => M.ok (y6, y7)) fun y9 => M.ok (y8, y9)) c_lists_fit) fun y13 => M.ok (!y13)) fun c21 => if c21 = true then M.ex .noDraft else M.bind (M.ok threading1) fun fthreading14 => M.bind (M.bind (M.ok ties2) fun xs18 => compM (fun tie15 => M.bind (M.ok true) fun c16 => if c16 = true then M.bind (M.ok tie15) fun y17 => M.ok (some y17) else M.ok none) xs18) fun fties19 => M.bind (M.ok treading3) fun ftreading20 => M.ok (fthreading14, fties19, ftreading20, ())
def f_Draft_init (threading1 : (List Int)) (ties2 : (List (List Int))) (treading3 : (List Int)) : M O_Draft := M.bind (M.bind (f_lists_fit threading1 ties2 treading3) fun y13 => M.ok (!y13)) fun c22 => if c22 = true then M.ex .noDraft else let fthreading14 : (List Int) := threading1; M.bind (compM (fun tie15 => M.ok (some tie15)) ties2) fun fties19 => let ftreading20 : (List Int) := treading3; M.ok (fthreading14, fties19, ftreading20, ())
def r_Draft_init (d : ((List Int) × (List (List Int)) × (List Int) × Unit)) : M O_Draft := q_Draft_init d.1 d.2.1 d.2.2.1
def c_Draft_init (d : ((List Int) × (List (List Int)) × (List Int) × Unit)) : M O_Draft := f_Draft_init d.1 d.2.1 d.2.2.1
theorem eq_Draft_init : r_Draft_init = c_Draft_init := by funext d; first | (simp only [r_Draft_init, c_Draft_init, q_Draft_init, f_Draft_init, M.bind_assoc, M.bok, c_lists_fit]; done) | (simp only [r_Draft_init, c_Draft_init, q_Draft_init, f_Draft_init, M.bind_assoc, M.bok, c_lists_fit]; rfl)
theorem bb_Draft_init {p : Pr} (X : Facts p) {g : G} (ok : OkS p (defScope s_Draft_init) N_Draft_init V_Draft_init G_Draft_init 2 g) (hX : g.LX = List.replicate N_Draft_init.length sAny) (x0 : Addr) (threading1 : (List Int)) (ties2 : (List (List Int))) (treading3 : (List Int)) : EvB g (sNew true x0 (cA p "Draft") [] rpNil () :: ([(sV false (tList tInt) threading1), (sV false (tList (tList tInt)) ties2), (sV false (tList tInt) treading3)] ++ List.replicate 1 sAny)) (defBody s_Draft_init) (fun r => .nx (sNew true x0 (cA p "Draft") ["threading", "ties", "treading"] (WAr.rp (waCons (wL (wV tInt)) (waCons (wL (wL (wV tInt))) (waCons (wL (wV tInt)) waNil)))) r :: List.replicate 4 sAny)) (q_Draft_init threading1 ties2 treading3) := (evb_ifr ok (wkX hX rfl) X.x_NoDraft (jj := 0) (j := 2) rfl (evt_not (evt_of (ev_call (md' := .sh) ok.toOk (fn_lists_fit X) (by decide) (j := 0) rfl .sh (eva_cons (md := .sh) (ev_vsh ok.toOk (i := 1) (j := 1) rfl rfl rfl) (eva_cons (md := .sh) (ev_vsh ok.toOk (i := 2) (j := 2) rfl rfl rfl) (eva_cons (md := .sh) (ev_vsh ok.toOk (i := 3) (j := 3) rfl rfl rfl) eva_nil)))))) (evb_fldN ok (wkX hX rfl) (i := 0) (j := 0) rfl rfl rfl X.a_Draft X.n_Draft_threading (by decide +kernel) (by decide) .fx (evm_flat (md := .fx) (fw_l (fw_v flInt)) (evn_l (evl_copyQ (md := .sh) ok.toOk sq_l (j := 1) rfl X.g_list (ev_vsh ok.toOk (i := 1) (j := 1) rfl rfl rfl)))) fun fthreading14 => (evb_fldN ok (wkX hX rfl) (i := 0) (j := 0) rfl rfl rfl X.a_Draft X.n_Draft_ties (by decide +kernel) (by decide) .fx (evm_flat (md := .fx) (fw_l (fw_l (fw_v flInt))) (evn_lc (VV' := ["tie"]) (GG' := ["list"]) (i := 4) ok.toOk (evi_seq ok.toOk sq_l (ev_vsh ok.toOk (i := 2) (j := 2) rfl rfl rfl)) rfl rfl no_any (by decide +kernel) (by decide +kernel) (by decide +kernel) (by decide +kernel) (fun g' okc tie15 => evpts_nil) (fw_l (fw_v flInt)) (fun g' okc tie15 => (evn_l (evl_copyQ (md := .sh) okc sq_l (j := 0) rfl X.g_list (ev_vsh okc (i := 4) (j := 0) rfl rfl rfl)))))) fun fties19 => (evb_fldN ok (wkX hX rfl) (i := 0) (j := 0) rfl rfl rfl X.a_Draft X.n_Draft_treading (by decide +kernel) (by decide) .fx (evm_flat (md := .fx) (fw_l (fw_v flInt)) (evn_l (evl_copyQ (md := .sh) ok.toOk sq_l (j := 1) rfl X.g_list (ev_vsh ok.toOk (i := 3) (j := 3) rfl rfl rfl)))) fun ftreading20 => (evb_conv (i := 0) rfl (new_conv (cat_s (cat_s (cat_s cat_0)))) (evb_nx (by rfl) (Wk.s (Wk.a (Wk.a (Wk.a (Wk.s Wk.n)))))))))))
theorem mk_Draft_init {p : Pr} (X : Facts p) : MkF p 3 "Draft" ["threading", "ties", "treading"] (spIN p (cA p "Draft") ["threading", "ties", "treading"] (aCons (tList tInt) (aCons (tList (tList tInt)) (aCons (tList tInt) aNil))) (waCons (wL (wV tInt)) (waCons (wL (wL (wV tInt))) (waCons (wL (wV tInt)) waNil))) true c_Draft_init) := by
  obtain ⟨f, fd, hF, hmk, hm⟩ := X.k_Draft_init
  exact ⟨f, fd, eq_Draft_init ▸ fn_initN (m := 1) hF sc_Draft_init (.cons (.cons (.cons .nil))) rfl rfl (fun x g ok hX d => bb_Draft_init X ok hX x d.1 d.2.1 d.2.2.1), hmk, hm, hF.bindsN fun _ _ _ _ _ _ us hl => match us, hl with | [_, _, _, _], _ => rfl⟩
abbrev s_Loom_init : Stmt := ((clsBody (topS 15)).getD 0 (.Pass ⟨0, 0, 0, 0⟩))
abbrev N_Loom_init : List Str := ["self", "threading", "ties", "setting", "tie"]
abbrev V_Loom_init : List Str := ["self", "threading", "ties", "setting"]
abbrev G_Loom_init : List Str := ["Draft"]
theorem sc_Loom_init : Sc s_Loom_init N_Loom_init V_Loom_init ["self", "threading", "ties"] G_Loom_init := ⟨⟨rfl, rfl, rfl, by decide +kernel, rfl, by decide +kernel, by decide +kernel⟩, by decide +kernel, by decide +kernel, by decide +kernel⟩
def q_Loom_init (threading1 : (List Int)) (ties2 : (List (List Int))) : M O_Loom := M.bind (M.bind (M.bind (M.ok threading1) fun y11 => M.bind (M.bind (M.ok ties2) fun y9 => M.bind (M.bind (M.bind (M.ok (0 : Int)) fun y4 => M.bind (M.ok []) fun y5 => M.ok (y4 :: y5)) fun y7 => M.bind (M.ok ()) fun y8 => M.ok (y7, y8)) fun y10 => M.ok (y9, y10)) fun y12 => M.ok (y11, y12)) c_Draft_init) fun setting3 => M.bind (M.ok setting3.1) fun fthreading16 => M.bind (M.ok setting3.2.1) fun fties17 => M.bind (M.bind (M.ok fties17) fun xs21 => compM (fun tie18 => M.bind (M.ok true) fun c19 => if c19 = true then M.bind (M.ok false) fun y20 => M.ok (some y20) else M.ok none) xs21) fun fpressed22 => M.bind (M.ok []) fun fthrown23 => M.bind (M.ok []) fun fdonedeeds24 => M.ok (fthreading16, fties17, fpressed22, fthrown23, fdonedeeds24, ())
def f_Loom_init (threading1 : (List Int)) (ties2 : (List (List Int))) : M O_Loom := M.bind (f_Draft_init threading1 ties2 ([(0 : Int)])) fun setting3 => let fthreading16 : (List Int) := setting3.1; let fties17 : (List (List Int)) := setting3.2.1; M.bind (compM (fun tie18 => M.ok (some false)) fties17) fun fpressed22 => let fthrown23 : (List ((List Int) × Tx × Tx × Unit)) := []; let fdonedeeds24 : (List (Tx × Int × (Option ((List Int) × Tx × Tx × Unit)) × Unit)) := []; M.ok (fthreading16, fties17, fpressed22, fthrown23, fdonedeeds24, ())
def r_Loom_init (d : ((List Int) × (List (List Int)) × Unit)) : M O_Loom := q_Loom_init d.1 d.2.1
def c_Loom_init (d : ((List Int) × (List (List Int)) × Unit)) : M O_Loom := f_Loom_init d.1 d.2.1
theorem eq_Loom_init : r_Loom_init = c_Loom_init := by funext d; first | (simp only [r_Loom_init, c_Loom_init, q_Loom_init, f_Loom_init, M.bind_assoc, M.bok, c_Draft_init]; done) | (simp only [r_Loom_init, c_Loom_init, q_Loom_init, f_Loom_init, M.bind_assoc, M.bok, c_Draft_init]; rfl)
theorem bb_Loom_init {p : Pr} (X : Facts p) {g : G} (ok : OkS p (defScope s_Loom_init) N_Loom_init V_Loom_init G_Loom_init 4 g) (hX : g.LX = List.replicate N_Loom_init.length sAny) (x0 : Addr) (threading1 : (List Int)) (ties2 : (List (List Int))) : EvB g (sNew true x0 (cA p "Loom") [] rpNil () :: ([(sV false (tList tInt) threading1), (sV false (tList (tList tInt)) ties2)] ++ List.replicate 2 sAny)) (defBody s_Loom_init) (fun r => .nx (sNew true x0 (cA p "Loom") ["threading", "ties", "pressed", "thrown", "done_deeds"] (WAr.rp (waCons (wV (tList tInt)) (waCons (wV (tList (tList tInt))) (waCons (wL (wV tBool)) (waCons (wL (wV (tTup (aCons (tTupL tInt) (aCons tStr (aCons tStr aNil)))))) (waCons (wL (wV (tTup (aCons tStr (aCons tInt (aCons (tOpt (tTup (aCons (tTupL tInt) (aCons tStr (aCons tStr aNil))))) aNil)))))) waNil)))))) r :: List.replicate 4 sAny)) (q_Loom_init threading1 ties2) := (evb_set (b := true) ok (i := 3) (j := 3) rfl rfl (wkX hX rfl) .fx (ev_ofM (evm_make (md' := .fx) ok.toOk (mk_Draft_init X) (by decide) (j := 0) rfl .fx (eva_cons (md := .sh) (ev_vsh ok.toOk (i := 1) (j := 1) rfl rfl rfl) (eva_cons (md := .sh) (ev_vsh ok.toOk (i := 2) (j := 2) rfl rfl rfl) (eva_cons (md := .sh) (ev_ofL (evl_lstN (n := 1) (lnS ln0) (by decide) (evs_cons (ev_int (md := .sh)) evs_nil))) eva_nil))))) fun setting3 => (evb_fldN ok (wkX hX rfl) (i := 0) (j := 0) rfl rfl rfl X.a_Loom X.n_Loom_threading (by decide +kernel) (by decide) .f0 (evm_v (ev_fld (md := .f0) (T := (tList tInt)) (pr := fun (d : O_Draft) => d.1) ok.toOk X.a_Draft X.n_Draft_threading (fun d => .here) (ev_var (b := true) ok.toOk (i := 3) (j := 3) rfl rfl rfl))) fun fthreading16 => (evb_fldN ok (wkX hX rfl) (i := 0) (j := 0) rfl rfl rfl X.a_Loom X.n_Loom_ties (by decide +kernel) (by decide) .f0 (evm_v (ev_fld (md := .f0) (T := (tList (tList tInt))) (pr := fun (d : O_Draft) => d.2.1) ok.toOk X.a_Draft X.n_Draft_ties (fun d => (.there (n := "threading") rfl (by decide +kernel) .here)) (ev_var (b := true) ok.toOk (i := 3) (j := 3) rfl rfl rfl))) fun fties17 => (evb_fldN ok (wkX hX rfl) (i := 0) (j := 0) rfl rfl rfl X.a_Loom X.n_Loom_pressed (by decide +kernel) (by decide) .fx (evm_flat (md := .fx) (fw_l (fw_v flBool)) (evn_l (evl_lc (md := .sh) (VV' := []) (GG' := []) (i := 4) ok.toOk (evi_seq ok.toOk sq_l (ev_newFld ok.toOk (i := 0) (j := 0) rfl rfl rfl X.a_Loom X.n_Loom_ties (fan_here (ns := ["threading"]) (by decide +kernel)) rfl)) rfl rfl no_any (by decide +kernel) (by decide +kernel) (by decide +kernel) (by decide +kernel) (fun g' okc tie18 => evpts_nil) (fun g' okc tie18 => (ev_bool (md := .sh)))))) fun fpressed22 => (evb_fldN ok (wkX hX rfl) (i := 0) (j := 0) rfl rfl rfl X.a_Loom X.n_Loom_thrown (by decide +kernel) (by decide) .fx (evm_lnil (md := .fx)) fun fthrown23 => (evb_fldN ok (wkX hX rfl) (i := 0) (j := 0) rfl rfl rfl X.a_Loom X.n_Loom_done_deeds (by decide +kernel) (by decide) .fx (evm_lnil (md := .fx)) fun fdonedeeds24 => (evb_conv (i := 0) rfl (new_conv (cat_s (cat_s (cat_s (cat_s (cat_s cat_0)))))) (evb_nx (by rfl) (Wk.s (Wk.a (Wk.a (Wk.a (Wk.s Wk.n)))))))))))))
theorem mk_Loom_init {p : Pr} (X : Facts p) : MkF p 5 "Loom" ["threading", "ties"] (spIN p (cA p "Loom") ["threading", "ties", "pressed", "thrown", "done_deeds"] (aCons (tList tInt) (aCons (tList (tList tInt)) aNil)) (waCons (wV (tList tInt)) (waCons (wV (tList (tList tInt))) (waCons (wL (wV tBool)) (waCons (wL (wV (tTup (aCons (tTupL tInt) (aCons tStr (aCons tStr aNil)))))) (waCons (wL (wV (tTup (aCons tStr (aCons tInt (aCons (tOpt (tTup (aCons (tTupL tInt) (aCons tStr (aCons tStr aNil))))) aNil)))))) waNil))))) true c_Loom_init) := by
  obtain ⟨f, fd, hF, hmk, hm⟩ := X.k_Loom_init
  exact ⟨f, fd, eq_Loom_init ▸ fn_initN (m := 2) hF sc_Loom_init (.cons (.cons .nil)) rfl rfl (fun x g ok hX d => bb_Loom_init X ok hX x d.1 d.2.1), hmk, hm, hF.bindsN fun _ _ _ _ _ _ us hl => match us, hl with | [_, _, _], _ => rfl⟩
abbrev s__law_treadle : Stmt := (topS 31)
abbrev N__law_treadle : List Str := ["number", "treadles", "at", "far"]
abbrev V__law_treadle : List Str := ["number", "treadles", "at", "far"]
abbrev G__law_treadle : List Str := []
theorem sc__law_treadle : Sc s__law_treadle N__law_treadle V__law_treadle ["number", "treadles"] G__law_treadle := ⟨⟨rfl, rfl, rfl, by decide +kernel, rfl, by decide +kernel, by decide +kernel⟩, by decide +kernel, by decide +kernel, by decide +kernel⟩
def q__law_treadle (number1 : Int) (treadles2 : Int) : M Int := M.bind (M.bind (M.bind (M.ok number1) fun y6 => M.bind (M.bind (M.ok treadles2) fun y4 => M.bind (M.ok (3 : Int)) fun y5 => M.ok (y4 + y5)) fun y7 => modM y6 y7) fun y8 => M.bind (M.ok (1 : Int)) fun y9 => M.ok (y8 - y9)) fun at3 => M.bind (M.bind (M.ok at3) fun y12 => M.bind (M.bind (M.ok treadles2) fun y10 => M.bind (M.ok (1 : Int)) fun y11 => M.ok (y10 + y11)) fun y13 => M.ok (decide (y12 = y13))) fun c14 => if c14 = true then M.bind (M.bind (M.ok number1) fun y18 => M.bind (M.bind (M.ok treadles2) fun y16 => M.bind (M.ok (3 : Int)) fun y17 => M.ok (y16 + y17)) fun y19 => divM y18 y19) fun far15 => M.bind (M.bind (M.bind (M.ok treadles2) fun y22 => M.bind (M.bind (M.bind (M.ok far15) fun y20 => M.ok (y20 / (2 : Int))) fun y21 => M.ok (y21 % ((10 : Int) ^ 60))) fun y23 => M.ok (y22 + y23)) fun y31 => M.bind (M.bind (M.bind (M.bind (M.ok (1 : Int)) fun y24 => M.ok (-y24)) fun y27 => M.bind (M.bind (M.bind (M.ok far15) fun y25 => M.ok (y25 / (2 : Int))) fun y26 => M.ok (y26 % ((10 : Int) ^ 60))) fun y28 => M.ok (y27 - y28)) fun y29 => M.bind (M.ok []) fun y30 => M.ok (y29 :: y30)) fun y32 => M.ok (y31 :: y32)) fun y36 => M.bind (M.bind (M.ok far15) fun y35 => M.ok (y35 % (2 : Int))) fun y37 => getM y36 y37 else M.ok at3
def f_law_treadle (number1 : Int) (treadles2 : Int) : M Int := M.bind (M.bind (modM number1 (treadles2 + (3 : Int))) fun y8 => M.ok (y8 - (1 : Int))) fun at3 => if (decide (at3 = (treadles2 + (1 : Int)))) = true then M.bind (divM number1 (treadles2 + (3 : Int))) fun far15 => getM ([(treadles2 + ((far15 / (2 : Int)) % ((10 : Int) ^ 60))), ((-(1 : Int)) - ((far15 / (2 : Int)) % ((10 : Int) ^ 60)))]) (far15 % (2 : Int)) else M.ok at3
def r__law_treadle (d : (Int × Int × Unit)) : M Int := q__law_treadle d.1 d.2.1
def c__law_treadle (d : (Int × Int × Unit)) : M Int := f_law_treadle d.1 d.2.1
theorem eq__law_treadle : r__law_treadle = c__law_treadle := by funext d; first | (simp only [r__law_treadle, c__law_treadle, q__law_treadle, f_law_treadle, M.bind_assoc, M.bok]; done) | (simp only [r__law_treadle, c__law_treadle, q__law_treadle, f_law_treadle, M.bind_assoc, M.bok]; rfl)
theorem bb__law_treadle {p : Pr} (X : Facts p) {g : G} (ok : OkS p (defScope s__law_treadle) N__law_treadle V__law_treadle G__law_treadle 0 g) (hX : g.LX = List.replicate N__law_treadle.length sAny) (number1 : Int) (treadles2 : Int) : EvB g [(sV false tInt number1), (sV false tInt treadles2), sAny, sAny] (defBody s__law_treadle) (fun r => .rt false tInt r) (q__law_treadle number1 treadles2) := (evb_set ok (i := 2) (j := 2) rfl rfl (wkX hX rfl) .sh (ev_subt (md' := .sh) ok.toOk (ev_mod (md' := .sh) ok.toOk (ev_vsh ok.toOk (i := 0) (j := 0) rfl rfl rfl) (ev_add (md' := .sh) ok.toOk (ev_vsh ok.toOk (i := 1) (j := 1) rfl rfl rfl) (ev_int (md := .sh)))) (ev_int (md := .sh))) fun at3 => (evb_ifx (wkX hX rfl) (evt_c ok.toOk (c_eq s_int) (ev_vsh ok.toOk (i := 2) (j := 2) rfl rfl rfl) (ev_add (md' := .sh) ok.toOk (ev_vsh ok.toOk (i := 1) (j := 1) rfl rfl rfl) (ev_int (md := .sh)))) (evb_set ok (i := 3) (j := 3) rfl rfl (wkX hX rfl) .sh (ev_div (md' := .sh) ok.toOk (ev_vsh ok.toOk (i := 0) (j := 0) rfl rfl rfl) (ev_add (md' := .sh) ok.toOk (ev_vsh ok.toOk (i := 1) (j := 1) rfl rfl rfl) (ev_int (md := .sh)))) fun far15 => (evb_ret (wkX hX rfl) .sh (by intro _; rfl) (ev_ixQ ok.toOk sq_l (ev_ofL (evl_lstN (n := 2) (lnS (lnS ln0)) (by decide) (evs_cons (ev_add (md' := .sh) ok.toOk (ev_vsh ok.toOk (i := 1) (j := 1) rfl rfl rfl) (ev_modC (md' := .sh) ok.toOk (by decide) (ev_divC (md' := .sh) ok.toOk (by decide) (by decide) (ev_vsh ok.toOk (i := 3) (j := 3) rfl rfl rfl) (ev_int (md := .sh))) (ev_powC (md' := .sh) (n := 60) ok.toOk (by decide) (by decide) (ev_int (md := .sh)) (ev_int (md := .sh))))) (evs_cons (ev_subt (md' := .sh) ok.toOk (ev_neg (md' := .sh) ok.toOk (ev_int (md := .sh))) (ev_modC (md' := .sh) ok.toOk (by decide) (ev_divC (md' := .sh) ok.toOk (by decide) (by decide) (ev_vsh ok.toOk (i := 3) (j := 3) rfl rfl rfl) (ev_int (md := .sh))) (ev_powC (md' := .sh) (n := 60) ok.toOk (by decide) (by decide) (ev_int (md := .sh)) (ev_int (md := .sh))))) evs_nil)))) (ev_modC (md' := .sh) ok.toOk (by decide) (ev_vsh ok.toOk (i := 3) (j := 3) rfl rfl rfl) (ev_int (md := .sh)))))) (evb_ret (wkX hX rfl) .sh (by intro _; rfl) (ev_vsh ok.toOk (i := 2) (j := 2) rfl rfl rfl))))
theorem b__law_treadle {p : Pr} (X : Facts p) : Body p s__law_treadle N__law_treadle V__law_treadle G__law_treadle 0 (fun (d : (Int × Int × Unit)) => [(sV false tInt d.1), (sV false tInt d.2.1), sAny, sAny]) (fun r => .rt false tInt r) r__law_treadle := fun g ok hX d => bb__law_treadle X ok hX d.1 d.2.1
theorem fn__law_treadle {p : Pr} (X : Facts p) : Fn p 1 "_law_treadle" ["number", "treadles"] (spM p (aCons tInt (aCons tInt aNil)) (fun r => .rt false tInt r) c__law_treadle) := by
  obtain ⟨f, fd, hF, hm⟩ := X.d__law_treadle
  exact ⟨f, fd, eq__law_treadle ▸ fn_rt (m := 2) hF sc__law_treadle (.cons (.cons .nil)) rfl rfl (b__law_treadle X), hm, hF.kp, hF.bindsN fun _ _ _ _ _ _ us hl => match us, hl with | [_, _], _ => rfl⟩
abbrev s__law_cannot : Stmt := (topS 26)
abbrev N__law_cannot : List Str := ["state", "way", "at", "known"]
abbrev V__law_cannot : List Str := ["state", "way", "at", "known"]
abbrev G__law_cannot : List Str := ["len"]
theorem sc__law_cannot : Sc s__law_cannot N__law_cannot V__law_cannot ["state", "way", "at"] G__law_cannot := ⟨⟨rfl, rfl, rfl, by decide +kernel, rfl, by decide +kernel, by decide +kernel⟩, by decide +kernel, by decide +kernel, by decide +kernel⟩
def q__law_cannot (state1 : ((List Bool) × (List (Tx × Tx × Unit)) × (List ((List Bool) × (List (Tx × Tx × Unit)) × Unit)) × (List (((List Int) × (List Int) × Unit) ⊕ ((List Tx) × (List Tx) × Unit))) × Unit)) (way2 : Tx) (at3 : Int) : M Bool := M.bind (M.ok ((decide ((0 : Int) ≤ at3)) && (decide (at3 < (state1.1.length : Int))))) fun known4 => M.bind (M.bind (M.ok way2) fun y9 => M.bind (M.ok (tx "press")) fun y10 => M.ok (decide (y9 = y10))) fun c11 => if c11 = true then M.bind (M.bind (M.ok known4) fun y12 => M.ok (!y12)) fun c16 => if c16 = true then M.ok true else M.bind (M.bind (M.ok state1) fun y13 => M.ok y13.1) fun y14 => M.bind (M.ok at3) fun y15 => getM y14 y15 else M.bind (M.bind (M.ok way2) fun y19 => M.bind (M.ok (tx "lift")) fun y20 => M.ok (decide (y19 = y20))) fun c21 => if c21 = true then M.bind (M.bind (M.ok known4) fun y22 => M.ok (!y22)) fun c27 => if c27 = true then M.ok true else M.bind (M.bind (M.bind (M.ok state1) fun y23 => M.ok y23.1) fun y24 => M.bind (M.ok at3) fun y25 => getM y24 y25) fun y26 => M.ok (!y26) else M.bind (M.bind (M.ok way2) fun y30 => M.bind (M.ok (tx "unthrow")) fun y31 => M.ok (decide (y30 = y31))) fun c32 => if c32 = true then M.bind (M.bind (M.bind (M.ok state1) fun y33 => M.ok y33.2.1) fun y34 => M.ok (y34.length : Int)) fun y35 => M.bind (M.ok (0 : Int)) fun y36 => M.ok (decide (y35 = y36)) else M.ok ((decide (way2 = (tx "undo"))) && (decide ((state1.2.2.1.length : Int) = (0 : Int))))
def f_law_cannot (state1 : ((List Bool) × (List (Tx × Tx × Unit)) × (List ((List Bool) × (List (Tx × Tx × Unit)) × Unit)) × (List (((List Int) × (List Int) × Unit) ⊕ ((List Tx) × (List Tx) × Unit))) × Unit)) (way2 : Tx) (at3 : Int) : M Bool := let known4 : Bool := ((decide ((0 : Int) ≤ at3)) && (decide (at3 < (state1.1.length : Int)))); if (decide (way2 = (tx "press"))) = true then if (!known4) = true then M.ok true else getM state1.1 at3 else if (decide (way2 = (tx "lift"))) = true then if (!known4) = true then M.ok true else M.bind (getM state1.1 at3) fun y26 => M.ok (!y26) else if (decide (way2 = (tx "unthrow"))) = true then M.ok (decide ((state1.2.1.length : Int) = (0 : Int))) else M.ok ((decide (way2 = (tx "undo"))) && (decide ((state1.2.2.1.length : Int) = (0 : Int))))
def r__law_cannot (d : (((List Bool) × (List (Tx × Tx × Unit)) × (List ((List Bool) × (List (Tx × Tx × Unit)) × Unit)) × (List (((List Int) × (List Int) × Unit) ⊕ ((List Tx) × (List Tx) × Unit))) × Unit) × Tx × Int × Unit)) : M Bool := q__law_cannot d.1 d.2.1 d.2.2.1
def c__law_cannot (d : (((List Bool) × (List (Tx × Tx × Unit)) × (List ((List Bool) × (List (Tx × Tx × Unit)) × Unit)) × (List (((List Int) × (List Int) × Unit) ⊕ ((List Tx) × (List Tx) × Unit))) × Unit) × Tx × Int × Unit)) : M Bool := f_law_cannot d.1 d.2.1 d.2.2.1
theorem eq__law_cannot : r__law_cannot = c__law_cannot := by funext d; first | (simp only [r__law_cannot, c__law_cannot, q__law_cannot, f_law_cannot, M.bind_assoc, M.bok]; done) | (simp only [r__law_cannot, c__law_cannot, q__law_cannot, f_law_cannot, M.bind_assoc, M.bok]; rfl)
theorem bb__law_cannot {p : Pr} (X : Facts p) {g : G} (ok : OkS p (defScope s__law_cannot) N__law_cannot V__law_cannot G__law_cannot 0 g) (hX : g.LX = List.replicate N__law_cannot.length sAny) (state1 : ((List Bool) × (List (Tx × Tx × Unit)) × (List ((List Bool) × (List (Tx × Tx × Unit)) × Unit)) × (List (((List Int) × (List Int) × Unit) ⊕ ((List Tx) × (List Tx) × Unit))) × Unit)) (way2 : Tx) (at3 : Int) : EvB g [(sV false (tHl (aCons (tList tBool) (aCons (tList (tTup (aCons tStr (aCons tStr aNil)))) (aCons (tList (tTup (aCons (tList tBool) (aCons (tList (tTup (aCons tStr (aCons tStr aNil)))) aNil)))) (aCons (tList (tSum (tTup (aCons (tList tInt) (aCons (tList tInt) aNil))) (tTup (aCons (tList tStr) (aCons (tList tStr) aNil))))) aNil))))) state1), (sV false tStr way2), (sV false tInt at3), sAny] (defBody s__law_cannot) (fun r => .rt false tBool r) (q__law_cannot state1 way2 at3) := (evb_set ok (i := 3) (j := 3) rfl rfl (wkX hX rfl) .sh (ev_chainI (md := .sh) (md' := .sh) ok.toOk ch_le ch_lt (ev_int (md := .sh)) (ev_vsh ok.toOk (i := 2) (j := 2) rfl rfl rfl) (ev_lenQ (md' := .sh) ok.toOk sq_l (j := 0) rfl X.g_len (ev_hlIx (n := 0) ok.toOk .z (ev_vsh ok.toOk (i := 0) (j := 0) rfl rfl rfl) (ev_int (md := .sh)))) rfl rfl rfl) fun known4 => (evb_ifx (wkX hX rfl) (evt_c ok.toOk (c_eq s_str) (ev_vsh ok.toOk (i := 1) (j := 1) rfl rfl rfl) (ev_str (md := .sh) (by decide +kernel))) (evb_ret (wkX hX rfl) .sh (by intro _; rfl) (ev_or (ev_not (md' := .sh) (ev_vsh ok.toOk (i := 3) (j := 3) rfl rfl rfl)) (ev_one (ev_ixQ ok.toOk sq_l (ev_hlIx (n := 0) ok.toOk .z (ev_vsh ok.toOk (i := 0) (j := 0) rfl rfl rfl) (ev_int (md := .sh))) (ev_vsh ok.toOk (i := 2) (j := 2) rfl rfl rfl))))) (evb_ifx (wkX hX rfl) (evt_c ok.toOk (c_eq s_str) (ev_vsh ok.toOk (i := 1) (j := 1) rfl rfl rfl) (ev_str (md := .sh) (by decide +kernel))) (evb_ret (wkX hX rfl) .sh (by intro _; rfl) (ev_or (ev_not (md' := .sh) (ev_vsh ok.toOk (i := 3) (j := 3) rfl rfl rfl)) (ev_one (ev_not (md' := .sh) (ev_ixQ ok.toOk sq_l (ev_hlIx (n := 0) ok.toOk .z (ev_vsh ok.toOk (i := 0) (j := 0) rfl rfl rfl) (ev_int (md := .sh))) (ev_vsh ok.toOk (i := 2) (j := 2) rfl rfl rfl)))))) (evb_ifx (wkX hX rfl) (evt_c ok.toOk (c_eq s_str) (ev_vsh ok.toOk (i := 1) (j := 1) rfl rfl rfl) (ev_str (md := .sh) (by decide +kernel))) (evb_ret (wkX hX rfl) .sh (by intro _; rfl) (ev_c (md' := .sh) ok.toOk (c_eq s_int) (ev_lenQ (md' := .sh) ok.toOk sq_l (j := 0) rfl X.g_len (ev_hlIx (n := 1) ok.toOk (.s .z) (ev_vsh ok.toOk (i := 0) (j := 0) rfl rfl rfl) (ev_int (md := .sh)))) (ev_int (md := .sh)))) (evb_ret (wkX hX rfl) .sh (by intro _; rfl) (ev_andP (pureE (m := M.bind (M.ok way2) fun y38 => M.bind (M.ok (tx "undo")) fun y39 => M.ok (decide (y38 = y39))) (ev_c (md' := .sh) ok.toOk (c_eq s_str) (ev_vsh ok.toOk (i := 1) (j := 1) rfl rfl rfl) (ev_str (md := .sh) (by decide +kernel))) rfl) (pureE (m := M.bind (M.bind (M.bind (M.ok state1) fun y40 => M.ok y40.2.2.1) fun y41 => M.ok (y41.length : Int)) fun y42 => M.bind (M.ok (0 : Int)) fun y43 => M.ok (decide (y42 = y43))) (ev_one (ev_c (md' := .sh) ok.toOk (c_eq s_int) (ev_lenQ (md' := .sh) ok.toOk sq_l (j := 0) rfl X.g_len (ev_hlIx (n := 2) ok.toOk (.s (.s .z)) (ev_vsh ok.toOk (i := 0) (j := 0) rfl rfl rfl) (ev_int (md := .sh)))) (ev_int (md := .sh)))) rfl)))))))
theorem b__law_cannot {p : Pr} (X : Facts p) : Body p s__law_cannot N__law_cannot V__law_cannot G__law_cannot 0 (fun (d : (((List Bool) × (List (Tx × Tx × Unit)) × (List ((List Bool) × (List (Tx × Tx × Unit)) × Unit)) × (List (((List Int) × (List Int) × Unit) ⊕ ((List Tx) × (List Tx) × Unit))) × Unit) × Tx × Int × Unit)) => [(sV false (tHl (aCons (tList tBool) (aCons (tList (tTup (aCons tStr (aCons tStr aNil)))) (aCons (tList (tTup (aCons (tList tBool) (aCons (tList (tTup (aCons tStr (aCons tStr aNil)))) aNil)))) (aCons (tList (tSum (tTup (aCons (tList tInt) (aCons (tList tInt) aNil))) (tTup (aCons (tList tStr) (aCons (tList tStr) aNil))))) aNil))))) d.1), (sV false tStr d.2.1), (sV false tInt d.2.2.1), sAny]) (fun r => .rt false tBool r) r__law_cannot := fun g ok hX d => bb__law_cannot X ok hX d.1 d.2.1 d.2.2.1
theorem fn__law_cannot {p : Pr} (X : Facts p) : Fn p 1 "_law_cannot" ["state", "way", "at"] (spM p (aCons (tHl (aCons (tList tBool) (aCons (tList (tTup (aCons tStr (aCons tStr aNil)))) (aCons (tList (tTup (aCons (tList tBool) (aCons (tList (tTup (aCons tStr (aCons tStr aNil)))) aNil)))) (aCons (tList (tSum (tTup (aCons (tList tInt) (aCons (tList tInt) aNil))) (tTup (aCons (tList tStr) (aCons (tList tStr) aNil))))) aNil))))) (aCons tStr (aCons tInt aNil))) (fun r => .rt false tBool r) c__law_cannot) := by
  obtain ⟨f, fd, hF, hm⟩ := X.d__law_cannot
  exact ⟨f, fd, eq__law_cannot ▸ fn_rt (m := 1) hF sc__law_cannot (.cons (.cons (.cons .nil))) rfl rfl (b__law_cannot X), hm, hF.kp, hF.bindsN fun _ _ _ _ _ _ us hl => match us, hl with | [_, _, _], _ => rfl⟩
abbrev s__law_lifted : Stmt := (topS 23)
abbrev N__law_lifted : List Str := ["ties", "down", "lifted", "k", "shaft"]
abbrev V__law_lifted : List Str := ["ties", "down", "lifted", "k", "shaft"]
abbrev G__law_lifted : List Str := ["len", "range"]
theorem sc__law_lifted : Sc s__law_lifted N__law_lifted V__law_lifted ["ties", "down"] G__law_lifted := ⟨⟨rfl, rfl, rfl, by decide +kernel, rfl, by decide +kernel, by decide +kernel⟩, by decide +kernel, by decide +kernel, by decide +kernel⟩
def r_f_law_lifted_l1  : ((List (Key × Bool))) → Int → M ((List (Key × Bool))) := fun s13 shaft14 => M.bind (M.ok true) fun y15 => M.bind (M.ok shaft14) fun i16 => M.bind (dputM s13 (.inl i16) y15) fun lifted17 => M.ok lifted17
def f_law_lifted_l1  : ((List (Key × Bool))) → Int → M ((List (Key × Bool))) := fun s13 shaft14 => M.bind (dputM s13 (.inl shaft14) true) fun lifted17 => M.ok lifted17
theorem eq_f_law_lifted_l1  : r_f_law_lifted_l1  = f_law_lifted_l1  := by funext s13 shaft14; first | (simp only [r_f_law_lifted_l1, f_law_lifted_l1, M.bind_assoc, M.bok]; done) | (simp only [r_f_law_lifted_l1, f_law_lifted_l1, M.bind_assoc, M.bok]; rfl)
def r_f_law_lifted_l2 (ties1 : (List (List Int))) (down2 : (List Bool)) : ((List (Key × Bool))) → Int → M ((List (Key × Bool))) := fun s6 k7 => M.bind (M.bind (M.ok down2) fun y8 => M.bind (M.ok k7) fun y9 => getM y8 y9) fun c10 => if c10 = true then M.bind (M.bind (M.ok ties1) fun y11 => M.bind (M.ok k7) fun y12 => getM y11 y12) fun xs18 => M.bind (forM r_f_law_lifted_l1 s6 xs18) fun (s19 : ((List (Key × Bool)))) => M.ok s19 else M.ok s6
def f_law_lifted_l2 (ties1 : (List (List Int))) (down2 : (List Bool)) : ((List (Key × Bool))) → Int → M ((List (Key × Bool))) := fun s6 k7 => M.bind (getM down2 k7) fun c20 => if c20 = true then M.bind (getM ties1 k7) fun xs18 => M.bind (forM f_law_lifted_l1 s6 xs18) fun (s19 : ((List (Key × Bool)))) => M.ok s19 else M.ok s6
theorem eq_f_law_lifted_l2 (ties1 : (List (List Int))) (down2 : (List Bool)) : r_f_law_lifted_l2 ties1 down2 = f_law_lifted_l2 ties1 down2 := by funext s6 k7; first | (simp only [r_f_law_lifted_l2, f_law_lifted_l2, M.bind_assoc, M.bok, eq_f_law_lifted_l1]; done) | (simp only [r_f_law_lifted_l2, f_law_lifted_l2, M.bind_assoc, M.bok, eq_f_law_lifted_l1]; rfl)
def q__law_lifted (ties1 : (List (List Int))) (down2 : (List Bool)) : M (List Int) := M.bind (M.ok ([] : (List (Key × Bool)))) fun lifted3 => M.bind (M.bind (M.bind (M.ok ties1) fun y4 => M.ok (y4.length : Int)) fun y5 => rangeM 0 y5) fun xs21 => M.bind (forM (r_f_law_lifted_l2 ties1 down2) lifted3 xs21) fun (s22 : ((List (Key × Bool)))) => M.bind (M.bind (M.ok (40 : Int)) fun y23 => rangeM 0 y23) fun xs28 => compM (fun shaft24 => M.bind (M.bind (M.ok shaft24) fun y25 => M.ok ((dgetL s22 (.inl y25)).isSome)) fun c26 => if c26 = true then M.bind (M.ok shaft24) fun y27 => M.ok (some y27) else M.ok none) xs28
def f_law_lifted (ties1 : (List (List Int))) (down2 : (List Bool)) : M (List Int) := let lifted3 : (List (Key × Bool)) := []; M.bind (rangeM 0 (ties1.length : Int)) fun xs21 => M.bind (forM (f_law_lifted_l2 ties1 down2) lifted3 xs21) fun (s22 : ((List (Key × Bool)))) => M.bind (rangeM 0 (40 : Int)) fun xs28 => compM (fun shaft24 => if (dgetL s22 (.inl shaft24)).isSome = true then M.ok (some shaft24) else M.ok none) xs28
def r__law_lifted (d : ((List (List Int)) × (List Bool) × Unit)) : M (List Int) := q__law_lifted d.1 d.2.1
def c__law_lifted (d : ((List (List Int)) × (List Bool) × Unit)) : M (List Int) := f_law_lifted d.1 d.2.1
theorem eq__law_lifted : r__law_lifted = c__law_lifted := by funext d; first | (simp only [r__law_lifted, c__law_lifted, q__law_lifted, f_law_lifted, M.bind_assoc, M.bok, eq_f_law_lifted_l1, eq_f_law_lifted_l2]; done) | (simp only [r__law_lifted, c__law_lifted, q__law_lifted, f_law_lifted, M.bind_assoc, M.bok, eq_f_law_lifted_l1, eq_f_law_lifted_l2]; rfl)
theorem bb__law_lifted {p : Pr} (X : Facts p) {g : G} (ok : OkS p (defScope s__law_lifted) N__law_lifted V__law_lifted G__law_lifted 0 g) (hX : g.LX = List.replicate N__law_lifted.length sAny) (ties1 : (List (List Int))) (down2 : (List Bool)) : EvB g [(sV false (tList (tList tInt)) ties1), (sV false (tList tBool) down2), sAny, sAny, sAny] (defBody s__law_lifted) (fun r => .rtL false tInt r) (q__law_lifted ties1 down2) := (evb_newD (S := tBool) ok (i := 2) (j := 2) rfl rfl fun lifted3 => (evb_for (LF := (fun (s6 : ((List (Key × Bool)))) => [(sV false (tList (tList tInt)) ties1), (sV false (tList tBool) down2), (sDict false tBool s6), sAny, sAny])) (s0 := lifted3) ok (wkX hX rfl) (evi_range1 ok.toOk (j := 1) rfl X.g_range (ev_lenQ (md' := .sh) ok.toOk sq_l (j := 0) rfl X.g_len (ev_vsh ok.toOk (i := 0) (j := 0) rfl rfl rfl))) (Wk.s (Wk.s (Wk.s (Wk.s (Wk.s Wk.n))))) (fun _ => evg_name ok (i := 3) (j := 3) rfl rfl) (fun s6 k7 => (evb_ifl (wkX hX rfl) (evt_of (ev_ixQ ok.toOk sq_l (ev_vsh ok.toOk (i := 1) (j := 1) rfl rfl rfl) (ev_vsh ok.toOk (i := 3) (j := 3) rfl rfl rfl))) (evb_for (LF := (fun (s13 : ((List (Key × Bool)))) => [(sV false (tList (tList tInt)) ties1), (sV false (tList tBool) down2), (sDict false tBool s13), (sV false tInt k7), sAny])) (s0 := s6) ok (wkX hX rfl) (evi_seq ok.toOk sq_l (ev_ixQ ok.toOk sq_l (ev_vsh ok.toOk (i := 0) (j := 0) rfl rfl rfl) (ev_vsh ok.toOk (i := 3) (j := 3) rfl rfl rfl))) (Wk.s (Wk.s (Wk.s (Wk.s (Wk.s Wk.n))))) (fun _ => evg_name ok (i := 4) (j := 4) rfl rfl) (fun s13 shaft14 => (evb_putD ok (wkX hX rfl) (i := 2) (j := 2) rfl rfl rfl .sh (ev_bool (md := .sh)) (ev_vsh ok.toOk (i := 4) (j := 4) rfl rfl rfl) fun lifted17 => (evb_go (by rfl) (Wk.s (Wk.s (Wk.s (Wk.s (Wk.a Wk.n)))))))) fun s19 => (evb_go (by rfl) (Wk.s (Wk.s (Wk.s (Wk.a (Wk.s Wk.n))))))) (evb_go (by rfl) (Wk.s (Wk.s (Wk.s (Wk.a (Wk.s Wk.n)))))))) fun s22 => (evb_retL (wkX hX rfl) .sh (by intro _; rfl) (evl_lc (md := .sh) (VV' := ["shaft", "lifted"]) (GG' := []) (i := 4) ok.toOk (evi_range1 ok.toOk (j := 1) rfl X.g_range (ev_int (md := .sh))) rfl rfl no_any (by decide +kernel) (by decide +kernel) (by decide +kernel) (by decide +kernel) (fun g' okc shaft24 => (evpts_one (evt_inOwn okc (i := 2) (j := 1) rfl rfl rfl (ev_vsh okc (i := 4) (j := 0) rfl rfl rfl)))) (fun g' okc shaft24 => (ev_vsh okc (i := 4) (j := 0) rfl rfl rfl))))))
theorem b__law_lifted {p : Pr} (X : Facts p) : Body p s__law_lifted N__law_lifted V__law_lifted G__law_lifted 0 (fun (d : ((List (List Int)) × (List Bool) × Unit)) => [(sV false (tList (tList tInt)) d.1), (sV false (tList tBool) d.2.1), sAny, sAny, sAny]) (fun r => .rtL false tInt r) r__law_lifted := fun g ok hX d => bb__law_lifted X ok hX d.1 d.2.1
theorem fn__law_lifted {p : Pr} (X : Facts p) : Fn p 1 "_law_lifted" ["ties", "down"] (spM p (aCons (tList (tList tInt)) (aCons (tList tBool) aNil)) (fun r => .rtL false tInt r) c__law_lifted) := by
  obtain ⟨f, fd, hF, hm⟩ := X.d__law_lifted
  exact ⟨f, fd, eq__law_lifted ▸ fn_rtL (m := 3) hF sc__law_lifted (.cons (.cons .nil)) rfl rfl (b__law_lifted X), hm, hF.kp, hF.bindsN fun _ _ _ _ _ _ us hl => match us, hl with | [_, _], _ => rfl⟩
abbrev s__law_shed : Stmt := (topS 24)
abbrev N__law_shed : List Str := ["threading", "lifted", "due", "shaft"]
abbrev V__law_shed : List Str := ["threading", "lifted", "due", "shaft"]
abbrev G__law_shed : List Str := ["int"]
theorem sc__law_shed : Sc s__law_shed N__law_shed V__law_shed ["threading", "lifted"] G__law_shed := ⟨⟨rfl, rfl, rfl, by decide +kernel, rfl, by decide +kernel, by decide +kernel⟩, by decide +kernel, by decide +kernel, by decide +kernel⟩
def r_f_law_shed_l1 (lifted2 : (List Int)) : (Tx) → Int → M (Tx) := fun s4 shaft5 => M.bind (M.bind (M.ok s4) fun y18 => M.bind (M.bind (M.bind (M.ok (tx ".")) fun y9 => M.bind (M.bind (M.ok (tx "#")) fun y7 => M.bind (M.ok []) fun y8 => M.ok (y7 :: y8)) fun y10 => M.ok (y9 :: y10)) fun y16 => M.bind (M.bind (M.bind (M.ok shaft5) fun y13 => M.bind (M.ok lifted2) fun y14 => M.ok (decide (y13 ∈ y14))) fun y15 => M.ok (bInt y15)) fun y17 => getM y16 y17) fun y19 => catS y18 y19) fun due6 => M.ok due6
def f_law_shed_l1 (lifted2 : (List Int)) : (Tx) → Int → M (Tx) := fun s4 shaft5 => M.bind (M.bind (getM ([(tx "."), (tx "#")]) (bInt (decide (shaft5 ∈ lifted2)))) fun y19 => catS s4 y19) fun due6 => M.ok due6
theorem eq_f_law_shed_l1 (lifted2 : (List Int)) : r_f_law_shed_l1 lifted2 = f_law_shed_l1 lifted2 := by funext s4 shaft5; first | (simp only [r_f_law_shed_l1, f_law_shed_l1, M.bind_assoc, M.bok]; done) | (simp only [r_f_law_shed_l1, f_law_shed_l1, M.bind_assoc, M.bok]; rfl)
def q__law_shed (threading1 : (List Int)) (lifted2 : (List Int)) : M Tx := M.bind (M.ok (tx "")) fun due3 => M.bind (M.ok threading1) fun xs20 => M.bind (forM (r_f_law_shed_l1 lifted2) due3 xs20) fun (s21 : (Tx)) => M.ok s21
def f_law_shed (threading1 : (List Int)) (lifted2 : (List Int)) : M Tx := let due3 : Tx := (tx ""); M.bind (forM (f_law_shed_l1 lifted2) due3 threading1) fun (s21 : (Tx)) => M.ok s21
def r__law_shed (d : ((List Int) × (List Int) × Unit)) : M Tx := q__law_shed d.1 d.2.1
def c__law_shed (d : ((List Int) × (List Int) × Unit)) : M Tx := f_law_shed d.1 d.2.1
theorem eq__law_shed : r__law_shed = c__law_shed := by funext d; first | (simp only [r__law_shed, c__law_shed, q__law_shed, f_law_shed, M.bind_assoc, M.bok, eq_f_law_shed_l1]; done) | (simp only [r__law_shed, c__law_shed, q__law_shed, f_law_shed, M.bind_assoc, M.bok, eq_f_law_shed_l1]; rfl)
theorem bb__law_shed {p : Pr} (X : Facts p) {g : G} (ok : OkS p (defScope s__law_shed) N__law_shed V__law_shed G__law_shed 0 g) (hX : g.LX = List.replicate N__law_shed.length sAny) (threading1 : (List Int)) (lifted2 : (List Int)) : EvB g [(sV false (tList tInt) threading1), (sV false (tList tInt) lifted2), sAny, sAny] (defBody s__law_shed) (fun r => .rt false tStr r) (q__law_shed threading1 lifted2) := (evb_set ok (i := 2) (j := 2) rfl rfl (wkX hX rfl) .sh (ev_str (md := .sh) (by decide +kernel)) fun due3 => (evb_for (LF := (fun (s4 : (Tx)) => [(sV false (tList tInt) threading1), (sV false (tList tInt) lifted2), (sV false tStr s4), sAny])) (s0 := due3) ok (wkX hX rfl) (evi_seq ok.toOk sq_l (ev_vsh ok.toOk (i := 0) (j := 0) rfl rfl rfl)) (Wk.s (Wk.s (Wk.s (Wk.s Wk.n)))) (fun _ => evg_name ok (i := 3) (j := 3) rfl rfl) (fun s4 shaft5 => (evb_set ok (i := 2) (j := 2) rfl rfl (wkX hX rfl) .sh (ev_catS (md' := .sh) ok.toOk (ev_vsh ok.toOk (i := 2) (j := 2) rfl rfl rfl) (ev_ixQ ok.toOk sq_l (ev_ofL (evl_lstN (n := 2) (lnS (lnS ln0)) (by decide) (evs_cons (ev_str (md := .sh) (by decide +kernel)) (evs_cons (ev_str (md := .sh) (by decide +kernel)) evs_nil)))) (ev_intB (md' := .sh) ok.toOk (j := 0) rfl X.g_int (ev_c (md' := .sh) ok.toOk (c_in ok.toOk.K f_int) (ev_vsh ok.toOk (i := 3) (j := 3) rfl rfl rfl) (ev_vsh ok.toOk (i := 1) (j := 1) rfl rfl rfl))))) fun due6 => (evb_go (by rfl) (Wk.s (Wk.s (Wk.s (Wk.a Wk.n))))))) fun s21 => (evb_ret (wkX hX rfl) .sh (by intro _; rfl) (ev_vsh ok.toOk (i := 2) (j := 2) rfl rfl rfl))))
theorem b__law_shed {p : Pr} (X : Facts p) : Body p s__law_shed N__law_shed V__law_shed G__law_shed 0 (fun (d : ((List Int) × (List Int) × Unit)) => [(sV false (tList tInt) d.1), (sV false (tList tInt) d.2.1), sAny, sAny]) (fun r => .rt false tStr r) r__law_shed := fun g ok hX d => bb__law_shed X ok hX d.1 d.2.1
theorem fn__law_shed {p : Pr} (X : Facts p) : Fn p 1 "_law_shed" ["threading", "lifted"] (spM p (aCons (tList tInt) (aCons (tList tInt) aNil)) (fun r => .rt false tStr r) c__law_shed) := by
  obtain ⟨f, fd, hF, hm⟩ := X.d__law_shed
  exact ⟨f, fd, eq__law_shed ▸ fn_rt (m := 2) hF sc__law_shed (.cons (.cons .nil)) rfl rfl (b__law_shed X), hm, hF.kp, hF.bindsN fun _ _ _ _ _ _ us hl => match us, hl with | [_, _], _ => rfl⟩
abbrev s__law_moved_on : Stmt := (topS 27)
abbrev N__law_moved_on : List Str := ["setting", "state", "way", "at", "letter", "past"]
abbrev V__law_moved_on : List Str := ["setting", "state", "way", "at", "letter", "past"]
abbrev G__law_moved_on : List Str := ["_law_cannot", "len", "list", "_law_lifted", "_law_shed"]
theorem sc__law_moved_on : Sc s__law_moved_on N__law_moved_on V__law_moved_on ["setting", "state", "way", "at", "letter"] G__law_moved_on := ⟨⟨rfl, rfl, rfl, by decide +kernel, rfl, by decide +kernel, by decide +kernel⟩, by decide +kernel, by decide +kernel, by decide +kernel⟩
def q__law_moved_on (setting1 : ((List Int) × (List (List Int)) × Unit)) (state2 : ((List Bool) × (List (Tx × Tx × Unit)) × (List ((List Bool) × (List (Tx × Tx × Unit)) × Unit)) × (List (((List Int) × (List Int) × Unit) ⊕ ((List Tx) × (List Tx) × Unit))) × Unit)) (way3 : Tx) (at4 : Int) (letter5 : Tx) : M ((((Option Tx) × Unit) ⊕ ((Option Tx) × Tx × Unit)) × (((List Bool) × (List (Tx × Tx × Unit)) × (List ((List Bool) × (List (Tx × Tx × Unit)) × Unit)) × (List (((List Int) × (List Int) × Unit) ⊕ ((List Tx) × (List Tx) × Unit))) × Unit) × Unit)) := M.bind (M.bind (M.bind (M.ok state2) fun y10 => M.bind (M.bind (M.ok way3) fun y8 => M.bind (M.bind (M.ok at4) fun y6 => M.bind (M.ok ()) fun y7 => M.ok (y6, y7)) fun y9 => M.ok (y8, y9)) fun y11 => M.ok (y10, y11)) c__law_cannot) fun c15 => if c15 = true then M.bind (M.bind (M.bind (M.bind (M.ok (tx "refused")) fun y16 => M.ok (some y16)) fun y19 => M.bind (M.bind (M.ok (tx "NoDeed")) fun y17 => M.bind (M.ok ()) fun y18 => M.ok (y17, y18)) fun y20 => M.ok (y19, y20)) fun y23 => M.ok (Sum.inr y23)) fun r24 => M.ok (r24, (state2, ())) else M.bind (M.ok ((decide (way3 = (tx "throw"))) && (decide ((state2.2.1.length : Int) = (40 : Int))))) fun c32 => if c32 = true then M.bind (M.bind (M.bind (M.bind (M.ok (tx "refused")) fun y33 => M.ok (some y33)) fun y36 => M.bind (M.bind (M.ok (tx "TooLarge")) fun y34 => M.bind (M.ok ()) fun y35 => M.ok (y34, y35)) fun y37 => M.ok (y36, y37)) fun y40 => M.ok (Sum.inr y40)) fun r41 => M.ok (r41, (state2, ())) else M.bind (M.bind (M.ok way3) fun y42 => M.bind (M.ok (tx "undo")) fun y43 => M.ok (decide (y42 = y43))) fun c44 => if c44 = true then M.bind (M.bind (M.bind (M.ok (state2, fun (y : ((List Bool) × (List (Tx × Tx × Unit)) × (List ((List Bool) × (List (Tx × Tx × Unit)) × Unit)) × (List (((List Int) × (List Int) × Unit) ⊕ ((List Tx) × (List Tx) × Unit))) × Unit)) => y)) fun y46 => M.ok (y46.1.2.2.1, fun (y : (List ((List Bool) × (List (Tx × Tx × Unit)) × Unit))) => y46.2 (y46.1.1, (y46.1.2.1, (y, y46.1.2.2.2))))) fun q47 => M.bind (popX q47.1) fun r48 => M.ok (r48.1, q47.2 r48.2)) fun x49 => M.bind (M.ok (x49.2, fun (y : ((List Bool) × (List (Tx × Tx × Unit)) × (List ((List Bool) × (List (Tx × Tx × Unit)) × Unit)) × (List (((List Int) × (List Int) × Unit) ⊕ ((List Tx) × (List Tx) × Unit))) × Unit)) => y)) fun q50 => M.bind (M.ok (q50.2 (x49.1.1, q50.1.2))) fun state51 => M.bind (M.ok (state51, fun (y : ((List Bool) × (List (Tx × Tx × Unit)) × (List ((List Bool) × (List (Tx × Tx × Unit)) × Unit)) × (List (((List Int) × (List Int) × Unit) ⊕ ((List Tx) × (List Tx) × Unit))) × Unit)) => y)) fun q52 => M.bind (M.ok (q52.2 (q52.1.1, (((), x49.1.2).2.1, q52.1.2.2)))) fun state53 => M.bind (M.bind (M.bind (M.ok none) fun y54 => M.bind (M.ok ()) fun y55 => M.ok (y54, y55)) fun y57 => M.ok (Sum.inl y57)) fun r58 => M.ok (r58, (state53, ())) else M.bind (M.bind (M.ok (state2, fun (y : ((List Bool) × (List (Tx × Tx × Unit)) × (List ((List Bool) × (List (Tx × Tx × Unit)) × Unit)) × (List (((List Int) × (List Int) × Unit) ⊕ ((List Tx) × (List Tx) × Unit))) × Unit)) => y)) fun y69 => M.ok (y69.1.2.2.1, fun (y : (List ((List Bool) × (List (Tx × Tx × Unit)) × Unit))) => y69.2 (y69.1.1, (y69.1.2.1, (y, y69.1.2.2.2))))) fun q70 => M.bind (M.bind (M.bind (M.ok state2) fun y60 => M.ok y60.1) fun y65 => M.bind (M.bind (M.bind (M.bind (M.ok (state2, fun (y : ((List Bool) × (List (Tx × Tx × Unit)) × (List ((List Bool) × (List (Tx × Tx × Unit)) × Unit)) × (List (((List Int) × (List Int) × Unit) ⊕ ((List Tx) × (List Tx) × Unit))) × Unit)) => y)) fun y61 => M.ok (y61.1.2.1, fun (y : (List (Tx × Tx × Unit))) => y61.2 (y61.1.1, (y, y61.1.2.2)))) fun q62 => M.ok q62.1) fun y63 => M.bind (M.ok ()) fun y64 => M.ok (y63, y64)) fun y66 => M.ok (y65, y66)) fun y130 => M.bind (pushM q70.1 y130) fun l71 => M.bind (M.ok (q70.2 l71)) fun state72 => M.bind (M.bind (M.ok way3) fun y73 => M.bind (M.ok (tx "unthrow")) fun y74 => M.ok (decide (y73 = y74))) fun c75 => if c75 = true then M.bind (M.bind (M.bind (M.bind (M.bind (M.bind (M.bind (M.ok (state72, fun (y : ((List Bool) × (List (Tx × Tx × Unit)) × (List ((List Bool) × (List (Tx × Tx × Unit)) × Unit)) × (List (((List Int) × (List Int) × Unit) ⊕ ((List Tx) × (List Tx) × Unit))) × Unit)) => y)) fun y76 => M.ok (y76.1.2.1, fun (y : (List (Tx × Tx × Unit))) => y76.2 (y76.1.1, (y, y76.1.2.2)))) fun q77 => M.bind (popX q77.1) fun r78 => M.ok (r78.1, q77.2 r78.2)) fun r79 => M.ok (r79.1.2.1, r79.2)) fun r81 => M.ok (some r81.1, r81.2)) fun r82 => M.ok ((r82.1, ()), r82.2)) fun r83 => M.ok (Sum.inl r83.1, r83.2)) fun r80 => M.ok (r80.1, (r80.2, ())) else M.bind (M.bind (M.ok way3) fun y84 => M.bind (M.ok (tx "throw")) fun y85 => M.ok (decide (y84 = y85))) fun c86 => M.bind (if c86 = true then M.bind (M.bind (M.ok (state72, fun (y : ((List Bool) × (List (Tx × Tx × Unit)) × (List ((List Bool) × (List (Tx × Tx × Unit)) × Unit)) × (List (((List Int) × (List Int) × Unit) ⊕ ((List Tx) × (List Tx) × Unit))) × Unit)) => y)) fun y109 => M.ok (y109.1.2.1, fun (y : (List (Tx × Tx × Unit))) => y109.2 (y109.1.1, (y, y109.1.2.2)))) fun q110 => M.bind (M.bind (M.bind (M.bind (M.bind (M.ok setting1) fun y88 => M.ok y88.1) fun y99 => M.bind (M.bind (M.bind (M.bind (M.bind (M.ok setting1) fun y89 => M.ok y89.2.1) fun y93 => M.bind (M.bind (M.bind (M.ok state72) fun y90 => M.ok y90.1) fun y91 => M.bind (M.ok ()) fun y92 => M.ok (y91, y92)) fun y94 => M.ok (y93, y94)) c__law_lifted) fun y97 => M.bind (M.ok ()) fun y98 => M.ok (y97, y98)) fun y100 => M.ok (y99, y100)) c__law_shed) fun y105 => M.bind (M.bind (M.ok letter5) fun y103 => M.bind (M.ok ()) fun y104 => M.ok (y103, y104)) fun y106 => M.ok (y105, y106)) fun y113 => M.bind (pushM q110.1 y113) fun l111 => M.bind (M.ok (q110.2 l111)) fun state112 => M.ok state112 else M.bind (M.bind (M.ok way3) fun y115 => M.bind (M.ok (tx "press")) fun y116 => M.ok (decide (y115 = y116))) fun y121 => M.bind (M.bind (M.ok (state72, fun (y : ((List Bool) × (List (Tx × Tx × Unit)) × (List ((List Bool) × (List (Tx × Tx × Unit)) × Unit)) × (List (((List Int) × (List Int) × Unit) ⊕ ((List Tx) × (List Tx) × Unit))) × Unit)) => y)) fun y117 => M.ok (y117.1.1, fun (y : (List Bool)) => y117.2 (y, y117.1.2))) fun q118 => M.bind (M.ok at4) fun y122 => M.bind (setM q118.1 y122 y121) fun l119 => M.bind (M.ok (q118.2 l119)) fun state120 => M.ok state120) fun (s123 : (((List Bool) × (List (Tx × Tx × Unit)) × (List ((List Bool) × (List (Tx × Tx × Unit)) × Unit)) × (List (((List Int) × (List Int) × Unit) ⊕ ((List Tx) × (List Tx) × Unit))) × Unit))) => M.bind (M.bind (M.bind (M.ok none) fun y124 => M.bind (M.ok ()) fun y125 => M.ok (y124, y125)) fun y127 => M.ok (Sum.inl y127)) fun r128 => M.ok (r128, (s123, ()))
def f_law_moved_on (setting1 : ((List Int) × (List (List Int)) × Unit)) (state2 : ((List Bool) × (List (Tx × Tx × Unit)) × (List ((List Bool) × (List (Tx × Tx × Unit)) × Unit)) × (List (((List Int) × (List Int) × Unit) ⊕ ((List Tx) × (List Tx) × Unit))) × Unit)) (way3 : Tx) (at4 : Int) (letter5 : Tx) : M ((((Option Tx) × Unit) ⊕ ((Option Tx) × Tx × Unit)) × (((List Bool) × (List (Tx × Tx × Unit)) × (List ((List Bool) × (List (Tx × Tx × Unit)) × Unit)) × (List (((List Int) × (List Int) × Unit) ⊕ ((List Tx) × (List Tx) × Unit))) × Unit) × Unit)) := M.bind (f_law_cannot state2 way3 at4) fun c133 => if c133 = true then M.ok ((Sum.inr ((some (tx "refused")), (tx "NoDeed"), ())), (state2, ())) else if ((decide (way3 = (tx "throw"))) && (decide ((state2.2.1.length : Int) = (40 : Int)))) = true then M.ok ((Sum.inr ((some (tx "refused")), (tx "TooLarge"), ())), (state2, ())) else if (decide (way3 = (tx "undo"))) = true then M.bind (popX ((state2, fun (y : ((List Bool) × (List (Tx × Tx × Unit)) × (List ((List Bool) × (List (Tx × Tx × Unit)) × Unit)) × (List (((List Int) × (List Int) × Unit) ⊕ ((List Tx) × (List Tx) × Unit))) × Unit)) => y).1.2.2.1, fun (y : (List ((List Bool) × (List (Tx × Tx × Unit)) × Unit))) => (state2, fun (y : ((List Bool) × (List (Tx × Tx × Unit)) × (List ((List Bool) × (List (Tx × Tx × Unit)) × Unit)) × (List (((List Int) × (List Int) × Unit) ⊕ ((List Tx) × (List Tx) × Unit))) × Unit)) => y).2 ((state2, fun (y : ((List Bool) × (List (Tx × Tx × Unit)) × (List ((List Bool) × (List (Tx × Tx × Unit)) × Unit)) × (List (((List Int) × (List Int) × Unit) ⊕ ((List Tx) × (List Tx) × Unit))) × Unit)) => y).1.1, ((state2, fun (y : ((List Bool) × (List (Tx × Tx × Unit)) × (List ((List Bool) × (List (Tx × Tx × Unit)) × Unit)) × (List (((List Int) × (List Int) × Unit) ⊕ ((List Tx) × (List Tx) × Unit))) × Unit)) => y).1.2.1, (y, (state2, fun (y : ((List Bool) × (List (Tx × Tx × Unit)) × (List ((List Bool) × (List (Tx × Tx × Unit)) × Unit)) × (List (((List Int) × (List Int) × Unit) ⊕ ((List Tx) × (List Tx) × Unit))) × Unit)) => y).1.2.2.2)))).1) fun r48 => let x49 : ((List Bool) × (List (Tx × Tx × Unit)) × Unit) × ((List Bool) × (List (Tx × Tx × Unit)) × (List ((List Bool) × (List (Tx × Tx × Unit)) × Unit)) × (List (((List Int) × (List Int) × Unit) ⊕ ((List Tx) × (List Tx) × Unit))) × Unit) := (r48.1, ((state2, fun (y : ((List Bool) × (List (Tx × Tx × Unit)) × (List ((List Bool) × (List (Tx × Tx × Unit)) × Unit)) × (List (((List Int) × (List Int) × Unit) ⊕ ((List Tx) × (List Tx) × Unit))) × Unit)) => y).1.2.2.1, fun (y : (List ((List Bool) × (List (Tx × Tx × Unit)) × Unit))) => (state2, fun (y : ((List Bool) × (List (Tx × Tx × Unit)) × (List ((List Bool) × (List (Tx × Tx × Unit)) × Unit)) × (List (((List Int) × (List Int) × Unit) ⊕ ((List Tx) × (List Tx) × Unit))) × Unit)) => y).2 ((state2, fun (y : ((List Bool) × (List (Tx × Tx × Unit)) × (List ((List Bool) × (List (Tx × Tx × Unit)) × Unit)) × (List (((List Int) × (List Int) × Unit) ⊕ ((List Tx) × (List Tx) × Unit))) × Unit)) => y).1.1, ((state2, fun (y : ((List Bool) × (List (Tx × Tx × Unit)) × (List ((List Bool) × (List (Tx × Tx × Unit)) × Unit)) × (List (((List Int) × (List Int) × Unit) ⊕ ((List Tx) × (List Tx) × Unit))) × Unit)) => y).1.2.1, (y, (state2, fun (y : ((List Bool) × (List (Tx × Tx × Unit)) × (List ((List Bool) × (List (Tx × Tx × Unit)) × Unit)) × (List (((List Int) × (List Int) × Unit) ⊕ ((List Tx) × (List Tx) × Unit))) × Unit)) => y).1.2.2.2)))).2 r48.2); let state51 : ((List Bool) × (List (Tx × Tx × Unit)) × (List ((List Bool) × (List (Tx × Tx × Unit)) × Unit)) × (List (((List Int) × (List Int) × Unit) ⊕ ((List Tx) × (List Tx) × Unit))) × Unit) := (x49.1.1, x49.2.2); let state53 : ((List Bool) × (List (Tx × Tx × Unit)) × (List ((List Bool) × (List (Tx × Tx × Unit)) × Unit)) × (List (((List Int) × (List Int) × Unit) ⊕ ((List Tx) × (List Tx) × Unit))) × Unit) := (state51.1, (((), x49.1.2).2.1, state51.2.2)); M.ok ((Sum.inl (none, ())), (state53, ())) else M.bind (pushM ((state2, fun (y : ((List Bool) × (List (Tx × Tx × Unit)) × (List ((List Bool) × (List (Tx × Tx × Unit)) × Unit)) × (List (((List Int) × (List Int) × Unit) ⊕ ((List Tx) × (List Tx) × Unit))) × Unit)) => y).1.2.2.1, fun (y : (List ((List Bool) × (List (Tx × Tx × Unit)) × Unit))) => (state2, fun (y : ((List Bool) × (List (Tx × Tx × Unit)) × (List ((List Bool) × (List (Tx × Tx × Unit)) × Unit)) × (List (((List Int) × (List Int) × Unit) ⊕ ((List Tx) × (List Tx) × Unit))) × Unit)) => y).2 ((state2, fun (y : ((List Bool) × (List (Tx × Tx × Unit)) × (List ((List Bool) × (List (Tx × Tx × Unit)) × Unit)) × (List (((List Int) × (List Int) × Unit) ⊕ ((List Tx) × (List Tx) × Unit))) × Unit)) => y).1.1, ((state2, fun (y : ((List Bool) × (List (Tx × Tx × Unit)) × (List ((List Bool) × (List (Tx × Tx × Unit)) × Unit)) × (List (((List Int) × (List Int) × Unit) ⊕ ((List Tx) × (List Tx) × Unit))) × Unit)) => y).1.2.1, (y, (state2, fun (y : ((List Bool) × (List (Tx × Tx × Unit)) × (List ((List Bool) × (List (Tx × Tx × Unit)) × Unit)) × (List (((List Int) × (List Int) × Unit) ⊕ ((List Tx) × (List Tx) × Unit))) × Unit)) => y).1.2.2.2)))).1 (state2.1, (((state2, fun (y : ((List Bool) × (List (Tx × Tx × Unit)) × (List ((List Bool) × (List (Tx × Tx × Unit)) × Unit)) × (List (((List Int) × (List Int) × Unit) ⊕ ((List Tx) × (List Tx) × Unit))) × Unit)) => y).1.2.1, fun (y : (List (Tx × Tx × Unit))) => (state2, fun (y : ((List Bool) × (List (Tx × Tx × Unit)) × (List ((List Bool) × (List (Tx × Tx × Unit)) × Unit)) × (List (((List Int) × (List Int) × Unit) ⊕ ((List Tx) × (List Tx) × Unit))) × Unit)) => y).2 ((state2, fun (y : ((List Bool) × (List (Tx × Tx × Unit)) × (List ((List Bool) × (List (Tx × Tx × Unit)) × Unit)) × (List (((List Int) × (List Int) × Unit) ⊕ ((List Tx) × (List Tx) × Unit))) × Unit)) => y).1.1, (y, (state2, fun (y : ((List Bool) × (List (Tx × Tx × Unit)) × (List ((List Bool) × (List (Tx × Tx × Unit)) × Unit)) × (List (((List Int) × (List Int) × Unit) ⊕ ((List Tx) × (List Tx) × Unit))) × Unit)) => y).1.2.2))).1), ())) fun l71 => let state72 : ((List Bool) × (List (Tx × Tx × Unit)) × (List ((List Bool) × (List (Tx × Tx × Unit)) × Unit)) × (List (((List Int) × (List Int) × Unit) ⊕ ((List Tx) × (List Tx) × Unit))) × Unit) := ((state2, fun (y : ((List Bool) × (List (Tx × Tx × Unit)) × (List ((List Bool) × (List (Tx × Tx × Unit)) × Unit)) × (List (((List Int) × (List Int) × Unit) ⊕ ((List Tx) × (List Tx) × Unit))) × Unit)) => y).1.2.2.1, fun (y : (List ((List Bool) × (List (Tx × Tx × Unit)) × Unit))) => (state2, fun (y : ((List Bool) × (List (Tx × Tx × Unit)) × (List ((List Bool) × (List (Tx × Tx × Unit)) × Unit)) × (List (((List Int) × (List Int) × Unit) ⊕ ((List Tx) × (List Tx) × Unit))) × Unit)) => y).2 ((state2, fun (y : ((List Bool) × (List (Tx × Tx × Unit)) × (List ((List Bool) × (List (Tx × Tx × Unit)) × Unit)) × (List (((List Int) × (List Int) × Unit) ⊕ ((List Tx) × (List Tx) × Unit))) × Unit)) => y).1.1, ((state2, fun (y : ((List Bool) × (List (Tx × Tx × Unit)) × (List ((List Bool) × (List (Tx × Tx × Unit)) × Unit)) × (List (((List Int) × (List Int) × Unit) ⊕ ((List Tx) × (List Tx) × Unit))) × Unit)) => y).1.2.1, (y, (state2, fun (y : ((List Bool) × (List (Tx × Tx × Unit)) × (List ((List Bool) × (List (Tx × Tx × Unit)) × Unit)) × (List (((List Int) × (List Int) × Unit) ⊕ ((List Tx) × (List Tx) × Unit))) × Unit)) => y).1.2.2.2)))).2 l71; if (decide (way3 = (tx "unthrow"))) = true then M.bind (M.bind (popX ((state72, fun (y : ((List Bool) × (List (Tx × Tx × Unit)) × (List ((List Bool) × (List (Tx × Tx × Unit)) × Unit)) × (List (((List Int) × (List Int) × Unit) ⊕ ((List Tx) × (List Tx) × Unit))) × Unit)) => y).1.2.1, fun (y : (List (Tx × Tx × Unit))) => (state72, fun (y : ((List Bool) × (List (Tx × Tx × Unit)) × (List ((List Bool) × (List (Tx × Tx × Unit)) × Unit)) × (List (((List Int) × (List Int) × Unit) ⊕ ((List Tx) × (List Tx) × Unit))) × Unit)) => y).2 ((state72, fun (y : ((List Bool) × (List (Tx × Tx × Unit)) × (List ((List Bool) × (List (Tx × Tx × Unit)) × Unit)) × (List (((List Int) × (List Int) × Unit) ⊕ ((List Tx) × (List Tx) × Unit))) × Unit)) => y).1.1, (y, (state72, fun (y : ((List Bool) × (List (Tx × Tx × Unit)) × (List ((List Bool) × (List (Tx × Tx × Unit)) × Unit)) × (List (((List Int) × (List Int) × Unit) ⊕ ((List Tx) × (List Tx) × Unit))) × Unit)) => y).1.2.2))).1) fun r78 => M.ok (Sum.inl (some r78.1.2.1, ()), ((state72, fun (y : ((List Bool) × (List (Tx × Tx × Unit)) × (List ((List Bool) × (List (Tx × Tx × Unit)) × Unit)) × (List (((List Int) × (List Int) × Unit) ⊕ ((List Tx) × (List Tx) × Unit))) × Unit)) => y).1.2.1, fun (y : (List (Tx × Tx × Unit))) => (state72, fun (y : ((List Bool) × (List (Tx × Tx × Unit)) × (List ((List Bool) × (List (Tx × Tx × Unit)) × Unit)) × (List (((List Int) × (List Int) × Unit) ⊕ ((List Tx) × (List Tx) × Unit))) × Unit)) => y).2 ((state72, fun (y : ((List Bool) × (List (Tx × Tx × Unit)) × (List ((List Bool) × (List (Tx × Tx × Unit)) × Unit)) × (List (((List Int) × (List Int) × Unit) ⊕ ((List Tx) × (List Tx) × Unit))) × Unit)) => y).1.1, (y, (state72, fun (y : ((List Bool) × (List (Tx × Tx × Unit)) × (List ((List Bool) × (List (Tx × Tx × Unit)) × Unit)) × (List (((List Int) × (List Int) × Unit) ⊕ ((List Tx) × (List Tx) × Unit))) × Unit)) => y).1.2.2))).2 r78.2)) fun r80 => M.ok (r80.1, (r80.2, ())) else M.bind (if (decide (way3 = (tx "throw"))) = true then M.bind (M.bind (M.bind (f_law_lifted setting1.2.1 state72.1) fun y102 => f_law_shed setting1.1 y102) fun y107 => M.ok (y107, letter5, ())) fun y113 => M.bind (pushM ((state72, fun (y : ((List Bool) × (List (Tx × Tx × Unit)) × (List ((List Bool) × (List (Tx × Tx × Unit)) × Unit)) × (List (((List Int) × (List Int) × Unit) ⊕ ((List Tx) × (List Tx) × Unit))) × Unit)) => y).1.2.1, fun (y : (List (Tx × Tx × Unit))) => (state72, fun (y : ((List Bool) × (List (Tx × Tx × Unit)) × (List ((List Bool) × (List (Tx × Tx × Unit)) × Unit)) × (List (((List Int) × (List Int) × Unit) ⊕ ((List Tx) × (List Tx) × Unit))) × Unit)) => y).2 ((state72, fun (y : ((List Bool) × (List (Tx × Tx × Unit)) × (List ((List Bool) × (List (Tx × Tx × Unit)) × Unit)) × (List (((List Int) × (List Int) × Unit) ⊕ ((List Tx) × (List Tx) × Unit))) × Unit)) => y).1.1, (y, (state72, fun (y : ((List Bool) × (List (Tx × Tx × Unit)) × (List ((List Bool) × (List (Tx × Tx × Unit)) × Unit)) × (List (((List Int) × (List Int) × Unit) ⊕ ((List Tx) × (List Tx) × Unit))) × Unit)) => y).1.2.2))).1 y113) fun l111 => let state112 : ((List Bool) × (List (Tx × Tx × Unit)) × (List ((List Bool) × (List (Tx × Tx × Unit)) × Unit)) × (List (((List Int) × (List Int) × Unit) ⊕ ((List Tx) × (List Tx) × Unit))) × Unit) := ((state72, fun (y : ((List Bool) × (List (Tx × Tx × Unit)) × (List ((List Bool) × (List (Tx × Tx × Unit)) × Unit)) × (List (((List Int) × (List Int) × Unit) ⊕ ((List Tx) × (List Tx) × Unit))) × Unit)) => y).1.2.1, fun (y : (List (Tx × Tx × Unit))) => (state72, fun (y : ((List Bool) × (List (Tx × Tx × Unit)) × (List ((List Bool) × (List (Tx × Tx × Unit)) × Unit)) × (List (((List Int) × (List Int) × Unit) ⊕ ((List Tx) × (List Tx) × Unit))) × Unit)) => y).2 ((state72, fun (y : ((List Bool) × (List (Tx × Tx × Unit)) × (List ((List Bool) × (List (Tx × Tx × Unit)) × Unit)) × (List (((List Int) × (List Int) × Unit) ⊕ ((List Tx) × (List Tx) × Unit))) × Unit)) => y).1.1, (y, (state72, fun (y : ((List Bool) × (List (Tx × Tx × Unit)) × (List ((List Bool) × (List (Tx × Tx × Unit)) × Unit)) × (List (((List Int) × (List Int) × Unit) ⊕ ((List Tx) × (List Tx) × Unit))) × Unit)) => y).1.2.2))).2 l111; M.ok state112 else M.bind (setM ((state72, fun (y : ((List Bool) × (List (Tx × Tx × Unit)) × (List ((List Bool) × (List (Tx × Tx × Unit)) × Unit)) × (List (((List Int) × (List Int) × Unit) ⊕ ((List Tx) × (List Tx) × Unit))) × Unit)) => y).1.1, fun (y : (List Bool)) => (state72, fun (y : ((List Bool) × (List (Tx × Tx × Unit)) × (List ((List Bool) × (List (Tx × Tx × Unit)) × Unit)) × (List (((List Int) × (List Int) × Unit) ⊕ ((List Tx) × (List Tx) × Unit))) × Unit)) => y).2 (y, (state72, fun (y : ((List Bool) × (List (Tx × Tx × Unit)) × (List ((List Bool) × (List (Tx × Tx × Unit)) × Unit)) × (List (((List Int) × (List Int) × Unit) ⊕ ((List Tx) × (List Tx) × Unit))) × Unit)) => y).1.2)).1 at4 (decide (way3 = (tx "press")))) fun l119 => let state120 : ((List Bool) × (List (Tx × Tx × Unit)) × (List ((List Bool) × (List (Tx × Tx × Unit)) × Unit)) × (List (((List Int) × (List Int) × Unit) ⊕ ((List Tx) × (List Tx) × Unit))) × Unit) := ((state72, fun (y : ((List Bool) × (List (Tx × Tx × Unit)) × (List ((List Bool) × (List (Tx × Tx × Unit)) × Unit)) × (List (((List Int) × (List Int) × Unit) ⊕ ((List Tx) × (List Tx) × Unit))) × Unit)) => y).1.1, fun (y : (List Bool)) => (state72, fun (y : ((List Bool) × (List (Tx × Tx × Unit)) × (List ((List Bool) × (List (Tx × Tx × Unit)) × Unit)) × (List (((List Int) × (List Int) × Unit) ⊕ ((List Tx) × (List Tx) × Unit))) × Unit)) => y).2 (y, (state72, fun (y : ((List Bool) × (List (Tx × Tx × Unit)) × (List ((List Bool) × (List (Tx × Tx × Unit)) × Unit)) × (List (((List Int) × (List Int) × Unit) ⊕ ((List Tx) × (List Tx) × Unit))) × Unit)) => y).1.2)).2 l119; M.ok state120) fun (s123 : (((List Bool) × (List (Tx × Tx × Unit)) × (List ((List Bool) × (List (Tx × Tx × Unit)) × Unit)) × (List (((List Int) × (List Int) × Unit) ⊕ ((List Tx) × (List Tx) × Unit))) × Unit))) => M.ok ((Sum.inl (none, ())), (s123, ()))
def r__law_moved_on (d : (((List Int) × (List (List Int)) × Unit) × ((List Bool) × (List (Tx × Tx × Unit)) × (List ((List Bool) × (List (Tx × Tx × Unit)) × Unit)) × (List (((List Int) × (List Int) × Unit) ⊕ ((List Tx) × (List Tx) × Unit))) × Unit) × Tx × Int × Tx × Unit)) : M ((((Option Tx) × Unit) ⊕ ((Option Tx) × Tx × Unit)) × (((List Bool) × (List (Tx × Tx × Unit)) × (List ((List Bool) × (List (Tx × Tx × Unit)) × Unit)) × (List (((List Int) × (List Int) × Unit) ⊕ ((List Tx) × (List Tx) × Unit))) × Unit) × Unit)) := q__law_moved_on d.1 d.2.1 d.2.2.1 d.2.2.2.1 d.2.2.2.2.1
def c__law_moved_on (d : (((List Int) × (List (List Int)) × Unit) × ((List Bool) × (List (Tx × Tx × Unit)) × (List ((List Bool) × (List (Tx × Tx × Unit)) × Unit)) × (List (((List Int) × (List Int) × Unit) ⊕ ((List Tx) × (List Tx) × Unit))) × Unit) × Tx × Int × Tx × Unit)) : M ((((Option Tx) × Unit) ⊕ ((Option Tx) × Tx × Unit)) × (((List Bool) × (List (Tx × Tx × Unit)) × (List ((List Bool) × (List (Tx × Tx × Unit)) × Unit)) × (List (((List Int) × (List Int) × Unit) ⊕ ((List Tx) × (List Tx) × Unit))) × Unit) × Unit)) := f_law_moved_on d.1 d.2.1 d.2.2.1 d.2.2.2.1 d.2.2.2.2.1
theorem eq__law_moved_on : r__law_moved_on = c__law_moved_on := by funext d; first | (simp only [r__law_moved_on, c__law_moved_on, q__law_moved_on, f_law_moved_on, M.bind_assoc, M.bok, c__law_cannot, c__law_lifted, c__law_shed]; done) | (simp only [r__law_moved_on, c__law_moved_on, q__law_moved_on, f_law_moved_on, M.bind_assoc, M.bok, c__law_cannot, c__law_lifted, c__law_shed]; rfl)
theorem bb__law_moved_on {p : Pr} (X : Facts p) {g : G} (ok : OkS p (defScope s__law_moved_on) N__law_moved_on V__law_moved_on G__law_moved_on 1 g) (vs : List V) (setting1 : ((List Int) × (List (List Int)) × Unit)) (state2 : ((List Bool) × (List (Tx × Tx × Unit)) × (List ((List Bool) × (List (Tx × Tx × Unit)) × Unit)) × (List (((List Int) × (List Int) × Unit) ⊕ ((List Tx) × (List Tx) × Unit))) × Unit)) (way3 : Tx) (at4 : Int) (letter5 : Tx) (hX : g.LX = List.replicate N__law_moved_on.length sAny) : EvB g [(sV false (tTup (aCons (tList tInt) (aCons (tList (tList tInt)) aNil))) setting1), (sA (vs.tail.headD .non) (wHl (waCons (wL (wV tBool)) (waCons (wL (wV (tTup (aCons tStr (aCons tStr aNil))))) (waCons (wL (wTup (waCons (wL (wV tBool)) (waCons (wL (wV (tTup (aCons tStr (aCons tStr aNil))))) waNil)))) (waCons (wL (wV (tSum (tTup (aCons (tList tInt) (aCons (tList tInt) aNil))) (tTup (aCons (tList tStr) (aCons (tList tStr) aNil)))))) waNil))))) state2), (sV false tStr way3), (sV false tInt at4), (sV false tStr letter5), sAny] (defBody s__law_moved_on) (fun (r : ((((Option Tx) × Unit) ⊕ ((Option Tx) × Tx × Unit)) × (((List Bool) × (List (Tx × Tx × Unit)) × (List ((List Bool) × (List (Tx × Tx × Unit)) × Unit)) × (List (((List Int) × (List Int) × Unit) ⊕ ((List Tx) × (List Tx) × Unit))) × Unit) × Unit))) => xOut (fun (w_ : (((List Bool) × (List (Tx × Tx × Unit)) × (List ((List Bool) × (List (Tx × Tx × Unit)) × Unit)) × (List (((List Int) × (List Int) × Unit) ⊕ ((List Tx) × (List Tx) × Unit))) × Unit) × Unit)) => [sAny, (sA (vs.tail.headD .non) (wHl (waCons (wL (wV tBool)) (waCons (wL (wV (tTup (aCons tStr (aCons tStr aNil))))) (waCons (wL (wTup (waCons (wL (wV tBool)) (waCons (wL (wV (tTup (aCons tStr (aCons tStr aNil))))) waNil)))) (waCons (wL (wV (tSum (tTup (aCons (tList tInt) (aCons (tList tInt) aNil))) (tTup (aCons (tList tStr) (aCons (tList tStr) aNil)))))) waNil))))) w_.1), sAny, sAny, sAny, sAny]) (wV (tSum (tTup (aCons (tOpt tStr) aNil)) (tTup (aCons (tOpt tStr) (aCons tStr aNil))))) r) (q__law_moved_on setting1 state2 way3 at4 letter5) := (evb_ifx (wkX hX rfl) (evt_borrowP (i := 1) rfl (evt_of (ev_call (md' := .sh) ok.toOk (fn__law_cannot X) (by decide) (j := 0) rfl .sh (eva_cons (md := .sh) (ev_vsh ok.toOk (i := 1) (j := 1) rfl rfl rfl) (eva_cons (md := .sh) (ev_vsh ok.toOk (i := 2) (j := 2) rfl rfl rfl) (eva_cons (md := .sh) (ev_vsh ok.toOk (i := 3) (j := 3) rfl rfl rfl) eva_nil)))))) (evb_retXo (fo := fun (w_ : (((List Bool) × (List (Tx × Tx × Unit)) × (List ((List Bool) × (List (Tx × Tx × Unit)) × Unit)) × (List (((List Int) × (List Int) × Unit) ⊕ ((List Tx) × (List Tx) × Unit))) × Unit) × Unit)) => [sAny, (sA (vs.tail.headD .non) (wHl (waCons (wL (wV tBool)) (waCons (wL (wV (tTup (aCons tStr (aCons tStr aNil))))) (waCons (wL (wTup (waCons (wL (wV tBool)) (waCons (wL (wV (tTup (aCons tStr (aCons tStr aNil))))) waNil)))) (waCons (wL (wV (tSum (tTup (aCons (tList tInt) (aCons (tList tInt) aNil))) (tTup (aCons (tList tStr) (aCons (tList tStr) aNil)))))) waNil))))) w_.1), sAny, sAny, sAny, sAny]) (mk := fun r24 => (r24, (state2, ()))) (w := (state2, ())) (.inl (wkX hX rfl)) (by intro _; rfl) (Wk.a (Wk.s (Wk.a (Wk.a (Wk.a (Wk.s Wk.n)))))) (evn_v (ev_inr (ev_tup (fun d vs R h => by rw [(lenS (lenS len0)) h]; decide) (eva_cons (ev_some nn_str (ev_str (md := .sh) (by decide +kernel))) (eva_cons (ev_str (md := .sh) (by decide +kernel)) eva_nil)))))) (evb_ifx (wkX hX rfl) (evt_borrowP (i := 1) rfl (EvW.t (evw_andP (pureT (m := M.bind (M.ok way3) fun y25 => M.bind (M.ok (tx "throw")) fun y26 => M.ok (decide (y25 = y26))) (evt_c ok.toOk (c_eq s_str) (ev_vsh ok.toOk (i := 2) (j := 2) rfl rfl rfl) (ev_str (md := .sh) (by decide +kernel))) rfl) (pureW (m := M.bind (M.bind (M.bind (M.ok state2) fun y27 => M.ok y27.2.1) fun y28 => M.ok (y28.length : Int)) fun y29 => M.bind (M.ok (40 : Int)) fun y30 => M.ok (decide (y29 = y30))) (evw_and1 (evt_c ok.toOk (c_eq s_int) (ev_lenQ (md' := .sh) ok.toOk sq_l (j := 1) rfl X.g_len (ev_hlIx (n := 1) ok.toOk (.s .z) (ev_vsh ok.toOk (i := 1) (j := 1) rfl rfl rfl) (ev_int (md := .sh)))) (ev_int (md := .sh)))) rfl)))) (evb_retXo (fo := fun (w_ : (((List Bool) × (List (Tx × Tx × Unit)) × (List ((List Bool) × (List (Tx × Tx × Unit)) × Unit)) × (List (((List Int) × (List Int) × Unit) ⊕ ((List Tx) × (List Tx) × Unit))) × Unit) × Unit)) => [sAny, (sA (vs.tail.headD .non) (wHl (waCons (wL (wV tBool)) (waCons (wL (wV (tTup (aCons tStr (aCons tStr aNil))))) (waCons (wL (wTup (waCons (wL (wV tBool)) (waCons (wL (wV (tTup (aCons tStr (aCons tStr aNil))))) waNil)))) (waCons (wL (wV (tSum (tTup (aCons (tList tInt) (aCons (tList tInt) aNil))) (tTup (aCons (tList tStr) (aCons (tList tStr) aNil)))))) waNil))))) w_.1), sAny, sAny, sAny, sAny]) (mk := fun r41 => (r41, (state2, ()))) (w := (state2, ())) (.inl (wkX hX rfl)) (by intro _; rfl) (Wk.a (Wk.s (Wk.a (Wk.a (Wk.a (Wk.s Wk.n)))))) (evn_v (ev_inr (ev_tup (fun d vs R h => by rw [(lenS (lenS len0)) h]; decide) (eva_cons (ev_some nn_str (ev_str (md := .sh) (by decide +kernel))) (eva_cons (ev_str (md := .sh) (by decide +kernel)) eva_nil)))))) (evb_ifx (wkX hX rfl) (evt_c ok.toOk (c_eq s_str) (ev_vsh ok.toOk (i := 2) (j := 2) rfl rfl rfl) (ev_str (md := .sh) (by decide +kernel))) (evb_setX ok (i := 5) (j := 5) rfl rfl (ex_pop ok.toOk (.inl (wkX hX rfl)) (evp_hl ok.toOk (.s (.s .z)) (evp_name ok.toOk (i := 1) (j := 1) rfl rfl rfl) (ev_int (md := .sh)))) fun x49 => (evb_qSetMv (d1 := x49.1) (prB := fun d => d.1) ok .z .z (.inl (wkX hX rfl)) (by decide) (j := 5) (iv := 5) rfl rfl rfl (ev_int (md := .sh)) (evp_name ok.toOk (i := 1) (j := 1) rfl rfl rfl) (ev_int (md := .sh)) fun state51 => (evb_qSetMv (d1 := ((), x49.1.2)) (prB := fun d => d.2.1) ok (.s .z) (.s .z) (.inl (wkX hX rfl)) (by decide) (j := 5) (iv := 5) rfl rfl rfl (ev_int (md := .sh)) (evp_name ok.toOk (i := 1) (j := 1) rfl rfl rfl) (ev_int (md := .sh)) fun state53 => (evb_retXo (fo := fun (w_ : (((List Bool) × (List (Tx × Tx × Unit)) × (List ((List Bool) × (List (Tx × Tx × Unit)) × Unit)) × (List (((List Int) × (List Int) × Unit) ⊕ ((List Tx) × (List Tx) × Unit))) × Unit) × Unit)) => [sAny, (sA (vs.tail.headD .non) (wHl (waCons (wL (wV tBool)) (waCons (wL (wV (tTup (aCons tStr (aCons tStr aNil))))) (waCons (wL (wTup (waCons (wL (wV tBool)) (waCons (wL (wV (tTup (aCons tStr (aCons tStr aNil))))) waNil)))) (waCons (wL (wV (tSum (tTup (aCons (tList tInt) (aCons (tList tInt) aNil))) (tTup (aCons (tList tStr) (aCons (tList tStr) aNil)))))) waNil))))) w_.1), sAny, sAny, sAny, sAny]) (mk := fun r58 => (r58, (state53, ()))) (w := (state53, ())) (.inl (wkX hX rfl)) (by intro _; rfl) (Wk.a (Wk.s (Wk.a (Wk.a (Wk.a (Wk.a Wk.n)))))) (evn_v (ev_inl (ev_tup (fun d vs R h => by rw [(lenS len0) h]; decide) (eva_cons (ev_optN (md := .sh)) eva_nil)))))))) (evb_qAppend ok (wkX hX rfl) (evp_hl ok.toOk (.s (.s .z)) (evp_name ok.toOk (i := 1) (j := 1) rfl rfl rfl) (ev_int (md := .sh))) (evn_r (evr_tup (lenWl (n := 2) (by decide) (lenWS (lenWS @lenW0))) (evra_cons ok.toOk (evr_n (evn_l (evl_borrowP (i := 1) flBool rfl (evl_copyQ (md := .sh) ok.toOk sq_l (j := 2) rfl X.g_list (ev_hlIx (n := 0) ok.toOk .z (ev_vsh ok.toOk (i := 1) (j := 1) rfl rfl rfl) (ev_int (md := .sh))))))) (fun g okr => (evra_cons okr (evr_n (evn_l (evl_copyP okr (j := 2) rfl X.g_list (evp_hl okr (.s .z) (evp_name okr (i := 1) (j := 1) rfl rfl rfl) (ev_int (md := .sh)))))) (fun g okr => evra_nil) (by decide))) (by decide)))) fun state72 => (evb_ifx (wkX hX rfl) (evt_c ok.toOk (c_eq s_str) (ev_vsh ok.toOk (i := 2) (j := 2) rfl rfl rfl) (ev_str (md := .sh) (by decide +kernel))) (evb_retXx (fo := fun (w_ : (((List Bool) × (List (Tx × Tx × Unit)) × (List ((List Bool) × (List (Tx × Tx × Unit)) × Unit)) × (List (((List Int) × (List Int) × Unit) ⊕ ((List Tx) × (List Tx) × Unit))) × Unit) × Unit)) => [sAny, (sA (vs.tail.headD .non) (wHl (waCons (wL (wV tBool)) (waCons (wL (wV (tTup (aCons tStr (aCons tStr aNil))))) (waCons (wL (wTup (waCons (wL (wV tBool)) (waCons (wL (wV (tTup (aCons tStr (aCons tStr aNil))))) waNil)))) (waCons (wL (wV (tSum (tTup (aCons (tList tInt) (aCons (tList tInt) aNil))) (tTup (aCons (tList tStr) (aCons (tList tStr) aNil)))))) waNil))))) w_.1), sAny, sAny, sAny, sAny]) (mk := fun r80 => (r80.1, (r80.2, ()))) (w := fun t_ => (t_, ())) (fun _ => rfl) (fun t_ => (Wk.a (Wk.s (Wk.a (Wk.a (Wk.a (Wk.s Wk.n))))))) (ex_as (f := (Sum.inl : ((Option Tx) × Unit) → (((Option Tx) × Unit) ⊕ ((Option Tx) × Tx × Unit)))) (fun h => h) (ex_tup1 (ex_some nn_str (ex_ixA (n := 1) ok.toOk (.s .z) (ex_pop ok.toOk (.inl (wkX hX rfl)) (evp_hl ok.toOk (.s .z) (evp_name ok.toOk (i := 1) (j := 1) rfl rfl rfl) (ev_int (md := .sh)))) fun _ => (ev_int (md := .sh))))))) (evb_if (LJ := (fun (s123 : (((List Bool) × (List (Tx × Tx × Unit)) × (List ((List Bool) × (List (Tx × Tx × Unit)) × Unit)) × (List (((List Int) × (List Int) × Unit) ⊕ ((List Tx) × (List Tx) × Unit))) × Unit))) => [(sV false (tTup (aCons (tList tInt) (aCons (tList (tList tInt)) aNil))) setting1), (sA (vs.tail.headD .non) (wHl (waCons (wL (wV tBool)) (waCons (wL (wV (tTup (aCons tStr (aCons tStr aNil))))) (waCons (wL (wTup (waCons (wL (wV tBool)) (waCons (wL (wV (tTup (aCons tStr (aCons tStr aNil))))) waNil)))) (waCons (wL (wV (tSum (tTup (aCons (tList tInt) (aCons (tList tInt) aNil))) (tTup (aCons (tList tStr) (aCons (tList tStr) aNil)))))) waNil))))) s123), (sV false tStr way3), (sV false tInt at4), (sV false tStr letter5), sAny])) (wkX hX rfl) (evt_c ok.toOk (c_eq s_str) (ev_vsh ok.toOk (i := 2) (j := 2) rfl rfl rfl) (ev_str (md := .sh) (by decide +kernel))) (evb_qAppend ok (wkX hX rfl) (evp_hl ok.toOk (.s .z) (evp_name ok.toOk (i := 1) (j := 1) rfl rfl rfl) (ev_int (md := .sh))) (evn_v (ev_sh (ev_tup (fun d vs R h => by rw [(lenS (lenS len0)) h]; decide) (eva_cons (ev_flat (md' := .fx) flStr (ev_borrowP (i := 1) (.inl flStr) rfl (ev_call (md' := .sh) ok.toOk (fn__law_shed X) (by decide) (j := 4) rfl .sh (eva_cons (md := .sh) (ev_ixA (n := 0) ok.toOk .z (ev_vsh ok.toOk (i := 0) (j := 0) rfl rfl rfl) (ev_int (md := .sh))) (eva_cons (md := .sh) (ev_ofL (evl_call (md' := .sh) ok.toOk (fn__law_lifted X) (by decide) (j := 3) rfl .sh (eva_cons (md := .sh) (ev_ixA (n := 1) ok.toOk (.s .z) (ev_vsh ok.toOk (i := 0) (j := 0) rfl rfl rfl) (ev_int (md := .sh))) (eva_cons (md := .sh) (ev_hlIx (n := 0) ok.toOk .z (ev_vsh ok.toOk (i := 1) (j := 1) rfl rfl rfl) (ev_int (md := .sh))) eva_nil)))) eva_nil))))) (eva_cons (ev_flat (md' := .fx) flStr (ev_vsh ok.toOk (i := 4) (j := 4) rfl rfl rfl)) eva_nil))))) fun state112 => (evb_nx (by rfl) (Wk.s (Wk.s (Wk.s (Wk.s (Wk.s (Wk.s Wk.n)))))))) (evb_qSet ok (wkX hX rfl) (ev_c (md' := .sh) ok.toOk (c_eq s_str) (ev_vsh ok.toOk (i := 2) (j := 2) rfl rfl rfl) (ev_str (md := .sh) (by decide +kernel))) (evp_hl ok.toOk .z (evp_name ok.toOk (i := 1) (j := 1) rfl rfl rfl) (ev_int (md := .sh))) (ev_vsh ok.toOk (i := 3) (j := 3) rfl rfl rfl) fun state120 => (evb_nx (by rfl) (Wk.s (Wk.s (Wk.s (Wk.s (Wk.s (Wk.s Wk.n)))))))) fun s123 => (evb_retXo (fo := fun (w_ : (((List Bool) × (List (Tx × Tx × Unit)) × (List ((List Bool) × (List (Tx × Tx × Unit)) × Unit)) × (List (((List Int) × (List Int) × Unit) ⊕ ((List Tx) × (List Tx) × Unit))) × Unit) × Unit)) => [sAny, (sA (vs.tail.headD .non) (wHl (waCons (wL (wV tBool)) (waCons (wL (wV (tTup (aCons tStr (aCons tStr aNil))))) (waCons (wL (wTup (waCons (wL (wV tBool)) (waCons (wL (wV (tTup (aCons tStr (aCons tStr aNil))))) waNil)))) (waCons (wL (wV (tSum (tTup (aCons (tList tInt) (aCons (tList tInt) aNil))) (tTup (aCons (tList tStr) (aCons (tList tStr) aNil)))))) waNil))))) w_.1), sAny, sAny, sAny, sAny]) (mk := fun r128 => (r128, (s123, ()))) (w := (s123, ())) (.inl (wkX hX rfl)) (by intro _; rfl) (Wk.a (Wk.s (Wk.a (Wk.a (Wk.a (Wk.s Wk.n)))))) (evn_v (ev_inl (ev_tup (fun d vs R h => by rw [(lenS len0) h]; decide) (eva_cons (ev_optN (md := .sh)) eva_nil)))))))))))
theorem fn__law_moved_on {p : Pr} (X : Facts p) : Fn p 2 "_law_moved_on" ["setting", "state", "way", "at", "letter"] (spX p (waCons (wV (tTup (aCons (tList tInt) (aCons (tList (tList tInt)) aNil)))) (waCons (wHl (waCons (wL (wV tBool)) (waCons (wL (wV (tTup (aCons tStr (aCons tStr aNil))))) (waCons (wL (wTup (waCons (wL (wV tBool)) (waCons (wL (wV (tTup (aCons tStr (aCons tStr aNil))))) waNil)))) (waCons (wL (wV (tSum (tTup (aCons (tList tInt) (aCons (tList tInt) aNil))) (tTup (aCons (tList tStr) (aCons (tList tStr) aNil)))))) waNil))))) (waCons (wV tStr) (waCons (wV tInt) (waCons (wV tStr) waNil))))) (fun (d : (((List Int) × (List (List Int)) × Unit) × (((List Bool) × (List (Tx × Tx × Unit)) × (List ((List Bool) × (List (Tx × Tx × Unit)) × Unit)) × (List (((List Int) × (List Int) × Unit) ⊕ ((List Tx) × (List Tx) × Unit))) × Unit) × (Tx × (Int × (Tx × Unit)))))) (w : (((List Bool) × (List (Tx × Tx × Unit)) × (List ((List Bool) × (List (Tx × Tx × Unit)) × Unit)) × (List (((List Int) × (List Int) × Unit) ⊕ ((List Tx) × (List Tx) × Unit))) × Unit) × Unit)) => (d.1, (fun (d : (((List Bool) × (List (Tx × Tx × Unit)) × (List ((List Bool) × (List (Tx × Tx × Unit)) × Unit)) × (List (((List Int) × (List Int) × Unit) ⊕ ((List Tx) × (List Tx) × Unit))) × Unit) × (Tx × (Int × (Tx × Unit))))) (w : (((List Bool) × (List (Tx × Tx × Unit)) × (List ((List Bool) × (List (Tx × Tx × Unit)) × Unit)) × (List (((List Int) × (List Int) × Unit) ⊕ ((List Tx) × (List Tx) × Unit))) × Unit) × Unit)) => (w.1, (fun (d : (Tx × (Int × (Tx × Unit)))) (w : Unit) => (d.1, (fun (d : (Int × (Tx × Unit))) (w : Unit) => (d.1, (fun (d : (Tx × Unit)) (w : Unit) => (d.1, (fun (d : Unit) (_ : Unit) => d) d.2 w)) d.2 w)) d.2 w)) d.2 w.2)) d.2 w)) (wV (tSum (tTup (aCons (tOpt tStr) aNil)) (tTup (aCons (tOpt tStr) (aCons tStr aNil))))) false c__law_moved_on) := by
  obtain ⟨f, fd, hF, hm⟩ := X.d__law_moved_on
  exact ⟨f, fd, eq__law_moved_on ▸ fn_X (D' := fun vs (r : ((((Option Tx) × Unit) ⊕ ((Option Tx) × Tx × Unit)) × (((List Bool) × (List (Tx × Tx × Unit)) × (List ((List Bool) × (List (Tx × Tx × Unit)) × Unit)) × (List (((List Int) × (List Int) × Unit) ⊕ ((List Tx) × (List Tx) × Unit))) × Unit) × Unit))) => xOut (fun (w_ : (((List Bool) × (List (Tx × Tx × Unit)) × (List ((List Bool) × (List (Tx × Tx × Unit)) × Unit)) × (List (((List Int) × (List Int) × Unit) ⊕ ((List Tx) × (List Tx) × Unit))) × Unit) × Unit)) => [sAny, (sA (vs.tail.headD .non) (wHl (waCons (wL (wV tBool)) (waCons (wL (wV (tTup (aCons tStr (aCons tStr aNil))))) (waCons (wL (wTup (waCons (wL (wV tBool)) (waCons (wL (wV (tTup (aCons tStr (aCons tStr aNil))))) waNil)))) (waCons (wL (wV (tSum (tTup (aCons (tList tInt) (aCons (tList tInt) aNil))) (tTup (aCons (tList tStr) (aCons (tList tStr) aNil)))))) waNil))))) w_.1), sAny, sAny, sAny, sAny]) (wV (tSum (tTup (aCons (tOpt tStr) aNil)) (tTup (aCons (tOpt tStr) (aCons tStr aNil))))) r) (kx := false) (m := 1) hF sc__law_moved_on (.sh (.ow (.sh (.sh (.sh .nil))))) rfl rfl (fun r vs fm Q h => h) (fun vs g ok d hX => bb__law_moved_on X ok vs d.1 d.2.1 d.2.2.1 d.2.2.2.1 d.2.2.2.2.1 hX), hm, hF.kp, hF.bindsN fun _ _ _ _ _ _ us hl => match us, hl with | [_, _, _, _, _], _ => rfl⟩
abbrev s_Loom_has_treadle : Stmt := ((clsBody (topS 15)).getD 1 (.Pass ⟨0, 0, 0, 0⟩))
abbrev N_Loom_has_treadle : List Str := ["self", "treadle"]
abbrev V_Loom_has_treadle : List Str := ["self", "treadle"]
abbrev G_Loom_has_treadle : List Str := ["len"]
theorem sc_Loom_has_treadle : Sc s_Loom_has_treadle N_Loom_has_treadle V_Loom_has_treadle ["self", "treadle"] G_Loom_has_treadle := ⟨⟨rfl, rfl, rfl, by decide +kernel, rfl, by decide +kernel, by decide +kernel⟩, by decide +kernel, by decide +kernel, by decide +kernel⟩
def q_Loom_has_treadle (self1 : O_Loom) (treadle2 : Int) : M Bool := M.ok ((decide ((0 : Int) ≤ treadle2)) && (decide (treadle2 < (self1.2.1.length : Int))))
def f_Loom_has_treadle (self1 : O_Loom) (treadle2 : Int) : M Bool := M.ok ((decide ((0 : Int) ≤ treadle2)) && (decide (treadle2 < (self1.2.1.length : Int))))
def r_Loom_has_treadle (d : (O_Loom × Int × Unit)) : M Bool := q_Loom_has_treadle d.1 d.2.1
def c_Loom_has_treadle (d : (O_Loom × Int × Unit)) : M Bool := f_Loom_has_treadle d.1 d.2.1
theorem eq_Loom_has_treadle : r_Loom_has_treadle = c_Loom_has_treadle := by funext d; first | (simp only [r_Loom_has_treadle, c_Loom_has_treadle, q_Loom_has_treadle, f_Loom_has_treadle, M.bind_assoc, M.bok]; done) | (simp only [r_Loom_has_treadle, c_Loom_has_treadle, q_Loom_has_treadle, f_Loom_has_treadle, M.bind_assoc, M.bok]; rfl)
theorem bb_Loom_has_treadle {p : Pr} (X : Facts p) {g : G} (ok : OkS p (defScope s_Loom_has_treadle) N_Loom_has_treadle V_Loom_has_treadle G_Loom_has_treadle 0 g) (hX : g.LX = List.replicate N_Loom_has_treadle.length sAny) (self1 : O_Loom) (treadle2 : Int) : EvB g [(sV false (tIns (cA p "Loom") (fl_Loom p)) self1), (sV false tInt treadle2)] (defBody s_Loom_has_treadle) (fun r => .rt false tBool r) (q_Loom_has_treadle self1 treadle2) := (evb_ret (wkX hX rfl) .sh (by intro _; rfl) (ev_chainI (md := .sh) (md' := .sh) ok.toOk ch_le ch_lt (ev_int (md := .sh)) (ev_vsh ok.toOk (i := 1) (j := 1) rfl rfl rfl) (ev_lenQ (md' := .sh) ok.toOk sq_l (j := 0) rfl X.g_len (ev_fld (T := (tList (tList tInt))) (pr := fun (d : O_Loom) => d.2.1) ok.toOk X.a_Loom X.n_Loom_ties (fun d => (.there (n := "threading") rfl (by decide +kernel) .here)) (ev_vsh ok.toOk (i := 0) (j := 0) rfl rfl rfl))) rfl rfl rfl))
theorem b_Loom_has_treadle {p : Pr} (X : Facts p) : Body p s_Loom_has_treadle N_Loom_has_treadle V_Loom_has_treadle G_Loom_has_treadle 0 (fun (d : (O_Loom × Int × Unit)) => [(sV false (tIns (cA p "Loom") (fl_Loom p)) d.1), (sV false tInt d.2.1)]) (fun r => .rt false tBool r) r_Loom_has_treadle := fun g ok hX d => bb_Loom_has_treadle X ok hX d.1 d.2.1
theorem me_Loom_has_treadle {p : Pr} (X : Facts p) : MeF p 1 "Loom" "has_treadle" ["treadle"] (spM p (aCons (tIns (cA p "Loom") (fl_Loom p)) (aCons tInt aNil)) (fun r => .rt false tBool r) c_Loom_has_treadle) := by
  obtain ⟨f, fd, hF, hc, hm⟩ := X.m_Loom_has_treadle
  exact ⟨f, fd, eq_Loom_has_treadle ▸ fn_rt (m := 0) hF sc_Loom_has_treadle (.cons (.cons .nil)) rfl rfl (b_Loom_has_treadle X), hc, hm, hF.bindsN fun _ _ _ _ _ _ us hl => match us, hl with | [_, _], _ => rfl⟩
abbrev s_Loom_press : Stmt := ((clsBody (topS 15)).getD 2 (.Pass ⟨0, 0, 0, 0⟩))
abbrev N_Loom_press : List Str := ["self", "treadle"]
abbrev V_Loom_press : List Str := ["self", "treadle"]
abbrev G_Loom_press : List Str := ["NoDeed"]
theorem sc_Loom_press : Sc s_Loom_press N_Loom_press V_Loom_press ["self", "treadle"] G_Loom_press := ⟨⟨rfl, rfl, rfl, by decide +kernel, rfl, by decide +kernel, by decide +kernel⟩, by decide +kernel, by decide +kernel, by decide +kernel⟩
def q_Loom_press (self1 : O_Loom) (treadle2 : Int) : M (Unit × (O_Loom × Unit)) := M.bind (M.bind (M.bind (M.bind (M.ok self1) fun y5 => M.bind (M.bind (M.ok treadle2) fun y3 => M.bind (M.ok ()) fun y4 => M.ok (y3, y4)) fun y6 => c_Loom_has_treadle (y5, y6)) fun y9 => M.ok (!y9)) fun c13 => if c13 = true then M.ok true else M.bind (M.bind (M.ok self1) fun y10 => M.ok y10.2.2.1) fun y11 => M.bind (M.ok treadle2) fun y12 => getM y11 y12) fun c37 => if c37 = true then M.ex .noDeed else M.bind (M.ok true) fun y35 => M.bind (M.bind (M.ok (self1, fun (y : O_Loom) => y)) fun y16 => M.ok (y16.1.2.2.1, fun (y : (List Bool)) => y16.2 (y16.1.1, (y16.1.2.1, (y, y16.1.2.2.2))))) fun q17 => M.bind (M.ok treadle2) fun y36 => M.bind (setM q17.1 y36 y35) fun l18 => M.bind (M.ok (q17.2 l18)) fun self19 => M.bind (M.bind (M.ok (self19, fun (y : O_Loom) => y)) fun y30 => M.ok (y30.1.2.2.2.2.1, fun (y : (List (Tx × Int × (Option ((List Int) × Tx × Tx × Unit)) × Unit))) => y30.2 (y30.1.1, (y30.1.2.1, (y30.1.2.2.1, (y30.1.2.2.2.1, (y, y30.1.2.2.2.2.2))))))) fun q31 => M.bind (M.bind (M.ok (tx "press")) fun y25 => M.bind (M.bind (M.ok treadle2) fun y23 => M.bind (M.bind (M.ok none) fun y21 => M.bind (M.ok ()) fun y22 => M.ok (y21, y22)) fun y24 => M.ok (y23, y24)) fun y26 => M.ok (y25, y26)) fun y34 => M.bind (pushM q31.1 y34) fun l32 => M.bind (M.ok (q31.2 l32)) fun self33 => M.ok ((), (self33, ()))
def f_Loom_press (self1 : O_Loom) (treadle2 : Int) : M (Unit × (O_Loom × Unit)) := M.bind (M.bind (M.bind (f_Loom_has_treadle self1 treadle2) fun y9 => M.ok (!y9)) fun c14 => if c14 = true then M.ok true else getM self1.2.2.1 treadle2) fun c38 => if c38 = true then M.ex .noDeed else M.bind (setM ((self1, fun (y : O_Loom) => y).1.2.2.1, fun (y : (List Bool)) => (self1, fun (y : O_Loom) => y).2 ((self1, fun (y : O_Loom) => y).1.1, ((self1, fun (y : O_Loom) => y).1.2.1, (y, (self1, fun (y : O_Loom) => y).1.2.2.2)))).1 treadle2 true) fun l18 => let self19 : O_Loom := ((self1, fun (y : O_Loom) => y).1.2.2.1, fun (y : (List Bool)) => (self1, fun (y : O_Loom) => y).2 ((self1, fun (y : O_Loom) => y).1.1, ((self1, fun (y : O_Loom) => y).1.2.1, (y, (self1, fun (y : O_Loom) => y).1.2.2.2)))).2 l18; M.bind (pushM ((self19, fun (y : O_Loom) => y).1.2.2.2.2.1, fun (y : (List (Tx × Int × (Option ((List Int) × Tx × Tx × Unit)) × Unit))) => (self19, fun (y : O_Loom) => y).2 ((self19, fun (y : O_Loom) => y).1.1, ((self19, fun (y : O_Loom) => y).1.2.1, ((self19, fun (y : O_Loom) => y).1.2.2.1, ((self19, fun (y : O_Loom) => y).1.2.2.2.1, (y, (self19, fun (y : O_Loom) => y).1.2.2.2.2.2)))))).1 ((tx "press"), treadle2, none, ())) fun l32 => let self33 : O_Loom := ((self19, fun (y : O_Loom) => y).1.2.2.2.2.1, fun (y : (List (Tx × Int × (Option ((List Int) × Tx × Tx × Unit)) × Unit))) => (self19, fun (y : O_Loom) => y).2 ((self19, fun (y : O_Loom) => y).1.1, ((self19, fun (y : O_Loom) => y).1.2.1, ((self19, fun (y : O_Loom) => y).1.2.2.1, ((self19, fun (y : O_Loom) => y).1.2.2.2.1, (y, (self19, fun (y : O_Loom) => y).1.2.2.2.2.2)))))).2 l32; M.ok ((), (self33, ()))
def r_Loom_press (d : (O_Loom × Int × Unit)) : M (Unit × (O_Loom × Unit)) := q_Loom_press d.1 d.2.1
def c_Loom_press (d : (O_Loom × Int × Unit)) : M (Unit × (O_Loom × Unit)) := f_Loom_press d.1 d.2.1
theorem eq_Loom_press : r_Loom_press = c_Loom_press := by funext d; first | (simp only [r_Loom_press, c_Loom_press, q_Loom_press, f_Loom_press, M.bind_assoc, M.bok, c_Loom_has_treadle]; done) | (simp only [r_Loom_press, c_Loom_press, q_Loom_press, f_Loom_press, M.bind_assoc, M.bok, c_Loom_has_treadle]; rfl)
theorem bb_Loom_press {p : Pr} (X : Facts p) {g : G} (ok : OkS p (defScope s_Loom_press) N_Loom_press V_Loom_press G_Loom_press 1 g) (vs : List V) (self1 : O_Loom) (treadle2 : Int) (hX : g.LX = [(sA (vs.headD .non) (wIns (cA p "Loom") ["threading", "ties", "pressed", "thrown", "done_deeds"] (waCons (wV (tList tInt)) (waCons (wV (tList (tList tInt))) (waCons (wL (wV tBool)) (waCons (wL (wV (tTup (aCons (tTupL tInt) (aCons tStr (aCons tStr aNil)))))) (waCons (wL (wV (tTup (aCons tStr (aCons tInt (aCons (tOpt (tTup (aCons (tTupL tInt) (aCons tStr (aCons tStr aNil))))) aNil)))))) waNil)))))) self1), sAny]) : EvB g [(sA (vs.headD .non) (wIns (cA p "Loom") ["threading", "ties", "pressed", "thrown", "done_deeds"] (waCons (wV (tList tInt)) (waCons (wV (tList (tList tInt))) (waCons (wL (wV tBool)) (waCons (wL (wV (tTup (aCons (tTupL tInt) (aCons tStr (aCons tStr aNil)))))) (waCons (wL (wV (tTup (aCons tStr (aCons tInt (aCons (tOpt (tTup (aCons (tTupL tInt) (aCons tStr (aCons tStr aNil))))) aNil)))))) waNil)))))) self1), (sV false tInt treadle2)] (defBody s_Loom_press) (fun (r : (Unit × (O_Loom × Unit))) => .nx [(sA (vs.headD .non) (wIns (cA p "Loom") ["threading", "ties", "pressed", "thrown", "done_deeds"] (waCons (wV (tList tInt)) (waCons (wV (tList (tList tInt))) (waCons (wL (wV tBool)) (waCons (wL (wV (tTup (aCons (tTupL tInt) (aCons tStr (aCons tStr aNil)))))) (waCons (wL (wV (tTup (aCons tStr (aCons tInt (aCons (tOpt (tTup (aCons (tTupL tInt) (aCons tStr (aCons tStr aNil))))) aNil)))))) waNil)))))) r.2.1), sAny]) (q_Loom_press self1 treadle2) := (evb_ifr ok (wkL hX (Wk.s (Wk.a Wk.n))) X.x_NoDeed (jj := 0) (j := 0) rfl (evt_borrowP (i := 0) rfl (EvW.t (evw_or (evt_not (evt_of (ev_meth ok.toOk (me_Loom_has_treadle X) (by decide) (nm := ["threading", "ties", "pressed", "thrown", "done_deeds"]) (fun _ => rfl) (by decide +kernel) (ev_sh (ev_vsh ok.toOk (i := 0) (j := 0) rfl rfl rfl)) (eva_cons (md := .sh) (ev_vsh ok.toOk (i := 1) (j := 1) rfl rfl rfl) eva_nil)))) (evw_or1 (evt_of (ev_ixQ ok.toOk sq_l (ev_fld (T := (tList tBool)) (pr := fun (d : O_Loom) => d.2.2.1) ok.toOk X.a_Loom X.n_Loom_pressed (fun d => (.there (n := "threading") rfl (by decide +kernel) (.there (n := "ties") rfl (by decide +kernel) .here))) (ev_vsh ok.toOk (i := 0) (j := 0) rfl rfl rfl)) (ev_vsh ok.toOk (i := 1) (j := 1) rfl rfl rfl))))))) (evb_qSet ok (wkL hX (Wk.s (Wk.a Wk.n))) (ev_bool (md := .sh)) (evp_fld ok.toOk X.a_Loom X.n_Loom_pressed (.s (.s .z)) rfl (evp_name ok.toOk (i := 0) (j := 0) rfl rfl rfl)) (ev_vsh ok.toOk (i := 1) (j := 1) rfl rfl rfl) fun self19 => (evb_noex ok (by repeat first | exact nx_ok | exact pushM_nx | exact setM_nx | exact popX_nx | exact popM_nx | exact unM_nx | exact getM_nx | refine NoEx.ite ?_ ?_ | refine NoEx.bind ?_ fun _ => ?_) fun g ok hX => (evb_qAppend ok (wkX hX rfl) (evp_fld ok.toOk X.a_Loom X.n_Loom_done_deeds (.s (.s (.s (.s .z)))) rfl (evp_name ok.toOk (i := 0) (j := 0) rfl rfl rfl)) (evn_v (ev_tup (fun d vs R h => by rw [(lenS (lenS (lenS len0))) h]; decide) (eva_cons (ev_str (md := .sh) (by decide +kernel)) (eva_cons (ev_vsh ok.toOk (i := 1) (j := 1) rfl rfl rfl) (eva_cons (ev_optN (md := .sh)) eva_nil))))) fun self33 => (evb_nx (by rfl) (Wk.s (Wk.a Wk.n)))))))
theorem me_Loom_press {p : Pr} (X : Facts p) : MeF p 2 "Loom" "press" ["treadle"] (spX p (waCons (wIns (cA p "Loom") ["threading", "ties", "pressed", "thrown", "done_deeds"] (waCons (wV (tList tInt)) (waCons (wV (tList (tList tInt))) (waCons (wL (wV tBool)) (waCons (wL (wV (tTup (aCons (tTupL tInt) (aCons tStr (aCons tStr aNil)))))) (waCons (wL (wV (tTup (aCons tStr (aCons tInt (aCons (tOpt (tTup (aCons (tTupL tInt) (aCons tStr (aCons tStr aNil))))) aNil)))))) waNil)))))) (waCons (wV tInt) waNil)) (fun (d : (O_Loom × (Int × Unit))) (w : (O_Loom × Unit)) => (w.1, (fun (d : (Int × Unit)) (w : Unit) => (d.1, (fun (d : Unit) (_ : Unit) => d) d.2 w)) d.2 w.2)) (wV tNone) true c_Loom_press) := by
  obtain ⟨f, fd, hF, hc, hm⟩ := X.m_Loom_press
  exact ⟨f, fd, eq_Loom_press ▸ fn_X (D' := fun vs (r : (Unit × (O_Loom × Unit))) => .nx [(sA (vs.headD .non) (wIns (cA p "Loom") ["threading", "ties", "pressed", "thrown", "done_deeds"] (waCons (wV (tList tInt)) (waCons (wV (tList (tList tInt))) (waCons (wL (wV tBool)) (waCons (wL (wV (tTup (aCons (tTupL tInt) (aCons tStr (aCons tStr aNil)))))) (waCons (wL (wV (tTup (aCons tStr (aCons tInt (aCons (tOpt (tTup (aCons (tTupL tInt) (aCons tStr (aCons tStr aNil))))) aNil)))))) waNil)))))) r.2.1), sAny]) (kx := true) (m := 0) hF sc_Loom_press (.ow (.sh .nil)) rfl rfl (fun r vs fm Q h => x_nx h) (fun vs g ok d hX => bb_Loom_press X ok vs d.1 d.2.1 hX), hc, hm, hF.bindsN fun _ _ _ _ _ _ us hl => match us, hl with | [_, _], _ => rfl⟩
abbrev s_Loom_lift : Stmt := ((clsBody (topS 15)).getD 3 (.Pass ⟨0, 0, 0, 0⟩))
abbrev N_Loom_lift : List Str := ["self", "treadle"]
abbrev V_Loom_lift : List Str := ["self", "treadle"]
abbrev G_Loom_lift : List Str := ["NoDeed"]
theorem sc_Loom_lift : Sc s_Loom_lift N_Loom_lift V_Loom_lift ["self", "treadle"] G_Loom_lift := ⟨⟨rfl, rfl, rfl, by decide +kernel, rfl, by decide +kernel, by decide +kernel⟩, by decide +kernel, by decide +kernel, by decide +kernel⟩
def q_Loom_lift (self1 : O_Loom) (treadle2 : Int) : M (Unit × (O_Loom × Unit)) := M.bind (M.bind (M.bind (M.bind (M.ok self1) fun y5 => M.bind (M.bind (M.ok treadle2) fun y3 => M.bind (M.ok ()) fun y4 => M.ok (y3, y4)) fun y6 => c_Loom_has_treadle (y5, y6)) fun y9 => M.ok (!y9)) fun c14 => if c14 = true then M.ok true else M.bind (M.bind (M.bind (M.ok self1) fun y10 => M.ok y10.2.2.1) fun y11 => M.bind (M.ok treadle2) fun y12 => getM y11 y12) fun y13 => M.ok (!y13)) fun c38 => if c38 = true then M.ex .noDeed else M.bind (M.ok false) fun y36 => M.bind (M.bind (M.ok (self1, fun (y : O_Loom) => y)) fun y17 => M.ok (y17.1.2.2.1, fun (y : (List Bool)) => y17.2 (y17.1.1, (y17.1.2.1, (y, y17.1.2.2.2))))) fun q18 => M.bind (M.ok treadle2) fun y37 => M.bind (setM q18.1 y37 y36) fun l19 => M.bind (M.ok (q18.2 l19)) fun self20 => M.bind (M.bind (M.ok (self20, fun (y : O_Loom) => y)) fun y31 => M.ok (y31.1.2.2.2.2.1, fun (y : (List (Tx × Int × (Option ((List Int) × Tx × Tx × Unit)) × Unit))) => y31.2 (y31.1.1, (y31.1.2.1, (y31.1.2.2.1, (y31.1.2.2.2.1, (y, y31.1.2.2.2.2.2))))))) fun q32 => M.bind (M.bind (M.ok (tx "lift")) fun y26 => M.bind (M.bind (M.ok treadle2) fun y24 => M.bind (M.bind (M.ok none) fun y22 => M.bind (M.ok ()) fun y23 => M.ok (y22, y23)) fun y25 => M.ok (y24, y25)) fun y27 => M.ok (y26, y27)) fun y35 => M.bind (pushM q32.1 y35) fun l33 => M.bind (M.ok (q32.2 l33)) fun self34 => M.ok ((), (self34, ()))
def f_Loom_lift (self1 : O_Loom) (treadle2 : Int) : M (Unit × (O_Loom × Unit)) := M.bind (M.bind (M.bind (f_Loom_has_treadle self1 treadle2) fun y9 => M.ok (!y9)) fun c15 => if c15 = true then M.ok true else M.bind (getM self1.2.2.1 treadle2) fun y13 => M.ok (!y13)) fun c39 => if c39 = true then M.ex .noDeed else M.bind (setM ((self1, fun (y : O_Loom) => y).1.2.2.1, fun (y : (List Bool)) => (self1, fun (y : O_Loom) => y).2 ((self1, fun (y : O_Loom) => y).1.1, ((self1, fun (y : O_Loom) => y).1.2.1, (y, (self1, fun (y : O_Loom) => y).1.2.2.2)))).1 treadle2 false) fun l19 => let self20 : O_Loom := ((self1, fun (y : O_Loom) => y).1.2.2.1, fun (y : (List Bool)) => (self1, fun (y : O_Loom) => y).2 ((self1, fun (y : O_Loom) => y).1.1, ((self1, fun (y : O_Loom) => y).1.2.1, (y, (self1, fun (y : O_Loom) => y).1.2.2.2)))).2 l19; M.bind (pushM ((self20, fun (y : O_Loom) => y).1.2.2.2.2.1, fun (y : (List (Tx × Int × (Option ((List Int) × Tx × Tx × Unit)) × Unit))) => (self20, fun (y : O_Loom) => y).2 ((self20, fun (y : O_Loom) => y).1.1, ((self20, fun (y : O_Loom) => y).1.2.1, ((self20, fun (y : O_Loom) => y).1.2.2.1, ((self20, fun (y : O_Loom) => y).1.2.2.2.1, (y, (self20, fun (y : O_Loom) => y).1.2.2.2.2.2)))))).1 ((tx "lift"), treadle2, none, ())) fun l33 => let self34 : O_Loom := ((self20, fun (y : O_Loom) => y).1.2.2.2.2.1, fun (y : (List (Tx × Int × (Option ((List Int) × Tx × Tx × Unit)) × Unit))) => (self20, fun (y : O_Loom) => y).2 ((self20, fun (y : O_Loom) => y).1.1, ((self20, fun (y : O_Loom) => y).1.2.1, ((self20, fun (y : O_Loom) => y).1.2.2.1, ((self20, fun (y : O_Loom) => y).1.2.2.2.1, (y, (self20, fun (y : O_Loom) => y).1.2.2.2.2.2)))))).2 l33; M.ok ((), (self34, ()))
def r_Loom_lift (d : (O_Loom × Int × Unit)) : M (Unit × (O_Loom × Unit)) := q_Loom_lift d.1 d.2.1
def c_Loom_lift (d : (O_Loom × Int × Unit)) : M (Unit × (O_Loom × Unit)) := f_Loom_lift d.1 d.2.1
theorem eq_Loom_lift : r_Loom_lift = c_Loom_lift := by funext d; first | (simp only [r_Loom_lift, c_Loom_lift, q_Loom_lift, f_Loom_lift, M.bind_assoc, M.bok, c_Loom_has_treadle]; done) | (simp only [r_Loom_lift, c_Loom_lift, q_Loom_lift, f_Loom_lift, M.bind_assoc, M.bok, c_Loom_has_treadle]; rfl)
theorem bb_Loom_lift {p : Pr} (X : Facts p) {g : G} (ok : OkS p (defScope s_Loom_lift) N_Loom_lift V_Loom_lift G_Loom_lift 1 g) (vs : List V) (self1 : O_Loom) (treadle2 : Int) (hX : g.LX = [(sA (vs.headD .non) (wIns (cA p "Loom") ["threading", "ties", "pressed", "thrown", "done_deeds"] (waCons (wV (tList tInt)) (waCons (wV (tList (tList tInt))) (waCons (wL (wV tBool)) (waCons (wL (wV (tTup (aCons (tTupL tInt) (aCons tStr (aCons tStr aNil)))))) (waCons (wL (wV (tTup (aCons tStr (aCons tInt (aCons (tOpt (tTup (aCons (tTupL tInt) (aCons tStr (aCons tStr aNil))))) aNil)))))) waNil)))))) self1), sAny]) : EvB g [(sA (vs.headD .non) (wIns (cA p "Loom") ["threading", "ties", "pressed", "thrown", "done_deeds"] (waCons (wV (tList tInt)) (waCons (wV (tList (tList tInt))) (waCons (wL (wV tBool)) (waCons (wL (wV (tTup (aCons (tTupL tInt) (aCons tStr (aCons tStr aNil)))))) (waCons (wL (wV (tTup (aCons tStr (aCons tInt (aCons (tOpt (tTup (aCons (tTupL tInt) (aCons tStr (aCons tStr aNil))))) aNil)))))) waNil)))))) self1), (sV false tInt treadle2)] (defBody s_Loom_lift) (fun (r : (Unit × (O_Loom × Unit))) => .nx [(sA (vs.headD .non) (wIns (cA p "Loom") ["threading", "ties", "pressed", "thrown", "done_deeds"] (waCons (wV (tList tInt)) (waCons (wV (tList (tList tInt))) (waCons (wL (wV tBool)) (waCons (wL (wV (tTup (aCons (tTupL tInt) (aCons tStr (aCons tStr aNil)))))) (waCons (wL (wV (tTup (aCons tStr (aCons tInt (aCons (tOpt (tTup (aCons (tTupL tInt) (aCons tStr (aCons tStr aNil))))) aNil)))))) waNil)))))) r.2.1), sAny]) (q_Loom_lift self1 treadle2) := (evb_ifr ok (wkL hX (Wk.s (Wk.a Wk.n))) X.x_NoDeed (jj := 0) (j := 0) rfl (evt_borrowP (i := 0) rfl (EvW.t (evw_or (evt_not (evt_of (ev_meth ok.toOk (me_Loom_has_treadle X) (by decide) (nm := ["threading", "ties", "pressed", "thrown", "done_deeds"]) (fun _ => rfl) (by decide +kernel) (ev_sh (ev_vsh ok.toOk (i := 0) (j := 0) rfl rfl rfl)) (eva_cons (md := .sh) (ev_vsh ok.toOk (i := 1) (j := 1) rfl rfl rfl) eva_nil)))) (evw_or1 (evt_not (evt_of (ev_ixQ ok.toOk sq_l (ev_fld (T := (tList tBool)) (pr := fun (d : O_Loom) => d.2.2.1) ok.toOk X.a_Loom X.n_Loom_pressed (fun d => (.there (n := "threading") rfl (by decide +kernel) (.there (n := "ties") rfl (by decide +kernel) .here))) (ev_vsh ok.toOk (i := 0) (j := 0) rfl rfl rfl)) (ev_vsh ok.toOk (i := 1) (j := 1) rfl rfl rfl)))))))) (evb_qSet ok (wkL hX (Wk.s (Wk.a Wk.n))) (ev_bool (md := .sh)) (evp_fld ok.toOk X.a_Loom X.n_Loom_pressed (.s (.s .z)) rfl (evp_name ok.toOk (i := 0) (j := 0) rfl rfl rfl)) (ev_vsh ok.toOk (i := 1) (j := 1) rfl rfl rfl) fun self20 => (evb_noex ok (by repeat first | exact nx_ok | exact pushM_nx | exact setM_nx | exact popX_nx | exact popM_nx | exact unM_nx | exact getM_nx | refine NoEx.ite ?_ ?_ | refine NoEx.bind ?_ fun _ => ?_) fun g ok hX => (evb_qAppend ok (wkX hX rfl) (evp_fld ok.toOk X.a_Loom X.n_Loom_done_deeds (.s (.s (.s (.s .z)))) rfl (evp_name ok.toOk (i := 0) (j := 0) rfl rfl rfl)) (evn_v (ev_tup (fun d vs R h => by rw [(lenS (lenS (lenS len0))) h]; decide) (eva_cons (ev_str (md := .sh) (by decide +kernel)) (eva_cons (ev_vsh ok.toOk (i := 1) (j := 1) rfl rfl rfl) (eva_cons (ev_optN (md := .sh)) eva_nil))))) fun self34 => (evb_nx (by rfl) (Wk.s (Wk.a Wk.n)))))))
theorem me_Loom_lift {p : Pr} (X : Facts p) : MeF p 2 "Loom" "lift" ["treadle"] (spX p (waCons (wIns (cA p "Loom") ["threading", "ties", "pressed", "thrown", "done_deeds"] (waCons (wV (tList tInt)) (waCons (wV (tList (tList tInt))) (waCons (wL (wV tBool)) (waCons (wL (wV (tTup (aCons (tTupL tInt) (aCons tStr (aCons tStr aNil)))))) (waCons (wL (wV (tTup (aCons tStr (aCons tInt (aCons (tOpt (tTup (aCons (tTupL tInt) (aCons tStr (aCons tStr aNil))))) aNil)))))) waNil)))))) (waCons (wV tInt) waNil)) (fun (d : (O_Loom × (Int × Unit))) (w : (O_Loom × Unit)) => (w.1, (fun (d : (Int × Unit)) (w : Unit) => (d.1, (fun (d : Unit) (_ : Unit) => d) d.2 w)) d.2 w.2)) (wV tNone) true c_Loom_lift) := by
  obtain ⟨f, fd, hF, hc, hm⟩ := X.m_Loom_lift
  exact ⟨f, fd, eq_Loom_lift ▸ fn_X (D' := fun vs (r : (Unit × (O_Loom × Unit))) => .nx [(sA (vs.headD .non) (wIns (cA p "Loom") ["threading", "ties", "pressed", "thrown", "done_deeds"] (waCons (wV (tList tInt)) (waCons (wV (tList (tList tInt))) (waCons (wL (wV tBool)) (waCons (wL (wV (tTup (aCons (tTupL tInt) (aCons tStr (aCons tStr aNil)))))) (waCons (wL (wV (tTup (aCons tStr (aCons tInt (aCons (tOpt (tTup (aCons (tTupL tInt) (aCons tStr (aCons tStr aNil))))) aNil)))))) waNil)))))) r.2.1), sAny]) (kx := true) (m := 0) hF sc_Loom_lift (.ow (.sh .nil)) rfl rfl (fun r vs fm Q h => x_nx h) (fun vs g ok d hX => bb_Loom_lift X ok vs d.1 d.2.1 hX), hc, hm, hF.bindsN fun _ _ _ _ _ _ us hl => match us, hl with | [_, _], _ => rfl⟩
abbrev s_Loom_lifted_shafts : Stmt := ((clsBody (topS 15)).getD 4 (.Pass ⟨0, 0, 0, 0⟩))
abbrev N_Loom_lifted_shafts : List Str := ["self", "lifted", "treadle", "tie", "shaft"]
abbrev V_Loom_lifted_shafts : List Str := ["self", "lifted", "treadle", "tie", "shaft"]
abbrev G_Loom_lifted_shafts : List Str := ["SHAFTS_OF_A_LOOM", "range", "enumerate"]
theorem sc_Loom_lifted_shafts : Sc s_Loom_lifted_shafts N_Loom_lifted_shafts V_Loom_lifted_shafts ["self"] G_Loom_lifted_shafts := ⟨⟨rfl, rfl, rfl, by decide +kernel, rfl, by decide +kernel, by decide +kernel⟩, by decide +kernel, by decide +kernel, by decide +kernel⟩
def r_f_Loom_lifted_shafts_l1  : ((List Bool)) → Int → M ((List Bool)) := fun s16 shaft17 => M.bind (M.ok true) fun y18 => M.bind (M.ok shaft17) fun i19 => M.bind (setM s16 i19 y18) fun lifted20 => M.ok lifted20
def f_Loom_lifted_shafts_l1  : ((List Bool)) → Int → M ((List Bool)) := fun s16 shaft17 => M.bind (setM s16 shaft17 true) fun lifted20 => M.ok lifted20
theorem eq_f_Loom_lifted_shafts_l1  : r_f_Loom_lifted_shafts_l1  = f_Loom_lifted_shafts_l1  := by funext s16 shaft17; first | (simp only [r_f_Loom_lifted_shafts_l1, f_Loom_lifted_shafts_l1, M.bind_assoc, M.bok]; done) | (simp only [r_f_Loom_lifted_shafts_l1, f_Loom_lifted_shafts_l1, M.bind_assoc, M.bok]; rfl)
def r_f_Loom_lifted_shafts_l2 (self1 : O_Loom) : ((List Bool)) → (Int × (List Int) × Unit) → M ((List Bool)) := fun s10 t11 => M.bind (M.bind (M.bind (M.ok self1) fun y12 => M.ok y12.2.2.1) fun y13 => M.bind (M.ok t11.1) fun y14 => getM y13 y14) fun c15 => if c15 = true then M.bind (M.ok t11.2.1) fun xs21 => M.bind (forM r_f_Loom_lifted_shafts_l1 s10 xs21) fun (s22 : ((List Bool))) => M.ok s22 else M.ok s10
def f_Loom_lifted_shafts_l2 (self1 : O_Loom) : ((List Bool)) → (Int × (List Int) × Unit) → M ((List Bool)) := fun s10 t11 => M.bind (getM self1.2.2.1 t11.1) fun c23 => if c23 = true then M.bind (forM f_Loom_lifted_shafts_l1 s10 t11.2.1) fun (s22 : ((List Bool))) => M.ok s22 else M.ok s10
theorem eq_f_Loom_lifted_shafts_l2 (self1 : O_Loom) : r_f_Loom_lifted_shafts_l2 self1 = f_Loom_lifted_shafts_l2 self1 := by funext s10 t11; first | (simp only [r_f_Loom_lifted_shafts_l2, f_Loom_lifted_shafts_l2, M.bind_assoc, M.bok, eq_f_Loom_lifted_shafts_l1]; done) | (simp only [r_f_Loom_lifted_shafts_l2, f_Loom_lifted_shafts_l2, M.bind_assoc, M.bok, eq_f_Loom_lifted_shafts_l1]; rfl)
def q_Loom_lifted_shafts (self1 : O_Loom) : M (List Int) := M.bind (M.bind (M.bind (M.ok (40 : Int)) fun y3 => rangeM 0 y3) fun xs7 => compM (fun shaft4 => M.bind (M.ok true) fun c5 => if c5 = true then M.bind (M.ok false) fun y6 => M.ok (some y6) else M.ok none) xs7) fun lifted2 => M.bind (M.bind (M.bind (M.ok self1) fun y8 => M.ok y8.2.1) fun y9 => M.ok (enumL y9)) fun xs24 => M.bind (forM (r_f_Loom_lifted_shafts_l2 self1) lifted2 xs24) fun (s25 : ((List Bool))) => M.bind (M.bind (M.ok (40 : Int)) fun y26 => rangeM 0 y26) fun xs32 => compM (fun shaft27 => M.bind (M.bind (M.ok s25) fun y28 => M.bind (M.ok shaft27) fun y29 => getM y28 y29) fun c30 => if c30 = true then M.bind (M.ok shaft27) fun y31 => M.ok (some y31) else M.ok none) xs32
def f_Loom_lifted_shafts (self1 : O_Loom) : M (List Int) := M.bind (M.bind (rangeM 0 (40 : Int)) fun xs7 => compM (fun shaft4 => M.ok (some false)) xs7) fun lifted2 => M.bind (forM (f_Loom_lifted_shafts_l2 self1) lifted2 (enumL self1.2.1)) fun (s25 : ((List Bool))) => M.bind (rangeM 0 (40 : Int)) fun xs32 => compM (fun shaft27 => M.bind (getM s25 shaft27) fun c30 => if c30 = true then M.ok (some shaft27) else M.ok none) xs32
def r_Loom_lifted_shafts (d : (O_Loom × Unit)) : M (List Int) := q_Loom_lifted_shafts d.1
def c_Loom_lifted_shafts (d : (O_Loom × Unit)) : M (List Int) := f_Loom_lifted_shafts d.1
theorem eq_Loom_lifted_shafts : r_Loom_lifted_shafts = c_Loom_lifted_shafts := by funext d; first | (simp only [r_Loom_lifted_shafts, c_Loom_lifted_shafts, q_Loom_lifted_shafts, f_Loom_lifted_shafts, M.bind_assoc, M.bok, eq_f_Loom_lifted_shafts_l1, eq_f_Loom_lifted_shafts_l2]; done) | (simp only [r_Loom_lifted_shafts, c_Loom_lifted_shafts, q_Loom_lifted_shafts, f_Loom_lifted_shafts, M.bind_assoc, M.bok, eq_f_Loom_lifted_shafts_l1, eq_f_Loom_lifted_shafts_l2]; rfl)
theorem bb_Loom_lifted_shafts {p : Pr} (X : Facts p) {g : G} (ok : OkS p (defScope s_Loom_lifted_shafts) N_Loom_lifted_shafts V_Loom_lifted_shafts G_Loom_lifted_shafts 0 g) (hX : g.LX = List.replicate N_Loom_lifted_shafts.length sAny) (self1 : O_Loom) : EvB g [(sV false (tIns (cA p "Loom") (fl_Loom p)) self1), sAny, sAny, sAny, sAny] (defBody s_Loom_lifted_shafts) (fun r => .rtL false tInt r) (q_Loom_lifted_shafts self1) := (evb_own (hs := (sw_cell (by rw [ok.scp]; exact isCell_k (by decide +kernel)))) ok (i := 1) (j := 1) rfl rfl (wkX hX rfl) .sh (evl_lc (md := .sh) (VV' := []) (GG' := []) (i := 4) ok.toOk (evi_range1 ok.toOk (j := 1) rfl X.g_range (ev_gint (md := .sh) ok.toOk (j := 0) rfl X.c_SHAFTS_OF_A_LOOM)) rfl rfl no_any (by decide +kernel) (by decide +kernel) (by decide +kernel) (by decide +kernel) (fun g' okc shaft4 => evpts_nil) (fun g' okc shaft4 => (ev_bool (md := .sh)))) fun lifted2 => (evb_for (LF := (fun (s10 : ((List Bool))) => [(sV false (tIns (cA p "Loom") (fl_Loom p)) self1), (sOwn false tBool s10), sAny, sAny, sAny])) (s0 := lifted2) ok (wkX hX rfl) (evi_enum ok.toOk sq_l (j := 2) rfl X.g_enumerate (ev_fld (T := (tList (tList tInt))) (pr := fun (d : O_Loom) => d.2.1) ok.toOk X.a_Loom X.n_Loom_ties (fun d => (.there (n := "threading") rfl (by decide +kernel) .here)) (ev_vsh ok.toOk (i := 0) (j := 0) rfl rfl rfl))) (Wk.s (Wk.s (Wk.s (Wk.s (Wk.s Wk.n))))) (fun _ => evg_tup ok.toOk (lenS (lenS len0)) (evgs_cons (evg_name ok (i := 2) (j := 2) rfl rfl) fun _ => (evgs_cons (evg_name ok (i := 3) (j := 3) rfl rfl) fun _ => evgs_nil))) (fun s10 t11 => (evb_ifl (wkX hX rfl) (evt_of (ev_ixQ ok.toOk sq_l (ev_fld (T := (tList tBool)) (pr := fun (d : O_Loom) => d.2.2.1) ok.toOk X.a_Loom X.n_Loom_pressed (fun d => (.there (n := "threading") rfl (by decide +kernel) (.there (n := "ties") rfl (by decide +kernel) .here))) (ev_vsh ok.toOk (i := 0) (j := 0) rfl rfl rfl)) (ev_vsh ok.toOk (i := 2) (j := 2) rfl rfl rfl))) (evb_for (LF := (fun (s16 : ((List Bool))) => [(sV false (tIns (cA p "Loom") (fl_Loom p)) self1), (sOwn false tBool s16), (sV false tInt t11.1), (sV false (tList tInt) t11.2.1), sAny])) (s0 := s10) ok (wkX hX rfl) (evi_seq ok.toOk sq_l (ev_vsh ok.toOk (i := 3) (j := 3) rfl rfl rfl)) (Wk.s (Wk.s (Wk.s (Wk.s (Wk.s Wk.n))))) (fun _ => evg_name ok (i := 4) (j := 4) rfl rfl) (fun s16 shaft17 => (evb_setitem ok (wkX hX rfl) (i := 1) (j := 1) rfl rfl rfl .sh (ev_bool (md := .sh)) (ev_vsh ok.toOk (i := 4) (j := 4) rfl rfl rfl) fun lifted20 => (evb_go (by rfl) (Wk.s (Wk.s (Wk.s (Wk.s (Wk.a Wk.n)))))))) fun s22 => (evb_go (by rfl) (Wk.s (Wk.s (Wk.a (Wk.a (Wk.s Wk.n))))))) (evb_go (by rfl) (Wk.s (Wk.s (Wk.a (Wk.a (Wk.s Wk.n)))))))) fun s25 => (evb_retL (wkX hX rfl) .sh (by intro _; rfl) (evl_borrow (i := 1) (.inl flInt) rfl (evl_lc (md := .sh) (VV' := ["lifted", "shaft"]) (GG' := []) (i := 4) ok.toOk (evi_range1 ok.toOk (j := 1) rfl X.g_range (ev_gint (md := .sh) ok.toOk (j := 0) rfl X.c_SHAFTS_OF_A_LOOM)) rfl rfl no_any (by decide +kernel) (by decide +kernel) (by decide +kernel) (by decide +kernel) (fun g' okc shaft27 => (evpts_one (evt_of (ev_ixQ okc sq_l (ev_vsh okc (i := 1) (j := 0) rfl rfl rfl) (ev_vsh okc (i := 4) (j := 1) rfl rfl rfl))))) (fun g' okc shaft27 => (ev_vsh okc (i := 4) (j := 1) rfl rfl rfl)))))))
theorem b_Loom_lifted_shafts {p : Pr} (X : Facts p) : Body p s_Loom_lifted_shafts N_Loom_lifted_shafts V_Loom_lifted_shafts G_Loom_lifted_shafts 0 (fun (d : (O_Loom × Unit)) => [(sV false (tIns (cA p "Loom") (fl_Loom p)) d.1), sAny, sAny, sAny, sAny]) (fun r => .rtL false tInt r) r_Loom_lifted_shafts := fun g ok hX d => bb_Loom_lifted_shafts X ok hX d.1
theorem me_Loom_lifted_shafts {p : Pr} (X : Facts p) : MeF p 1 "Loom" "lifted_shafts" [] (spM p (aCons (tIns (cA p "Loom") (fl_Loom p)) aNil) (fun r => .rtL false tInt r) c_Loom_lifted_shafts) := by
  obtain ⟨f, fd, hF, hc, hm⟩ := X.m_Loom_lifted_shafts
  exact ⟨f, fd, eq_Loom_lifted_shafts ▸ fn_rtL (m := 4) hF sc_Loom_lifted_shafts (.cons .nil) rfl rfl (b_Loom_lifted_shafts X), hc, hm, hF.bindsN fun _ _ _ _ _ _ us hl => match us, hl with | [_], _ => rfl⟩
abbrev s_shed_over : Stmt := (topS 14)
abbrev N_shed_over : List Str := ["threading", "shafts", "signs", "shaft"]
abbrev V_shed_over : List Str := ["threading", "shafts", "signs", "shaft"]
abbrev G_shed_over : List Str := []
theorem sc_shed_over : Sc s_shed_over N_shed_over V_shed_over ["threading", "shafts"] G_shed_over := ⟨⟨rfl, rfl, rfl, by decide +kernel, rfl, by decide +kernel, by decide +kernel⟩, by decide +kernel, by decide +kernel, by decide +kernel⟩
def r_f_shed_over_l1 (shafts2 : (List Int)) : ((List Tx)) → Int → M ((List Tx)) := fun s4 shaft5 => M.bind (M.bind (M.ok shaft5) fun y6 => M.bind (M.ok shafts2) fun y7 => M.ok (decide (y6 ∈ y7))) fun c8 => if c8 = true then M.bind (M.ok (tx "#")) fun y10 => M.bind (pushM s4 y10) fun signs9 => M.ok signs9 else M.bind (M.ok (tx ".")) fun y12 => M.bind (pushM s4 y12) fun signs11 => M.ok signs11
def f_shed_over_l1 (shafts2 : (List Int)) : ((List Tx)) → Int → M ((List Tx)) := fun s4 shaft5 => if (decide (shaft5 ∈ shafts2)) = true then M.bind (pushM s4 (tx "#")) fun signs9 => M.ok signs9 else M.bind (pushM s4 (tx ".")) fun signs11 => M.ok signs11
theorem eq_f_shed_over_l1 (shafts2 : (List Int)) : r_f_shed_over_l1 shafts2 = f_shed_over_l1 shafts2 := by funext s4 shaft5; first | (simp only [r_f_shed_over_l1, f_shed_over_l1, M.bind_assoc, M.bok]; done) | (simp only [r_f_shed_over_l1, f_shed_over_l1, M.bind_assoc, M.bok]; rfl)
def q_shed_over (threading1 : (List Int)) (shafts2 : (List Int)) : M Tx := M.bind (M.ok []) fun signs3 => M.bind (M.ok threading1) fun xs14 => M.bind (forM (r_f_shed_over_l1 shafts2) signs3 xs14) fun (s15 : ((List Tx))) => M.bind (M.ok (tx "")) fun y16 => M.bind (M.ok s15) fun y17 => joinM y16 y17
def f_shed_over (threading1 : (List Int)) (shafts2 : (List Int)) : M Tx := let signs3 : (List Tx) := []; M.bind (forM (f_shed_over_l1 shafts2) signs3 threading1) fun (s15 : ((List Tx))) => joinM (tx "") s15
def r_shed_over (d : ((List Int) × (List Int) × Unit)) : M Tx := q_shed_over d.1 d.2.1
def c_shed_over (d : ((List Int) × (List Int) × Unit)) : M Tx := f_shed_over d.1 d.2.1
theorem eq_shed_over : r_shed_over = c_shed_over := by funext d; first | (simp only [r_shed_over, c_shed_over, q_shed_over, f_shed_over, M.bind_assoc, M.bok, eq_f_shed_over_l1]; done) | (simp only [r_shed_over, c_shed_over, q_shed_over, f_shed_over, M.bind_assoc, M.bok, eq_f_shed_over_l1]; rfl)
theorem bb_shed_over {p : Pr} (X : Facts p) {g : G} (ok : OkS p (defScope s_shed_over) N_shed_over V_shed_over G_shed_over 0 g) (hX : g.LX = List.replicate N_shed_over.length sAny) (threading1 : (List Int)) (shafts2 : (List Int)) : EvB g [(sV false (tList tInt) threading1), (sV false (tList tInt) shafts2), sAny, sAny] (defBody s_shed_over) (fun r => .rt false tStr r) (q_shed_over threading1 shafts2) := (evb_own ok (i := 2) (j := 2) rfl rfl (wkX hX rfl) .sh (evl_nil (md := .sh) (S := tStr)) fun signs3 => (evb_for (LF := (fun (s4 : ((List Tx))) => [(sV false (tList tInt) threading1), (sV false (tList tInt) shafts2), (sOwn false tStr s4), sAny])) (s0 := signs3) ok (wkX hX rfl) (evi_seq ok.toOk sq_l (ev_vsh ok.toOk (i := 0) (j := 0) rfl rfl rfl)) (Wk.s (Wk.s (Wk.s (Wk.s Wk.n)))) (fun _ => evg_name ok (i := 3) (j := 3) rfl rfl) (fun s4 shaft5 => (evb_ifl (wkX hX rfl) (evt_c ok.toOk (c_in ok.toOk.K f_int) (ev_vsh ok.toOk (i := 3) (j := 3) rfl rfl rfl) (ev_vsh ok.toOk (i := 1) (j := 1) rfl rfl rfl)) (evb_append ok (wkX hX rfl) (i := 2) (j := 2) rfl rfl rfl .sh (ev_str (md := .sh) (by decide +kernel)) fun signs9 => (evb_go (by rfl) (Wk.s (Wk.s (Wk.s (Wk.a Wk.n)))))) (evb_append ok (wkX hX rfl) (i := 2) (j := 2) rfl rfl rfl .sh (ev_str (md := .sh) (by decide +kernel)) fun signs11 => (evb_go (by rfl) (Wk.s (Wk.s (Wk.s (Wk.a Wk.n)))))))) fun s15 => (evb_ret (wkX hX rfl) .sh (by intro _; rfl) (ev_borrow (i := 2) (.inl flStr) rfl (ev_join (md' := .sh) ok.toOk (ev_str (md := .sh) (by decide +kernel)) (ev_vsh ok.toOk (i := 2) (j := 2) rfl rfl rfl))))))
theorem b_shed_over {p : Pr} (X : Facts p) : Body p s_shed_over N_shed_over V_shed_over G_shed_over 0 (fun (d : ((List Int) × (List Int) × Unit)) => [(sV false (tList tInt) d.1), (sV false (tList tInt) d.2.1), sAny, sAny]) (fun r => .rt false tStr r) r_shed_over := fun g ok hX d => bb_shed_over X ok hX d.1 d.2.1
theorem fn_shed_over {p : Pr} (X : Facts p) : Fn p 1 "shed_over" ["threading", "shafts"] (spM p (aCons (tList tInt) (aCons (tList tInt) aNil)) (fun r => .rt false tStr r) c_shed_over) := by
  obtain ⟨f, fd, hF, hm⟩ := X.d_shed_over
  exact ⟨f, fd, eq_shed_over ▸ fn_rt (m := 2) hF sc_shed_over (.cons (.cons .nil)) rfl rfl (b_shed_over X), hm, hF.kp, hF.bindsN fun _ _ _ _ _ _ us hl => match us, hl with | [_, _], _ => rfl⟩
abbrev s_Loom_throw : Stmt := ((clsBody (topS 15)).getD 6 (.Pass ⟨0, 0, 0, 0⟩))
abbrev N_Loom_throw : List Str := ["self", "colour", "shafts"]
abbrev V_Loom_throw : List Str := ["self", "colour", "shafts"]
abbrev G_Loom_throw : List Str := ["len", "PICKS_OF_A_LOOM", "tuple", "shed_over", "TooLarge"]
theorem sc_Loom_throw : Sc s_Loom_throw N_Loom_throw V_Loom_throw ["self", "colour"] G_Loom_throw := ⟨⟨rfl, rfl, rfl, by decide +kernel, rfl, by decide +kernel, by decide +kernel⟩, by decide +kernel, by decide +kernel, by decide +kernel⟩
def q_Loom_throw (self1 : O_Loom) (colour2 : Tx) : M (Unit × (O_Loom × Unit)) := M.bind (M.bind (M.bind (M.bind (M.ok self1) fun y3 => M.ok y3.2.2.2.1) fun y4 => M.ok (y4.length : Int)) fun y5 => M.bind (M.ok (40 : Int)) fun y6 => M.ok (decide (y6 ≤ y5))) fun c48 => if c48 = true then M.ex .tooLarge else M.bind (M.bind (M.ok self1) fun y8 => c_Loom_lifted_shafts (y8, ())) fun shafts7 => M.bind (M.bind (M.ok (self1, fun (y : O_Loom) => y)) fun y28 => M.ok (y28.1.2.2.2.1, fun (y : (List ((List Int) × Tx × Tx × Unit))) => y28.2 (y28.1.1, (y28.1.2.1, (y28.1.2.2.1, (y, y28.1.2.2.2.2)))))) fun q29 => M.bind (M.bind (M.bind (M.ok shafts7) fun y11 => M.ok y11) fun y23 => M.bind (M.bind (M.bind (M.bind (M.bind (M.ok self1) fun y12 => M.ok y12.1) fun y15 => M.bind (M.bind (M.ok shafts7) fun y13 => M.bind (M.ok ()) fun y14 => M.ok (y13, y14)) fun y16 => M.ok (y15, y16)) c_shed_over) fun y21 => M.bind (M.bind (M.ok colour2) fun y19 => M.bind (M.ok ()) fun y20 => M.ok (y19, y20)) fun y22 => M.ok (y21, y22)) fun y24 => M.ok (y23, y24)) fun y47 => M.bind (pushM q29.1 y47) fun l30 => M.bind (M.ok (q29.2 l30)) fun self31 => M.bind (M.bind (M.ok (self31, fun (y : O_Loom) => y)) fun y42 => M.ok (y42.1.2.2.2.2.1, fun (y : (List (Tx × Int × (Option ((List Int) × Tx × Tx × Unit)) × Unit))) => y42.2 (y42.1.1, (y42.1.2.1, (y42.1.2.2.1, (y42.1.2.2.2.1, (y, y42.1.2.2.2.2.2))))))) fun q43 => M.bind (M.bind (M.ok (tx "throw")) fun y37 => M.bind (M.bind (M.ok (0 : Int)) fun y35 => M.bind (M.bind (M.ok none) fun y33 => M.bind (M.ok ()) fun y34 => M.ok (y33, y34)) fun y36 => M.ok (y35, y36)) fun y38 => M.ok (y37, y38)) fun y46 => M.bind (pushM q43.1 y46) fun l44 => M.bind (M.ok (q43.2 l44)) fun self45 => M.ok ((), (self45, ()))
def f_Loom_throw (self1 : O_Loom) (colour2 : Tx) : M (Unit × (O_Loom × Unit)) := if (decide ((40 : Int) ≤ (self1.2.2.2.1.length : Int))) = true then M.ex .tooLarge else M.bind (f_Loom_lifted_shafts self1) fun shafts7 => M.bind (M.bind (f_shed_over self1.1 shafts7) fun y26 => M.ok (shafts7, y26, colour2, ())) fun y47 => M.bind (pushM ((self1, fun (y : O_Loom) => y).1.2.2.2.1, fun (y : (List ((List Int) × Tx × Tx × Unit))) => (self1, fun (y : O_Loom) => y).2 ((self1, fun (y : O_Loom) => y).1.1, ((self1, fun (y : O_Loom) => y).1.2.1, ((self1, fun (y : O_Loom) => y).1.2.2.1, (y, (self1, fun (y : O_Loom) => y).1.2.2.2.2))))).1 y47) fun l30 => let self31 : O_Loom := ((self1, fun (y : O_Loom) => y).1.2.2.2.1, fun (y : (List ((List Int) × Tx × Tx × Unit))) => (self1, fun (y : O_Loom) => y).2 ((self1, fun (y : O_Loom) => y).1.1, ((self1, fun (y : O_Loom) => y).1.2.1, ((self1, fun (y : O_Loom) => y).1.2.2.1, (y, (self1, fun (y : O_Loom) => y).1.2.2.2.2))))).2 l30; M.bind (pushM ((self31, fun (y : O_Loom) => y).1.2.2.2.2.1, fun (y : (List (Tx × Int × (Option ((List Int) × Tx × Tx × Unit)) × Unit))) => (self31, fun (y : O_Loom) => y).2 ((self31, fun (y : O_Loom) => y).1.1, ((self31, fun (y : O_Loom) => y).1.2.1, ((self31, fun (y : O_Loom) => y).1.2.2.1, ((self31, fun (y : O_Loom) => y).1.2.2.2.1, (y, (self31, fun (y : O_Loom) => y).1.2.2.2.2.2)))))).1 ((tx "throw"), (0 : Int), none, ())) fun l44 => let self45 : O_Loom := ((self31, fun (y : O_Loom) => y).1.2.2.2.2.1, fun (y : (List (Tx × Int × (Option ((List Int) × Tx × Tx × Unit)) × Unit))) => (self31, fun (y : O_Loom) => y).2 ((self31, fun (y : O_Loom) => y).1.1, ((self31, fun (y : O_Loom) => y).1.2.1, ((self31, fun (y : O_Loom) => y).1.2.2.1, ((self31, fun (y : O_Loom) => y).1.2.2.2.1, (y, (self31, fun (y : O_Loom) => y).1.2.2.2.2.2)))))).2 l44; M.ok ((), (self45, ()))
def r_Loom_throw (d : (O_Loom × Tx × Unit)) : M (Unit × (O_Loom × Unit)) := q_Loom_throw d.1 d.2.1
def c_Loom_throw (d : (O_Loom × Tx × Unit)) : M (Unit × (O_Loom × Unit)) := f_Loom_throw d.1 d.2.1
theorem eq_Loom_throw : r_Loom_throw = c_Loom_throw := by funext d; first | (simp only [r_Loom_throw, c_Loom_throw, q_Loom_throw, f_Loom_throw, M.bind_assoc, M.bok, c_Loom_lifted_shafts, c_shed_over]; done) | (simp only [r_Loom_throw, c_Loom_throw, q_Loom_throw, f_Loom_throw, M.bind_assoc, M.bok, c_Loom_lifted_shafts, c_shed_over]; rfl)
theorem bb_Loom_throw {p : Pr} (X : Facts p) {g : G} (ok : OkS p (defScope s_Loom_throw) N_Loom_throw V_Loom_throw G_Loom_throw 1 g) (vs : List V) (self1 : O_Loom) (colour2 : Tx) (hX : g.LX = [(sA (vs.headD .non) (wIns (cA p "Loom") ["threading", "ties", "pressed", "thrown", "done_deeds"] (waCons (wV (tList tInt)) (waCons (wV (tList (tList tInt))) (waCons (wL (wV tBool)) (waCons (wL (wV (tTup (aCons (tTupL tInt) (aCons tStr (aCons tStr aNil)))))) (waCons (wL (wV (tTup (aCons tStr (aCons tInt (aCons (tOpt (tTup (aCons (tTupL tInt) (aCons tStr (aCons tStr aNil))))) aNil)))))) waNil)))))) self1), sAny, sAny]) : EvB g [(sA (vs.headD .non) (wIns (cA p "Loom") ["threading", "ties", "pressed", "thrown", "done_deeds"] (waCons (wV (tList tInt)) (waCons (wV (tList (tList tInt))) (waCons (wL (wV tBool)) (waCons (wL (wV (tTup (aCons (tTupL tInt) (aCons tStr (aCons tStr aNil)))))) (waCons (wL (wV (tTup (aCons tStr (aCons tInt (aCons (tOpt (tTup (aCons (tTupL tInt) (aCons tStr (aCons tStr aNil))))) aNil)))))) waNil)))))) self1), (sV false tStr colour2), sAny] (defBody s_Loom_throw) (fun (r : (Unit × (O_Loom × Unit))) => .nx [(sA (vs.headD .non) (wIns (cA p "Loom") ["threading", "ties", "pressed", "thrown", "done_deeds"] (waCons (wV (tList tInt)) (waCons (wV (tList (tList tInt))) (waCons (wL (wV tBool)) (waCons (wL (wV (tTup (aCons (tTupL tInt) (aCons tStr (aCons tStr aNil)))))) (waCons (wL (wV (tTup (aCons tStr (aCons tInt (aCons (tOpt (tTup (aCons (tTupL tInt) (aCons tStr (aCons tStr aNil))))) aNil)))))) waNil)))))) r.2.1), sAny, sAny]) (q_Loom_throw self1 colour2) := (evb_ifr ok (wkL hX (Wk.s (Wk.a (Wk.s Wk.n)))) X.x_TooLarge (jj := 0) (j := 4) rfl (evt_borrowP (i := 0) rfl (evt_c ok.toOk c_ge (ev_lenQ (md' := .sh) ok.toOk sq_l (j := 0) rfl X.g_len (ev_fld (T := (tList (tTup (aCons (tTupL tInt) (aCons tStr (aCons tStr aNil)))))) (pr := fun (d : O_Loom) => d.2.2.2.1) ok.toOk X.a_Loom X.n_Loom_thrown (fun d => (.there (n := "threading") rfl (by decide +kernel) (.there (n := "ties") rfl (by decide +kernel) (.there (n := "pressed") rfl (by decide +kernel) .here)))) (ev_vsh ok.toOk (i := 0) (j := 0) rfl rfl rfl))) (ev_gint (md := .sh) ok.toOk (j := 1) rfl X.c_PICKS_OF_A_LOOM))) (evb_set ok (i := 2) (j := 2) rfl rfl (wkL hX (Wk.s (Wk.a (Wk.s Wk.n)))) .sh (ev_sh (ev_borrowP (i := 0) (.inr rfl) rfl (ev_ofL (evl_flat (md' := .fx) flInt (evl_meth0 ok.toOk (me_Loom_lifted_shafts X) (by decide) (nm := ["threading", "ties", "pressed", "thrown", "done_deeds"]) (fun _ => rfl) (by decide +kernel) (ev_vsh ok.toOk (i := 0) (j := 0) rfl rfl rfl)))))) fun shafts7 => (evb_qAppend ok (wkL hX (Wk.s (Wk.a (Wk.a Wk.n)))) (evp_fld ok.toOk X.a_Loom X.n_Loom_thrown (.s (.s (.s .z))) rfl (evp_name ok.toOk (i := 0) (j := 0) rfl rfl rfl)) (evn_v (ev_tup (fun d vs R h => by rw [(lenS (lenS (lenS len0))) h]; decide) (eva_cons (ev_tupleQ (md := .sh) ok.toOk sq_l (j := 2) rfl X.g_tuple (ev_vsh ok.toOk (i := 2) (j := 2) rfl rfl rfl)) (eva_cons (ev_borrowP (i := 0) (.inl flStr) rfl (ev_call (md' := .sh) ok.toOk (fn_shed_over X) (by decide) (j := 3) rfl .sh (eva_cons (md := .sh) (ev_fld (T := (tList tInt)) (pr := fun (d : O_Loom) => d.1) ok.toOk X.a_Loom X.n_Loom_threading (fun d => .here) (ev_vsh ok.toOk (i := 0) (j := 0) rfl rfl rfl)) (eva_cons (md := .sh) (ev_vsh ok.toOk (i := 2) (j := 2) rfl rfl rfl) eva_nil)))) (eva_cons (ev_vsh ok.toOk (i := 1) (j := 1) rfl rfl rfl) eva_nil))))) fun self31 => (evb_noex ok (by repeat first | exact nx_ok | exact pushM_nx | exact setM_nx | exact popX_nx | exact popM_nx | exact unM_nx | exact getM_nx | refine NoEx.ite ?_ ?_ | refine NoEx.bind ?_ fun _ => ?_) fun g ok hX => (evb_qAppend ok (wkX hX rfl) (evp_fld ok.toOk X.a_Loom X.n_Loom_done_deeds (.s (.s (.s (.s .z)))) rfl (evp_name ok.toOk (i := 0) (j := 0) rfl rfl rfl)) (evn_v (ev_tup (fun d vs R h => by rw [(lenS (lenS (lenS len0))) h]; decide) (eva_cons (ev_str (md := .sh) (by decide +kernel)) (eva_cons (ev_int (md := .sh)) (eva_cons (ev_optN (md := .sh)) eva_nil))))) fun self45 => (evb_nx (by rfl) (Wk.s (Wk.a (Wk.a Wk.n)))))))))
theorem me_Loom_throw {p : Pr} (X : Facts p) : MeF p 2 "Loom" "throw" ["colour"] (spX p (waCons (wIns (cA p "Loom") ["threading", "ties", "pressed", "thrown", "done_deeds"] (waCons (wV (tList tInt)) (waCons (wV (tList (tList tInt))) (waCons (wL (wV tBool)) (waCons (wL (wV (tTup (aCons (tTupL tInt) (aCons tStr (aCons tStr aNil)))))) (waCons (wL (wV (tTup (aCons tStr (aCons tInt (aCons (tOpt (tTup (aCons (tTupL tInt) (aCons tStr (aCons tStr aNil))))) aNil)))))) waNil)))))) (waCons (wV tStr) waNil)) (fun (d : (O_Loom × (Tx × Unit))) (w : (O_Loom × Unit)) => (w.1, (fun (d : (Tx × Unit)) (w : Unit) => (d.1, (fun (d : Unit) (_ : Unit) => d) d.2 w)) d.2 w.2)) (wV tNone) true c_Loom_throw) := by
  obtain ⟨f, fd, hF, hc, hm⟩ := X.m_Loom_throw
  exact ⟨f, fd, eq_Loom_throw ▸ fn_X (D' := fun vs (r : (Unit × (O_Loom × Unit))) => .nx [(sA (vs.headD .non) (wIns (cA p "Loom") ["threading", "ties", "pressed", "thrown", "done_deeds"] (waCons (wV (tList tInt)) (waCons (wV (tList (tList tInt))) (waCons (wL (wV tBool)) (waCons (wL (wV (tTup (aCons (tTupL tInt) (aCons tStr (aCons tStr aNil)))))) (waCons (wL (wV (tTup (aCons tStr (aCons tInt (aCons (tOpt (tTup (aCons (tTupL tInt) (aCons tStr (aCons tStr aNil))))) aNil)))))) waNil)))))) r.2.1), sAny, sAny]) (kx := true) (m := 1) hF sc_Loom_throw (.ow (.sh .nil)) rfl rfl (fun r vs fm Q h => x_nx h) (fun vs g ok d hX => bb_Loom_throw X ok vs d.1 d.2.1 hX), hc, hm, hF.bindsN fun _ _ _ _ _ _ us hl => match us, hl with | [_, _], _ => rfl⟩
abbrev s_Loom_unthrow : Stmt := ((clsBody (topS 15)).getD 7 (.Pass ⟨0, 0, 0, 0⟩))
abbrev N_Loom_unthrow : List Str := ["self", "pick"]
abbrev V_Loom_unthrow : List Str := ["self", "pick"]
abbrev G_Loom_unthrow : List Str := ["len", "NoDeed"]
theorem sc_Loom_unthrow : Sc s_Loom_unthrow N_Loom_unthrow V_Loom_unthrow ["self"] G_Loom_unthrow := ⟨⟨rfl, rfl, rfl, by decide +kernel, rfl, by decide +kernel, by decide +kernel⟩, by decide +kernel, by decide +kernel, by decide +kernel⟩
def q_Loom_unthrow (self1 : O_Loom) : M (Tx × (O_Loom × Unit)) := M.bind (M.bind (M.bind (M.bind (M.ok self1) fun y2 => M.ok y2.2.2.2.1) fun y3 => M.ok (y3.length : Int)) fun y4 => M.bind (M.ok (0 : Int)) fun y5 => M.ok (decide (y4 = y5))) fun c29 => if c29 = true then M.ex .noDeed else M.bind (M.bind (M.bind (M.ok (self1, fun (y : O_Loom) => y)) fun y7 => M.ok (y7.1.2.2.2.1, fun (y : (List ((List Int) × Tx × Tx × Unit))) => y7.2 (y7.1.1, (y7.1.2.1, (y7.1.2.2.1, (y, y7.1.2.2.2.2)))))) fun q8 => M.bind (popX q8.1) fun r9 => M.ok (r9.1, q8.2 r9.2)) fun x10 => M.bind (M.bind (M.ok (x10.2, fun (y : O_Loom) => y)) fun y22 => M.ok (y22.1.2.2.2.2.1, fun (y : (List (Tx × Int × (Option ((List Int) × Tx × Tx × Unit)) × Unit))) => y22.2 (y22.1.1, (y22.1.2.1, (y22.1.2.2.1, (y22.1.2.2.2.1, (y, y22.1.2.2.2.2.2))))))) fun q23 => M.bind (M.bind (M.ok (tx "unthrow")) fun y17 => M.bind (M.bind (M.ok (0 : Int)) fun y15 => M.bind (M.bind (M.bind (M.ok x10.1) fun y12 => M.ok (some y12)) fun y13 => M.bind (M.ok ()) fun y14 => M.ok (y13, y14)) fun y16 => M.ok (y15, y16)) fun y18 => M.ok (y17, y18)) fun y28 => M.bind (pushM q23.1 y28) fun l24 => M.bind (M.ok (q23.2 l24)) fun self25 => M.bind (M.bind (M.ok x10.1) fun y26 => M.ok y26.2.2.1) fun r27 => M.ok (r27, (self25, ()))
def f_Loom_unthrow (self1 : O_Loom) : M (Tx × (O_Loom × Unit)) := if (decide ((self1.2.2.2.1.length : Int) = (0 : Int))) = true then M.ex .noDeed else M.bind (popX ((self1, fun (y : O_Loom) => y).1.2.2.2.1, fun (y : (List ((List Int) × Tx × Tx × Unit))) => (self1, fun (y : O_Loom) => y).2 ((self1, fun (y : O_Loom) => y).1.1, ((self1, fun (y : O_Loom) => y).1.2.1, ((self1, fun (y : O_Loom) => y).1.2.2.1, (y, (self1, fun (y : O_Loom) => y).1.2.2.2.2))))).1) fun r9 => let x10 : ((List Int) × Tx × Tx × Unit) × O_Loom := (r9.1, ((self1, fun (y : O_Loom) => y).1.2.2.2.1, fun (y : (List ((List Int) × Tx × Tx × Unit))) => (self1, fun (y : O_Loom) => y).2 ((self1, fun (y : O_Loom) => y).1.1, ((self1, fun (y : O_Loom) => y).1.2.1, ((self1, fun (y : O_Loom) => y).1.2.2.1, (y, (self1, fun (y : O_Loom) => y).1.2.2.2.2))))).2 r9.2); M.bind (pushM ((x10.2, fun (y : O_Loom) => y).1.2.2.2.2.1, fun (y : (List (Tx × Int × (Option ((List Int) × Tx × Tx × Unit)) × Unit))) => (x10.2, fun (y : O_Loom) => y).2 ((x10.2, fun (y : O_Loom) => y).1.1, ((x10.2, fun (y : O_Loom) => y).1.2.1, ((x10.2, fun (y : O_Loom) => y).1.2.2.1, ((x10.2, fun (y : O_Loom) => y).1.2.2.2.1, (y, (x10.2, fun (y : O_Loom) => y).1.2.2.2.2.2)))))).1 ((tx "unthrow"), (0 : Int), (some x10.1), ())) fun l24 => let self25 : O_Loom := ((x10.2, fun (y : O_Loom) => y).1.2.2.2.2.1, fun (y : (List (Tx × Int × (Option ((List Int) × Tx × Tx × Unit)) × Unit))) => (x10.2, fun (y : O_Loom) => y).2 ((x10.2, fun (y : O_Loom) => y).1.1, ((x10.2, fun (y : O_Loom) => y).1.2.1, ((x10.2, fun (y : O_Loom) => y).1.2.2.1, ((x10.2, fun (y : O_Loom) => y).1.2.2.2.1, (y, (x10.2, fun (y : O_Loom) => y).1.2.2.2.2.2)))))).2 l24; M.ok (x10.1.2.2.1, (self25, ()))
def r_Loom_unthrow (d : (O_Loom × Unit)) : M (Tx × (O_Loom × Unit)) := q_Loom_unthrow d.1
def c_Loom_unthrow (d : (O_Loom × Unit)) : M (Tx × (O_Loom × Unit)) := f_Loom_unthrow d.1
theorem eq_Loom_unthrow : r_Loom_unthrow = c_Loom_unthrow := by funext d; first | (simp only [r_Loom_unthrow, c_Loom_unthrow, q_Loom_unthrow, f_Loom_unthrow, M.bind_assoc, M.bok]; done) | (simp only [r_Loom_unthrow, c_Loom_unthrow, q_Loom_unthrow, f_Loom_unthrow, M.bind_assoc, M.bok]; rfl)
theorem bb_Loom_unthrow {p : Pr} (X : Facts p) {g : G} (ok : OkS p (defScope s_Loom_unthrow) N_Loom_unthrow V_Loom_unthrow G_Loom_unthrow 0 g) (vs : List V) (self1 : O_Loom) (hX : g.LX = [(sA (vs.headD .non) (wIns (cA p "Loom") ["threading", "ties", "pressed", "thrown", "done_deeds"] (waCons (wV (tList tInt)) (waCons (wV (tList (tList tInt))) (waCons (wL (wV tBool)) (waCons (wL (wV (tTup (aCons (tTupL tInt) (aCons tStr (aCons tStr aNil)))))) (waCons (wL (wV (tTup (aCons tStr (aCons tInt (aCons (tOpt (tTup (aCons (tTupL tInt) (aCons tStr (aCons tStr aNil))))) aNil)))))) waNil)))))) self1), sAny]) : EvB g [(sA (vs.headD .non) (wIns (cA p "Loom") ["threading", "ties", "pressed", "thrown", "done_deeds"] (waCons (wV (tList tInt)) (waCons (wV (tList (tList tInt))) (waCons (wL (wV tBool)) (waCons (wL (wV (tTup (aCons (tTupL tInt) (aCons tStr (aCons tStr aNil)))))) (waCons (wL (wV (tTup (aCons tStr (aCons tInt (aCons (tOpt (tTup (aCons (tTupL tInt) (aCons tStr (aCons tStr aNil))))) aNil)))))) waNil)))))) self1), sAny] (defBody s_Loom_unthrow) (fun (r : (Tx × (O_Loom × Unit))) => xOut (fun (w_ : (O_Loom × Unit)) => [(sA (vs.headD .non) (wIns (cA p "Loom") ["threading", "ties", "pressed", "thrown", "done_deeds"] (waCons (wV (tList tInt)) (waCons (wV (tList (tList tInt))) (waCons (wL (wV tBool)) (waCons (wL (wV (tTup (aCons (tTupL tInt) (aCons tStr (aCons tStr aNil)))))) (waCons (wL (wV (tTup (aCons tStr (aCons tInt (aCons (tOpt (tTup (aCons (tTupL tInt) (aCons tStr (aCons tStr aNil))))) aNil)))))) waNil)))))) w_.1), sAny]) (wV tStr) r) (q_Loom_unthrow self1) := (evb_ifr ok (wkL hX (Wk.s (Wk.s Wk.n))) X.x_NoDeed (jj := 0) (j := 1) rfl (evt_borrowP (i := 0) rfl (evt_c ok.toOk (c_eq s_int) (ev_lenQ (md' := .sh) ok.toOk sq_l (j := 0) rfl X.g_len (ev_fld (T := (tList (tTup (aCons (tTupL tInt) (aCons tStr (aCons tStr aNil)))))) (pr := fun (d : O_Loom) => d.2.2.2.1) ok.toOk X.a_Loom X.n_Loom_thrown (fun d => (.there (n := "threading") rfl (by decide +kernel) (.there (n := "ties") rfl (by decide +kernel) (.there (n := "pressed") rfl (by decide +kernel) .here)))) (ev_vsh ok.toOk (i := 0) (j := 0) rfl rfl rfl))) (ev_int (md := .sh)))) (evb_setXV ok (i := 1) (j := 1) rfl rfl (ex_pop ok.toOk (.inl (wkL hX (Wk.s (Wk.s Wk.n)))) (evp_fld ok.toOk X.a_Loom X.n_Loom_thrown (.s (.s (.s .z))) rfl (evp_name ok.toOk (i := 0) (j := 0) rfl rfl rfl))) fun x10 => (evb_noex ok (by repeat first | exact nx_ok | exact pushM_nx | exact setM_nx | exact popX_nx | exact popM_nx | exact unM_nx | exact getM_nx | refine NoEx.ite ?_ ?_ | refine NoEx.bind ?_ fun _ => ?_) fun g ok hX => (evb_qAppend ok (wkX hX rfl) (evp_fld ok.toOk X.a_Loom X.n_Loom_done_deeds (.s (.s (.s (.s .z)))) rfl (evp_name ok.toOk (i := 0) (j := 0) rfl rfl rfl)) (evn_v (ev_tup (fun d vs R h => by rw [(lenS (lenS (lenS len0))) h]; decide) (eva_cons (ev_str (md := .sh) (by decide +kernel)) (eva_cons (ev_int (md := .sh)) (eva_cons (ev_some nn_tup (ev_vsh ok.toOk (i := 1) (j := 1) rfl rfl rfl)) eva_nil))))) fun self25 => (evb_retXo (fo := fun (w_ : (O_Loom × Unit)) => [(sA (vs.headD .non) (wIns (cA p "Loom") ["threading", "ties", "pressed", "thrown", "done_deeds"] (waCons (wV (tList tInt)) (waCons (wV (tList (tList tInt))) (waCons (wL (wV tBool)) (waCons (wL (wV (tTup (aCons (tTupL tInt) (aCons tStr (aCons tStr aNil)))))) (waCons (wL (wV (tTup (aCons tStr (aCons tInt (aCons (tOpt (tTup (aCons (tTupL tInt) (aCons tStr (aCons tStr aNil))))) aNil)))))) waNil)))))) w_.1), sAny]) (mk := fun r27 => (r27, (self25, ()))) (w := (self25, ())) (.inl (wkX hX rfl)) (by intro _; rfl) (Wk.s (Wk.a Wk.n)) (evn_v (ev_ixA (n := 2) ok.toOk (.s (.s .z)) (ev_vsh ok.toOk (i := 1) (j := 1) rfl rfl rfl) (ev_int (md := .sh)))))))))
theorem me_Loom_unthrow {p : Pr} (X : Facts p) : MeF p 1 "Loom" "unthrow" [] (spX p (waCons (wIns (cA p "Loom") ["threading", "ties", "pressed", "thrown", "done_deeds"] (waCons (wV (tList tInt)) (waCons (wV (tList (tList tInt))) (waCons (wL (wV tBool)) (waCons (wL (wV (tTup (aCons (tTupL tInt) (aCons tStr (aCons tStr aNil)))))) (waCons (wL (wV (tTup (aCons tStr (aCons tInt (aCons (tOpt (tTup (aCons (tTupL tInt) (aCons tStr (aCons tStr aNil))))) aNil)))))) waNil)))))) waNil) (fun (d : (O_Loom × Unit)) (w : (O_Loom × Unit)) => (w.1, (fun (d : Unit) (_ : Unit) => d) d.2 w.2)) (wV tStr) true c_Loom_unthrow) := by
  obtain ⟨f, fd, hF, hc, hm⟩ := X.m_Loom_unthrow
  exact ⟨f, fd, eq_Loom_unthrow ▸ fn_X (D' := fun vs (r : (Tx × (O_Loom × Unit))) => xOut (fun (w_ : (O_Loom × Unit)) => [(sA (vs.headD .non) (wIns (cA p "Loom") ["threading", "ties", "pressed", "thrown", "done_deeds"] (waCons (wV (tList tInt)) (waCons (wV (tList (tList tInt))) (waCons (wL (wV tBool)) (waCons (wL (wV (tTup (aCons (tTupL tInt) (aCons tStr (aCons tStr aNil)))))) (waCons (wL (wV (tTup (aCons tStr (aCons tInt (aCons (tOpt (tTup (aCons (tTupL tInt) (aCons tStr (aCons tStr aNil))))) aNil)))))) waNil)))))) w_.1), sAny]) (wV tStr) r) (kx := true) (m := 1) hF sc_Loom_unthrow (.ow .nil) rfl rfl (fun r vs fm Q h => h) (fun vs g ok d hX => bb_Loom_unthrow X ok vs d.1 hX), hc, hm, hF.bindsN fun _ _ _ _ _ _ us hl => match us, hl with | [_], _ => rfl⟩
abbrev s_Loom_undo : Stmt := ((clsBody (topS 15)).getD 8 (.Pass ⟨0, 0, 0, 0⟩))
abbrev N_Loom_undo : List Str := ["self", "deed"]
abbrev V_Loom_undo : List Str := ["self", "deed"]
abbrev G_Loom_undo : List Str := ["len", "NoDeed"]
theorem sc_Loom_undo : Sc s_Loom_undo N_Loom_undo V_Loom_undo ["self"] G_Loom_undo := ⟨⟨rfl, rfl, rfl, by decide +kernel, rfl, by decide +kernel, by decide +kernel⟩, by decide +kernel, by decide +kernel, by decide +kernel⟩
def q_Loom_undo (self1 : O_Loom) : M (Unit × (O_Loom × Unit)) := M.bind (M.bind (M.bind (M.bind (M.ok self1) fun y2 => M.ok y2.2.2.2.2.1) fun y3 => M.ok (y3.length : Int)) fun y4 => M.bind (M.ok (0 : Int)) fun y5 => M.ok (decide (y4 = y5))) fun c55 => if c55 = true then M.ex .noDeed else M.bind (M.bind (M.bind (M.ok (self1, fun (y : O_Loom) => y)) fun y7 => M.ok (y7.1.2.2.2.2.1, fun (y : (List (Tx × Int × (Option ((List Int) × Tx × Tx × Unit)) × Unit))) => y7.2 (y7.1.1, (y7.1.2.1, (y7.1.2.2.1, (y7.1.2.2.2.1, (y, y7.1.2.2.2.2.2))))))) fun q8 => M.bind (popX q8.1) fun r9 => M.ok (r9.1, q8.2 r9.2)) fun x10 => M.bind (M.bind (M.bind (M.ok x10.1) fun y11 => M.ok y11.1) fun y12 => M.bind (M.ok (tx "press")) fun y13 => M.ok (decide (y12 = y13))) fun c14 => if c14 = true then M.bind (M.ok false) fun y21 => M.bind (M.bind (M.ok (x10.2, fun (y : O_Loom) => y)) fun y17 => M.ok (y17.1.2.2.1, fun (y : (List Bool)) => y17.2 (y17.1.1, (y17.1.2.1, (y, y17.1.2.2.2))))) fun q18 => M.bind (M.bind (M.ok x10.1) fun y16 => M.ok y16.2.1) fun y22 => M.bind (setM q18.1 y22 y21) fun l19 => M.bind (M.ok (q18.2 l19)) fun self20 => M.ok ((), (self20, ())) else M.bind (M.bind (M.bind (M.ok x10.1) fun y23 => M.ok y23.1) fun y24 => M.bind (M.ok (tx "lift")) fun y25 => M.ok (decide (y24 = y25))) fun c26 => if c26 = true then M.bind (M.ok true) fun y33 => M.bind (M.bind (M.ok (x10.2, fun (y : O_Loom) => y)) fun y29 => M.ok (y29.1.2.2.1, fun (y : (List Bool)) => y29.2 (y29.1.1, (y29.1.2.1, (y, y29.1.2.2.2))))) fun q30 => M.bind (M.bind (M.ok x10.1) fun y28 => M.ok y28.2.1) fun y34 => M.bind (setM q30.1 y34 y33) fun l31 => M.bind (M.ok (q30.2 l31)) fun self32 => M.ok ((), (self32, ())) else M.bind (M.bind (M.bind (M.ok x10.1) fun y35 => M.ok y35.1) fun y36 => M.bind (M.ok (tx "throw")) fun y37 => M.ok (decide (y36 = y37))) fun c38 => if c38 = true then M.bind (M.bind (M.ok (x10.2, fun (y : O_Loom) => y)) fun y40 => M.ok (y40.1.2.2.2.1, fun (y : (List ((List Int) × Tx × Tx × Unit))) => y40.2 (y40.1.1, (y40.1.2.1, (y40.1.2.2.1, (y, y40.1.2.2.2.2)))))) fun q41 => M.bind (popM q41.1) fun l42 => M.bind (M.ok (q41.2 l42)) fun self43 => M.ok ((), (self43, ())) else M.bind (M.bind (M.ok (x10.2, fun (y : O_Loom) => y)) fun y47 => M.ok (y47.1.2.2.2.1, fun (y : (List ((List Int) × Tx × Tx × Unit))) => y47.2 (y47.1.1, (y47.1.2.1, (y47.1.2.2.1, (y, y47.1.2.2.2.2)))))) fun q48 => M.bind (M.bind (M.bind (M.ok x10.1) fun y45 => M.ok y45.2.2.1) fun y46 => unM y46) fun y51 => M.bind (pushM q48.1 y51) fun l49 => M.bind (M.ok (q48.2 l49)) fun self50 => M.ok ((), (self50, ()))
def f_Loom_undo (self1 : O_Loom) : M (Unit × (O_Loom × Unit)) := if (decide ((self1.2.2.2.2.1.length : Int) = (0 : Int))) = true then M.ex .noDeed else M.bind (popX ((self1, fun (y : O_Loom) => y).1.2.2.2.2.1, fun (y : (List (Tx × Int × (Option ((List Int) × Tx × Tx × Unit)) × Unit))) => (self1, fun (y : O_Loom) => y).2 ((self1, fun (y : O_Loom) => y).1.1, ((self1, fun (y : O_Loom) => y).1.2.1, ((self1, fun (y : O_Loom) => y).1.2.2.1, ((self1, fun (y : O_Loom) => y).1.2.2.2.1, (y, (self1, fun (y : O_Loom) => y).1.2.2.2.2.2)))))).1) fun r9 => let x10 : (Tx × Int × (Option ((List Int) × Tx × Tx × Unit)) × Unit) × O_Loom := (r9.1, ((self1, fun (y : O_Loom) => y).1.2.2.2.2.1, fun (y : (List (Tx × Int × (Option ((List Int) × Tx × Tx × Unit)) × Unit))) => (self1, fun (y : O_Loom) => y).2 ((self1, fun (y : O_Loom) => y).1.1, ((self1, fun (y : O_Loom) => y).1.2.1, ((self1, fun (y : O_Loom) => y).1.2.2.1, ((self1, fun (y : O_Loom) => y).1.2.2.2.1, (y, (self1, fun (y : O_Loom) => y).1.2.2.2.2.2)))))).2 r9.2); if (decide (x10.1.1 = (tx "press"))) = true then M.bind (setM ((x10.2, fun (y : O_Loom) => y).1.2.2.1, fun (y : (List Bool)) => (x10.2, fun (y : O_Loom) => y).2 ((x10.2, fun (y : O_Loom) => y).1.1, ((x10.2, fun (y : O_Loom) => y).1.2.1, (y, (x10.2, fun (y : O_Loom) => y).1.2.2.2)))).1 x10.1.2.1 false) fun l19 => let self20 : O_Loom := ((x10.2, fun (y : O_Loom) => y).1.2.2.1, fun (y : (List Bool)) => (x10.2, fun (y : O_Loom) => y).2 ((x10.2, fun (y : O_Loom) => y).1.1, ((x10.2, fun (y : O_Loom) => y).1.2.1, (y, (x10.2, fun (y : O_Loom) => y).1.2.2.2)))).2 l19; M.ok ((), (self20, ())) else if (decide (x10.1.1 = (tx "lift"))) = true then M.bind (setM ((x10.2, fun (y : O_Loom) => y).1.2.2.1, fun (y : (List Bool)) => (x10.2, fun (y : O_Loom) => y).2 ((x10.2, fun (y : O_Loom) => y).1.1, ((x10.2, fun (y : O_Loom) => y).1.2.1, (y, (x10.2, fun (y : O_Loom) => y).1.2.2.2)))).1 x10.1.2.1 true) fun l31 => let self32 : O_Loom := ((x10.2, fun (y : O_Loom) => y).1.2.2.1, fun (y : (List Bool)) => (x10.2, fun (y : O_Loom) => y).2 ((x10.2, fun (y : O_Loom) => y).1.1, ((x10.2, fun (y : O_Loom) => y).1.2.1, (y, (x10.2, fun (y : O_Loom) => y).1.2.2.2)))).2 l31; M.ok ((), (self32, ())) else if (decide (x10.1.1 = (tx "throw"))) = true then M.bind (popM ((x10.2, fun (y : O_Loom) => y).1.2.2.2.1, fun (y : (List ((List Int) × Tx × Tx × Unit))) => (x10.2, fun (y : O_Loom) => y).2 ((x10.2, fun (y : O_Loom) => y).1.1, ((x10.2, fun (y : O_Loom) => y).1.2.1, ((x10.2, fun (y : O_Loom) => y).1.2.2.1, (y, (x10.2, fun (y : O_Loom) => y).1.2.2.2.2))))).1) fun l42 => let self43 : O_Loom := ((x10.2, fun (y : O_Loom) => y).1.2.2.2.1, fun (y : (List ((List Int) × Tx × Tx × Unit))) => (x10.2, fun (y : O_Loom) => y).2 ((x10.2, fun (y : O_Loom) => y).1.1, ((x10.2, fun (y : O_Loom) => y).1.2.1, ((x10.2, fun (y : O_Loom) => y).1.2.2.1, (y, (x10.2, fun (y : O_Loom) => y).1.2.2.2.2))))).2 l42; M.ok ((), (self43, ())) else M.bind (unM x10.1.2.2.1) fun y51 => M.bind (pushM ((x10.2, fun (y : O_Loom) => y).1.2.2.2.1, fun (y : (List ((List Int) × Tx × Tx × Unit))) => (x10.2, fun (y : O_Loom) => y).2 ((x10.2, fun (y : O_Loom) => y).1.1, ((x10.2, fun (y : O_Loom) => y).1.2.1, ((x10.2, fun (y : O_Loom) => y).1.2.2.1, (y, (x10.2, fun (y : O_Loom) => y).1.2.2.2.2))))).1 y51) fun l49 => let self50 : O_Loom := ((x10.2, fun (y : O_Loom) => y).1.2.2.2.1, fun (y : (List ((List Int) × Tx × Tx × Unit))) => (x10.2, fun (y : O_Loom) => y).2 ((x10.2, fun (y : O_Loom) => y).1.1, ((x10.2, fun (y : O_Loom) => y).1.2.1, ((x10.2, fun (y : O_Loom) => y).1.2.2.1, (y, (x10.2, fun (y : O_Loom) => y).1.2.2.2.2))))).2 l49; M.ok ((), (self50, ()))
def r_Loom_undo (d : (O_Loom × Unit)) : M (Unit × (O_Loom × Unit)) := q_Loom_undo d.1
def c_Loom_undo (d : (O_Loom × Unit)) : M (Unit × (O_Loom × Unit)) := f_Loom_undo d.1
theorem eq_Loom_undo : r_Loom_undo = c_Loom_undo := by funext d; first | (simp only [r_Loom_undo, c_Loom_undo, q_Loom_undo, f_Loom_undo, M.bind_assoc, M.bok]; done) | (simp only [r_Loom_undo, c_Loom_undo, q_Loom_undo, f_Loom_undo, M.bind_assoc, M.bok]; rfl)
theorem bb_Loom_undo {p : Pr} (X : Facts p) {g : G} (ok : OkS p (defScope s_Loom_undo) N_Loom_undo V_Loom_undo G_Loom_undo 0 g) (vs : List V) (self1 : O_Loom) (hX : g.LX = [(sA (vs.headD .non) (wIns (cA p "Loom") ["threading", "ties", "pressed", "thrown", "done_deeds"] (waCons (wV (tList tInt)) (waCons (wV (tList (tList tInt))) (waCons (wL (wV tBool)) (waCons (wL (wV (tTup (aCons (tTupL tInt) (aCons tStr (aCons tStr aNil)))))) (waCons (wL (wV (tTup (aCons tStr (aCons tInt (aCons (tOpt (tTup (aCons (tTupL tInt) (aCons tStr (aCons tStr aNil))))) aNil)))))) waNil)))))) self1), sAny]) : EvB g [(sA (vs.headD .non) (wIns (cA p "Loom") ["threading", "ties", "pressed", "thrown", "done_deeds"] (waCons (wV (tList tInt)) (waCons (wV (tList (tList tInt))) (waCons (wL (wV tBool)) (waCons (wL (wV (tTup (aCons (tTupL tInt) (aCons tStr (aCons tStr aNil)))))) (waCons (wL (wV (tTup (aCons tStr (aCons tInt (aCons (tOpt (tTup (aCons (tTupL tInt) (aCons tStr (aCons tStr aNil))))) aNil)))))) waNil)))))) self1), sAny] (defBody s_Loom_undo) (fun (r : (Unit × (O_Loom × Unit))) => .nx [(sA (vs.headD .non) (wIns (cA p "Loom") ["threading", "ties", "pressed", "thrown", "done_deeds"] (waCons (wV (tList tInt)) (waCons (wV (tList (tList tInt))) (waCons (wL (wV tBool)) (waCons (wL (wV (tTup (aCons (tTupL tInt) (aCons tStr (aCons tStr aNil)))))) (waCons (wL (wV (tTup (aCons tStr (aCons tInt (aCons (tOpt (tTup (aCons (tTupL tInt) (aCons tStr (aCons tStr aNil))))) aNil)))))) waNil)))))) r.2.1), sAny]) (q_Loom_undo self1) := (evb_ifr ok (wkL hX (Wk.s (Wk.s Wk.n))) X.x_NoDeed (jj := 0) (j := 1) rfl (evt_borrowP (i := 0) rfl (evt_c ok.toOk (c_eq s_int) (ev_lenQ (md' := .sh) ok.toOk sq_l (j := 0) rfl X.g_len (ev_fld (T := (tList (tTup (aCons tStr (aCons tInt (aCons (tOpt (tTup (aCons (tTupL tInt) (aCons tStr (aCons tStr aNil))))) aNil)))))) (pr := fun (d : O_Loom) => d.2.2.2.2.1) ok.toOk X.a_Loom X.n_Loom_done_deeds (fun d => (.there (n := "threading") rfl (by decide +kernel) (.there (n := "ties") rfl (by decide +kernel) (.there (n := "pressed") rfl (by decide +kernel) (.there (n := "thrown") rfl (by decide +kernel) .here))))) (ev_vsh ok.toOk (i := 0) (j := 0) rfl rfl rfl))) (ev_int (md := .sh)))) (evb_setXV ok (i := 1) (j := 1) rfl rfl (ex_pop ok.toOk (.inl (wkL hX (Wk.s (Wk.s Wk.n)))) (evp_fld ok.toOk X.a_Loom X.n_Loom_done_deeds (.s (.s (.s (.s .z)))) rfl (evp_name ok.toOk (i := 0) (j := 0) rfl rfl rfl))) fun x10 => (evb_noex ok (by repeat first | exact nx_ok | exact pushM_nx | exact setM_nx | exact popX_nx | exact popM_nx | exact unM_nx | exact getM_nx | refine NoEx.ite ?_ ?_ | refine NoEx.bind ?_ fun _ => ?_) fun g ok hX => (evb_ifl (wkX hX rfl) (evt_c ok.toOk (c_eq s_str) (ev_ixA (n := 0) ok.toOk .z (ev_vsh ok.toOk (i := 1) (j := 1) rfl rfl rfl) (ev_int (md := .sh))) (ev_str (md := .sh) (by decide +kernel))) (evb_qSet ok (wkX hX rfl) (ev_bool (md := .sh)) (evp_fld ok.toOk X.a_Loom X.n_Loom_pressed (.s (.s .z)) rfl (evp_name ok.toOk (i := 0) (j := 0) rfl rfl rfl)) (ev_ixA (n := 1) ok.toOk (.s .z) (ev_vsh ok.toOk (i := 1) (j := 1) rfl rfl rfl) (ev_int (md := .sh))) fun self20 => (evb_nx (by rfl) (Wk.s (Wk.a Wk.n)))) (evb_ifl (wkX hX rfl) (evt_c ok.toOk (c_eq s_str) (ev_ixA (n := 0) ok.toOk .z (ev_vsh ok.toOk (i := 1) (j := 1) rfl rfl rfl) (ev_int (md := .sh))) (ev_str (md := .sh) (by decide +kernel))) (evb_qSet ok (wkX hX rfl) (ev_bool (md := .sh)) (evp_fld ok.toOk X.a_Loom X.n_Loom_pressed (.s (.s .z)) rfl (evp_name ok.toOk (i := 0) (j := 0) rfl rfl rfl)) (ev_ixA (n := 1) ok.toOk (.s .z) (ev_vsh ok.toOk (i := 1) (j := 1) rfl rfl rfl) (ev_int (md := .sh))) fun self32 => (evb_nx (by rfl) (Wk.s (Wk.a Wk.n)))) (evb_ifl (wkX hX rfl) (evt_c ok.toOk (c_eq s_str) (ev_ixA (n := 0) ok.toOk .z (ev_vsh ok.toOk (i := 1) (j := 1) rfl rfl rfl) (ev_int (md := .sh))) (ev_str (md := .sh) (by decide +kernel))) (evb_qPop ok (wkX hX rfl) (evp_fld ok.toOk X.a_Loom X.n_Loom_thrown (.s (.s (.s .z))) rfl (evp_name ok.toOk (i := 0) (j := 0) rfl rfl rfl)) fun self43 => (evb_nx (by rfl) (Wk.s (Wk.a Wk.n)))) (evb_qAppend ok (wkX hX rfl) (evp_fld ok.toOk X.a_Loom X.n_Loom_thrown (.s (.s (.s .z))) rfl (evp_name ok.toOk (i := 0) (j := 0) rfl rfl rfl)) (evn_v (ev_un1 (ev_ixA (n := 2) ok.toOk (.s (.s .z)) (ev_vsh ok.toOk (i := 1) (j := 1) rfl rfl rfl) (ev_int (md := .sh))))) fun self50 => (evb_nx (by rfl) (Wk.s (Wk.a Wk.n))))))))))
theorem me_Loom_undo {p : Pr} (X : Facts p) : MeF p 1 "Loom" "undo" [] (spX p (waCons (wIns (cA p "Loom") ["threading", "ties", "pressed", "thrown", "done_deeds"] (waCons (wV (tList tInt)) (waCons (wV (tList (tList tInt))) (waCons (wL (wV tBool)) (waCons (wL (wV (tTup (aCons (tTupL tInt) (aCons tStr (aCons tStr aNil)))))) (waCons (wL (wV (tTup (aCons tStr (aCons tInt (aCons (tOpt (tTup (aCons (tTupL tInt) (aCons tStr (aCons tStr aNil))))) aNil)))))) waNil)))))) waNil) (fun (d : (O_Loom × Unit)) (w : (O_Loom × Unit)) => (w.1, (fun (d : Unit) (_ : Unit) => d) d.2 w.2)) (wV tNone) true c_Loom_undo) := by
  obtain ⟨f, fd, hF, hc, hm⟩ := X.m_Loom_undo
  exact ⟨f, fd, eq_Loom_undo ▸ fn_X (D' := fun vs (r : (Unit × (O_Loom × Unit))) => .nx [(sA (vs.headD .non) (wIns (cA p "Loom") ["threading", "ties", "pressed", "thrown", "done_deeds"] (waCons (wV (tList tInt)) (waCons (wV (tList (tList tInt))) (waCons (wL (wV tBool)) (waCons (wL (wV (tTup (aCons (tTupL tInt) (aCons tStr (aCons tStr aNil)))))) (waCons (wL (wV (tTup (aCons tStr (aCons tInt (aCons (tOpt (tTup (aCons (tTupL tInt) (aCons tStr (aCons tStr aNil))))) aNil)))))) waNil)))))) r.2.1), sAny]) (kx := true) (m := 1) hF sc_Loom_undo (.ow .nil) rfl rfl (fun r vs fm Q h => x_nx h) (fun vs g ok d hX => bb_Loom_undo X ok vs d.1 hX), hc, hm, hF.bindsN fun _ _ _ _ _ _ us hl => match us, hl with | [_], _ => rfl⟩
abbrev s__law_try : Stmt := (topS 25)
abbrev N__law_try : List Str := ["made", "way", "at", "letter", "caught", "told", "e"]
abbrev V__law_try : List Str := ["made", "way", "at", "letter", "caught", "told", "e"]
abbrev G__law_try : List Str := ["isinstance", "NoDeed", "TooLarge", "WeaveError"]
theorem sc__law_try : Sc s__law_try N__law_try V__law_try ["made", "way", "at", "letter"] G__law_try := ⟨⟨rfl, rfl, rfl, by decide +kernel, rfl, by decide +kernel, by decide +kernel⟩, by decide +kernel, by decide +kernel, by decide +kernel⟩
def q__law_try (made1 : O_Loom) (way2 : Tx) (at3 : Int) (letter4 : Tx) : M ((((Option Tx) × Unit) ⊕ ((Option Tx) × Tx × Unit)) × (O_Loom × Unit)) := M.bind (M.ok none) fun caught5 => M.bind (M.bind (M.ok ()) fun y7 => M.ok (Sum.inl y7)) fun told6 => M.bind (tryM kn_ .weave (M.bind (M.bind (M.ok way2) fun y8 => M.bind (M.ok (tx "press")) fun y9 => M.ok (decide (y8 = y9))) fun c10 => if c10 = true then M.bind (M.bind (M.bind (M.bind (M.bind (M.bind (M.ok (made1, fun (y : O_Loom) => y)) fun q14 => M.bind (M.bind (M.ok at3) fun y12 => M.bind (M.ok ((), fun (_ : Unit) => ())) fun r13 => M.ok ((y12, r13.1), r13.2)) fun r15 => M.ok ((q14.1, r15.1), fun (w16 : O_Loom × Unit) => (q14.2 w16.1, r15.2 w16.2))) fun q17 => M.bind (c_Loom_press q17.1) fun r18 => M.ok (r18.1, q17.2 r18.2)) fun r20 => M.ok (none, r20.2)) fun r21 => M.ok ((r21.1, ()), r21.2)) fun r22 => M.ok (Sum.inr r22.1, r22.2)) fun x19 => M.ok (x19.2.1, caught5, x19.1) else M.bind (M.bind (M.ok way2) fun y24 => M.bind (M.ok (tx "lift")) fun y25 => M.ok (decide (y24 = y25))) fun c26 => if c26 = true then M.bind (M.bind (M.bind (M.bind (M.bind (M.bind (M.ok (made1, fun (y : O_Loom) => y)) fun q30 => M.bind (M.bind (M.ok at3) fun y28 => M.bind (M.ok ((), fun (_ : Unit) => ())) fun r29 => M.ok ((y28, r29.1), r29.2)) fun r31 => M.ok ((q30.1, r31.1), fun (w32 : O_Loom × Unit) => (q30.2 w32.1, r31.2 w32.2))) fun q33 => M.bind (c_Loom_lift q33.1) fun r34 => M.ok (r34.1, q33.2 r34.2)) fun r36 => M.ok (none, r36.2)) fun r37 => M.ok ((r37.1, ()), r37.2)) fun r38 => M.ok (Sum.inr r38.1, r38.2)) fun x35 => M.ok (x35.2.1, caught5, x35.1) else M.bind (M.bind (M.ok way2) fun y40 => M.bind (M.ok (tx "throw")) fun y41 => M.ok (decide (y40 = y41))) fun c42 => if c42 = true then M.bind (M.bind (M.bind (M.bind (M.bind (M.bind (M.ok (made1, fun (y : O_Loom) => y)) fun q46 => M.bind (M.bind (M.ok letter4) fun y44 => M.bind (M.ok ((), fun (_ : Unit) => ())) fun r45 => M.ok ((y44, r45.1), r45.2)) fun r47 => M.ok ((q46.1, r47.1), fun (w48 : O_Loom × Unit) => (q46.2 w48.1, r47.2 w48.2))) fun q49 => M.bind (c_Loom_throw q49.1) fun r50 => M.ok (r50.1, q49.2 r50.2)) fun r52 => M.ok (none, r52.2)) fun r53 => M.ok ((r53.1, ()), r53.2)) fun r54 => M.ok (Sum.inr r54.1, r54.2)) fun x51 => M.ok (x51.2.1, caught5, x51.1) else M.bind (M.bind (M.ok way2) fun y56 => M.bind (M.ok (tx "unthrow")) fun y57 => M.ok (decide (y56 = y57))) fun c58 => if c58 = true then M.bind (M.bind (M.bind (M.bind (M.bind (M.bind (M.ok (made1, fun (y : O_Loom) => y)) fun q60 => M.ok ((q60.1, ()), fun (w61 : O_Loom × Unit) => (q60.2 w61.1, ()))) fun q62 => M.bind (c_Loom_unthrow q62.1) fun r63 => M.ok (r63.1, q62.2 r63.2)) fun r65 => M.ok (some r65.1, r65.2)) fun r66 => M.ok ((r66.1, ()), r66.2)) fun r67 => M.ok (Sum.inr r67.1, r67.2)) fun x64 => M.ok (x64.2.1, caught5, x64.1) else M.bind (M.bind (M.bind (M.bind (M.bind (M.bind (M.ok (made1, fun (y : O_Loom) => y)) fun q70 => M.ok ((q70.1, ()), fun (w71 : O_Loom × Unit) => (q70.2 w71.1, ()))) fun q72 => M.bind (c_Loom_undo q72.1) fun r73 => M.ok (r73.1, q72.2 r73.2)) fun r75 => M.ok (none, r75.2)) fun r76 => M.ok ((r76.1, ()), r76.2)) fun r77 => M.ok (Sum.inr r77.1, r77.2)) fun x74 => M.ok (x74.2.1, caught5, x74.1)) fun e84 => (made1, (some e84), told6)) fun (s83 : (O_Loom × (Option Ec) × ((Unit) ⊕ ((Option Tx) × Unit)))) => M.bind (M.bind (M.ok s83.2.1) fun y85 => M.ok y85.isNone) fun c86 => if c86 = true then M.bind (M.bind (M.bind (M.ok s83.2.2) fun y87 => unr y87) fun y88 => M.ok (Sum.inl y88)) fun r89 => M.ok (r89, (s83.1, ())) else M.bind (M.bind (M.bind (M.ok s83.2.1) fun y90 => isEM kn_ y90 .noDeed) fun c93 => if c93 = true then M.bind (M.bind (M.ok s83.2.1) fun y91 => isEM kn_ y91 .tooLarge) fun y92 => M.ok (!y92) else M.ok false) fun c95 => if c95 = true then M.bind (M.bind (M.bind (M.bind (M.ok (tx "refused")) fun y96 => M.ok (some y96)) fun y99 => M.bind (M.bind (M.ok (tx "NoDeed")) fun y97 => M.bind (M.ok ()) fun y98 => M.ok (y97, y98)) fun y100 => M.ok (y99, y100)) fun y103 => M.ok (Sum.inr y103)) fun r104 => M.ok (r104, (s83.1, ())) else M.bind (M.bind (M.bind (M.ok s83.2.1) fun y105 => isEM kn_ y105 .tooLarge) fun c108 => if c108 = true then M.bind (M.bind (M.ok s83.2.1) fun y106 => isEM kn_ y106 .noDeed) fun y107 => M.ok (!y107) else M.ok false) fun c110 => if c110 = true then M.bind (M.bind (M.bind (M.bind (M.ok (tx "refused")) fun y111 => M.ok (some y111)) fun y114 => M.bind (M.bind (M.ok (tx "TooLarge")) fun y112 => M.bind (M.ok ()) fun y113 => M.ok (y112, y113)) fun y115 => M.ok (y114, y115)) fun y118 => M.ok (Sum.inr y118)) fun r119 => M.ok (r119, (s83.1, ())) else M.bind (M.bind (M.bind (M.bind (M.ok (tx "refused")) fun y120 => M.ok (some y120)) fun y123 => M.bind (M.bind (M.ok (tx "another")) fun y121 => M.bind (M.ok ()) fun y122 => M.ok (y121, y122)) fun y124 => M.ok (y123, y124)) fun y127 => M.ok (Sum.inr y127)) fun r128 => M.ok (r128, (s83.1, ()))
def f_law_try (made1 : O_Loom) (way2 : Tx) (at3 : Int) (letter4 : Tx) : M ((((Option Tx) × Unit) ⊕ ((Option Tx) × Tx × Unit)) × (O_Loom × Unit)) := let caught5 : (Option Ec) := none; let told6 : ((Unit) ⊕ ((Option Tx) × Unit)) := (Sum.inl (())); M.bind (tryM kn_ .weave (if (decide (way2 = (tx "press"))) = true then M.bind (f_Loom_press made1 at3) fun x23 => let x19 : ((Unit) ⊕ ((Option Tx) × Unit)) × (O_Loom × Unit) := (Sum.inr (none, ()), (x23.2.1, ())); M.ok (x19.2.1, caught5, x19.1) else if (decide (way2 = (tx "lift"))) = true then M.bind (f_Loom_lift made1 at3) fun x39 => let x35 : ((Unit) ⊕ ((Option Tx) × Unit)) × (O_Loom × Unit) := (Sum.inr (none, ()), (x39.2.1, ())); M.ok (x35.2.1, caught5, x35.1) else if (decide (way2 = (tx "throw"))) = true then M.bind (f_Loom_throw made1 letter4) fun x55 => let x51 : ((Unit) ⊕ ((Option Tx) × Unit)) × (O_Loom × Unit) := (Sum.inr (none, ()), (x55.2.1, ())); M.ok (x51.2.1, caught5, x51.1) else if (decide (way2 = (tx "unthrow"))) = true then M.bind (f_Loom_unthrow made1) fun x68 => let x64 : ((Unit) ⊕ ((Option Tx) × Unit)) × (O_Loom × Unit) := (Sum.inr (some x68.1, ()), (x68.2.1, ())); M.ok (x64.2.1, caught5, x64.1) else M.bind (f_Loom_undo made1) fun x78 => let x74 : ((Unit) ⊕ ((Option Tx) × Unit)) × (O_Loom × Unit) := (Sum.inr (none, ()), (x78.2.1, ())); M.ok (x74.2.1, caught5, x74.1)) fun e84 => (made1, (some e84), told6)) fun (s83 : (O_Loom × (Option Ec) × ((Unit) ⊕ ((Option Tx) × Unit)))) => if s83.2.1.isNone = true then M.bind (M.bind (unr s83.2.2) fun y88 => M.ok (Sum.inl y88)) fun r89 => M.ok (r89, (s83.1, ())) else M.bind (M.bind (isEM kn_ s83.2.1 .noDeed) fun c94 => if c94 = true then M.bind (isEM kn_ s83.2.1 .tooLarge) fun y92 => M.ok (!y92) else M.ok false) fun c130 => if c130 = true then M.ok ((Sum.inr ((some (tx "refused")), (tx "NoDeed"), ())), (s83.1, ())) else M.bind (M.bind (isEM kn_ s83.2.1 .tooLarge) fun c109 => if c109 = true then M.bind (isEM kn_ s83.2.1 .noDeed) fun y107 => M.ok (!y107) else M.ok false) fun c129 => if c129 = true then M.ok ((Sum.inr ((some (tx "refused")), (tx "TooLarge"), ())), (s83.1, ())) else M.ok ((Sum.inr ((some (tx "refused")), (tx "another"), ())), (s83.1, ()))
def r__law_try (d : (O_Loom × Tx × Int × Tx × Unit)) : M ((((Option Tx) × Unit) ⊕ ((Option Tx) × Tx × Unit)) × (O_Loom × Unit)) := q__law_try d.1 d.2.1 d.2.2.1 d.2.2.2.1
def c__law_try (d : (O_Loom × Tx × Int × Tx × Unit)) : M ((((Option Tx) × Unit) ⊕ ((Option Tx) × Tx × Unit)) × (O_Loom × Unit)) := f_law_try d.1 d.2.1 d.2.2.1 d.2.2.2.1
theorem eq__law_try : r__law_try = c__law_try := by funext d; first | (simp only [r__law_try, c__law_try, q__law_try, f_law_try, M.bind_assoc, M.bok, c_Loom_lift, c_Loom_press, c_Loom_throw, c_Loom_undo, c_Loom_unthrow]; done) | (simp only [r__law_try, c__law_try, q__law_try, f_law_try, M.bind_assoc, M.bok, c_Loom_lift, c_Loom_press, c_Loom_throw, c_Loom_undo, c_Loom_unthrow]; rfl)
theorem bb__law_try {p : Pr} (X : Facts p) {g : G} (ok : OkS p (defScope s__law_try) N__law_try V__law_try G__law_try 2 g) (vs : List V) (made1 : O_Loom) (way2 : Tx) (at3 : Int) (letter4 : Tx) (hX : g.LX = List.replicate N__law_try.length sAny) : EvB g [(sA (vs.headD .non) (wIns (cA p "Loom") ["threading", "ties", "pressed", "thrown", "done_deeds"] (waCons (wV (tList tInt)) (waCons (wV (tList (tList tInt))) (waCons (wL (wV tBool)) (waCons (wL (wV (tTup (aCons (tTupL tInt) (aCons tStr (aCons tStr aNil)))))) (waCons (wL (wV (tTup (aCons tStr (aCons tInt (aCons (tOpt (tTup (aCons (tTupL tInt) (aCons tStr (aCons tStr aNil))))) aNil)))))) waNil)))))) made1), (sV false tStr way2), (sV false tInt at3), (sV false tStr letter4), sAny, sAny, sAny] (defBody s__law_try) (fun (r : ((((Option Tx) × Unit) ⊕ ((Option Tx) × Tx × Unit)) × (O_Loom × Unit))) => xOut (fun (w_ : (O_Loom × Unit)) => [(sA (vs.headD .non) (wIns (cA p "Loom") ["threading", "ties", "pressed", "thrown", "done_deeds"] (waCons (wV (tList tInt)) (waCons (wV (tList (tList tInt))) (waCons (wL (wV tBool)) (waCons (wL (wV (tTup (aCons (tTupL tInt) (aCons tStr (aCons tStr aNil)))))) (waCons (wL (wV (tTup (aCons tStr (aCons tInt (aCons (tOpt (tTup (aCons (tTupL tInt) (aCons tStr (aCons tStr aNil))))) aNil)))))) waNil)))))) w_.1), sAny, sAny, sAny, sAny, sAny, sAny]) (wV (tSum (tTup (aCons (tOpt tStr) aNil)) (tTup (aCons (tOpt tStr) (aCons tStr aNil))))) r) (q__law_try made1 way2 at3 letter4) := (evb_set ok (i := 4) (j := 4) rfl rfl (wkX hX rfl) .sh (ev_optN (md := .sh)) fun caught5 => (evb_set ok (i := 5) (j := 5) rfl rfl (wkX hX rfl) .sh (ev_inl (ev_tup (md := .sh) (fun d vs R h => by rw [len0 h]; decide) eva_nil)) fun told6 => (evb_tryA (LJ := (fun (s83 : (O_Loom × (Option Ec) × ((Unit) ⊕ ((Option Tx) × Unit)))) => [(sA (vs.headD .non) (wIns (cA p "Loom") ["threading", "ties", "pressed", "thrown", "done_deeds"] (waCons (wV (tList tInt)) (waCons (wV (tList (tList tInt))) (waCons (wL (wV tBool)) (waCons (wL (wV (tTup (aCons (tTupL tInt) (aCons tStr (aCons tStr aNil)))))) (waCons (wL (wV (tTup (aCons tStr (aCons tInt (aCons (tOpt (tTup (aCons (tTupL tInt) (aCons tStr (aCons tStr aNil))))) aNil)))))) waNil)))))) s83.1), (sV false tStr way2), (sV false tInt at3), (sV false tStr letter4), (sV false (tOpt (tExc p)) s83.2.1), (sV false (tSum (tTup aNil) (tTup (aCons (tOpt tStr) aNil))) s83.2.2), sAny])) (h := fun e84 => (made1, (some e84), told6)) ok (wkX hX rfl) X.kn (by decide) X.x_WeaveError.gP (j := 3) rfl (iE := 6) (iC := 4) (jE := 6) (jC := 4) rfl rfl (by decide +kernel) rfl rfl rfl (fun g' ok hX => (evb_ifl (wkL hX (Wk.s (Wk.s (Wk.s (Wk.s (Wk.s (Wk.s (Wk.s Wk.n)))))))) (evt_c ok.toOk (c_eq s_str) (ev_vsh ok.toOk (i := 1) (j := 1) rfl rfl rfl) (ev_str (md := .sh) (by decide +kernel))) (evb_setXV ok (i := 5) (j := 5) rfl rfl (ex_as (f := (Sum.inr : ((Option Tx) × Unit) → ((Unit) ⊕ ((Option Tx) × Unit)))) (fun h => h) (ex_tup1 (ex_as (f := fun (_ : Unit) => (none : (Option Tx))) (fun h => h) (ex_meth ok.toOk (me_Loom_press X) (by decide) (by decide +kernel) (by decide) (.keep (pj := fun d_ => (d_.1, ())) rfl (wkL hX (Wk.s (Wk.s (Wk.s (Wk.s (Wk.s (Wk.s (Wk.s Wk.n)))))))) (fun _ => rfl) (fun q_ h_ => by have h_ := M.ok.inj h_; subst h_; rfl)) (evp_name ok.toOk (i := 0) (j := 0) rfl rfl rfl) (evxa_sh (up := (fun (d : Unit) (_ : Unit) => d)) (md := .sh) (ev_vsh ok.toOk (i := 2) (j := 2) rfl rfl rfl) evxa_nil))))) fun x19 => (evb_nx (by rfl) (Wk.s (Wk.s (Wk.s (Wk.s (Wk.s (Wk.s (Wk.s Wk.n))))))))) (evb_ifl (wkL hX (Wk.s (Wk.s (Wk.s (Wk.s (Wk.s (Wk.s (Wk.s Wk.n)))))))) (evt_c ok.toOk (c_eq s_str) (ev_vsh ok.toOk (i := 1) (j := 1) rfl rfl rfl) (ev_str (md := .sh) (by decide +kernel))) (evb_setXV ok (i := 5) (j := 5) rfl rfl (ex_as (f := (Sum.inr : ((Option Tx) × Unit) → ((Unit) ⊕ ((Option Tx) × Unit)))) (fun h => h) (ex_tup1 (ex_as (f := fun (_ : Unit) => (none : (Option Tx))) (fun h => h) (ex_meth ok.toOk (me_Loom_lift X) (by decide) (by decide +kernel) (by decide) (.keep (pj := fun d_ => (d_.1, ())) rfl (wkL hX (Wk.s (Wk.s (Wk.s (Wk.s (Wk.s (Wk.s (Wk.s Wk.n)))))))) (fun _ => rfl) (fun q_ h_ => by have h_ := M.ok.inj h_; subst h_; rfl)) (evp_name ok.toOk (i := 0) (j := 0) rfl rfl rfl) (evxa_sh (up := (fun (d : Unit) (_ : Unit) => d)) (md := .sh) (ev_vsh ok.toOk (i := 2) (j := 2) rfl rfl rfl) evxa_nil))))) fun x35 => (evb_nx (by rfl) (Wk.s (Wk.s (Wk.s (Wk.s (Wk.s (Wk.s (Wk.s Wk.n))))))))) (evb_ifl (wkL hX (Wk.s (Wk.s (Wk.s (Wk.s (Wk.s (Wk.s (Wk.s Wk.n)))))))) (evt_c ok.toOk (c_eq s_str) (ev_vsh ok.toOk (i := 1) (j := 1) rfl rfl rfl) (ev_str (md := .sh) (by decide +kernel))) (evb_setXV ok (i := 5) (j := 5) rfl rfl (ex_as (f := (Sum.inr : ((Option Tx) × Unit) → ((Unit) ⊕ ((Option Tx) × Unit)))) (fun h => h) (ex_tup1 (ex_as (f := fun (_ : Unit) => (none : (Option Tx))) (fun h => h) (ex_meth ok.toOk (me_Loom_throw X) (by decide) (by decide +kernel) (by decide) (.keep (pj := fun d_ => (d_.1, ())) rfl (wkL hX (Wk.s (Wk.s (Wk.s (Wk.s (Wk.s (Wk.s (Wk.s Wk.n)))))))) (fun _ => rfl) (fun q_ h_ => by have h_ := M.ok.inj h_; subst h_; rfl)) (evp_name ok.toOk (i := 0) (j := 0) rfl rfl rfl) (evxa_sh (up := (fun (d : Unit) (_ : Unit) => d)) (md := .sh) (ev_vsh ok.toOk (i := 3) (j := 3) rfl rfl rfl) evxa_nil))))) fun x51 => (evb_nx (by rfl) (Wk.s (Wk.s (Wk.s (Wk.s (Wk.s (Wk.s (Wk.s Wk.n))))))))) (evb_ifl (wkL hX (Wk.s (Wk.s (Wk.s (Wk.s (Wk.s (Wk.s (Wk.s Wk.n)))))))) (evt_c ok.toOk (c_eq s_str) (ev_vsh ok.toOk (i := 1) (j := 1) rfl rfl rfl) (ev_str (md := .sh) (by decide +kernel))) (evb_setXV ok (i := 5) (j := 5) rfl rfl (ex_as (f := (Sum.inr : ((Option Tx) × Unit) → ((Unit) ⊕ ((Option Tx) × Unit)))) (fun h => h) (ex_tup1 (ex_some nn_str (ex_meth0 ok.toOk (me_Loom_unthrow X) (by decide) (by decide +kernel) (.keep (pj := fun d_ => (d_.1, ())) rfl (wkL hX (Wk.s (Wk.s (Wk.s (Wk.s (Wk.s (Wk.s (Wk.s Wk.n)))))))) (fun _ => rfl) (fun q_ h_ => by have h_ := M.ok.inj h_; subst h_; rfl)) (evp_name ok.toOk (i := 0) (j := 0) rfl rfl rfl))))) fun x64 => (evb_nx (by rfl) (Wk.s (Wk.s (Wk.s (Wk.s (Wk.s (Wk.s (Wk.s Wk.n))))))))) (evb_setXV ok (i := 5) (j := 5) rfl rfl (ex_as (f := (Sum.inr : ((Option Tx) × Unit) → ((Unit) ⊕ ((Option Tx) × Unit)))) (fun h => h) (ex_tup1 (ex_as (f := fun (_ : Unit) => (none : (Option Tx))) (fun h => h) (ex_meth0 ok.toOk (me_Loom_undo X) (by decide) (by decide +kernel) (.keep (pj := fun d_ => (d_.1, ())) rfl (wkL hX (Wk.s (Wk.s (Wk.s (Wk.s (Wk.s (Wk.s (Wk.s Wk.n)))))))) (fun _ => rfl) (fun q_ h_ => by have h_ := M.ok.inj h_; subst h_; rfl)) (evp_name ok.toOk (i := 0) (j := 0) rfl rfl rfl))))) fun x74 => (evb_nx (by rfl) (Wk.s (Wk.s (Wk.s (Wk.s (Wk.s (Wk.s (Wk.s Wk.n)))))))))))))) (fun e84 => (Wk.s (Wk.s (Wk.s (Wk.s (Wk.s (Wk.s (Wk.s Wk.n)))))))) fun s83 => (evb_ifx (wkX hX rfl) (evt_isN ok.toOk (ev_vsh ok.toOk (i := 4) (j := 4) rfl rfl rfl)) (evb_retXo (fo := fun (w_ : (O_Loom × Unit)) => [(sA (vs.headD .non) (wIns (cA p "Loom") ["threading", "ties", "pressed", "thrown", "done_deeds"] (waCons (wV (tList tInt)) (waCons (wV (tList (tList tInt))) (waCons (wL (wV tBool)) (waCons (wL (wV (tTup (aCons (tTupL tInt) (aCons tStr (aCons tStr aNil)))))) (waCons (wL (wV (tTup (aCons tStr (aCons tInt (aCons (tOpt (tTup (aCons (tTupL tInt) (aCons tStr (aCons tStr aNil))))) aNil)))))) waNil)))))) w_.1), sAny, sAny, sAny, sAny, sAny, sAny]) (mk := fun r89 => (r89, (s83.1, ()))) (w := (s83.1, ())) (.inl (wkX hX rfl)) (by intro _; rfl) (Wk.s (Wk.a (Wk.a (Wk.a (Wk.a (Wk.a (Wk.s Wk.n))))))) (evn_v (ev_inl (ev_unr (ev_vsh ok.toOk (i := 5) (j := 5) rfl rfl rfl))))) (evb_ifx (wkX hX rfl) (EvW.t (evw_and (evt_of (ev_isE (md' := .sh) ok.toOk X.kn (by decide) (j := 0) rfl X.g_isinstance (ev_vsh ok.toOk (i := 4) (j := 4) rfl rfl rfl) (ev_cls (md := .sh) ok.toOk (j := 1) rfl X.x_NoDeed.gP))) (evw_and1 (evt_not (evt_of (ev_isE (md' := .sh) ok.toOk X.kn (by decide) (j := 0) rfl X.g_isinstance (ev_vsh ok.toOk (i := 4) (j := 4) rfl rfl rfl) (ev_cls (md := .sh) ok.toOk (j := 2) rfl X.x_TooLarge.gP))))))) (evb_retXo (fo := fun (w_ : (O_Loom × Unit)) => [(sA (vs.headD .non) (wIns (cA p "Loom") ["threading", "ties", "pressed", "thrown", "done_deeds"] (waCons (wV (tList tInt)) (waCons (wV (tList (tList tInt))) (waCons (wL (wV tBool)) (waCons (wL (wV (tTup (aCons (tTupL tInt) (aCons tStr (aCons tStr aNil)))))) (waCons (wL (wV (tTup (aCons tStr (aCons tInt (aCons (tOpt (tTup (aCons (tTupL tInt) (aCons tStr (aCons tStr aNil))))) aNil)))))) waNil)))))) w_.1), sAny, sAny, sAny, sAny, sAny, sAny]) (mk := fun r104 => (r104, (s83.1, ()))) (w := (s83.1, ())) (.inl (wkX hX rfl)) (by intro _; rfl) (Wk.s (Wk.a (Wk.a (Wk.a (Wk.a (Wk.a (Wk.s Wk.n))))))) (evn_v (ev_inr (ev_tup (fun d vs R h => by rw [(lenS (lenS len0)) h]; decide) (eva_cons (ev_some nn_str (ev_str (md := .sh) (by decide +kernel))) (eva_cons (ev_str (md := .sh) (by decide +kernel)) eva_nil)))))) (evb_ifx (wkX hX rfl) (EvW.t (evw_and (evt_of (ev_isE (md' := .sh) ok.toOk X.kn (by decide) (j := 0) rfl X.g_isinstance (ev_vsh ok.toOk (i := 4) (j := 4) rfl rfl rfl) (ev_cls (md := .sh) ok.toOk (j := 2) rfl X.x_TooLarge.gP))) (evw_and1 (evt_not (evt_of (ev_isE (md' := .sh) ok.toOk X.kn (by decide) (j := 0) rfl X.g_isinstance (ev_vsh ok.toOk (i := 4) (j := 4) rfl rfl rfl) (ev_cls (md := .sh) ok.toOk (j := 1) rfl X.x_NoDeed.gP))))))) (evb_retXo (fo := fun (w_ : (O_Loom × Unit)) => [(sA (vs.headD .non) (wIns (cA p "Loom") ["threading", "ties", "pressed", "thrown", "done_deeds"] (waCons (wV (tList tInt)) (waCons (wV (tList (tList tInt))) (waCons (wL (wV tBool)) (waCons (wL (wV (tTup (aCons (tTupL tInt) (aCons tStr (aCons tStr aNil)))))) (waCons (wL (wV (tTup (aCons tStr (aCons tInt (aCons (tOpt (tTup (aCons (tTupL tInt) (aCons tStr (aCons tStr aNil))))) aNil)))))) waNil)))))) w_.1), sAny, sAny, sAny, sAny, sAny, sAny]) (mk := fun r119 => (r119, (s83.1, ()))) (w := (s83.1, ())) (.inl (wkX hX rfl)) (by intro _; rfl) (Wk.s (Wk.a (Wk.a (Wk.a (Wk.a (Wk.a (Wk.s Wk.n))))))) (evn_v (ev_inr (ev_tup (fun d vs R h => by rw [(lenS (lenS len0)) h]; decide) (eva_cons (ev_some nn_str (ev_str (md := .sh) (by decide +kernel))) (eva_cons (ev_str (md := .sh) (by decide +kernel)) eva_nil)))))) (evb_retXo (fo := fun (w_ : (O_Loom × Unit)) => [(sA (vs.headD .non) (wIns (cA p "Loom") ["threading", "ties", "pressed", "thrown", "done_deeds"] (waCons (wV (tList tInt)) (waCons (wV (tList (tList tInt))) (waCons (wL (wV tBool)) (waCons (wL (wV (tTup (aCons (tTupL tInt) (aCons tStr (aCons tStr aNil)))))) (waCons (wL (wV (tTup (aCons tStr (aCons tInt (aCons (tOpt (tTup (aCons (tTupL tInt) (aCons tStr (aCons tStr aNil))))) aNil)))))) waNil)))))) w_.1), sAny, sAny, sAny, sAny, sAny, sAny]) (mk := fun r128 => (r128, (s83.1, ()))) (w := (s83.1, ())) (.inl (wkX hX rfl)) (by intro _; rfl) (Wk.s (Wk.a (Wk.a (Wk.a (Wk.a (Wk.a (Wk.s Wk.n))))))) (evn_v (ev_inr (ev_tup (fun d vs R h => by rw [(lenS (lenS len0)) h]; decide) (eva_cons (ev_some nn_str (ev_str (md := .sh) (by decide +kernel))) (eva_cons (ev_str (md := .sh) (by decide +kernel)) eva_nil))))))))))))
theorem fn__law_try {p : Pr} (X : Facts p) : Fn p 3 "_law_try" ["made", "way", "at", "letter"] (spX p (waCons (wIns (cA p "Loom") ["threading", "ties", "pressed", "thrown", "done_deeds"] (waCons (wV (tList tInt)) (waCons (wV (tList (tList tInt))) (waCons (wL (wV tBool)) (waCons (wL (wV (tTup (aCons (tTupL tInt) (aCons tStr (aCons tStr aNil)))))) (waCons (wL (wV (tTup (aCons tStr (aCons tInt (aCons (tOpt (tTup (aCons (tTupL tInt) (aCons tStr (aCons tStr aNil))))) aNil)))))) waNil)))))) (waCons (wV tStr) (waCons (wV tInt) (waCons (wV tStr) waNil)))) (fun (d : (O_Loom × (Tx × (Int × (Tx × Unit))))) (w : (O_Loom × Unit)) => (w.1, (fun (d : (Tx × (Int × (Tx × Unit)))) (w : Unit) => (d.1, (fun (d : (Int × (Tx × Unit))) (w : Unit) => (d.1, (fun (d : (Tx × Unit)) (w : Unit) => (d.1, (fun (d : Unit) (_ : Unit) => d) d.2 w)) d.2 w)) d.2 w)) d.2 w.2)) (wV (tSum (tTup (aCons (tOpt tStr) aNil)) (tTup (aCons (tOpt tStr) (aCons tStr aNil))))) false c__law_try) := by
  obtain ⟨f, fd, hF, hm⟩ := X.d__law_try
  exact ⟨f, fd, eq__law_try ▸ fn_X (D' := fun vs (r : ((((Option Tx) × Unit) ⊕ ((Option Tx) × Tx × Unit)) × (O_Loom × Unit))) => xOut (fun (w_ : (O_Loom × Unit)) => [(sA (vs.headD .non) (wIns (cA p "Loom") ["threading", "ties", "pressed", "thrown", "done_deeds"] (waCons (wV (tList tInt)) (waCons (wV (tList (tList tInt))) (waCons (wL (wV tBool)) (waCons (wL (wV (tTup (aCons (tTupL tInt) (aCons tStr (aCons tStr aNil)))))) (waCons (wL (wV (tTup (aCons tStr (aCons tInt (aCons (tOpt (tTup (aCons (tTupL tInt) (aCons tStr (aCons tStr aNil))))) aNil)))))) waNil)))))) w_.1), sAny, sAny, sAny, sAny, sAny, sAny]) (wV (tSum (tTup (aCons (tOpt tStr) aNil)) (tTup (aCons (tOpt tStr) (aCons tStr aNil))))) r) (kx := false) (m := 3) hF sc__law_try (.ow (.sh (.sh (.sh .nil)))) rfl rfl (fun r vs fm Q h => h) (fun vs g ok d hX => bb__law_try X ok vs d.1 d.2.1 d.2.2.1 d.2.2.2.1 hX), hm, hF.kp, hF.bindsN fun _ _ _ _ _ _ us hl => match us, hl with | [_, _, _, _], _ => rfl⟩
abbrev s__law_same : Stmt := (topS 28)
abbrev N__law_same : List Str := ["told", "due"]
abbrev V__law_same : List Str := ["told", "due"]
abbrev G__law_same : List Str := ["tuple", "isinstance", "len", "str"]
theorem sc__law_same : Sc s__law_same N__law_same V__law_same ["told", "due"] G__law_same := ⟨⟨rfl, rfl, rfl, by decide +kernel, rfl, by decide +kernel, by decide +kernel⟩, by decide +kernel, by decide +kernel, by decide +kernel⟩
def q__law_same (told1 : (((Option Tx) × Unit) ⊕ ((Option Tx) × Tx × Unit))) (due2 : (((Option Tx) × Unit) ⊕ ((Option Tx) × Tx × Unit))) : M Bool := M.bind (M.ok ((!true) || (!decide (((selm (fun _ : ((Option Tx) × Unit) => (1 : Int)) (fun _ : ((Option Tx) × Tx × Unit) => (2 : Int))) told1) = ((selm (fun _ : ((Option Tx) × Unit) => (1 : Int)) (fun _ : ((Option Tx) × Tx × Unit) => (2 : Int))) due2))))) fun c10 => if c10 = true then M.ok false else M.bind (M.bind (M.bind (M.ok due2) fun y12 => M.ok ((selm (fun d : ((Option Tx) × Unit) => d.1) (fun d : ((Option Tx) × Tx × Unit) => d.1)) y12)) fun y13 => M.ok y13.isNone) fun c14 => if c14 = true then M.bind (M.bind (M.ok told1) fun y15 => M.ok ((selm (fun d : ((Option Tx) × Unit) => d.1) (fun d : ((Option Tx) × Tx × Unit) => d.1)) y15)) fun y16 => M.ok y16.isNone else M.ok ((((selm (fun d : ((Option Tx) × Unit) => d.1) (fun d : ((Option Tx) × Tx × Unit) => d.1)) told1).isSome && true) && (decide (told1 = due2)))
def f_law_same (told1 : (((Option Tx) × Unit) ⊕ ((Option Tx) × Tx × Unit))) (due2 : (((Option Tx) × Unit) ⊕ ((Option Tx) × Tx × Unit))) : M Bool := if ((!true) || (!decide (((selm (fun _ : ((Option Tx) × Unit) => (1 : Int)) (fun _ : ((Option Tx) × Tx × Unit) => (2 : Int))) told1) = ((selm (fun _ : ((Option Tx) × Unit) => (1 : Int)) (fun _ : ((Option Tx) × Tx × Unit) => (2 : Int))) due2)))) = true then M.ok false else if ((selm (fun d : ((Option Tx) × Unit) => d.1) (fun d : ((Option Tx) × Tx × Unit) => d.1)) due2).isNone = true then M.ok (((selm (fun d : ((Option Tx) × Unit) => d.1) (fun d : ((Option Tx) × Tx × Unit) => d.1)) told1).isNone) else M.ok ((((selm (fun d : ((Option Tx) × Unit) => d.1) (fun d : ((Option Tx) × Tx × Unit) => d.1)) told1).isSome && true) && (decide (told1 = due2)))
def r__law_same (d : ((((Option Tx) × Unit) ⊕ ((Option Tx) × Tx × Unit)) × (((Option Tx) × Unit) ⊕ ((Option Tx) × Tx × Unit)) × Unit)) : M Bool := q__law_same d.1 d.2.1
def c__law_same (d : ((((Option Tx) × Unit) ⊕ ((Option Tx) × Tx × Unit)) × (((Option Tx) × Unit) ⊕ ((Option Tx) × Tx × Unit)) × Unit)) : M Bool := f_law_same d.1 d.2.1
theorem eq__law_same : r__law_same = c__law_same := by funext d; first | (simp only [r__law_same, c__law_same, q__law_same, f_law_same, M.bind_assoc, M.bok]; done) | (simp only [r__law_same, c__law_same, q__law_same, f_law_same, M.bind_assoc, M.bok]; rfl)
theorem bb__law_same {p : Pr} (X : Facts p) {g : G} (ok : OkS p (defScope s__law_same) N__law_same V__law_same G__law_same 0 g) (hX : g.LX = List.replicate N__law_same.length sAny) (told1 : (((Option Tx) × Unit) ⊕ ((Option Tx) × Tx × Unit))) (due2 : (((Option Tx) × Unit) ⊕ ((Option Tx) × Tx × Unit))) : EvB g [(sV false (tSum (tTup (aCons (tOpt tStr) aNil)) (tTup (aCons (tOpt tStr) (aCons tStr aNil)))) told1), (sV false (tSum (tTup (aCons (tOpt tStr) aNil)) (tTup (aCons (tOpt tStr) (aCons tStr aNil)))) due2)] (defBody s__law_same) (fun r => .rt false tBool r) (q__law_same told1 due2) := (evb_ifx (wkX hX rfl) (EvW.t (evw_orP (pureT (m := M.bind (M.bind (M.ok told1) fun y3 => M.ok true) fun y4 => M.ok (!y4)) (evt_not (evt_of (ev_isi (md' := .sh) (r := true) ok.toOk (j := 1) rfl X.g_isinstance (i_sum i_tup i_tup) (by decide +kernel) (ev_vsh ok.toOk (i := 0) (j := 0) rfl rfl rfl) (ev_ty (n := "tuple") (md := .sh) ok.toOk (j := 0) rfl X.g_tuple (by decide +kernel))))) rfl) (pureW (m := M.bind (M.bind (M.ok told1) fun y5 => M.ok ((selm (fun _ : ((Option Tx) × Unit) => (1 : Int)) (fun _ : ((Option Tx) × Tx × Unit) => (2 : Int))) y5)) fun y7 => M.bind (M.bind (M.ok due2) fun y6 => M.ok ((selm (fun _ : ((Option Tx) × Unit) => (1 : Int)) (fun _ : ((Option Tx) × Tx × Unit) => (2 : Int))) y6)) fun y8 => M.ok (!decide (y7 = y8))) (evw_or1 (evt_c ok.toOk (c_ne s_int) (ev_lenG (md' := .sh) ok.toOk (tl_sumE (tl_tup (n := 1) (lenS len0)) (tl_tup (n := 2) (lenS (lenS len0)))) (j := 2) rfl X.g_len (ev_vsh ok.toOk (i := 0) (j := 0) rfl rfl rfl)) (ev_lenG (md' := .sh) ok.toOk (tl_sumE (tl_tup (n := 1) (lenS len0)) (tl_tup (n := 2) (lenS (lenS len0)))) (j := 2) rfl X.g_len (ev_vsh ok.toOk (i := 1) (j := 1) rfl rfl rfl)))) rfl))) (evb_ret (wkX hX rfl) .sh (by intro _; rfl) (ev_bool (md := .sh))) (evb_ifx (wkX hX rfl) (evt_isN ok.toOk (ev_ixG (n := 0) ok.toOk (ta_sumE (ta_tup (n := 0) .z) (ta_tup (n := 0) .z)) (ev_vsh ok.toOk (i := 1) (j := 1) rfl rfl rfl) (ev_int (md := .sh)))) (evb_ret (wkX hX rfl) .sh (by intro _; rfl) (ev_isN (md' := .sh) ok.toOk (ev_ixG (n := 0) ok.toOk (ta_sumE (ta_tup (n := 0) .z) (ta_tup (n := 0) .z)) (ev_vsh ok.toOk (i := 0) (j := 0) rfl rfl rfl) (ev_int (md := .sh))))) (evb_ret (wkX hX rfl) .sh (by intro _; rfl) (ev_andP (pureE (m := M.bind (M.bind (M.ok told1) fun y18 => M.ok ((selm (fun d : ((Option Tx) × Unit) => d.1) (fun d : ((Option Tx) × Tx × Unit) => d.1)) y18)) fun y19 => M.ok (y19.isSome && true)) (ev_isiO (md' := .sh) (r := true) ok.toOk (j := 1) rfl X.g_isinstance i_str (by decide +kernel) (by decide +kernel) (ev_ixG (n := 0) ok.toOk (ta_sumE (ta_tup (n := 0) .z) (ta_tup (n := 0) .z)) (ev_vsh ok.toOk (i := 0) (j := 0) rfl rfl rfl) (ev_int (md := .sh))) (ev_ty (n := "str") (md := .sh) ok.toOk (j := 3) rfl X.g_str (by decide +kernel))) rfl) (pureE (m := M.bind (M.ok told1) fun y20 => M.bind (M.ok due2) fun y21 => M.ok (decide (y20 = y21))) (ev_one (ev_c (md' := .sh) ok.toOk (c_eqD ok.toOk (dS12 (dOpt dStr (by intro d z; cases z)) (dOpt dStr (by intro d z; cases z)) dStr) (by decide)) (ev_vsh ok.toOk (i := 0) (j := 0) rfl rfl rfl) (ev_vsh ok.toOk (i := 1) (j := 1) rfl rfl rfl))) rfl)))))
theorem b__law_same {p : Pr} (X : Facts p) : Body p s__law_same N__law_same V__law_same G__law_same 0 (fun (d : ((((Option Tx) × Unit) ⊕ ((Option Tx) × Tx × Unit)) × (((Option Tx) × Unit) ⊕ ((Option Tx) × Tx × Unit)) × Unit)) => [(sV false (tSum (tTup (aCons (tOpt tStr) aNil)) (tTup (aCons (tOpt tStr) (aCons tStr aNil)))) d.1), (sV false (tSum (tTup (aCons (tOpt tStr) aNil)) (tTup (aCons (tOpt tStr) (aCons tStr aNil)))) d.2.1)]) (fun r => .rt false tBool r) r__law_same := fun g ok hX d => bb__law_same X ok hX d.1 d.2.1
theorem fn__law_same {p : Pr} (X : Facts p) : Fn p 1 "_law_same" ["told", "due"] (spM p (aCons (tSum (tTup (aCons (tOpt tStr) aNil)) (tTup (aCons (tOpt tStr) (aCons tStr aNil)))) (aCons (tSum (tTup (aCons (tOpt tStr) aNil)) (tTup (aCons (tOpt tStr) (aCons tStr aNil)))) aNil)) (fun r => .rt false tBool r) c__law_same) := by
  obtain ⟨f, fd, hF, hm⟩ := X.d__law_same
  exact ⟨f, fd, eq__law_same ▸ fn_rt (m := 0) hF sc__law_same (.cons (.cons .nil)) rfl rfl (b__law_same X), hm, hF.kp, hF.bindsN fun _ _ _ _ _ _ us hl => match us, hl with | [_, _], _ => rfl⟩
abbrev s_Loom_deeds_done : Stmt := ((clsBody (topS 15)).getD 9 (.Pass ⟨0, 0, 0, 0⟩))
abbrev N_Loom_deeds_done : List Str := ["self"]
abbrev V_Loom_deeds_done : List Str := ["self"]
abbrev G_Loom_deeds_done : List Str := ["len"]
theorem sc_Loom_deeds_done : Sc s_Loom_deeds_done N_Loom_deeds_done V_Loom_deeds_done ["self"] G_Loom_deeds_done := ⟨⟨rfl, rfl, rfl, by decide +kernel, rfl, by decide +kernel, by decide +kernel⟩, by decide +kernel, by decide +kernel, by decide +kernel⟩
def q_Loom_deeds_done (self1 : O_Loom) : M Int := M.bind (M.bind (M.ok self1) fun y2 => M.ok y2.2.2.2.2.1) fun y3 => M.ok (y3.length : Int)
def f_Loom_deeds_done (self1 : O_Loom) : M Int := M.ok (self1.2.2.2.2.1.length : Int)
def r_Loom_deeds_done (d : (O_Loom × Unit)) : M Int := q_Loom_deeds_done d.1
def c_Loom_deeds_done (d : (O_Loom × Unit)) : M Int := f_Loom_deeds_done d.1
theorem eq_Loom_deeds_done : r_Loom_deeds_done = c_Loom_deeds_done := by funext d; first | (simp only [r_Loom_deeds_done, c_Loom_deeds_done, q_Loom_deeds_done, f_Loom_deeds_done, M.bind_assoc, M.bok]; done) | (simp only [r_Loom_deeds_done, c_Loom_deeds_done, q_Loom_deeds_done, f_Loom_deeds_done, M.bind_assoc, M.bok]; rfl)
theorem bb_Loom_deeds_done {p : Pr} (X : Facts p) {g : G} (ok : OkS p (defScope s_Loom_deeds_done) N_Loom_deeds_done V_Loom_deeds_done G_Loom_deeds_done 0 g) (hX : g.LX = List.replicate N_Loom_deeds_done.length sAny) (self1 : O_Loom) : EvB g [(sV false (tIns (cA p "Loom") (fl_Loom p)) self1)] (defBody s_Loom_deeds_done) (fun r => .rt false tInt r) (q_Loom_deeds_done self1) := (evb_ret (wkX hX rfl) .sh (by intro _; rfl) (ev_lenQ (md' := .sh) ok.toOk sq_l (j := 0) rfl X.g_len (ev_fld (T := (tList (tTup (aCons tStr (aCons tInt (aCons (tOpt (tTup (aCons (tTupL tInt) (aCons tStr (aCons tStr aNil))))) aNil)))))) (pr := fun (d : O_Loom) => d.2.2.2.2.1) ok.toOk X.a_Loom X.n_Loom_done_deeds (fun d => (.there (n := "threading") rfl (by decide +kernel) (.there (n := "ties") rfl (by decide +kernel) (.there (n := "pressed") rfl (by decide +kernel) (.there (n := "thrown") rfl (by decide +kernel) .here))))) (ev_vsh ok.toOk (i := 0) (j := 0) rfl rfl rfl))))
theorem b_Loom_deeds_done {p : Pr} (X : Facts p) : Body p s_Loom_deeds_done N_Loom_deeds_done V_Loom_deeds_done G_Loom_deeds_done 0 (fun (d : (O_Loom × Unit)) => [(sV false (tIns (cA p "Loom") (fl_Loom p)) d.1)]) (fun r => .rt false tInt r) r_Loom_deeds_done := fun g ok hX d => bb_Loom_deeds_done X ok hX d.1
theorem me_Loom_deeds_done {p : Pr} (X : Facts p) : MeF p 1 "Loom" "deeds_done" [] (spM p (aCons (tIns (cA p "Loom") (fl_Loom p)) aNil) (fun r => .rt false tInt r) c_Loom_deeds_done) := by
  obtain ⟨f, fd, hF, hc, hm⟩ := X.m_Loom_deeds_done
  exact ⟨f, fd, eq_Loom_deeds_done ▸ fn_rt (m := 0) hF sc_Loom_deeds_done (.cons .nil) rfl rfl (b_Loom_deeds_done X), hc, hm, hF.bindsN fun _ _ _ _ _ _ us hl => match us, hl with | [_], _ => rfl⟩
abbrev s_Loom_treadles_down : Stmt := ((clsBody (topS 15)).getD 10 (.Pass ⟨0, 0, 0, 0⟩))
abbrev N_Loom_treadles_down : List Str := ["self", "treadle"]
abbrev V_Loom_treadles_down : List Str := ["self"]
abbrev G_Loom_treadles_down : List Str := ["len", "range"]
theorem sc_Loom_treadles_down : Sc s_Loom_treadles_down N_Loom_treadles_down V_Loom_treadles_down ["self"] G_Loom_treadles_down := ⟨⟨rfl, rfl, rfl, by decide +kernel, rfl, by decide +kernel, by decide +kernel⟩, by decide +kernel, by decide +kernel, by decide +kernel⟩
def q_Loom_treadles_down (self1 : O_Loom) : M (List Int) := M.bind (M.bind (M.bind (M.bind (M.ok self1) fun y2 => M.ok y2.2.1) fun y3 => M.ok (y3.length : Int)) fun y4 => rangeM 0 y4) fun xs11 => compM (fun treadle5 => M.bind (M.bind (M.bind (M.ok self1) fun y6 => M.ok y6.2.2.1) fun y7 => M.bind (M.ok treadle5) fun y8 => getM y7 y8) fun c9 => if c9 = true then M.bind (M.ok treadle5) fun y10 => M.ok (some y10) else M.ok none) xs11
def f_Loom_treadles_down (self1 : O_Loom) : M (List Int) := M.bind (rangeM 0 (self1.2.1.length : Int)) fun xs11 => compM (fun treadle5 => M.bind (getM self1.2.2.1 treadle5) fun c9 => if c9 = true then M.ok (some treadle5) else M.ok none) xs11
def r_Loom_treadles_down (d : (O_Loom × Unit)) : M (List Int) := q_Loom_treadles_down d.1
def c_Loom_treadles_down (d : (O_Loom × Unit)) : M (List Int) := f_Loom_treadles_down d.1
theorem eq_Loom_treadles_down : r_Loom_treadles_down = c_Loom_treadles_down := by funext d; first | (simp only [r_Loom_treadles_down, c_Loom_treadles_down, q_Loom_treadles_down, f_Loom_treadles_down, M.bind_assoc, M.bok]; done) | (simp only [r_Loom_treadles_down, c_Loom_treadles_down, q_Loom_treadles_down, f_Loom_treadles_down, M.bind_assoc, M.bok]; rfl)
theorem bb_Loom_treadles_down {p : Pr} (X : Facts p) {g : G} (ok : OkS p (defScope s_Loom_treadles_down) N_Loom_treadles_down V_Loom_treadles_down G_Loom_treadles_down 0 g) (hX : g.LX = List.replicate N_Loom_treadles_down.length sAny) (self1 : O_Loom) : EvB g [(sV false (tIns (cA p "Loom") (fl_Loom p)) self1), sAny] (defBody s_Loom_treadles_down) (fun r => .rtL false tInt r) (q_Loom_treadles_down self1) := (evb_retL (wkX hX rfl) .sh (by intro _; rfl) (evl_lc (md := .sh) (VV' := ["self", "treadle"]) (GG' := []) (i := 1) ok.toOk (evi_range1 ok.toOk (j := 1) rfl X.g_range (ev_lenQ (md' := .sh) ok.toOk sq_l (j := 0) rfl X.g_len (ev_fld (T := (tList (tList tInt))) (pr := fun (d : O_Loom) => d.2.1) ok.toOk X.a_Loom X.n_Loom_ties (fun d => (.there (n := "threading") rfl (by decide +kernel) .here)) (ev_vsh ok.toOk (i := 0) (j := 0) rfl rfl rfl)))) rfl rfl no_any (by decide +kernel) (by decide +kernel) (by decide +kernel) (by decide +kernel) (fun g' okc treadle5 => (evpts_one (evt_of (ev_ixQ okc sq_l (ev_fld (T := (tList tBool)) (pr := fun (d : O_Loom) => d.2.2.1) okc X.a_Loom X.n_Loom_pressed (fun d => (.there (n := "threading") rfl (by decide +kernel) (.there (n := "ties") rfl (by decide +kernel) .here))) (ev_vsh okc (i := 0) (j := 0) rfl rfl rfl)) (ev_vsh okc (i := 1) (j := 1) rfl rfl rfl))))) (fun g' okc treadle5 => (ev_vsh okc (i := 1) (j := 1) rfl rfl rfl))))
theorem b_Loom_treadles_down {p : Pr} (X : Facts p) : Body p s_Loom_treadles_down N_Loom_treadles_down V_Loom_treadles_down G_Loom_treadles_down 0 (fun (d : (O_Loom × Unit)) => [(sV false (tIns (cA p "Loom") (fl_Loom p)) d.1), sAny]) (fun r => .rtL false tInt r) r_Loom_treadles_down := fun g ok hX d => bb_Loom_treadles_down X ok hX d.1
theorem me_Loom_treadles_down {p : Pr} (X : Facts p) : MeF p 1 "Loom" "treadles_down" [] (spM p (aCons (tIns (cA p "Loom") (fl_Loom p)) aNil) (fun r => .rtL false tInt r) c_Loom_treadles_down) := by
  obtain ⟨f, fd, hF, hc, hm⟩ := X.m_Loom_treadles_down
  exact ⟨f, fd, eq_Loom_treadles_down ▸ fn_rtL (m := 1) hF sc_Loom_treadles_down (.cons .nil) rfl rfl (b_Loom_treadles_down X), hc, hm, hF.bindsN fun _ _ _ _ _ _ us hl => match us, hl with | [_], _ => rfl⟩
abbrev s__law_list : Stmt := (topS 29)
abbrev N__law_list : List Str := ["told", "due", "held", "one"]
abbrev V__law_list : List Str := ["told", "due", "held", "one"]
abbrev G__law_list : List Str := ["list", "isinstance", "bool"]
theorem sc__law_list : Sc s__law_list N__law_list V__law_list ["told", "due", "held"] G__law_list := ⟨⟨rfl, rfl, rfl, by decide +kernel, rfl, by decide +kernel, by decide +kernel⟩, by decide +kernel, by decide +kernel, by decide +kernel⟩
def r_f_law_list_l1  : Unit → Int → M Unit := fun s11 one12 => M.bind (M.bind (M.ok one12) fun y13 => M.ok false) fun c14 => if c14 = true then M.no else M.ok ()
def f_law_list_l1  : Unit → Int → M Unit := fun s11 one12 => if false = true then M.no else M.ok ()
theorem eq_f_law_list_l1  : r_f_law_list_l1  = f_law_list_l1  := by funext s11 one12; first | (simp only [r_f_law_list_l1, f_law_list_l1, M.bind_assoc, M.bok]; done) | (simp only [r_f_law_list_l1, f_law_list_l1, M.bind_assoc, M.bok]; rfl)
def q__law_list (told1 : (List Int)) (due2 : (List Int)) (held3 : (List (((List Int) × (List Int) × Unit) ⊕ ((List Tx) × (List Tx) × Unit)))) : M (Bool × ((List (((List Int) × (List Int) × Unit) ⊕ ((List Tx) × (List Tx) × Unit))) × Unit)) := M.bind (M.ok ((!true) || (!decide (told1 = due2)))) fun c9 => if c9 = true then M.bind (M.ok false) fun r10 => M.ok (r10, (held3, ())) else M.bind (M.ok told1) fun xs16 => M.bind (forM r_f_law_list_l1 () xs16) fun (s17 : Unit) => M.bind (M.bind (M.bind (M.ok told1) fun y21 => M.bind (M.bind (M.ok due2) fun y19 => M.bind (M.ok ()) fun y20 => M.ok (y19, y20)) fun y22 => M.ok (y21, y22)) fun y25 => M.ok (Sum.inl y25)) fun y26 => M.bind (pushM held3 y26) fun held18 => M.bind (M.ok true) fun r27 => M.ok (r27, (held18, ()))
def f_law_list (told1 : (List Int)) (due2 : (List Int)) (held3 : (List (((List Int) × (List Int) × Unit) ⊕ ((List Tx) × (List Tx) × Unit)))) : M (Bool × ((List (((List Int) × (List Int) × Unit) ⊕ ((List Tx) × (List Tx) × Unit))) × Unit)) := if ((!true) || (!decide (told1 = due2))) = true then M.ok (false, (held3, ())) else M.bind (forM f_law_list_l1 () told1) fun (s17 : Unit) => M.bind (pushM held3 (Sum.inl (told1, due2, ()))) fun held18 => M.ok (true, (held18, ()))
def r__law_list (d : ((List Int) × (List Int) × (List (((List Int) × (List Int) × Unit) ⊕ ((List Tx) × (List Tx) × Unit))) × Unit)) : M (Bool × ((List (((List Int) × (List Int) × Unit) ⊕ ((List Tx) × (List Tx) × Unit))) × Unit)) := q__law_list d.1 d.2.1 d.2.2.1
def c__law_list (d : ((List Int) × (List Int) × (List (((List Int) × (List Int) × Unit) ⊕ ((List Tx) × (List Tx) × Unit))) × Unit)) : M (Bool × ((List (((List Int) × (List Int) × Unit) ⊕ ((List Tx) × (List Tx) × Unit))) × Unit)) := f_law_list d.1 d.2.1 d.2.2.1
theorem eq__law_list : r__law_list = c__law_list := by funext d; first | (simp only [r__law_list, c__law_list, q__law_list, f_law_list, M.bind_assoc, M.bok, eq_f_law_list_l1]; done) | (simp only [r__law_list, c__law_list, q__law_list, f_law_list, M.bind_assoc, M.bok, eq_f_law_list_l1]; rfl)
theorem bb__law_list {p : Pr} (X : Facts p) {g : G} (ok : OkS p (defScope s__law_list) N__law_list V__law_list G__law_list 0 g) (vs : List V) (told1 : (List Int)) (due2 : (List Int)) (held3 : (List (((List Int) × (List Int) × Unit) ⊕ ((List Tx) × (List Tx) × Unit)))) (hX : g.LX = List.replicate N__law_list.length sAny) : EvB g [(sV false (tList tInt) told1), (sV false (tList tInt) due2), (sA (vs.tail.tail.headD .non) (wL (wV (tSum (tTup (aCons (tList tInt) (aCons (tList tInt) aNil))) (tTup (aCons (tList tStr) (aCons (tList tStr) aNil)))))) held3), sAny] (defBody s__law_list) (fun (r : (Bool × ((List (((List Int) × (List Int) × Unit) ⊕ ((List Tx) × (List Tx) × Unit))) × Unit))) => xOut (fun (w_ : ((List (((List Int) × (List Int) × Unit) ⊕ ((List Tx) × (List Tx) × Unit))) × Unit)) => [sAny, sAny, (sA (vs.tail.tail.headD .non) (wL (wV (tSum (tTup (aCons (tList tInt) (aCons (tList tInt) aNil))) (tTup (aCons (tList tStr) (aCons (tList tStr) aNil)))))) w_.1), sAny]) (wV tBool) r) (q__law_list told1 due2 held3) := (evb_ifx (wkX hX rfl) (EvW.t (evw_orP (pureT (m := M.bind (M.bind (M.ok told1) fun y4 => M.ok true) fun y5 => M.ok (!y5)) (evt_not (evt_of (ev_isi (md' := .sh) (r := true) ok.toOk (j := 1) rfl X.g_isinstance i_list (by decide +kernel) (ev_vsh ok.toOk (i := 0) (j := 0) rfl rfl rfl) (ev_ty (n := "list") (md := .sh) ok.toOk (j := 0) rfl X.g_list (by decide +kernel))))) rfl) (pureW (m := M.bind (M.ok told1) fun y6 => M.bind (M.ok due2) fun y7 => M.ok (!decide (y6 = y7))) (evw_or1 (evt_c ok.toOk (c_neD ok.toOk (dList dInt) (by decide)) (ev_vsh ok.toOk (i := 0) (j := 0) rfl rfl rfl) (ev_vsh ok.toOk (i := 1) (j := 1) rfl rfl rfl))) rfl))) (evb_retXo (fo := fun (w_ : ((List (((List Int) × (List Int) × Unit) ⊕ ((List Tx) × (List Tx) × Unit))) × Unit)) => [sAny, sAny, (sA (vs.tail.tail.headD .non) (wL (wV (tSum (tTup (aCons (tList tInt) (aCons (tList tInt) aNil))) (tTup (aCons (tList tStr) (aCons (tList tStr) aNil)))))) w_.1), sAny]) (mk := fun r10 => (r10, (held3, ()))) (w := (held3, ())) (.inl (wkX hX rfl)) (by intro _; rfl) (Wk.a (Wk.a (Wk.s (Wk.s Wk.n)))) (evn_v (ev_bool (md := .sh)))) (evb_for (LF := (fun (s11 : Unit) => [(sV false (tList tInt) told1), (sV false (tList tInt) due2), (sA (vs.tail.tail.headD .non) (wL (wV (tSum (tTup (aCons (tList tInt) (aCons (tList tInt) aNil))) (tTup (aCons (tList tStr) (aCons (tList tStr) aNil)))))) held3), sAny])) (s0 := ()) ok (wkX hX rfl) (evi_seq ok.toOk sq_l (ev_vsh ok.toOk (i := 0) (j := 0) rfl rfl rfl)) (Wk.s (Wk.s (Wk.s (Wk.s Wk.n)))) (fun _ => evg_name ok (i := 3) (j := 3) rfl rfl) (fun s11 one12 => (evb_ifl (wkX hX rfl) (evt_of (ev_isi (md' := .sh) (r := false) ok.toOk (j := 1) rfl X.g_isinstance i_int (by decide +kernel) (ev_vsh ok.toOk (i := 3) (j := 3) rfl rfl rfl) (ev_ty (n := "bool") (md := .sh) ok.toOk (j := 2) rfl X.g_bool (by decide +kernel)))) evb_no (evb_go (by rfl) (Wk.s (Wk.s (Wk.s (Wk.a Wk.n))))))) fun s17 => (evb_nAppend ok (i := 2) (j := 2) rfl rfl rfl (wkX hX rfl) (evn_v (ev_inl (ev_tup (fun d vs R h => by rw [(lenS (lenS len0)) h]; decide) (eva_cons (ev_vsh ok.toOk (i := 0) (j := 0) rfl rfl rfl) (eva_cons (ev_vsh ok.toOk (i := 1) (j := 1) rfl rfl rfl) eva_nil))))) fun held18 => (evb_retXo (fo := fun (w_ : ((List (((List Int) × (List Int) × Unit) ⊕ ((List Tx) × (List Tx) × Unit))) × Unit)) => [sAny, sAny, (sA (vs.tail.tail.headD .non) (wL (wV (tSum (tTup (aCons (tList tInt) (aCons (tList tInt) aNil))) (tTup (aCons (tList tStr) (aCons (tList tStr) aNil)))))) w_.1), sAny]) (mk := fun r27 => (r27, (held18, ()))) (w := (held18, ())) (.inl (wkX hX rfl)) (by intro _; rfl) (Wk.a (Wk.a (Wk.s (Wk.s Wk.n)))) (evn_v (ev_bool (md := .sh)))))))
theorem fn__law_list {p : Pr} (X : Facts p) : Fn p 1 "_law_list" ["told", "due", "held"] (spX p (waCons (wV (tList tInt)) (waCons (wV (tList tInt)) (waCons (wL (wV (tSum (tTup (aCons (tList tInt) (aCons (tList tInt) aNil))) (tTup (aCons (tList tStr) (aCons (tList tStr) aNil)))))) waNil))) (fun (d : ((List Int) × ((List Int) × ((List (((List Int) × (List Int) × Unit) ⊕ ((List Tx) × (List Tx) × Unit))) × Unit)))) (w : ((List (((List Int) × (List Int) × Unit) ⊕ ((List Tx) × (List Tx) × Unit))) × Unit)) => (d.1, (fun (d : ((List Int) × ((List (((List Int) × (List Int) × Unit) ⊕ ((List Tx) × (List Tx) × Unit))) × Unit))) (w : ((List (((List Int) × (List Int) × Unit) ⊕ ((List Tx) × (List Tx) × Unit))) × Unit)) => (d.1, (fun (d : ((List (((List Int) × (List Int) × Unit) ⊕ ((List Tx) × (List Tx) × Unit))) × Unit)) (w : ((List (((List Int) × (List Int) × Unit) ⊕ ((List Tx) × (List Tx) × Unit))) × Unit)) => (w.1, (fun (d : Unit) (_ : Unit) => d) d.2 w.2)) d.2 w)) d.2 w)) (wV tBool) false c__law_list) := by
  obtain ⟨f, fd, hF, hm⟩ := X.d__law_list
  exact ⟨f, fd, eq__law_list ▸ fn_X (D' := fun vs (r : (Bool × ((List (((List Int) × (List Int) × Unit) ⊕ ((List Tx) × (List Tx) × Unit))) × Unit))) => xOut (fun (w_ : ((List (((List Int) × (List Int) × Unit) ⊕ ((List Tx) × (List Tx) × Unit))) × Unit)) => [sAny, sAny, (sA (vs.tail.tail.headD .non) (wL (wV (tSum (tTup (aCons (tList tInt) (aCons (tList tInt) aNil))) (tTup (aCons (tList tStr) (aCons (tList tStr) aNil)))))) w_.1), sAny]) (wV tBool) r) (kx := false) (m := 1) hF sc__law_list (.sh (.sh (.ow .nil))) rfl rfl (fun r vs fm Q h => h) (fun vs g ok d hX => bb__law_list X ok vs d.1 d.2.1 d.2.2.1 hX), hm, hF.kp, hF.bindsN fun _ _ _ _ _ _ us hl => match us, hl with | [_, _, _], _ => rfl⟩
abbrev s_Loom_shed : Stmt := ((clsBody (topS 15)).getD 5 (.Pass ⟨0, 0, 0, 0⟩))
abbrev N_Loom_shed : List Str := ["self"]
abbrev V_Loom_shed : List Str := ["self"]
abbrev G_Loom_shed : List Str := ["shed_over"]
theorem sc_Loom_shed : Sc s_Loom_shed N_Loom_shed V_Loom_shed ["self"] G_Loom_shed := ⟨⟨rfl, rfl, rfl, by decide +kernel, rfl, by decide +kernel, by decide +kernel⟩, by decide +kernel, by decide +kernel, by decide +kernel⟩
def q_Loom_shed (self1 : O_Loom) : M Tx := M.bind (M.bind (M.bind (M.ok self1) fun y2 => M.ok y2.1) fun y7 => M.bind (M.bind (M.bind (M.ok self1) fun y3 => c_Loom_lifted_shafts (y3, ())) fun y5 => M.bind (M.ok ()) fun y6 => M.ok (y5, y6)) fun y8 => M.ok (y7, y8)) c_shed_over
def f_Loom_shed (self1 : O_Loom) : M Tx := M.bind (f_Loom_lifted_shafts self1) fun y10 => f_shed_over self1.1 y10
def r_Loom_shed (d : (O_Loom × Unit)) : M Tx := q_Loom_shed d.1
def c_Loom_shed (d : (O_Loom × Unit)) : M Tx := f_Loom_shed d.1
theorem eq_Loom_shed : r_Loom_shed = c_Loom_shed := by funext d; first | (simp only [r_Loom_shed, c_Loom_shed, q_Loom_shed, f_Loom_shed, M.bind_assoc, M.bok, c_Loom_lifted_shafts, c_shed_over]; done) | (simp only [r_Loom_shed, c_Loom_shed, q_Loom_shed, f_Loom_shed, M.bind_assoc, M.bok, c_Loom_lifted_shafts, c_shed_over]; rfl)
theorem bb_Loom_shed {p : Pr} (X : Facts p) {g : G} (ok : OkS p (defScope s_Loom_shed) N_Loom_shed V_Loom_shed G_Loom_shed 1 g) (hX : g.LX = List.replicate N_Loom_shed.length sAny) (self1 : O_Loom) : EvB g [(sV false (tIns (cA p "Loom") (fl_Loom p)) self1)] (defBody s_Loom_shed) (fun r => .rt false tStr r) (q_Loom_shed self1) := (evb_ret (wkX hX rfl) .sh (by intro _; rfl) (ev_call (md' := .sh) ok.toOk (fn_shed_over X) (by decide) (j := 0) rfl .sh (eva_cons (md := .sh) (ev_fld (T := (tList tInt)) (pr := fun (d : O_Loom) => d.1) ok.toOk X.a_Loom X.n_Loom_threading (fun d => .here) (ev_vsh ok.toOk (i := 0) (j := 0) rfl rfl rfl)) (eva_cons (md := .sh) (ev_ofL (evl_meth0 ok.toOk (me_Loom_lifted_shafts X) (by decide) (nm := ["threading", "ties", "pressed", "thrown", "done_deeds"]) (fun _ => rfl) (by decide +kernel) (ev_vsh ok.toOk (i := 0) (j := 0) rfl rfl rfl))) eva_nil))))
theorem b_Loom_shed {p : Pr} (X : Facts p) : Body p s_Loom_shed N_Loom_shed V_Loom_shed G_Loom_shed 1 (fun (d : (O_Loom × Unit)) => [(sV false (tIns (cA p "Loom") (fl_Loom p)) d.1)]) (fun r => .rt false tStr r) r_Loom_shed := fun g ok hX d => bb_Loom_shed X ok hX d.1
theorem me_Loom_shed {p : Pr} (X : Facts p) : MeF p 2 "Loom" "shed" [] (spM p (aCons (tIns (cA p "Loom") (fl_Loom p)) aNil) (fun r => .rt false tStr r) c_Loom_shed) := by
  obtain ⟨f, fd, hF, hc, hm⟩ := X.m_Loom_shed
  exact ⟨f, fd, eq_Loom_shed ▸ fn_rt (m := 0) hF sc_Loom_shed (.cons .nil) rfl rfl (b_Loom_shed X), hc, hm, hF.bindsN fun _ _ _ _ _ _ us hl => match us, hl with | [_], _ => rfl⟩
abbrev s_Loom_cloth : Stmt := ((clsBody (topS 15)).getD 11 (.Pass ⟨0, 0, 0, 0⟩))
abbrev N_Loom_cloth : List Str := ["self", "pick"]
abbrev V_Loom_cloth : List Str := ["self"]
abbrev G_Loom_cloth : List Str := []
theorem sc_Loom_cloth : Sc s_Loom_cloth N_Loom_cloth V_Loom_cloth ["self"] G_Loom_cloth := ⟨⟨rfl, rfl, rfl, by decide +kernel, rfl, by decide +kernel, by decide +kernel⟩, by decide +kernel, by decide +kernel, by decide +kernel⟩
def q_Loom_cloth (self1 : O_Loom) : M (List Tx) := M.bind (M.bind (M.ok self1) fun y2 => M.ok y2.2.2.2.1) fun xs7 => compM (fun pick3 => M.bind (M.ok true) fun c5 => if c5 = true then M.bind (M.bind (M.ok pick3) fun y4 => M.ok y4.2.1) fun y6 => M.ok (some y6) else M.ok none) xs7
def f_Loom_cloth (self1 : O_Loom) : M (List Tx) := compM (fun pick3 => M.ok (some pick3.2.1)) self1.2.2.2.1
def r_Loom_cloth (d : (O_Loom × Unit)) : M (List Tx) := q_Loom_cloth d.1
def c_Loom_cloth (d : (O_Loom × Unit)) : M (List Tx) := f_Loom_cloth d.1
theorem eq_Loom_cloth : r_Loom_cloth = c_Loom_cloth := by funext d; first | (simp only [r_Loom_cloth, c_Loom_cloth, q_Loom_cloth, f_Loom_cloth, M.bind_assoc, M.bok]; done) | (simp only [r_Loom_cloth, c_Loom_cloth, q_Loom_cloth, f_Loom_cloth, M.bind_assoc, M.bok]; rfl)
theorem bb_Loom_cloth {p : Pr} (X : Facts p) {g : G} (ok : OkS p (defScope s_Loom_cloth) N_Loom_cloth V_Loom_cloth G_Loom_cloth 0 g) (hX : g.LX = List.replicate N_Loom_cloth.length sAny) (self1 : O_Loom) : EvB g [(sV false (tIns (cA p "Loom") (fl_Loom p)) self1), sAny] (defBody s_Loom_cloth) (fun r => .rtL false tStr r) (q_Loom_cloth self1) := (evb_retL (wkX hX rfl) .sh (by intro _; rfl) (evl_lc (md := .sh) (VV' := ["pick"]) (GG' := []) (i := 1) ok.toOk (evi_seq ok.toOk sq_l (ev_fld (T := (tList (tTup (aCons (tTupL tInt) (aCons tStr (aCons tStr aNil)))))) (pr := fun (d : O_Loom) => d.2.2.2.1) ok.toOk X.a_Loom X.n_Loom_thrown (fun d => (.there (n := "threading") rfl (by decide +kernel) (.there (n := "ties") rfl (by decide +kernel) (.there (n := "pressed") rfl (by decide +kernel) .here)))) (ev_vsh ok.toOk (i := 0) (j := 0) rfl rfl rfl))) rfl rfl no_any (by decide +kernel) (by decide +kernel) (by decide +kernel) (by decide +kernel) (fun g' okc pick3 => evpts_nil) (fun g' okc pick3 => (ev_ixA (n := 1) okc (.s .z) (ev_vsh okc (i := 1) (j := 0) rfl rfl rfl) (ev_int (md := .sh))))))
theorem b_Loom_cloth {p : Pr} (X : Facts p) : Body p s_Loom_cloth N_Loom_cloth V_Loom_cloth G_Loom_cloth 0 (fun (d : (O_Loom × Unit)) => [(sV false (tIns (cA p "Loom") (fl_Loom p)) d.1), sAny]) (fun r => .rtL false tStr r) r_Loom_cloth := fun g ok hX d => bb_Loom_cloth X ok hX d.1
theorem me_Loom_cloth {p : Pr} (X : Facts p) : MeF p 1 "Loom" "cloth" [] (spM p (aCons (tIns (cA p "Loom") (fl_Loom p)) aNil) (fun r => .rtL false tStr r) c_Loom_cloth) := by
  obtain ⟨f, fd, hF, hc, hm⟩ := X.m_Loom_cloth
  exact ⟨f, fd, eq_Loom_cloth ▸ fn_rtL (m := 1) hF sc_Loom_cloth (.cons .nil) rfl rfl (b_Loom_cloth X), hc, hm, hF.bindsN fun _ _ _ _ _ _ us hl => match us, hl with | [_], _ => rfl⟩
abbrev s__law_list__k2 : Stmt := (topS 29)
abbrev N__law_list__k2 : List Str := ["told", "due", "held", "one"]
abbrev V__law_list__k2 : List Str := ["told", "due", "held", "one"]
abbrev G__law_list__k2 : List Str := ["list", "isinstance", "bool"]
theorem sc__law_list__k2 : Sc s__law_list__k2 N__law_list__k2 V__law_list__k2 ["told", "due", "held"] G__law_list__k2 := ⟨⟨rfl, rfl, rfl, by decide +kernel, rfl, by decide +kernel, by decide +kernel⟩, by decide +kernel, by decide +kernel, by decide +kernel⟩
def r_f_law_list__k2_l1  : Unit → Tx → M Unit := fun s11 one12 => M.bind (M.bind (M.ok one12) fun y13 => M.ok false) fun c14 => if c14 = true then M.no else M.ok ()
def f_law_list__k2_l1  : Unit → Tx → M Unit := fun s11 one12 => if false = true then M.no else M.ok ()
theorem eq_f_law_list__k2_l1  : r_f_law_list__k2_l1  = f_law_list__k2_l1  := by funext s11 one12; first | (simp only [r_f_law_list__k2_l1, f_law_list__k2_l1, M.bind_assoc, M.bok]; done) | (simp only [r_f_law_list__k2_l1, f_law_list__k2_l1, M.bind_assoc, M.bok]; rfl)
def q__law_list__k2 (told1 : (List Tx)) (due2 : (List Tx)) (held3 : (List (((List Int) × (List Int) × Unit) ⊕ ((List Tx) × (List Tx) × Unit)))) : M (Bool × ((List (((List Int) × (List Int) × Unit) ⊕ ((List Tx) × (List Tx) × Unit))) × Unit)) := M.bind (M.ok ((!true) || (!decide (told1 = due2)))) fun c9 => if c9 = true then M.bind (M.ok false) fun r10 => M.ok (r10, (held3, ())) else M.bind (M.ok told1) fun xs16 => M.bind (forM r_f_law_list__k2_l1 () xs16) fun (s17 : Unit) => M.bind (M.bind (M.bind (M.ok told1) fun y21 => M.bind (M.bind (M.ok due2) fun y19 => M.bind (M.ok ()) fun y20 => M.ok (y19, y20)) fun y22 => M.ok (y21, y22)) fun y25 => M.ok (Sum.inr y25)) fun y26 => M.bind (pushM held3 y26) fun held18 => M.bind (M.ok true) fun r27 => M.ok (r27, (held18, ()))
def f_law_list__k2 (told1 : (List Tx)) (due2 : (List Tx)) (held3 : (List (((List Int) × (List Int) × Unit) ⊕ ((List Tx) × (List Tx) × Unit)))) : M (Bool × ((List (((List Int) × (List Int) × Unit) ⊕ ((List Tx) × (List Tx) × Unit))) × Unit)) := if ((!true) || (!decide (told1 = due2))) = true then M.ok (false, (held3, ())) else M.bind (forM f_law_list__k2_l1 () told1) fun (s17 : Unit) => M.bind (pushM held3 (Sum.inr (told1, due2, ()))) fun held18 => M.ok (true, (held18, ()))
def r__law_list__k2 (d : ((List Tx) × (List Tx) × (List (((List Int) × (List Int) × Unit) ⊕ ((List Tx) × (List Tx) × Unit))) × Unit)) : M (Bool × ((List (((List Int) × (List Int) × Unit) ⊕ ((List Tx) × (List Tx) × Unit))) × Unit)) := q__law_list__k2 d.1 d.2.1 d.2.2.1
def c__law_list__k2 (d : ((List Tx) × (List Tx) × (List (((List Int) × (List Int) × Unit) ⊕ ((List Tx) × (List Tx) × Unit))) × Unit)) : M (Bool × ((List (((List Int) × (List Int) × Unit) ⊕ ((List Tx) × (List Tx) × Unit))) × Unit)) := f_law_list__k2 d.1 d.2.1 d.2.2.1
theorem eq__law_list__k2 : r__law_list__k2 = c__law_list__k2 := by funext d; first | (simp only [r__law_list__k2, c__law_list__k2, q__law_list__k2, f_law_list__k2, M.bind_assoc, M.bok, eq_f_law_list__k2_l1]; done) | (simp only [r__law_list__k2, c__law_list__k2, q__law_list__k2, f_law_list__k2, M.bind_assoc, M.bok, eq_f_law_list__k2_l1]; rfl)
theorem bb__law_list__k2 {p : Pr} (X : Facts p) {g : G} (ok : OkS p (defScope s__law_list__k2) N__law_list__k2 V__law_list__k2 G__law_list__k2 0 g) (vs : List V) (told1 : (List Tx)) (due2 : (List Tx)) (held3 : (List (((List Int) × (List Int) × Unit) ⊕ ((List Tx) × (List Tx) × Unit)))) (hX : g.LX = List.replicate N__law_list__k2.length sAny) : EvB g [(sV false (tList tStr) told1), (sV false (tList tStr) due2), (sA (vs.tail.tail.headD .non) (wL (wV (tSum (tTup (aCons (tList tInt) (aCons (tList tInt) aNil))) (tTup (aCons (tList tStr) (aCons (tList tStr) aNil)))))) held3), sAny] (defBody s__law_list__k2) (fun (r : (Bool × ((List (((List Int) × (List Int) × Unit) ⊕ ((List Tx) × (List Tx) × Unit))) × Unit))) => xOut (fun (w_ : ((List (((List Int) × (List Int) × Unit) ⊕ ((List Tx) × (List Tx) × Unit))) × Unit)) => [sAny, sAny, (sA (vs.tail.tail.headD .non) (wL (wV (tSum (tTup (aCons (tList tInt) (aCons (tList tInt) aNil))) (tTup (aCons (tList tStr) (aCons (tList tStr) aNil)))))) w_.1), sAny]) (wV tBool) r) (q__law_list__k2 told1 due2 held3) := (evb_ifx (wkX hX rfl) (EvW.t (evw_orP (pureT (m := M.bind (M.bind (M.ok told1) fun y4 => M.ok true) fun y5 => M.ok (!y5)) (evt_not (evt_of (ev_isi (md' := .sh) (r := true) ok.toOk (j := 1) rfl X.g_isinstance i_list (by decide +kernel) (ev_vsh ok.toOk (i := 0) (j := 0) rfl rfl rfl) (ev_ty (n := "list") (md := .sh) ok.toOk (j := 0) rfl X.g_list (by decide +kernel))))) rfl) (pureW (m := M.bind (M.ok told1) fun y6 => M.bind (M.ok due2) fun y7 => M.ok (!decide (y6 = y7))) (evw_or1 (evt_c ok.toOk (c_neD ok.toOk (dList dStr) (by decide)) (ev_vsh ok.toOk (i := 0) (j := 0) rfl rfl rfl) (ev_vsh ok.toOk (i := 1) (j := 1) rfl rfl rfl))) rfl))) (evb_retXo (fo := fun (w_ : ((List (((List Int) × (List Int) × Unit) ⊕ ((List Tx) × (List Tx) × Unit))) × Unit)) => [sAny, sAny, (sA (vs.tail.tail.headD .non) (wL (wV (tSum (tTup (aCons (tList tInt) (aCons (tList tInt) aNil))) (tTup (aCons (tList tStr) (aCons (tList tStr) aNil)))))) w_.1), sAny]) (mk := fun r10 => (r10, (held3, ()))) (w := (held3, ())) (.inl (wkX hX rfl)) (by intro _; rfl) (Wk.a (Wk.a (Wk.s (Wk.s Wk.n)))) (evn_v (ev_bool (md := .sh)))) (evb_for (LF := (fun (s11 : Unit) => [(sV false (tList tStr) told1), (sV false (tList tStr) due2), (sA (vs.tail.tail.headD .non) (wL (wV (tSum (tTup (aCons (tList tInt) (aCons (tList tInt) aNil))) (tTup (aCons (tList tStr) (aCons (tList tStr) aNil)))))) held3), sAny])) (s0 := ()) ok (wkX hX rfl) (evi_seq ok.toOk sq_l (ev_vsh ok.toOk (i := 0) (j := 0) rfl rfl rfl)) (Wk.s (Wk.s (Wk.s (Wk.s Wk.n)))) (fun _ => evg_name ok (i := 3) (j := 3) rfl rfl) (fun s11 one12 => (evb_ifl (wkX hX rfl) (evt_of (ev_isi (md' := .sh) (r := false) ok.toOk (j := 1) rfl X.g_isinstance i_str (by decide +kernel) (ev_vsh ok.toOk (i := 3) (j := 3) rfl rfl rfl) (ev_ty (n := "bool") (md := .sh) ok.toOk (j := 2) rfl X.g_bool (by decide +kernel)))) evb_no (evb_go (by rfl) (Wk.s (Wk.s (Wk.s (Wk.a Wk.n))))))) fun s17 => (evb_nAppend ok (i := 2) (j := 2) rfl rfl rfl (wkX hX rfl) (evn_v (ev_inr (ev_tup (fun d vs R h => by rw [(lenS (lenS len0)) h]; decide) (eva_cons (ev_vsh ok.toOk (i := 0) (j := 0) rfl rfl rfl) (eva_cons (ev_vsh ok.toOk (i := 1) (j := 1) rfl rfl rfl) eva_nil))))) fun held18 => (evb_retXo (fo := fun (w_ : ((List (((List Int) × (List Int) × Unit) ⊕ ((List Tx) × (List Tx) × Unit))) × Unit)) => [sAny, sAny, (sA (vs.tail.tail.headD .non) (wL (wV (tSum (tTup (aCons (tList tInt) (aCons (tList tInt) aNil))) (tTup (aCons (tList tStr) (aCons (tList tStr) aNil)))))) w_.1), sAny]) (mk := fun r27 => (r27, (held18, ()))) (w := (held18, ())) (.inl (wkX hX rfl)) (by intro _; rfl) (Wk.a (Wk.a (Wk.s (Wk.s Wk.n)))) (evn_v (ev_bool (md := .sh)))))))
theorem fn__law_list__k2 {p : Pr} (X : Facts p) : Fn p 1 "_law_list" ["told", "due", "held"] (spX p (waCons (wV (tList tStr)) (waCons (wV (tList tStr)) (waCons (wL (wV (tSum (tTup (aCons (tList tInt) (aCons (tList tInt) aNil))) (tTup (aCons (tList tStr) (aCons (tList tStr) aNil)))))) waNil))) (fun (d : ((List Tx) × ((List Tx) × ((List (((List Int) × (List Int) × Unit) ⊕ ((List Tx) × (List Tx) × Unit))) × Unit)))) (w : ((List (((List Int) × (List Int) × Unit) ⊕ ((List Tx) × (List Tx) × Unit))) × Unit)) => (d.1, (fun (d : ((List Tx) × ((List (((List Int) × (List Int) × Unit) ⊕ ((List Tx) × (List Tx) × Unit))) × Unit))) (w : ((List (((List Int) × (List Int) × Unit) ⊕ ((List Tx) × (List Tx) × Unit))) × Unit)) => (d.1, (fun (d : ((List (((List Int) × (List Int) × Unit) ⊕ ((List Tx) × (List Tx) × Unit))) × Unit)) (w : ((List (((List Int) × (List Int) × Unit) ⊕ ((List Tx) × (List Tx) × Unit))) × Unit)) => (w.1, (fun (d : Unit) (_ : Unit) => d) d.2 w.2)) d.2 w)) d.2 w)) (wV tBool) false c__law_list__k2) := by
  obtain ⟨f, fd, hF, hm⟩ := X.d__law_list__k2
  exact ⟨f, fd, eq__law_list__k2 ▸ fn_X (D' := fun vs (r : (Bool × ((List (((List Int) × (List Int) × Unit) ⊕ ((List Tx) × (List Tx) × Unit))) × Unit))) => xOut (fun (w_ : ((List (((List Int) × (List Int) × Unit) ⊕ ((List Tx) × (List Tx) × Unit))) × Unit)) => [sAny, sAny, (sA (vs.tail.tail.headD .non) (wL (wV (tSum (tTup (aCons (tList tInt) (aCons (tList tInt) aNil))) (tTup (aCons (tList tStr) (aCons (tList tStr) aNil)))))) w_.1), sAny]) (wV tBool) r) (kx := false) (m := 1) hF sc__law_list__k2 (.sh (.sh (.ow .nil))) rfl rfl (fun r vs fm Q h => h) (fun vs g ok d hX => bb__law_list__k2 X ok vs d.1 d.2.1 d.2.2.1 hX), hm, hF.kp, hF.bindsN fun _ _ _ _ _ _ us hl => match us, hl with | [_, _, _], _ => rfl⟩
abbrev s_Loom_colours : Stmt := ((clsBody (topS 15)).getD 12 (.Pass ⟨0, 0, 0, 0⟩))
abbrev N_Loom_colours : List Str := ["self", "pick"]
abbrev V_Loom_colours : List Str := ["self"]
abbrev G_Loom_colours : List Str := []
theorem sc_Loom_colours : Sc s_Loom_colours N_Loom_colours V_Loom_colours ["self"] G_Loom_colours := ⟨⟨rfl, rfl, rfl, by decide +kernel, rfl, by decide +kernel, by decide +kernel⟩, by decide +kernel, by decide +kernel, by decide +kernel⟩
def q_Loom_colours (self1 : O_Loom) : M (List Tx) := M.bind (M.bind (M.ok self1) fun y2 => M.ok y2.2.2.2.1) fun xs7 => compM (fun pick3 => M.bind (M.ok true) fun c5 => if c5 = true then M.bind (M.bind (M.ok pick3) fun y4 => M.ok y4.2.2.1) fun y6 => M.ok (some y6) else M.ok none) xs7
def f_Loom_colours (self1 : O_Loom) : M (List Tx) := compM (fun pick3 => M.ok (some pick3.2.2.1)) self1.2.2.2.1
def r_Loom_colours (d : (O_Loom × Unit)) : M (List Tx) := q_Loom_colours d.1
def c_Loom_colours (d : (O_Loom × Unit)) : M (List Tx) := f_Loom_colours d.1
theorem eq_Loom_colours : r_Loom_colours = c_Loom_colours := by funext d; first | (simp only [r_Loom_colours, c_Loom_colours, q_Loom_colours, f_Loom_colours, M.bind_assoc, M.bok]; done) | (simp only [r_Loom_colours, c_Loom_colours, q_Loom_colours, f_Loom_colours, M.bind_assoc, M.bok]; rfl)
theorem bb_Loom_colours {p : Pr} (X : Facts p) {g : G} (ok : OkS p (defScope s_Loom_colours) N_Loom_colours V_Loom_colours G_Loom_colours 0 g) (hX : g.LX = List.replicate N_Loom_colours.length sAny) (self1 : O_Loom) : EvB g [(sV false (tIns (cA p "Loom") (fl_Loom p)) self1), sAny] (defBody s_Loom_colours) (fun r => .rtL false tStr r) (q_Loom_colours self1) := (evb_retL (wkX hX rfl) .sh (by intro _; rfl) (evl_lc (md := .sh) (VV' := ["pick"]) (GG' := []) (i := 1) ok.toOk (evi_seq ok.toOk sq_l (ev_fld (T := (tList (tTup (aCons (tTupL tInt) (aCons tStr (aCons tStr aNil)))))) (pr := fun (d : O_Loom) => d.2.2.2.1) ok.toOk X.a_Loom X.n_Loom_thrown (fun d => (.there (n := "threading") rfl (by decide +kernel) (.there (n := "ties") rfl (by decide +kernel) (.there (n := "pressed") rfl (by decide +kernel) .here)))) (ev_vsh ok.toOk (i := 0) (j := 0) rfl rfl rfl))) rfl rfl no_any (by decide +kernel) (by decide +kernel) (by decide +kernel) (by decide +kernel) (fun g' okc pick3 => evpts_nil) (fun g' okc pick3 => (ev_ixA (n := 2) okc (.s (.s .z)) (ev_vsh okc (i := 1) (j := 0) rfl rfl rfl) (ev_int (md := .sh))))))
theorem b_Loom_colours {p : Pr} (X : Facts p) : Body p s_Loom_colours N_Loom_colours V_Loom_colours G_Loom_colours 0 (fun (d : (O_Loom × Unit)) => [(sV false (tIns (cA p "Loom") (fl_Loom p)) d.1), sAny]) (fun r => .rtL false tStr r) r_Loom_colours := fun g ok hX d => bb_Loom_colours X ok hX d.1
theorem me_Loom_colours {p : Pr} (X : Facts p) : MeF p 1 "Loom" "colours" [] (spM p (aCons (tIns (cA p "Loom") (fl_Loom p)) aNil) (fun r => .rtL false tStr r) c_Loom_colours) := by
  obtain ⟨f, fd, hF, hc, hm⟩ := X.m_Loom_colours
  exact ⟨f, fd, eq_Loom_colours ▸ fn_rtL (m := 1) hF sc_Loom_colours (.cons .nil) rfl rfl (b_Loom_colours X), hc, hm, hF.bindsN fun _ _ _ _ _ _ us hl => match us, hl with | [_], _ => rfl⟩
abbrev s__law_answered : Stmt := (topS 30)
abbrev N__law_answered : List Str := ["made", "setting", "state", "way", "told", "due", "k", "one"]
abbrev V__law_answered : List Str := ["made", "setting", "state", "way", "told", "due"]
abbrev G__law_answered : List Str := ["int", "isinstance", "bool", "len", "range", "_law_list", "str", "_law_lifted", "_law_shed"]
theorem sc__law_answered : Sc s__law_answered N__law_answered V__law_answered ["made", "setting", "state", "way"] G__law_answered := ⟨⟨rfl, rfl, rfl, by decide +kernel, rfl, by decide +kernel, by decide +kernel⟩, by decide +kernel, by decide +kernel, by decide +kernel⟩
def q__law_answered (made1 : O_Loom) (setting2 : ((List Int) × (List (List Int)) × Unit)) (state3 : ((List Bool) × (List (Tx × Tx × Unit)) × (List ((List Bool) × (List (Tx × Tx × Unit)) × Unit)) × (List (((List Int) × (List Int) × Unit) ⊕ ((List Tx) × (List Tx) × Unit))) × Unit)) (way4 : Int) : M (Bool × (O_Loom × (((List Bool) × (List (Tx × Tx × Unit)) × (List ((List Bool) × (List (Tx × Tx × Unit)) × Unit)) × (List (((List Int) × (List Int) × Unit) ⊕ ((List Tx) × (List Tx) × Unit))) × Unit) × Unit))) := M.bind (M.bind (M.ok way4) fun y5 => M.bind (M.ok (0 : Int)) fun y6 => M.ok (decide (y5 = y6))) fun c7 => if c7 = true then M.bind (M.bind (M.ok made1) fun y9 => c_Loom_deeds_done (y9, ())) fun told8 => M.bind (M.ok (true && ((!false) && (decide (told8 = (state3.2.2.1.length : Int)))))) fun r20 => M.ok (r20, (made1, state3, ())) else M.bind (M.bind (M.ok way4) fun y21 => M.bind (M.ok (1 : Int)) fun y22 => M.ok (decide (y21 = y22))) fun c23 => if c23 = true then M.bind (M.bind (M.bind (M.bind (M.bind (M.ok state3) fun y25 => M.ok y25.1) fun y26 => M.ok (y26.length : Int)) fun y27 => rangeM 0 y27) fun xs34 => compM (fun k28 => M.bind (M.bind (M.bind (M.ok state3) fun y29 => M.ok y29.1) fun y30 => M.bind (M.ok k28) fun y31 => getM y30 y31) fun c32 => if c32 = true then M.bind (M.ok k28) fun y33 => M.ok (some y33) else M.ok none) xs34) fun due24 => M.bind (M.bind (M.bind (M.bind (M.ok made1) fun y35 => c_Loom_treadles_down (y35, ())) fun y43 => M.bind (M.bind (M.ok due24) fun y41 => M.bind (M.bind (M.bind (M.ok (state3, fun (y : ((List Bool) × (List (Tx × Tx × Unit)) × (List ((List Bool) × (List (Tx × Tx × Unit)) × Unit)) × (List (((List Int) × (List Int) × Unit) ⊕ ((List Tx) × (List Tx) × Unit))) × Unit)) => y)) fun y37 => M.ok (y37.1.2.2.2.1, fun (y : (List (((List Int) × (List Int) × Unit) ⊕ ((List Tx) × (List Tx) × Unit)))) => y37.2 (y37.1.1, (y37.1.2.1, (y37.1.2.2.1, (y, y37.1.2.2.2.2)))))) fun q38 => M.bind (M.ok ((), fun (_ : Unit) => ())) fun r39 => M.ok ((q38.1, r39.1), fun (w40 : (List (((List Int) × (List Int) × Unit) ⊕ ((List Tx) × (List Tx) × Unit))) × Unit) => (q38.2 w40.1, r39.2 w40.2))) fun r42 => M.ok ((y41, r42.1), r42.2)) fun r44 => M.ok ((y43, r44.1), r44.2)) fun q45 => M.bind (c__law_list q45.1) fun r46 => M.ok (r46.1, q45.2 r46.2)) fun x47 => M.ok (x47.1, (made1, x47.2.1, ())) else M.bind (M.bind (M.ok way4) fun y51 => M.bind (M.ok (2 : Int)) fun y52 => M.ok (decide (y51 = y52))) fun c53 => if c53 = true then M.bind (M.bind (M.ok made1) fun y55 => c_Loom_shed (y55, ())) fun told254 => M.bind (M.bind (M.bind (M.ok told254) fun y57 => M.ok true) fun c75 => if c75 = true then M.bind (M.ok told254) fun y73 => M.bind (M.bind (M.bind (M.bind (M.ok setting2) fun y58 => M.ok y58.1) fun y69 => M.bind (M.bind (M.bind (M.bind (M.bind (M.ok setting2) fun y59 => M.ok y59.2.1) fun y63 => M.bind (M.bind (M.bind (M.ok state3) fun y60 => M.ok y60.1) fun y61 => M.bind (M.ok ()) fun y62 => M.ok (y61, y62)) fun y64 => M.ok (y63, y64)) c__law_lifted) fun y67 => M.bind (M.ok ()) fun y68 => M.ok (y67, y68)) fun y70 => M.ok (y69, y70)) c__law_shed) fun y74 => M.ok (decide (y73 = y74)) else M.ok false) fun r77 => M.ok (r77, (made1, state3, ())) else M.bind (M.bind (M.ok way4) fun y78 => M.bind (M.ok (3 : Int)) fun y79 => M.ok (decide (y78 = y79))) fun c80 => if c80 = true then M.bind (M.bind (M.bind (M.bind (M.ok made1) fun y81 => c_Loom_cloth (y81, ())) fun y95 => M.bind (M.bind (M.bind (M.bind (M.ok state3) fun y83 => M.ok y83.2.1) fun xs88 => compM (fun one84 => M.bind (M.ok true) fun c86 => if c86 = true then M.bind (M.bind (M.ok one84) fun y85 => M.ok y85.1) fun y87 => M.ok (some y87) else M.ok none) xs88) fun y93 => M.bind (M.bind (M.bind (M.ok (state3, fun (y : ((List Bool) × (List (Tx × Tx × Unit)) × (List ((List Bool) × (List (Tx × Tx × Unit)) × Unit)) × (List (((List Int) × (List Int) × Unit) ⊕ ((List Tx) × (List Tx) × Unit))) × Unit)) => y)) fun y89 => M.ok (y89.1.2.2.2.1, fun (y : (List (((List Int) × (List Int) × Unit) ⊕ ((List Tx) × (List Tx) × Unit)))) => y89.2 (y89.1.1, (y89.1.2.1, (y89.1.2.2.1, (y, y89.1.2.2.2.2)))))) fun q90 => M.bind (M.ok ((), fun (_ : Unit) => ())) fun r91 => M.ok ((q90.1, r91.1), fun (w92 : (List (((List Int) × (List Int) × Unit) ⊕ ((List Tx) × (List Tx) × Unit))) × Unit) => (q90.2 w92.1, r91.2 w92.2))) fun r94 => M.ok ((y93, r94.1), r94.2)) fun r96 => M.ok ((y95, r96.1), r96.2)) fun q97 => M.bind (c__law_list__k2 q97.1) fun r98 => M.ok (r98.1, q97.2 r98.2)) fun x99 => M.ok (x99.1, (made1, x99.2.1, ())) else M.bind (M.bind (M.bind (M.bind (M.ok made1) fun y104 => c_Loom_colours (y104, ())) fun y118 => M.bind (M.bind (M.bind (M.bind (M.ok state3) fun y106 => M.ok y106.2.1) fun xs111 => compM (fun one107 => M.bind (M.ok true) fun c109 => if c109 = true then M.bind (M.bind (M.ok one107) fun y108 => M.ok y108.2.1) fun y110 => M.ok (some y110) else M.ok none) xs111) fun y116 => M.bind (M.bind (M.bind (M.ok (state3, fun (y : ((List Bool) × (List (Tx × Tx × Unit)) × (List ((List Bool) × (List (Tx × Tx × Unit)) × Unit)) × (List (((List Int) × (List Int) × Unit) ⊕ ((List Tx) × (List Tx) × Unit))) × Unit)) => y)) fun y112 => M.ok (y112.1.2.2.2.1, fun (y : (List (((List Int) × (List Int) × Unit) ⊕ ((List Tx) × (List Tx) × Unit)))) => y112.2 (y112.1.1, (y112.1.2.1, (y112.1.2.2.1, (y, y112.1.2.2.2.2)))))) fun q113 => M.bind (M.ok ((), fun (_ : Unit) => ())) fun r114 => M.ok ((q113.1, r114.1), fun (w115 : (List (((List Int) × (List Int) × Unit) ⊕ ((List Tx) × (List Tx) × Unit))) × Unit) => (q113.2 w115.1, r114.2 w115.2))) fun r117 => M.ok ((y116, r117.1), r117.2)) fun r119 => M.ok ((y118, r119.1), r119.2)) fun q120 => M.bind (c__law_list__k2 q120.1) fun r121 => M.ok (r121.1, q120.2 r121.2)) fun x122 => M.ok (x122.1, (made1, x122.2.1, ()))
def f_law_answered (made1 : O_Loom) (setting2 : ((List Int) × (List (List Int)) × Unit)) (state3 : ((List Bool) × (List (Tx × Tx × Unit)) × (List ((List Bool) × (List (Tx × Tx × Unit)) × Unit)) × (List (((List Int) × (List Int) × Unit) ⊕ ((List Tx) × (List Tx) × Unit))) × Unit)) (way4 : Int) : M (Bool × (O_Loom × (((List Bool) × (List (Tx × Tx × Unit)) × (List ((List Bool) × (List (Tx × Tx × Unit)) × Unit)) × (List (((List Int) × (List Int) × Unit) ⊕ ((List Tx) × (List Tx) × Unit))) × Unit) × Unit))) := if (decide (way4 = (0 : Int))) = true then M.bind (f_Loom_deeds_done made1) fun told8 => M.ok ((true && ((!false) && (decide (told8 = (state3.2.2.1.length : Int))))), (made1, state3, ())) else if (decide (way4 = (1 : Int))) = true then M.bind (M.bind (rangeM 0 (state3.1.length : Int)) fun xs34 => compM (fun k28 => M.bind (getM state3.1 k28) fun c32 => if c32 = true then M.ok (some k28) else M.ok none) xs34) fun due24 => M.bind (M.bind (f_Loom_treadles_down made1) fun y48 => M.bind (f_law_list y48 due24 ((state3, fun (y : ((List Bool) × (List (Tx × Tx × Unit)) × (List ((List Bool) × (List (Tx × Tx × Unit)) × Unit)) × (List (((List Int) × (List Int) × Unit) ⊕ ((List Tx) × (List Tx) × Unit))) × Unit)) => y).1.2.2.2.1, fun (y : (List (((List Int) × (List Int) × Unit) ⊕ ((List Tx) × (List Tx) × Unit)))) => (state3, fun (y : ((List Bool) × (List (Tx × Tx × Unit)) × (List ((List Bool) × (List (Tx × Tx × Unit)) × Unit)) × (List (((List Int) × (List Int) × Unit) ⊕ ((List Tx) × (List Tx) × Unit))) × Unit)) => y).2 ((state3, fun (y : ((List Bool) × (List (Tx × Tx × Unit)) × (List ((List Bool) × (List (Tx × Tx × Unit)) × Unit)) × (List (((List Int) × (List Int) × Unit) ⊕ ((List Tx) × (List Tx) × Unit))) × Unit)) => y).1.1, ((state3, fun (y : ((List Bool) × (List (Tx × Tx × Unit)) × (List ((List Bool) × (List (Tx × Tx × Unit)) × Unit)) × (List (((List Int) × (List Int) × Unit) ⊕ ((List Tx) × (List Tx) × Unit))) × Unit)) => y).1.2.1, ((state3, fun (y : ((List Bool) × (List (Tx × Tx × Unit)) × (List ((List Bool) × (List (Tx × Tx × Unit)) × Unit)) × (List (((List Int) × (List Int) × Unit) ⊕ ((List Tx) × (List Tx) × Unit))) × Unit)) => y).1.2.2.1, (y, (state3, fun (y : ((List Bool) × (List (Tx × Tx × Unit)) × (List ((List Bool) × (List (Tx × Tx × Unit)) × Unit)) × (List (((List Int) × (List Int) × Unit) ⊕ ((List Tx) × (List Tx) × Unit))) × Unit)) => y).1.2.2.2.2))))).1) fun x50 => M.ok (x50.1, (((state3, fun (y : ((List Bool) × (List (Tx × Tx × Unit)) × (List ((List Bool) × (List (Tx × Tx × Unit)) × Unit)) × (List (((List Int) × (List Int) × Unit) ⊕ ((List Tx) × (List Tx) × Unit))) × Unit)) => y).1.2.2.2.1, fun (y : (List (((List Int) × (List Int) × Unit) ⊕ ((List Tx) × (List Tx) × Unit)))) => (state3, fun (y : ((List Bool) × (List (Tx × Tx × Unit)) × (List ((List Bool) × (List (Tx × Tx × Unit)) × Unit)) × (List (((List Int) × (List Int) × Unit) ⊕ ((List Tx) × (List Tx) × Unit))) × Unit)) => y).2 ((state3, fun (y : ((List Bool) × (List (Tx × Tx × Unit)) × (List ((List Bool) × (List (Tx × Tx × Unit)) × Unit)) × (List (((List Int) × (List Int) × Unit) ⊕ ((List Tx) × (List Tx) × Unit))) × Unit)) => y).1.1, ((state3, fun (y : ((List Bool) × (List (Tx × Tx × Unit)) × (List ((List Bool) × (List (Tx × Tx × Unit)) × Unit)) × (List (((List Int) × (List Int) × Unit) ⊕ ((List Tx) × (List Tx) × Unit))) × Unit)) => y).1.2.1, ((state3, fun (y : ((List Bool) × (List (Tx × Tx × Unit)) × (List ((List Bool) × (List (Tx × Tx × Unit)) × Unit)) × (List (((List Int) × (List Int) × Unit) ⊕ ((List Tx) × (List Tx) × Unit))) × Unit)) => y).1.2.2.1, (y, (state3, fun (y : ((List Bool) × (List (Tx × Tx × Unit)) × (List ((List Bool) × (List (Tx × Tx × Unit)) × Unit)) × (List (((List Int) × (List Int) × Unit) ⊕ ((List Tx) × (List Tx) × Unit))) × Unit)) => y).1.2.2.2.2))))).2 x50.2.1, ()))) fun x47 => M.ok (x47.1, (made1, x47.2.1, ())) else if (decide (way4 = (2 : Int))) = true then M.bind (f_Loom_shed made1) fun told254 => M.bind (if true = true then M.bind (M.bind (f_law_lifted setting2.2.1 state3.1) fun y72 => f_law_shed setting2.1 y72) fun y74 => M.ok (decide (told254 = y74)) else M.ok false) fun r77 => M.ok (r77, (made1, state3, ())) else if (decide (way4 = (3 : Int))) = true then M.bind (M.bind (f_Loom_cloth made1) fun y100 => M.bind (compM (fun one84 => M.ok (some one84.1)) state3.2.1) fun y101 => M.bind (f_law_list__k2 y100 y101 ((state3, fun (y : ((List Bool) × (List (Tx × Tx × Unit)) × (List ((List Bool) × (List (Tx × Tx × Unit)) × Unit)) × (List (((List Int) × (List Int) × Unit) ⊕ ((List Tx) × (List Tx) × Unit))) × Unit)) => y).1.2.2.2.1, fun (y : (List (((List Int) × (List Int) × Unit) ⊕ ((List Tx) × (List Tx) × Unit)))) => (state3, fun (y : ((List Bool) × (List (Tx × Tx × Unit)) × (List ((List Bool) × (List (Tx × Tx × Unit)) × Unit)) × (List (((List Int) × (List Int) × Unit) ⊕ ((List Tx) × (List Tx) × Unit))) × Unit)) => y).2 ((state3, fun (y : ((List Bool) × (List (Tx × Tx × Unit)) × (List ((List Bool) × (List (Tx × Tx × Unit)) × Unit)) × (List (((List Int) × (List Int) × Unit) ⊕ ((List Tx) × (List Tx) × Unit))) × Unit)) => y).1.1, ((state3, fun (y : ((List Bool) × (List (Tx × Tx × Unit)) × (List ((List Bool) × (List (Tx × Tx × Unit)) × Unit)) × (List (((List Int) × (List Int) × Unit) ⊕ ((List Tx) × (List Tx) × Unit))) × Unit)) => y).1.2.1, ((state3, fun (y : ((List Bool) × (List (Tx × Tx × Unit)) × (List ((List Bool) × (List (Tx × Tx × Unit)) × Unit)) × (List (((List Int) × (List Int) × Unit) ⊕ ((List Tx) × (List Tx) × Unit))) × Unit)) => y).1.2.2.1, (y, (state3, fun (y : ((List Bool) × (List (Tx × Tx × Unit)) × (List ((List Bool) × (List (Tx × Tx × Unit)) × Unit)) × (List (((List Int) × (List Int) × Unit) ⊕ ((List Tx) × (List Tx) × Unit))) × Unit)) => y).1.2.2.2.2))))).1) fun x103 => M.ok (x103.1, (((state3, fun (y : ((List Bool) × (List (Tx × Tx × Unit)) × (List ((List Bool) × (List (Tx × Tx × Unit)) × Unit)) × (List (((List Int) × (List Int) × Unit) ⊕ ((List Tx) × (List Tx) × Unit))) × Unit)) => y).1.2.2.2.1, fun (y : (List (((List Int) × (List Int) × Unit) ⊕ ((List Tx) × (List Tx) × Unit)))) => (state3, fun (y : ((List Bool) × (List (Tx × Tx × Unit)) × (List ((List Bool) × (List (Tx × Tx × Unit)) × Unit)) × (List (((List Int) × (List Int) × Unit) ⊕ ((List Tx) × (List Tx) × Unit))) × Unit)) => y).2 ((state3, fun (y : ((List Bool) × (List (Tx × Tx × Unit)) × (List ((List Bool) × (List (Tx × Tx × Unit)) × Unit)) × (List (((List Int) × (List Int) × Unit) ⊕ ((List Tx) × (List Tx) × Unit))) × Unit)) => y).1.1, ((state3, fun (y : ((List Bool) × (List (Tx × Tx × Unit)) × (List ((List Bool) × (List (Tx × Tx × Unit)) × Unit)) × (List (((List Int) × (List Int) × Unit) ⊕ ((List Tx) × (List Tx) × Unit))) × Unit)) => y).1.2.1, ((state3, fun (y : ((List Bool) × (List (Tx × Tx × Unit)) × (List ((List Bool) × (List (Tx × Tx × Unit)) × Unit)) × (List (((List Int) × (List Int) × Unit) ⊕ ((List Tx) × (List Tx) × Unit))) × Unit)) => y).1.2.2.1, (y, (state3, fun (y : ((List Bool) × (List (Tx × Tx × Unit)) × (List ((List Bool) × (List (Tx × Tx × Unit)) × Unit)) × (List (((List Int) × (List Int) × Unit) ⊕ ((List Tx) × (List Tx) × Unit))) × Unit)) => y).1.2.2.2.2))))).2 x103.2.1, ()))) fun x99 => M.ok (x99.1, (made1, x99.2.1, ())) else M.bind (M.bind (f_Loom_colours made1) fun y123 => M.bind (compM (fun one107 => M.ok (some one107.2.1)) state3.2.1) fun y124 => M.bind (f_law_list__k2 y123 y124 ((state3, fun (y : ((List Bool) × (List (Tx × Tx × Unit)) × (List ((List Bool) × (List (Tx × Tx × Unit)) × Unit)) × (List (((List Int) × (List Int) × Unit) ⊕ ((List Tx) × (List Tx) × Unit))) × Unit)) => y).1.2.2.2.1, fun (y : (List (((List Int) × (List Int) × Unit) ⊕ ((List Tx) × (List Tx) × Unit)))) => (state3, fun (y : ((List Bool) × (List (Tx × Tx × Unit)) × (List ((List Bool) × (List (Tx × Tx × Unit)) × Unit)) × (List (((List Int) × (List Int) × Unit) ⊕ ((List Tx) × (List Tx) × Unit))) × Unit)) => y).2 ((state3, fun (y : ((List Bool) × (List (Tx × Tx × Unit)) × (List ((List Bool) × (List (Tx × Tx × Unit)) × Unit)) × (List (((List Int) × (List Int) × Unit) ⊕ ((List Tx) × (List Tx) × Unit))) × Unit)) => y).1.1, ((state3, fun (y : ((List Bool) × (List (Tx × Tx × Unit)) × (List ((List Bool) × (List (Tx × Tx × Unit)) × Unit)) × (List (((List Int) × (List Int) × Unit) ⊕ ((List Tx) × (List Tx) × Unit))) × Unit)) => y).1.2.1, ((state3, fun (y : ((List Bool) × (List (Tx × Tx × Unit)) × (List ((List Bool) × (List (Tx × Tx × Unit)) × Unit)) × (List (((List Int) × (List Int) × Unit) ⊕ ((List Tx) × (List Tx) × Unit))) × Unit)) => y).1.2.2.1, (y, (state3, fun (y : ((List Bool) × (List (Tx × Tx × Unit)) × (List ((List Bool) × (List (Tx × Tx × Unit)) × Unit)) × (List (((List Int) × (List Int) × Unit) ⊕ ((List Tx) × (List Tx) × Unit))) × Unit)) => y).1.2.2.2.2))))).1) fun x126 => M.ok (x126.1, (((state3, fun (y : ((List Bool) × (List (Tx × Tx × Unit)) × (List ((List Bool) × (List (Tx × Tx × Unit)) × Unit)) × (List (((List Int) × (List Int) × Unit) ⊕ ((List Tx) × (List Tx) × Unit))) × Unit)) => y).1.2.2.2.1, fun (y : (List (((List Int) × (List Int) × Unit) ⊕ ((List Tx) × (List Tx) × Unit)))) => (state3, fun (y : ((List Bool) × (List (Tx × Tx × Unit)) × (List ((List Bool) × (List (Tx × Tx × Unit)) × Unit)) × (List (((List Int) × (List Int) × Unit) ⊕ ((List Tx) × (List Tx) × Unit))) × Unit)) => y).2 ((state3, fun (y : ((List Bool) × (List (Tx × Tx × Unit)) × (List ((List Bool) × (List (Tx × Tx × Unit)) × Unit)) × (List (((List Int) × (List Int) × Unit) ⊕ ((List Tx) × (List Tx) × Unit))) × Unit)) => y).1.1, ((state3, fun (y : ((List Bool) × (List (Tx × Tx × Unit)) × (List ((List Bool) × (List (Tx × Tx × Unit)) × Unit)) × (List (((List Int) × (List Int) × Unit) ⊕ ((List Tx) × (List Tx) × Unit))) × Unit)) => y).1.2.1, ((state3, fun (y : ((List Bool) × (List (Tx × Tx × Unit)) × (List ((List Bool) × (List (Tx × Tx × Unit)) × Unit)) × (List (((List Int) × (List Int) × Unit) ⊕ ((List Tx) × (List Tx) × Unit))) × Unit)) => y).1.2.2.1, (y, (state3, fun (y : ((List Bool) × (List (Tx × Tx × Unit)) × (List ((List Bool) × (List (Tx × Tx × Unit)) × Unit)) × (List (((List Int) × (List Int) × Unit) ⊕ ((List Tx) × (List Tx) × Unit))) × Unit)) => y).1.2.2.2.2))))).2 x126.2.1, ()))) fun x122 => M.ok (x122.1, (made1, x122.2.1, ()))
def r__law_answered (d : (O_Loom × ((List Int) × (List (List Int)) × Unit) × ((List Bool) × (List (Tx × Tx × Unit)) × (List ((List Bool) × (List (Tx × Tx × Unit)) × Unit)) × (List (((List Int) × (List Int) × Unit) ⊕ ((List Tx) × (List Tx) × Unit))) × Unit) × Int × Unit)) : M (Bool × (O_Loom × (((List Bool) × (List (Tx × Tx × Unit)) × (List ((List Bool) × (List (Tx × Tx × Unit)) × Unit)) × (List (((List Int) × (List Int) × Unit) ⊕ ((List Tx) × (List Tx) × Unit))) × Unit) × Unit))) := q__law_answered d.1 d.2.1 d.2.2.1 d.2.2.2.1
def c__law_answered (d : (O_Loom × ((List Int) × (List (List Int)) × Unit) × ((List Bool) × (List (Tx × Tx × Unit)) × (List ((List Bool) × (List (Tx × Tx × Unit)) × Unit)) × (List (((List Int) × (List Int) × Unit) ⊕ ((List Tx) × (List Tx) × Unit))) × Unit) × Int × Unit)) : M (Bool × (O_Loom × (((List Bool) × (List (Tx × Tx × Unit)) × (List ((List Bool) × (List (Tx × Tx × Unit)) × Unit)) × (List (((List Int) × (List Int) × Unit) ⊕ ((List Tx) × (List Tx) × Unit))) × Unit) × Unit))) := f_law_answered d.1 d.2.1 d.2.2.1 d.2.2.2.1
theorem eq__law_answered : r__law_answered = c__law_answered := by funext d; first | (simp only [r__law_answered, c__law_answered, q__law_answered, f_law_answered, M.bind_assoc, M.bok, c_Loom_cloth, c_Loom_colours, c_Loom_deeds_done, c_Loom_shed, c_Loom_treadles_down, c__law_lifted, c__law_list, c__law_list__k2, c__law_shed]; done) | (simp only [r__law_answered, c__law_answered, q__law_answered, f_law_answered, M.bind_assoc, M.bok, c_Loom_cloth, c_Loom_colours, c_Loom_deeds_done, c_Loom_shed, c_Loom_treadles_down, c__law_lifted, c__law_list, c__law_list__k2, c__law_shed]; rfl)
theorem bb__law_answered {p : Pr} (X : Facts p) {g : G} (ok : OkS p (defScope s__law_answered) N__law_answered V__law_answered G__law_answered 2 g) (vs : List V) (made1 : O_Loom) (setting2 : ((List Int) × (List (List Int)) × Unit)) (state3 : ((List Bool) × (List (Tx × Tx × Unit)) × (List ((List Bool) × (List (Tx × Tx × Unit)) × Unit)) × (List (((List Int) × (List Int) × Unit) ⊕ ((List Tx) × (List Tx) × Unit))) × Unit)) (way4 : Int) (hX : g.LX = List.replicate N__law_answered.length sAny) : EvB g [(sA (vs.headD .non) (wIns (cA p "Loom") ["threading", "ties", "pressed", "thrown", "done_deeds"] (waCons (wV (tList tInt)) (waCons (wV (tList (tList tInt))) (waCons (wL (wV tBool)) (waCons (wL (wV (tTup (aCons (tTupL tInt) (aCons tStr (aCons tStr aNil)))))) (waCons (wL (wV (tTup (aCons tStr (aCons tInt (aCons (tOpt (tTup (aCons (tTupL tInt) (aCons tStr (aCons tStr aNil))))) aNil)))))) waNil)))))) made1), (sV false (tTup (aCons (tList tInt) (aCons (tList (tList tInt)) aNil))) setting2), (sA (vs.tail.tail.headD .non) (wHl (waCons (wL (wV tBool)) (waCons (wL (wV (tTup (aCons tStr (aCons tStr aNil))))) (waCons (wL (wTup (waCons (wL (wV tBool)) (waCons (wL (wV (tTup (aCons tStr (aCons tStr aNil))))) waNil)))) (waCons (wL (wV (tSum (tTup (aCons (tList tInt) (aCons (tList tInt) aNil))) (tTup (aCons (tList tStr) (aCons (tList tStr) aNil)))))) waNil))))) state3), (sV false tInt way4), sAny, sAny, sAny, sAny] (defBody s__law_answered) (fun (r : (Bool × (O_Loom × (((List Bool) × (List (Tx × Tx × Unit)) × (List ((List Bool) × (List (Tx × Tx × Unit)) × Unit)) × (List (((List Int) × (List Int) × Unit) ⊕ ((List Tx) × (List Tx) × Unit))) × Unit) × Unit)))) => xOut (fun (w_ : (O_Loom × (((List Bool) × (List (Tx × Tx × Unit)) × (List ((List Bool) × (List (Tx × Tx × Unit)) × Unit)) × (List (((List Int) × (List Int) × Unit) ⊕ ((List Tx) × (List Tx) × Unit))) × Unit) × Unit))) => [(sA (vs.headD .non) (wIns (cA p "Loom") ["threading", "ties", "pressed", "thrown", "done_deeds"] (waCons (wV (tList tInt)) (waCons (wV (tList (tList tInt))) (waCons (wL (wV tBool)) (waCons (wL (wV (tTup (aCons (tTupL tInt) (aCons tStr (aCons tStr aNil)))))) (waCons (wL (wV (tTup (aCons tStr (aCons tInt (aCons (tOpt (tTup (aCons (tTupL tInt) (aCons tStr (aCons tStr aNil))))) aNil)))))) waNil)))))) w_.1), sAny, (sA (vs.tail.tail.headD .non) (wHl (waCons (wL (wV tBool)) (waCons (wL (wV (tTup (aCons tStr (aCons tStr aNil))))) (waCons (wL (wTup (waCons (wL (wV tBool)) (waCons (wL (wV (tTup (aCons tStr (aCons tStr aNil))))) waNil)))) (waCons (wL (wV (tSum (tTup (aCons (tList tInt) (aCons (tList tInt) aNil))) (tTup (aCons (tList tStr) (aCons (tList tStr) aNil)))))) waNil))))) w_.2.1), sAny, sAny, sAny, sAny, sAny]) (wV tBool) r) (q__law_answered made1 setting2 state3 way4) := (evb_ifx (wkX hX rfl) (evt_c ok.toOk (c_eq s_int) (ev_vsh ok.toOk (i := 3) (j := 3) rfl rfl rfl) (ev_int (md := .sh))) (evb_set ok (i := 4) (j := 4) rfl rfl (wkX hX rfl) .sh (ev_borrowP (i := 0) (.inl flInt) rfl (ev_meth0 ok.toOk (me_Loom_deeds_done X) (by decide) (nm := ["threading", "ties", "pressed", "thrown", "done_deeds"]) (fun _ => rfl) (by decide +kernel) (ev_vsh ok.toOk (i := 0) (j := 0) rfl rfl rfl))) fun told8 => (evb_retXo (fo := fun (w_ : (O_Loom × (((List Bool) × (List (Tx × Tx × Unit)) × (List ((List Bool) × (List (Tx × Tx × Unit)) × Unit)) × (List (((List Int) × (List Int) × Unit) ⊕ ((List Tx) × (List Tx) × Unit))) × Unit) × Unit))) => [(sA (vs.headD .non) (wIns (cA p "Loom") ["threading", "ties", "pressed", "thrown", "done_deeds"] (waCons (wV (tList tInt)) (waCons (wV (tList (tList tInt))) (waCons (wL (wV tBool)) (waCons (wL (wV (tTup (aCons (tTupL tInt) (aCons tStr (aCons tStr aNil)))))) (waCons (wL (wV (tTup (aCons tStr (aCons tInt (aCons (tOpt (tTup (aCons (tTupL tInt) (aCons tStr (aCons tStr aNil))))) aNil)))))) waNil)))))) w_.1), sAny, (sA (vs.tail.tail.headD .non) (wHl (waCons (wL (wV tBool)) (waCons (wL (wV (tTup (aCons tStr (aCons tStr aNil))))) (waCons (wL (wTup (waCons (wL (wV tBool)) (waCons (wL (wV (tTup (aCons tStr (aCons tStr aNil))))) waNil)))) (waCons (wL (wV (tSum (tTup (aCons (tList tInt) (aCons (tList tInt) aNil))) (tTup (aCons (tList tStr) (aCons (tList tStr) aNil)))))) waNil))))) w_.2.1), sAny, sAny, sAny, sAny, sAny]) (mk := fun r20 => (r20, (made1, state3, ()))) (w := (made1, state3, ())) (.inl (wkX hX rfl)) (by intro _; rfl) (Wk.s (Wk.a (Wk.s (Wk.a (Wk.a (Wk.s (Wk.s (Wk.s Wk.n)))))))) (evn_v (ev_borrowP (i := 2) (.inl flBool) rfl (ev_andP (pureE (m := M.bind (M.ok told8) fun y11 => M.ok true) (ev_isi (md' := .sh) (r := true) ok.toOk (j := 1) rfl X.g_isinstance i_int (by decide +kernel) (ev_vsh ok.toOk (i := 4) (j := 4) rfl rfl rfl) (ev_ty (n := "int") (md := .sh) ok.toOk (j := 0) rfl X.g_int (by decide +kernel))) rfl) (pureE (m := M.ok ((!false) && (decide (told8 = (state3.2.2.1.length : Int))))) (ev_andP (pureE (m := M.bind (M.bind (M.ok told8) fun y12 => M.ok false) fun y13 => M.ok (!y13)) (ev_not (md' := .sh) (ev_isi (md' := .sh) (r := false) ok.toOk (j := 1) rfl X.g_isinstance i_int (by decide +kernel) (ev_vsh ok.toOk (i := 4) (j := 4) rfl rfl rfl) (ev_ty (n := "bool") (md := .sh) ok.toOk (j := 2) rfl X.g_bool (by decide +kernel)))) rfl) (pureE (m := M.bind (M.ok told8) fun y16 => M.bind (M.bind (M.bind (M.ok state3) fun y14 => M.ok y14.2.2.1) fun y15 => M.ok (y15.length : Int)) fun y17 => M.ok (decide (y16 = y17))) (ev_one (ev_c (md' := .sh) ok.toOk (c_eq s_int) (ev_vsh ok.toOk (i := 4) (j := 4) rfl rfl rfl) (ev_lenQ (md' := .sh) ok.toOk sq_l (j := 3) rfl X.g_len (ev_hlIx (n := 2) ok.toOk (.s (.s .z)) (ev_vsh ok.toOk (i := 2) (j := 2) rfl rfl rfl) (ev_int (md := .sh)))))) rfl)) rfl)))))) (evb_ifx (wkX hX rfl) (evt_c ok.toOk (c_eq s_int) (ev_vsh ok.toOk (i := 3) (j := 3) rfl rfl rfl) (ev_int (md := .sh))) (evb_setCP (md := .sh) (VV' := ["state", "k"]) (GG' := []) (i := 6) (i2 := 5) (ib := 2) ok rfl (wkX hX rfl) flInt rfl (by decide +kernel) (by rfl) (by decide +kernel) (evi_range1 ok.toOk (j := 4) rfl X.g_range (ev_lenQ (md' := .sh) ok.toOk sq_l (j := 3) rfl X.g_len (ev_hlIx (n := 0) ok.toOk .z (ev_vsh ok.toOk (i := 2) (j := 2) rfl rfl rfl) (ev_int (md := .sh))))) rfl rfl no_any (by decide +kernel) (by decide +kernel) (by decide +kernel) (by decide +kernel) (fun g' okc k28 => (evpts_one (evt_of (ev_ixQ okc sq_l (ev_hlIx (n := 0) okc .z (ev_vsh okc (i := 2) (j := 0) rfl rfl rfl) (ev_int (md := .sh))) (ev_vsh okc (i := 6) (j := 1) rfl rfl rfl))))) (fun g' okc k28 => (ev_vsh okc (i := 6) (j := 1) rfl rfl rfl)) fun due24 => (evb_retXx (fo := fun (w_ : (O_Loom × (((List Bool) × (List (Tx × Tx × Unit)) × (List ((List Bool) × (List (Tx × Tx × Unit)) × Unit)) × (List (((List Int) × (List Int) × Unit) ⊕ ((List Tx) × (List Tx) × Unit))) × Unit) × Unit))) => [(sA (vs.headD .non) (wIns (cA p "Loom") ["threading", "ties", "pressed", "thrown", "done_deeds"] (waCons (wV (tList tInt)) (waCons (wV (tList (tList tInt))) (waCons (wL (wV tBool)) (waCons (wL (wV (tTup (aCons (tTupL tInt) (aCons tStr (aCons tStr aNil)))))) (waCons (wL (wV (tTup (aCons tStr (aCons tInt (aCons (tOpt (tTup (aCons (tTupL tInt) (aCons tStr (aCons tStr aNil))))) aNil)))))) waNil)))))) w_.1), sAny, (sA (vs.tail.tail.headD .non) (wHl (waCons (wL (wV tBool)) (waCons (wL (wV (tTup (aCons tStr (aCons tStr aNil))))) (waCons (wL (wTup (waCons (wL (wV tBool)) (waCons (wL (wV (tTup (aCons tStr (aCons tStr aNil))))) waNil)))) (waCons (wL (wV (tSum (tTup (aCons (tList tInt) (aCons (tList tInt) aNil))) (tTup (aCons (tList tStr) (aCons (tList tStr) aNil)))))) waNil))))) w_.2.1), sAny, sAny, sAny, sAny, sAny]) (mk := fun (x47 : Bool × (((List Bool) × (List (Tx × Tx × Unit)) × (List ((List Bool) × (List (Tx × Tx × Unit)) × Unit)) × (List (((List Int) × (List Int) × Unit) ⊕ ((List Tx) × (List Tx) × Unit))) × Unit) × Unit)) => (x47.1, (made1, x47.2.1, ()))) (w := fun t_ => (made1, t_.1, ())) (fun _ => rfl) (by exact fun t_ => (Wk.s (Wk.a (Wk.s (Wk.a (Wk.s (Wk.a (Wk.s (Wk.s Wk.n))))))))) (ex_call ok.toOk (fn__law_list X) (by decide) (j := 5) rfl (.any hX) (evxa_sh (up := (fun (d : ((List Int) × ((List (((List Int) × (List Int) × Unit) ⊕ ((List Tx) × (List Tx) × Unit))) × Unit))) (w : ((List (((List Int) × (List Int) × Unit) ⊕ ((List Tx) × (List Tx) × Unit))) × Unit)) => (d.1, (fun (d : ((List (((List Int) × (List Int) × Unit) ⊕ ((List Tx) × (List Tx) × Unit))) × Unit)) (w : ((List (((List Int) × (List Int) × Unit) ⊕ ((List Tx) × (List Tx) × Unit))) × Unit)) => (w.1, (fun (d : Unit) (_ : Unit) => d) d.2 w.2)) d.2 w))) (md := .sh) (ev_sh (ev_borrowP (i := 0) (.inr rfl) rfl (ev_ofL (evl_flat (md' := .fx) flInt (evl_meth0 ok.toOk (me_Loom_treadles_down X) (by decide) (nm := ["threading", "ties", "pressed", "thrown", "done_deeds"]) (fun _ => rfl) (by decide +kernel) (ev_vsh ok.toOk (i := 0) (j := 0) rfl rfl rfl)))))) (evxa_sh (up := (fun (d : ((List (((List Int) × (List Int) × Unit) ⊕ ((List Tx) × (List Tx) × Unit))) × Unit)) (w : ((List (((List Int) × (List Int) × Unit) ⊕ ((List Tx) × (List Tx) × Unit))) × Unit)) => (w.1, (fun (d : Unit) (_ : Unit) => d) d.2 w.2))) (md := .sh) (ev_vsh ok.toOk (i := 5) (j := 5) rfl rfl rfl) (evxa_ow (up := (fun (d : Unit) (_ : Unit) => d)) (evp_hl ok.toOk (.s (.s (.s .z))) (evp_name ok.toOk (i := 2) (j := 2) rfl rfl rfl) (ev_int (md := .sh))) evxa_nil (by decide))))))) (evb_ifx (wkX hX rfl) (evt_c ok.toOk (c_eq s_int) (ev_vsh ok.toOk (i := 3) (j := 3) rfl rfl rfl) (ev_int (md := .sh))) (evb_set ok (i := 4) (j := 4) rfl rfl (wkX hX rfl) .sh (ev_borrowP (i := 0) (.inl flStr) rfl (ev_meth0 ok.toOk (me_Loom_shed X) (by decide) (nm := ["threading", "ties", "pressed", "thrown", "done_deeds"]) (fun _ => rfl) (by decide +kernel) (ev_vsh ok.toOk (i := 0) (j := 0) rfl rfl rfl))) fun told254 => (evb_retXo (fo := fun (w_ : (O_Loom × (((List Bool) × (List (Tx × Tx × Unit)) × (List ((List Bool) × (List (Tx × Tx × Unit)) × Unit)) × (List (((List Int) × (List Int) × Unit) ⊕ ((List Tx) × (List Tx) × Unit))) × Unit) × Unit))) => [(sA (vs.headD .non) (wIns (cA p "Loom") ["threading", "ties", "pressed", "thrown", "done_deeds"] (waCons (wV (tList tInt)) (waCons (wV (tList (tList tInt))) (waCons (wL (wV tBool)) (waCons (wL (wV (tTup (aCons (tTupL tInt) (aCons tStr (aCons tStr aNil)))))) (waCons (wL (wV (tTup (aCons tStr (aCons tInt (aCons (tOpt (tTup (aCons (tTupL tInt) (aCons tStr (aCons tStr aNil))))) aNil)))))) waNil)))))) w_.1), sAny, (sA (vs.tail.tail.headD .non) (wHl (waCons (wL (wV tBool)) (waCons (wL (wV (tTup (aCons tStr (aCons tStr aNil))))) (waCons (wL (wTup (waCons (wL (wV tBool)) (waCons (wL (wV (tTup (aCons tStr (aCons tStr aNil))))) waNil)))) (waCons (wL (wV (tSum (tTup (aCons (tList tInt) (aCons (tList tInt) aNil))) (tTup (aCons (tList tStr) (aCons (tList tStr) aNil)))))) waNil))))) w_.2.1), sAny, sAny, sAny, sAny, sAny]) (mk := fun r77 => (r77, (made1, state3, ()))) (w := (made1, state3, ())) (.inl (wkX hX rfl)) (by intro _; rfl) (Wk.s (Wk.a (Wk.s (Wk.a (Wk.a (Wk.s (Wk.s (Wk.s Wk.n)))))))) (evn_v (ev_borrowP (i := 2) (.inl flBool) rfl (ev_and (ev_isi (md' := .sh) (r := true) ok.toOk (j := 1) rfl X.g_isinstance i_str (by decide +kernel) (ev_vsh ok.toOk (i := 4) (j := 4) rfl rfl rfl) (ev_ty (n := "str") (md := .sh) ok.toOk (j := 6) rfl X.g_str (by decide +kernel))) (ev_one (ev_c (md' := .sh) ok.toOk (c_eq s_str) (ev_vsh ok.toOk (i := 4) (j := 4) rfl rfl rfl) (ev_call (md' := .sh) ok.toOk (fn__law_shed X) (by decide) (j := 8) rfl .sh (eva_cons (md := .sh) (ev_ixA (n := 0) ok.toOk .z (ev_vsh ok.toOk (i := 1) (j := 1) rfl rfl rfl) (ev_int (md := .sh))) (eva_cons (md := .sh) (ev_ofL (evl_call (md' := .sh) ok.toOk (fn__law_lifted X) (by decide) (j := 7) rfl .sh (eva_cons (md := .sh) (ev_ixA (n := 1) ok.toOk (.s .z) (ev_vsh ok.toOk (i := 1) (j := 1) rfl rfl rfl) (ev_int (md := .sh))) (eva_cons (md := .sh) (ev_hlIx (n := 0) ok.toOk .z (ev_vsh ok.toOk (i := 2) (j := 2) rfl rfl rfl) (ev_int (md := .sh))) eva_nil)))) eva_nil)))))))))) (evb_ifx (wkX hX rfl) (evt_c ok.toOk (c_eq s_int) (ev_vsh ok.toOk (i := 3) (j := 3) rfl rfl rfl) (ev_int (md := .sh))) (evb_retXx (fo := fun (w_ : (O_Loom × (((List Bool) × (List (Tx × Tx × Unit)) × (List ((List Bool) × (List (Tx × Tx × Unit)) × Unit)) × (List (((List Int) × (List Int) × Unit) ⊕ ((List Tx) × (List Tx) × Unit))) × Unit) × Unit))) => [(sA (vs.headD .non) (wIns (cA p "Loom") ["threading", "ties", "pressed", "thrown", "done_deeds"] (waCons (wV (tList tInt)) (waCons (wV (tList (tList tInt))) (waCons (wL (wV tBool)) (waCons (wL (wV (tTup (aCons (tTupL tInt) (aCons tStr (aCons tStr aNil)))))) (waCons (wL (wV (tTup (aCons tStr (aCons tInt (aCons (tOpt (tTup (aCons (tTupL tInt) (aCons tStr (aCons tStr aNil))))) aNil)))))) waNil)))))) w_.1), sAny, (sA (vs.tail.tail.headD .non) (wHl (waCons (wL (wV tBool)) (waCons (wL (wV (tTup (aCons tStr (aCons tStr aNil))))) (waCons (wL (wTup (waCons (wL (wV tBool)) (waCons (wL (wV (tTup (aCons tStr (aCons tStr aNil))))) waNil)))) (waCons (wL (wV (tSum (tTup (aCons (tList tInt) (aCons (tList tInt) aNil))) (tTup (aCons (tList tStr) (aCons (tList tStr) aNil)))))) waNil))))) w_.2.1), sAny, sAny, sAny, sAny, sAny]) (mk := fun (x99 : Bool × (((List Bool) × (List (Tx × Tx × Unit)) × (List ((List Bool) × (List (Tx × Tx × Unit)) × Unit)) × (List (((List Int) × (List Int) × Unit) ⊕ ((List Tx) × (List Tx) × Unit))) × Unit) × Unit)) => (x99.1, (made1, x99.2.1, ()))) (w := fun t_ => (made1, t_.1, ())) (fun _ => rfl) (by exact fun t_ => (Wk.s (Wk.a (Wk.s (Wk.a (Wk.s (Wk.s (Wk.s (Wk.s Wk.n))))))))) (ex_call ok.toOk (fn__law_list__k2 X) (by decide) (j := 5) rfl (.any hX) (evxa_sh (up := (fun (d : ((List Tx) × ((List (((List Int) × (List Int) × Unit) ⊕ ((List Tx) × (List Tx) × Unit))) × Unit))) (w : ((List (((List Int) × (List Int) × Unit) ⊕ ((List Tx) × (List Tx) × Unit))) × Unit)) => (d.1, (fun (d : ((List (((List Int) × (List Int) × Unit) ⊕ ((List Tx) × (List Tx) × Unit))) × Unit)) (w : ((List (((List Int) × (List Int) × Unit) ⊕ ((List Tx) × (List Tx) × Unit))) × Unit)) => (w.1, (fun (d : Unit) (_ : Unit) => d) d.2 w.2)) d.2 w))) (md := .sh) (ev_sh (ev_borrowP (i := 0) (.inr rfl) rfl (ev_ofL (evl_flat (md' := .fx) flStr (evl_meth0 ok.toOk (me_Loom_cloth X) (by decide) (nm := ["threading", "ties", "pressed", "thrown", "done_deeds"]) (fun _ => rfl) (by decide +kernel) (ev_vsh ok.toOk (i := 0) (j := 0) rfl rfl rfl)))))) (evxa_sh (up := (fun (d : ((List (((List Int) × (List Int) × Unit) ⊕ ((List Tx) × (List Tx) × Unit))) × Unit)) (w : ((List (((List Int) × (List Int) × Unit) ⊕ ((List Tx) × (List Tx) × Unit))) × Unit)) => (w.1, (fun (d : Unit) (_ : Unit) => d) d.2 w.2))) (md := .sh) (ev_sh (ev_borrowP (i := 2) (.inr rfl) rfl (ev_ofL (evl_flat (md' := .fx) flStr (evl_lc (md := .sh) (VV' := ["one"]) (GG' := []) (i := 7) ok.toOk (evi_seq ok.toOk sq_l (ev_hlIx (n := 1) ok.toOk (.s .z) (ev_vsh ok.toOk (i := 2) (j := 2) rfl rfl rfl) (ev_int (md := .sh)))) rfl rfl no_any (by decide +kernel) (by decide +kernel) (by decide +kernel) (by decide +kernel) (fun g' okc one84 => evpts_nil) (fun g' okc one84 => (ev_ixA (n := 0) okc .z (ev_vsh okc (i := 7) (j := 0) rfl rfl rfl) (ev_int (md := .sh))))))))) (evxa_ow (up := (fun (d : Unit) (_ : Unit) => d)) (evp_hl ok.toOk (.s (.s (.s .z))) (evp_name ok.toOk (i := 2) (j := 2) rfl rfl rfl) (ev_int (md := .sh))) evxa_nil (by decide)))))) (evb_retXx (fo := fun (w_ : (O_Loom × (((List Bool) × (List (Tx × Tx × Unit)) × (List ((List Bool) × (List (Tx × Tx × Unit)) × Unit)) × (List (((List Int) × (List Int) × Unit) ⊕ ((List Tx) × (List Tx) × Unit))) × Unit) × Unit))) => [(sA (vs.headD .non) (wIns (cA p "Loom") ["threading", "ties", "pressed", "thrown", "done_deeds"] (waCons (wV (tList tInt)) (waCons (wV (tList (tList tInt))) (waCons (wL (wV tBool)) (waCons (wL (wV (tTup (aCons (tTupL tInt) (aCons tStr (aCons tStr aNil)))))) (waCons (wL (wV (tTup (aCons tStr (aCons tInt (aCons (tOpt (tTup (aCons (tTupL tInt) (aCons tStr (aCons tStr aNil))))) aNil)))))) waNil)))))) w_.1), sAny, (sA (vs.tail.tail.headD .non) (wHl (waCons (wL (wV tBool)) (waCons (wL (wV (tTup (aCons tStr (aCons tStr aNil))))) (waCons (wL (wTup (waCons (wL (wV tBool)) (waCons (wL (wV (tTup (aCons tStr (aCons tStr aNil))))) waNil)))) (waCons (wL (wV (tSum (tTup (aCons (tList tInt) (aCons (tList tInt) aNil))) (tTup (aCons (tList tStr) (aCons (tList tStr) aNil)))))) waNil))))) w_.2.1), sAny, sAny, sAny, sAny, sAny]) (mk := fun (x122 : Bool × (((List Bool) × (List (Tx × Tx × Unit)) × (List ((List Bool) × (List (Tx × Tx × Unit)) × Unit)) × (List (((List Int) × (List Int) × Unit) ⊕ ((List Tx) × (List Tx) × Unit))) × Unit) × Unit)) => (x122.1, (made1, x122.2.1, ()))) (w := fun t_ => (made1, t_.1, ())) (fun _ => rfl) (by exact fun t_ => (Wk.s (Wk.a (Wk.s (Wk.a (Wk.s (Wk.s (Wk.s (Wk.s Wk.n))))))))) (ex_call ok.toOk (fn__law_list__k2 X) (by decide) (j := 5) rfl (.any hX) (evxa_sh (up := (fun (d : ((List Tx) × ((List (((List Int) × (List Int) × Unit) ⊕ ((List Tx) × (List Tx) × Unit))) × Unit))) (w : ((List (((List Int) × (List Int) × Unit) ⊕ ((List Tx) × (List Tx) × Unit))) × Unit)) => (d.1, (fun (d : ((List (((List Int) × (List Int) × Unit) ⊕ ((List Tx) × (List Tx) × Unit))) × Unit)) (w : ((List (((List Int) × (List Int) × Unit) ⊕ ((List Tx) × (List Tx) × Unit))) × Unit)) => (w.1, (fun (d : Unit) (_ : Unit) => d) d.2 w.2)) d.2 w))) (md := .sh) (ev_sh (ev_borrowP (i := 0) (.inr rfl) rfl (ev_ofL (evl_flat (md' := .fx) flStr (evl_meth0 ok.toOk (me_Loom_colours X) (by decide) (nm := ["threading", "ties", "pressed", "thrown", "done_deeds"]) (fun _ => rfl) (by decide +kernel) (ev_vsh ok.toOk (i := 0) (j := 0) rfl rfl rfl)))))) (evxa_sh (up := (fun (d : ((List (((List Int) × (List Int) × Unit) ⊕ ((List Tx) × (List Tx) × Unit))) × Unit)) (w : ((List (((List Int) × (List Int) × Unit) ⊕ ((List Tx) × (List Tx) × Unit))) × Unit)) => (w.1, (fun (d : Unit) (_ : Unit) => d) d.2 w.2))) (md := .sh) (ev_sh (ev_borrowP (i := 2) (.inr rfl) rfl (ev_ofL (evl_flat (md' := .fx) flStr (evl_lc (md := .sh) (VV' := ["one"]) (GG' := []) (i := 7) ok.toOk (evi_seq ok.toOk sq_l (ev_hlIx (n := 1) ok.toOk (.s .z) (ev_vsh ok.toOk (i := 2) (j := 2) rfl rfl rfl) (ev_int (md := .sh)))) rfl rfl no_any (by decide +kernel) (by decide +kernel) (by decide +kernel) (by decide +kernel) (fun g' okc one107 => evpts_nil) (fun g' okc one107 => (ev_ixA (n := 1) okc (.s .z) (ev_vsh okc (i := 7) (j := 0) rfl rfl rfl) (ev_int (md := .sh))))))))) (evxa_ow (up := (fun (d : Unit) (_ : Unit) => d)) (evp_hl ok.toOk (.s (.s (.s .z))) (evp_name ok.toOk (i := 2) (j := 2) rfl rfl rfl) (ev_int (md := .sh))) evxa_nil (by decide))))))))))
theorem fn__law_answered {p : Pr} (X : Facts p) : Fn p 3 "_law_answered" ["made", "setting", "state", "way"] (spX p (waCons (wIns (cA p "Loom") ["threading", "ties", "pressed", "thrown", "done_deeds"] (waCons (wV (tList tInt)) (waCons (wV (tList (tList tInt))) (waCons (wL (wV tBool)) (waCons (wL (wV (tTup (aCons (tTupL tInt) (aCons tStr (aCons tStr aNil)))))) (waCons (wL (wV (tTup (aCons tStr (aCons tInt (aCons (tOpt (tTup (aCons (tTupL tInt) (aCons tStr (aCons tStr aNil))))) aNil)))))) waNil)))))) (waCons (wV (tTup (aCons (tList tInt) (aCons (tList (tList tInt)) aNil)))) (waCons (wHl (waCons (wL (wV tBool)) (waCons (wL (wV (tTup (aCons tStr (aCons tStr aNil))))) (waCons (wL (wTup (waCons (wL (wV tBool)) (waCons (wL (wV (tTup (aCons tStr (aCons tStr aNil))))) waNil)))) (waCons (wL (wV (tSum (tTup (aCons (tList tInt) (aCons (tList tInt) aNil))) (tTup (aCons (tList tStr) (aCons (tList tStr) aNil)))))) waNil))))) (waCons (wV tInt) waNil)))) (fun (d : (O_Loom × (((List Int) × (List (List Int)) × Unit) × (((List Bool) × (List (Tx × Tx × Unit)) × (List ((List Bool) × (List (Tx × Tx × Unit)) × Unit)) × (List (((List Int) × (List Int) × Unit) ⊕ ((List Tx) × (List Tx) × Unit))) × Unit) × (Int × Unit))))) (w : (O_Loom × (((List Bool) × (List (Tx × Tx × Unit)) × (List ((List Bool) × (List (Tx × Tx × Unit)) × Unit)) × (List (((List Int) × (List Int) × Unit) ⊕ ((List Tx) × (List Tx) × Unit))) × Unit) × Unit))) => (w.1, (fun (d : (((List Int) × (List (List Int)) × Unit) × (((List Bool) × (List (Tx × Tx × Unit)) × (List ((List Bool) × (List (Tx × Tx × Unit)) × Unit)) × (List (((List Int) × (List Int) × Unit) ⊕ ((List Tx) × (List Tx) × Unit))) × Unit) × (Int × Unit)))) (w : (((List Bool) × (List (Tx × Tx × Unit)) × (List ((List Bool) × (List (Tx × Tx × Unit)) × Unit)) × (List (((List Int) × (List Int) × Unit) ⊕ ((List Tx) × (List Tx) × Unit))) × Unit) × Unit)) => (d.1, (fun (d : (((List Bool) × (List (Tx × Tx × Unit)) × (List ((List Bool) × (List (Tx × Tx × Unit)) × Unit)) × (List (((List Int) × (List Int) × Unit) ⊕ ((List Tx) × (List Tx) × Unit))) × Unit) × (Int × Unit))) (w : (((List Bool) × (List (Tx × Tx × Unit)) × (List ((List Bool) × (List (Tx × Tx × Unit)) × Unit)) × (List (((List Int) × (List Int) × Unit) ⊕ ((List Tx) × (List Tx) × Unit))) × Unit) × Unit)) => (w.1, (fun (d : (Int × Unit)) (w : Unit) => (d.1, (fun (d : Unit) (_ : Unit) => d) d.2 w)) d.2 w.2)) d.2 w)) d.2 w.2)) (wV tBool) false c__law_answered) := by
  obtain ⟨f, fd, hF, hm⟩ := X.d__law_answered
  exact ⟨f, fd, eq__law_answered ▸ fn_X (D' := fun vs (r : (Bool × (O_Loom × (((List Bool) × (List (Tx × Tx × Unit)) × (List ((List Bool) × (List (Tx × Tx × Unit)) × Unit)) × (List (((List Int) × (List Int) × Unit) ⊕ ((List Tx) × (List Tx) × Unit))) × Unit) × Unit)))) => xOut (fun (w_ : (O_Loom × (((List Bool) × (List (Tx × Tx × Unit)) × (List ((List Bool) × (List (Tx × Tx × Unit)) × Unit)) × (List (((List Int) × (List Int) × Unit) ⊕ ((List Tx) × (List Tx) × Unit))) × Unit) × Unit))) => [(sA (vs.headD .non) (wIns (cA p "Loom") ["threading", "ties", "pressed", "thrown", "done_deeds"] (waCons (wV (tList tInt)) (waCons (wV (tList (tList tInt))) (waCons (wL (wV tBool)) (waCons (wL (wV (tTup (aCons (tTupL tInt) (aCons tStr (aCons tStr aNil)))))) (waCons (wL (wV (tTup (aCons tStr (aCons tInt (aCons (tOpt (tTup (aCons (tTupL tInt) (aCons tStr (aCons tStr aNil))))) aNil)))))) waNil)))))) w_.1), sAny, (sA (vs.tail.tail.headD .non) (wHl (waCons (wL (wV tBool)) (waCons (wL (wV (tTup (aCons tStr (aCons tStr aNil))))) (waCons (wL (wTup (waCons (wL (wV tBool)) (waCons (wL (wV (tTup (aCons tStr (aCons tStr aNil))))) waNil)))) (waCons (wL (wV (tSum (tTup (aCons (tList tInt) (aCons (tList tInt) aNil))) (tTup (aCons (tList tStr) (aCons (tList tStr) aNil)))))) waNil))))) w_.2.1), sAny, sAny, sAny, sAny, sAny]) (wV tBool) r) (kx := false) (m := 4) hF sc__law_answered (.ow (.sh (.ow (.sh .nil)))) rfl rfl (fun r vs fm Q h => h) (fun vs g ok d hX => bb__law_answered X ok vs d.1 d.2.1 d.2.2.1 d.2.2.2.1 hX), hm, hF.kp, hF.bindsN fun _ _ _ _ _ _ us hl => match us, hl with | [_, _, _, _], _ => rfl⟩
abbrev s__law_done : Stmt := (topS 32)
abbrev N__law_done : List Str := ["made", "setting", "state", "cell", "words", "mixed", "letter", "at", "due", "told"]
abbrev V__law_done : List Str := ["made", "setting", "state", "cell", "words", "mixed", "letter", "at", "due", "told"]
abbrev G__law_done : List Str := ["len", "_law_treadle", "_law_moved_on", "_law_try", "_law_answered", "_law_same"]
theorem sc__law_done : Sc s__law_done N__law_done V__law_done ["made", "setting", "state", "cell"] G__law_done := ⟨⟨rfl, rfl, rfl, by decide +kernel, rfl, by decide +kernel, by decide +kernel⟩, by decide +kernel, by decide +kernel, by decide +kernel⟩
def q__law_done (made1 : O_Loom) (setting2 : ((List Int) × (List (List Int)) × Unit)) (state3 : ((List Bool) × (List (Tx × Tx × Unit)) × (List ((List Bool) × (List (Tx × Tx × Unit)) × Unit)) × (List (((List Int) × (List Int) × Unit) ⊕ ((List Tx) × (List Tx) × Unit))) × Unit)) (cell4 : Int) : M (Bool × (O_Loom × (((List Bool) × (List (Tx × Tx × Unit)) × (List ((List Bool) × (List (Tx × Tx × Unit)) × Unit)) × (List (((List Int) × (List Int) × Unit) ⊕ ((List Tx) × (List Tx) × Unit))) × Unit) × Unit))) := M.bind (M.bind (M.ok (tx "press")) fun y20 => M.bind (M.bind (M.ok (tx "press")) fun y18 => M.bind (M.bind (M.ok (tx "lift")) fun y16 => M.bind (M.bind (M.ok (tx "throw")) fun y14 => M.bind (M.bind (M.ok (tx "throw")) fun y12 => M.bind (M.bind (M.ok (tx "unthrow")) fun y10 => M.bind (M.bind (M.ok (tx "undo")) fun y8 => M.bind (M.bind (M.ok (tx "undo")) fun y6 => M.bind (M.ok []) fun y7 => M.ok (y6 :: y7)) fun y9 => M.ok (y8 :: y9)) fun y11 => M.ok (y10 :: y11)) fun y13 => M.ok (y12 :: y13)) fun y15 => M.ok (y14 :: y15)) fun y17 => M.ok (y16 :: y17)) fun y19 => M.ok (y18 :: y19)) fun y21 => M.ok (y20 :: y21)) fun words5 => M.bind (M.bind (M.bind (M.ok cell4) fun y31 => M.ok (y31 * (48271 : Int))) fun y32 => M.ok (y32 % (2147483647 : Int))) fun mixed30 => M.bind (M.bind (M.ok (tx "abcdefghijklmnopqrstuvwxyz")) fun y36 => M.bind (M.bind (M.bind (M.ok mixed30) fun y34 => M.ok (y34 / (2 : Int))) fun y35 => M.ok (y35 % (26 : Int))) fun y37 => getS y36 y37) fun letter33 => M.bind (M.bind (M.bind (M.bind (M.ok cell4) fun y39 => M.ok (y39 / (8 : Int))) fun y44 => M.bind (M.bind (M.bind (M.bind (M.ok state3) fun y40 => M.ok y40.1) fun y41 => M.ok (y41.length : Int)) fun y42 => M.bind (M.ok ()) fun y43 => M.ok (y42, y43)) fun y45 => M.ok (y44, y45)) c__law_treadle) fun at38 => M.bind (M.bind (M.bind (M.ok setting2) fun y61 => M.bind (M.bind (M.ok (state3, fun (y : ((List Bool) × (List (Tx × Tx × Unit)) × (List ((List Bool) × (List (Tx × Tx × Unit)) × Unit)) × (List (((List Int) × (List Int) × Unit) ⊕ ((List Tx) × (List Tx) × Unit))) × Unit)) => y)) fun q58 => M.bind (M.bind (M.bind (M.ok words5) fun y50 => M.bind (M.bind (M.ok cell4) fun y49 => M.ok (y49 % (8 : Int))) fun y51 => getM y50 y51) fun y56 => M.bind (M.bind (M.ok at38) fun y54 => M.bind (M.bind (M.ok letter33) fun y52 => M.bind (M.ok ((), fun (_ : Unit) => ())) fun r53 => M.ok ((y52, r53.1), r53.2)) fun r55 => M.ok ((y54, r55.1), r55.2)) fun r57 => M.ok ((y56, r57.1), r57.2)) fun r59 => M.ok ((q58.1, r59.1), fun (w60 : ((List Bool) × (List (Tx × Tx × Unit)) × (List ((List Bool) × (List (Tx × Tx × Unit)) × Unit)) × (List (((List Int) × (List Int) × Unit) ⊕ ((List Tx) × (List Tx) × Unit))) × Unit) × Unit) => (q58.2 w60.1, r59.2 w60.2))) fun r62 => M.ok ((y61, r62.1), r62.2)) fun q63 => M.bind (c__law_moved_on q63.1) fun r64 => M.ok (r64.1, q63.2 r64.2)) fun x65 => M.bind (M.bind (M.bind (M.ok (made1, fun (y : O_Loom) => y)) fun q77 => M.bind (M.bind (M.bind (M.ok words5) fun y69 => M.bind (M.bind (M.ok cell4) fun y68 => M.ok (y68 % (8 : Int))) fun y70 => getM y69 y70) fun y75 => M.bind (M.bind (M.ok at38) fun y73 => M.bind (M.bind (M.ok letter33) fun y71 => M.bind (M.ok ((), fun (_ : Unit) => ())) fun r72 => M.ok ((y71, r72.1), r72.2)) fun r74 => M.ok ((y73, r74.1), r74.2)) fun r76 => M.ok ((y75, r76.1), r76.2)) fun r78 => M.ok ((q77.1, r78.1), fun (w79 : O_Loom × Unit) => (q77.2 w79.1, r78.2 w79.2))) fun q80 => M.bind (c__law_try q80.1) fun r81 => M.ok (r81.1, q80.2 r81.2)) fun x82 => M.bind (M.bind (M.bind (M.bind (M.ok x82.1) fun y102 => M.bind (M.bind (M.ok x65.1) fun y100 => M.bind (M.ok ()) fun y101 => M.ok (y100, y101)) fun y103 => M.ok (y102, y103)) c__law_same) fun c106 => if c106 = true then M.bind (M.bind (M.ok (x82.2.1, fun (y : O_Loom) => y)) fun q93 => M.bind (M.bind (M.ok setting2) fun y91 => M.bind (M.bind (M.ok (x65.2.1, fun (y : ((List Bool) × (List (Tx × Tx × Unit)) × (List ((List Bool) × (List (Tx × Tx × Unit)) × Unit)) × (List (((List Int) × (List Int) × Unit) ⊕ ((List Tx) × (List Tx) × Unit))) × Unit)) => y)) fun q88 => M.bind (M.bind (M.bind (M.bind (M.ok mixed30) fun y84 => M.ok (y84 / (52 : Int))) fun y85 => M.ok (y85 % (5 : Int))) fun y86 => M.bind (M.ok ((), fun (_ : Unit) => ())) fun r87 => M.ok ((y86, r87.1), r87.2)) fun r89 => M.ok ((q88.1, r89.1), fun (w90 : ((List Bool) × (List (Tx × Tx × Unit)) × (List ((List Bool) × (List (Tx × Tx × Unit)) × Unit)) × (List (((List Int) × (List Int) × Unit) ⊕ ((List Tx) × (List Tx) × Unit))) × Unit) × Unit) => (q88.2 w90.1, r89.2 w90.2))) fun r92 => M.ok ((y91, r92.1), r92.2)) fun r94 => M.ok ((q93.1, r94.1), fun (w95 : O_Loom × (((List Bool) × (List (Tx × Tx × Unit)) × (List ((List Bool) × (List (Tx × Tx × Unit)) × Unit)) × (List (((List Int) × (List Int) × Unit) ⊕ ((List Tx) × (List Tx) × Unit))) × Unit) × Unit)) => (q93.2 w95.1, r94.2 w95.2))) fun q96 => M.bind (c__law_answered q96.1) fun r97 => M.ok (r97.1, q96.2 r97.2) else M.ok (false, (x82.2.1, x65.2.1, ()))) fun x98 => M.ok (x98.1, (x98.2.1, x98.2.2.1, ()))
def f_law_done (made1 : O_Loom) (setting2 : ((List Int) × (List (List Int)) × Unit)) (state3 : ((List Bool) × (List (Tx × Tx × Unit)) × (List ((List Bool) × (List (Tx × Tx × Unit)) × Unit)) × (List (((List Int) × (List Int) × Unit) ⊕ ((List Tx) × (List Tx) × Unit))) × Unit)) (cell4 : Int) : M (Bool × (O_Loom × (((List Bool) × (List (Tx × Tx × Unit)) × (List ((List Bool) × (List (Tx × Tx × Unit)) × Unit)) × (List (((List Int) × (List Int) × Unit) ⊕ ((List Tx) × (List Tx) × Unit))) × Unit) × Unit))) := let words5 : (List Tx) := [(tx "press"), (tx "press"), (tx "lift"), (tx "throw"), (tx "throw"), (tx "unthrow"), (tx "undo"), (tx "undo")]; let mixed30 : Int := ((cell4 * (48271 : Int)) % (2147483647 : Int)); M.bind (getS (tx "abcdefghijklmnopqrstuvwxyz") ((mixed30 / (2 : Int)) % (26 : Int))) fun letter33 => M.bind (f_law_treadle (cell4 / (8 : Int)) (state3.1.length : Int)) fun at38 => M.bind (getM words5 (cell4 % (8 : Int))) fun y66 => M.bind (f_law_moved_on setting2 state3 y66 at38 letter33) fun x65 => M.bind (getM words5 (cell4 % (8 : Int))) fun y83 => M.bind (f_law_try made1 y83 at38 letter33) fun x82 => M.bind (M.bind (f_law_same x82.1 x65.1) fun c106 => if c106 = true then M.bind (f_law_answered x82.2.1 setting2 x65.2.1 ((mixed30 / (52 : Int)) % (5 : Int))) fun x99 => M.ok (x99.1, (x99.2.1, x99.2.2.1, ())) else M.ok (false, (x82.2.1, x65.2.1, ()))) fun x98 => M.ok (x98.1, (x98.2.1, x98.2.2.1, ()))
def r__law_done (d : (O_Loom × ((List Int) × (List (List Int)) × Unit) × ((List Bool) × (List (Tx × Tx × Unit)) × (List ((List Bool) × (List (Tx × Tx × Unit)) × Unit)) × (List (((List Int) × (List Int) × Unit) ⊕ ((List Tx) × (List Tx) × Unit))) × Unit) × Int × Unit)) : M (Bool × (O_Loom × (((List Bool) × (List (Tx × Tx × Unit)) × (List ((List Bool) × (List (Tx × Tx × Unit)) × Unit)) × (List (((List Int) × (List Int) × Unit) ⊕ ((List Tx) × (List Tx) × Unit))) × Unit) × Unit))) := q__law_done d.1 d.2.1 d.2.2.1 d.2.2.2.1
def c__law_done (d : (O_Loom × ((List Int) × (List (List Int)) × Unit) × ((List Bool) × (List (Tx × Tx × Unit)) × (List ((List Bool) × (List (Tx × Tx × Unit)) × Unit)) × (List (((List Int) × (List Int) × Unit) ⊕ ((List Tx) × (List Tx) × Unit))) × Unit) × Int × Unit)) : M (Bool × (O_Loom × (((List Bool) × (List (Tx × Tx × Unit)) × (List ((List Bool) × (List (Tx × Tx × Unit)) × Unit)) × (List (((List Int) × (List Int) × Unit) ⊕ ((List Tx) × (List Tx) × Unit))) × Unit) × Unit))) := f_law_done d.1 d.2.1 d.2.2.1 d.2.2.2.1
theorem eq__law_done : r__law_done = c__law_done := by funext d; first | (simp only [r__law_done, c__law_done, q__law_done, f_law_done, M.bind_assoc, M.bok, c__law_answered, c__law_moved_on, c__law_same, c__law_treadle, c__law_try]; done) | (simp only [r__law_done, c__law_done, q__law_done, f_law_done, M.bind_assoc, M.bok, c__law_answered, c__law_moved_on, c__law_same, c__law_treadle, c__law_try]; rfl)
theorem bb__law_done {p : Pr} (X : Facts p) {g : G} (ok : OkS p (defScope s__law_done) N__law_done V__law_done G__law_done 3 g) (vs : List V) (made1 : O_Loom) (setting2 : ((List Int) × (List (List Int)) × Unit)) (state3 : ((List Bool) × (List (Tx × Tx × Unit)) × (List ((List Bool) × (List (Tx × Tx × Unit)) × Unit)) × (List (((List Int) × (List Int) × Unit) ⊕ ((List Tx) × (List Tx) × Unit))) × Unit)) (cell4 : Int) (hX : g.LX = List.replicate N__law_done.length sAny) : EvB g [(sA (vs.headD .non) (wIns (cA p "Loom") ["threading", "ties", "pressed", "thrown", "done_deeds"] (waCons (wV (tList tInt)) (waCons (wV (tList (tList tInt))) (waCons (wL (wV tBool)) (waCons (wL (wV (tTup (aCons (tTupL tInt) (aCons tStr (aCons tStr aNil)))))) (waCons (wL (wV (tTup (aCons tStr (aCons tInt (aCons (tOpt (tTup (aCons (tTupL tInt) (aCons tStr (aCons tStr aNil))))) aNil)))))) waNil)))))) made1), (sV false (tTup (aCons (tList tInt) (aCons (tList (tList tInt)) aNil))) setting2), (sA (vs.tail.tail.headD .non) (wHl (waCons (wL (wV tBool)) (waCons (wL (wV (tTup (aCons tStr (aCons tStr aNil))))) (waCons (wL (wTup (waCons (wL (wV tBool)) (waCons (wL (wV (tTup (aCons tStr (aCons tStr aNil))))) waNil)))) (waCons (wL (wV (tSum (tTup (aCons (tList tInt) (aCons (tList tInt) aNil))) (tTup (aCons (tList tStr) (aCons (tList tStr) aNil)))))) waNil))))) state3), (sV false tInt cell4), sAny, sAny, sAny, sAny, sAny, sAny] (defBody s__law_done) (fun (r : (Bool × (O_Loom × (((List Bool) × (List (Tx × Tx × Unit)) × (List ((List Bool) × (List (Tx × Tx × Unit)) × Unit)) × (List (((List Int) × (List Int) × Unit) ⊕ ((List Tx) × (List Tx) × Unit))) × Unit) × Unit)))) => xOut (fun (w_ : (O_Loom × (((List Bool) × (List (Tx × Tx × Unit)) × (List ((List Bool) × (List (Tx × Tx × Unit)) × Unit)) × (List (((List Int) × (List Int) × Unit) ⊕ ((List Tx) × (List Tx) × Unit))) × Unit) × Unit))) => [(sA (vs.headD .non) (wIns (cA p "Loom") ["threading", "ties", "pressed", "thrown", "done_deeds"] (waCons (wV (tList tInt)) (waCons (wV (tList (tList tInt))) (waCons (wL (wV tBool)) (waCons (wL (wV (tTup (aCons (tTupL tInt) (aCons tStr (aCons tStr aNil)))))) (waCons (wL (wV (tTup (aCons tStr (aCons tInt (aCons (tOpt (tTup (aCons (tTupL tInt) (aCons tStr (aCons tStr aNil))))) aNil)))))) waNil)))))) w_.1), sAny, (sA (vs.tail.tail.headD .non) (wHl (waCons (wL (wV tBool)) (waCons (wL (wV (tTup (aCons tStr (aCons tStr aNil))))) (waCons (wL (wTup (waCons (wL (wV tBool)) (waCons (wL (wV (tTup (aCons tStr (aCons tStr aNil))))) waNil)))) (waCons (wL (wV (tSum (tTup (aCons (tList tInt) (aCons (tList tInt) aNil))) (tTup (aCons (tList tStr) (aCons (tList tStr) aNil)))))) waNil))))) w_.2.1), sAny, sAny, sAny, sAny, sAny, sAny, sAny]) (wV tBool) r) (q__law_done made1 setting2 state3 cell4) := (evb_set ok (i := 4) (j := 4) rfl rfl (wkX hX rfl) .sh (ev_ofL (evl_lstN (n := 8) (lnS (lnS (lnS (lnS (lnS (lnS (lnS (lnS ln0)))))))) (by decide) (evs_cons (ev_str (md := .sh) (by decide +kernel)) (evs_cons (ev_str (md := .sh) (by decide +kernel)) (evs_cons (ev_str (md := .sh) (by decide +kernel)) (evs_cons (ev_str (md := .sh) (by decide +kernel)) (evs_cons (ev_str (md := .sh) (by decide +kernel)) (evs_cons (ev_str (md := .sh) (by decide +kernel)) (evs_cons (ev_str (md := .sh) (by decide +kernel)) (evs_cons (ev_str (md := .sh) (by decide +kernel)) evs_nil)))))))))) fun words5 => (evb_set ok (i := 5) (j := 5) rfl rfl (wkX hX rfl) .sh (ev_modC (md' := .sh) ok.toOk (by decide) (ev_mulC (md' := .sh) ok.toOk (by decide) (ev_vsh ok.toOk (i := 3) (j := 3) rfl rfl rfl) (ev_int (md := .sh))) (ev_int (md := .sh))) fun mixed30 => (evb_set ok (i := 6) (j := 6) rfl rfl (wkX hX rfl) .sh (ev_ixS (md' := .sh) ok.toOk (ev_str (md := .sh) (by decide +kernel)) (ev_modC (md' := .sh) ok.toOk (by decide) (ev_divC (md' := .sh) ok.toOk (by decide) (by decide) (ev_vsh ok.toOk (i := 5) (j := 5) rfl rfl rfl) (ev_int (md := .sh))) (ev_int (md := .sh)))) fun letter33 => (evb_set ok (i := 7) (j := 7) rfl rfl (wkX hX rfl) .sh (ev_borrowP (i := 2) (.inl flInt) rfl (ev_call (md' := .sh) ok.toOk (fn__law_treadle X) (by decide) (j := 1) rfl .sh (eva_cons (md := .sh) (ev_divC (md' := .sh) ok.toOk (by decide) (by decide) (ev_vsh ok.toOk (i := 3) (j := 3) rfl rfl rfl) (ev_int (md := .sh))) (eva_cons (md := .sh) (ev_lenQ (md' := .sh) ok.toOk sq_l (j := 0) rfl X.g_len (ev_hlIx (n := 0) ok.toOk .z (ev_vsh ok.toOk (i := 2) (j := 2) rfl rfl rfl) (ev_int (md := .sh)))) eva_nil)))) fun at38 => (evb_setXV ok (i := 8) (j := 8) rfl rfl (ex_call ok.toOk (fn__law_moved_on X) (by decide) (j := 2) rfl (.any hX) (evxa_sh (up := (fun (d : (((List Bool) × (List (Tx × Tx × Unit)) × (List ((List Bool) × (List (Tx × Tx × Unit)) × Unit)) × (List (((List Int) × (List Int) × Unit) ⊕ ((List Tx) × (List Tx) × Unit))) × Unit) × (Tx × (Int × (Tx × Unit))))) (w : (((List Bool) × (List (Tx × Tx × Unit)) × (List ((List Bool) × (List (Tx × Tx × Unit)) × Unit)) × (List (((List Int) × (List Int) × Unit) ⊕ ((List Tx) × (List Tx) × Unit))) × Unit) × Unit)) => (w.1, (fun (d : (Tx × (Int × (Tx × Unit)))) (w : Unit) => (d.1, (fun (d : (Int × (Tx × Unit))) (w : Unit) => (d.1, (fun (d : (Tx × Unit)) (w : Unit) => (d.1, (fun (d : Unit) (_ : Unit) => d) d.2 w)) d.2 w)) d.2 w)) d.2 w.2))) (md := .sh) (ev_vsh ok.toOk (i := 1) (j := 1) rfl rfl rfl) (evxa_ow (up := (fun (d : (Tx × (Int × (Tx × Unit)))) (w : Unit) => (d.1, (fun (d : (Int × (Tx × Unit))) (w : Unit) => (d.1, (fun (d : (Tx × Unit)) (w : Unit) => (d.1, (fun (d : Unit) (_ : Unit) => d) d.2 w)) d.2 w)) d.2 w))) (evp_name ok.toOk (i := 2) (j := 2) rfl rfl rfl) (evxa_sh (up := (fun (d : (Int × (Tx × Unit))) (w : Unit) => (d.1, (fun (d : (Tx × Unit)) (w : Unit) => (d.1, (fun (d : Unit) (_ : Unit) => d) d.2 w)) d.2 w))) (md := .sh) (ev_ixQ ok.toOk sq_l (ev_vsh ok.toOk (i := 4) (j := 4) rfl rfl rfl) (ev_modC (md' := .sh) ok.toOk (by decide) (ev_vsh ok.toOk (i := 3) (j := 3) rfl rfl rfl) (ev_int (md := .sh)))) (evxa_sh (up := (fun (d : (Tx × Unit)) (w : Unit) => (d.1, (fun (d : Unit) (_ : Unit) => d) d.2 w))) (md := .sh) (ev_vsh ok.toOk (i := 7) (j := 7) rfl rfl rfl) (evxa_sh (up := (fun (d : Unit) (_ : Unit) => d)) (md := .sh) (ev_vsh ok.toOk (i := 6) (j := 6) rfl rfl rfl) evxa_nil))) (by decide)))) fun x65 => (evb_setXV ok (i := 9) (j := 9) rfl rfl (ex_call ok.toOk (fn__law_try X) (by decide) (j := 3) rfl (.any hX) (evxa_ow (up := (fun (d : (Tx × (Int × (Tx × Unit)))) (w : Unit) => (d.1, (fun (d : (Int × (Tx × Unit))) (w : Unit) => (d.1, (fun (d : (Tx × Unit)) (w : Unit) => (d.1, (fun (d : Unit) (_ : Unit) => d) d.2 w)) d.2 w)) d.2 w))) (evp_name ok.toOk (i := 0) (j := 0) rfl rfl rfl) (evxa_sh (up := (fun (d : (Int × (Tx × Unit))) (w : Unit) => (d.1, (fun (d : (Tx × Unit)) (w : Unit) => (d.1, (fun (d : Unit) (_ : Unit) => d) d.2 w)) d.2 w))) (md := .sh) (ev_ixQ ok.toOk sq_l (ev_vsh ok.toOk (i := 4) (j := 4) rfl rfl rfl) (ev_modC (md' := .sh) ok.toOk (by decide) (ev_vsh ok.toOk (i := 3) (j := 3) rfl rfl rfl) (ev_int (md := .sh)))) (evxa_sh (up := (fun (d : (Tx × Unit)) (w : Unit) => (d.1, (fun (d : Unit) (_ : Unit) => d) d.2 w))) (md := .sh) (ev_vsh ok.toOk (i := 7) (j := 7) rfl rfl rfl) (evxa_sh (up := (fun (d : Unit) (_ : Unit) => d)) (md := .sh) (ev_vsh ok.toOk (i := 6) (j := 6) rfl rfl rfl) evxa_nil))) (by decide))) fun x82 => (evb_retXx (fo := fun (w_ : (O_Loom × (((List Bool) × (List (Tx × Tx × Unit)) × (List ((List Bool) × (List (Tx × Tx × Unit)) × Unit)) × (List (((List Int) × (List Int) × Unit) ⊕ ((List Tx) × (List Tx) × Unit))) × Unit) × Unit))) => [(sA (vs.headD .non) (wIns (cA p "Loom") ["threading", "ties", "pressed", "thrown", "done_deeds"] (waCons (wV (tList tInt)) (waCons (wV (tList (tList tInt))) (waCons (wL (wV tBool)) (waCons (wL (wV (tTup (aCons (tTupL tInt) (aCons tStr (aCons tStr aNil)))))) (waCons (wL (wV (tTup (aCons tStr (aCons tInt (aCons (tOpt (tTup (aCons (tTupL tInt) (aCons tStr (aCons tStr aNil))))) aNil)))))) waNil)))))) w_.1), sAny, (sA (vs.tail.tail.headD .non) (wHl (waCons (wL (wV tBool)) (waCons (wL (wV (tTup (aCons tStr (aCons tStr aNil))))) (waCons (wL (wTup (waCons (wL (wV tBool)) (waCons (wL (wV (tTup (aCons tStr (aCons tStr aNil))))) waNil)))) (waCons (wL (wV (tSum (tTup (aCons (tList tInt) (aCons (tList tInt) aNil))) (tTup (aCons (tList tStr) (aCons (tList tStr) aNil)))))) waNil))))) w_.2.1), sAny, sAny, sAny, sAny, sAny, sAny, sAny]) (mk := fun (x98 : Bool × (O_Loom × (((List Bool) × (List (Tx × Tx × Unit)) × (List ((List Bool) × (List (Tx × Tx × Unit)) × Unit)) × (List (((List Int) × (List Int) × Unit) ⊕ ((List Tx) × (List Tx) × Unit))) × Unit) × Unit))) => (x98.1, (x98.2.1, x98.2.2.1, ()))) (w := fun t_ => (t_.1, t_.2.1, ())) (fun _ => rfl) (by exact fun t_ => (Wk.s (Wk.a (Wk.s (Wk.a (Wk.a (Wk.a (Wk.a (Wk.a (Wk.a (Wk.a Wk.n))))))))))) (ex_and (t0 := (x82.2.1, x65.2.1, ())) (.inl (wkX hX rfl)) (by rfl) (ev_call (md' := .sh) ok.toOk (fn__law_same X) (by decide) (j := 5) rfl .sh (eva_cons (md := .sh) (ev_vsh ok.toOk (i := 9) (j := 9) rfl rfl rfl) (eva_cons (md := .sh) (ev_vsh ok.toOk (i := 8) (j := 8) rfl rfl rfl) eva_nil))) (ex_one (ex_call ok.toOk (fn__law_answered X) (by decide) (j := 4) rfl (.any hX) (evxa_ow (up := (fun (d : (((List Int) × (List (List Int)) × Unit) × (((List Bool) × (List (Tx × Tx × Unit)) × (List ((List Bool) × (List (Tx × Tx × Unit)) × Unit)) × (List (((List Int) × (List Int) × Unit) ⊕ ((List Tx) × (List Tx) × Unit))) × Unit) × (Int × Unit)))) (w : (((List Bool) × (List (Tx × Tx × Unit)) × (List ((List Bool) × (List (Tx × Tx × Unit)) × Unit)) × (List (((List Int) × (List Int) × Unit) ⊕ ((List Tx) × (List Tx) × Unit))) × Unit) × Unit)) => (d.1, (fun (d : (((List Bool) × (List (Tx × Tx × Unit)) × (List ((List Bool) × (List (Tx × Tx × Unit)) × Unit)) × (List (((List Int) × (List Int) × Unit) ⊕ ((List Tx) × (List Tx) × Unit))) × Unit) × (Int × Unit))) (w : (((List Bool) × (List (Tx × Tx × Unit)) × (List ((List Bool) × (List (Tx × Tx × Unit)) × Unit)) × (List (((List Int) × (List Int) × Unit) ⊕ ((List Tx) × (List Tx) × Unit))) × Unit) × Unit)) => (w.1, (fun (d : (Int × Unit)) (w : Unit) => (d.1, (fun (d : Unit) (_ : Unit) => d) d.2 w)) d.2 w.2)) d.2 w))) (evp_name ok.toOk (i := 0) (j := 0) rfl rfl rfl) (evxa_sh (up := (fun (d : (((List Bool) × (List (Tx × Tx × Unit)) × (List ((List Bool) × (List (Tx × Tx × Unit)) × Unit)) × (List (((List Int) × (List Int) × Unit) ⊕ ((List Tx) × (List Tx) × Unit))) × Unit) × (Int × Unit))) (w : (((List Bool) × (List (Tx × Tx × Unit)) × (List ((List Bool) × (List (Tx × Tx × Unit)) × Unit)) × (List (((List Int) × (List Int) × Unit) ⊕ ((List Tx) × (List Tx) × Unit))) × Unit) × Unit)) => (w.1, (fun (d : (Int × Unit)) (w : Unit) => (d.1, (fun (d : Unit) (_ : Unit) => d) d.2 w)) d.2 w.2))) (md := .sh) (ev_vsh ok.toOk (i := 1) (j := 1) rfl rfl rfl) (evxa_ow (up := (fun (d : (Int × Unit)) (w : Unit) => (d.1, (fun (d : Unit) (_ : Unit) => d) d.2 w))) (evp_name ok.toOk (i := 2) (j := 2) rfl rfl rfl) (evxa_sh (up := (fun (d : Unit) (_ : Unit) => d)) (md := .sh) (ev_modC (md' := .sh) ok.toOk (by decide) (ev_divC (md' := .sh) ok.toOk (by decide) (by decide) (ev_vsh ok.toOk (i := 5) (j := 5) rfl rfl rfl) (ev_int (md := .sh))) (ev_int (md := .sh))) evxa_nil) (by decide))) (by decide))))))))))))
theorem fn__law_done {p : Pr} (X : Facts p) : Fn p 4 "_law_done" ["made", "setting", "state", "cell"] (spX p (waCons (wIns (cA p "Loom") ["threading", "ties", "pressed", "thrown", "done_deeds"] (waCons (wV (tList tInt)) (waCons (wV (tList (tList tInt))) (waCons (wL (wV tBool)) (waCons (wL (wV (tTup (aCons (tTupL tInt) (aCons tStr (aCons tStr aNil)))))) (waCons (wL (wV (tTup (aCons tStr (aCons tInt (aCons (tOpt (tTup (aCons (tTupL tInt) (aCons tStr (aCons tStr aNil))))) aNil)))))) waNil)))))) (waCons (wV (tTup (aCons (tList tInt) (aCons (tList (tList tInt)) aNil)))) (waCons (wHl (waCons (wL (wV tBool)) (waCons (wL (wV (tTup (aCons tStr (aCons tStr aNil))))) (waCons (wL (wTup (waCons (wL (wV tBool)) (waCons (wL (wV (tTup (aCons tStr (aCons tStr aNil))))) waNil)))) (waCons (wL (wV (tSum (tTup (aCons (tList tInt) (aCons (tList tInt) aNil))) (tTup (aCons (tList tStr) (aCons (tList tStr) aNil)))))) waNil))))) (waCons (wV tInt) waNil)))) (fun (d : (O_Loom × (((List Int) × (List (List Int)) × Unit) × (((List Bool) × (List (Tx × Tx × Unit)) × (List ((List Bool) × (List (Tx × Tx × Unit)) × Unit)) × (List (((List Int) × (List Int) × Unit) ⊕ ((List Tx) × (List Tx) × Unit))) × Unit) × (Int × Unit))))) (w : (O_Loom × (((List Bool) × (List (Tx × Tx × Unit)) × (List ((List Bool) × (List (Tx × Tx × Unit)) × Unit)) × (List (((List Int) × (List Int) × Unit) ⊕ ((List Tx) × (List Tx) × Unit))) × Unit) × Unit))) => (w.1, (fun (d : (((List Int) × (List (List Int)) × Unit) × (((List Bool) × (List (Tx × Tx × Unit)) × (List ((List Bool) × (List (Tx × Tx × Unit)) × Unit)) × (List (((List Int) × (List Int) × Unit) ⊕ ((List Tx) × (List Tx) × Unit))) × Unit) × (Int × Unit)))) (w : (((List Bool) × (List (Tx × Tx × Unit)) × (List ((List Bool) × (List (Tx × Tx × Unit)) × Unit)) × (List (((List Int) × (List Int) × Unit) ⊕ ((List Tx) × (List Tx) × Unit))) × Unit) × Unit)) => (d.1, (fun (d : (((List Bool) × (List (Tx × Tx × Unit)) × (List ((List Bool) × (List (Tx × Tx × Unit)) × Unit)) × (List (((List Int) × (List Int) × Unit) ⊕ ((List Tx) × (List Tx) × Unit))) × Unit) × (Int × Unit))) (w : (((List Bool) × (List (Tx × Tx × Unit)) × (List ((List Bool) × (List (Tx × Tx × Unit)) × Unit)) × (List (((List Int) × (List Int) × Unit) ⊕ ((List Tx) × (List Tx) × Unit))) × Unit) × Unit)) => (w.1, (fun (d : (Int × Unit)) (w : Unit) => (d.1, (fun (d : Unit) (_ : Unit) => d) d.2 w)) d.2 w.2)) d.2 w)) d.2 w.2)) (wV tBool) false c__law_done) := by
  obtain ⟨f, fd, hF, hm⟩ := X.d__law_done
  exact ⟨f, fd, eq__law_done ▸ fn_X (D' := fun vs (r : (Bool × (O_Loom × (((List Bool) × (List (Tx × Tx × Unit)) × (List ((List Bool) × (List (Tx × Tx × Unit)) × Unit)) × (List (((List Int) × (List Int) × Unit) ⊕ ((List Tx) × (List Tx) × Unit))) × Unit) × Unit)))) => xOut (fun (w_ : (O_Loom × (((List Bool) × (List (Tx × Tx × Unit)) × (List ((List Bool) × (List (Tx × Tx × Unit)) × Unit)) × (List (((List Int) × (List Int) × Unit) ⊕ ((List Tx) × (List Tx) × Unit))) × Unit) × Unit))) => [(sA (vs.headD .non) (wIns (cA p "Loom") ["threading", "ties", "pressed", "thrown", "done_deeds"] (waCons (wV (tList tInt)) (waCons (wV (tList (tList tInt))) (waCons (wL (wV tBool)) (waCons (wL (wV (tTup (aCons (tTupL tInt) (aCons tStr (aCons tStr aNil)))))) (waCons (wL (wV (tTup (aCons tStr (aCons tInt (aCons (tOpt (tTup (aCons (tTupL tInt) (aCons tStr (aCons tStr aNil))))) aNil)))))) waNil)))))) w_.1), sAny, (sA (vs.tail.tail.headD .non) (wHl (waCons (wL (wV tBool)) (waCons (wL (wV (tTup (aCons tStr (aCons tStr aNil))))) (waCons (wL (wTup (waCons (wL (wV tBool)) (waCons (wL (wV (tTup (aCons tStr (aCons tStr aNil))))) waNil)))) (waCons (wL (wV (tSum (tTup (aCons (tList tInt) (aCons (tList tInt) aNil))) (tTup (aCons (tList tStr) (aCons (tList tStr) aNil)))))) waNil))))) w_.2.1), sAny, sAny, sAny, sAny, sAny, sAny, sAny]) (wV tBool) r) (kx := false) (m := 6) hF sc__law_done (.ow (.sh (.ow (.sh .nil)))) rfl rfl (fun r vs fm Q h => h) (fun vs g ok d hX => bb__law_done X ok vs d.1 d.2.1 d.2.2.1 d.2.2.2.1 hX), hm, hF.kp, hF.bindsN fun _ _ _ _ _ _ us hl => match us, hl with | [_, _, _, _], _ => rfl⟩
abbrev s_law : Stmt := (topS 33)
abbrev N_law : List Str := ["script", "ends", "treadles", "high", "setting", "handed", "made", "states", "k", "cell", "at", "pair", "tie"]
abbrev V_law : List Str := ["script", "ends", "treadles", "high", "setting", "handed", "made", "states", "k", "cell", "at", "pair"]
abbrev G_law : List Str := ["_law_cell_at", "_law_size", "_law_threading", "_law_ties", "list", "Loom", "range", "_law_done", "len", "_law_answered"]
theorem sc_law : Sc s_law N_law V_law ["script"] G_law := ⟨⟨rfl, rfl, rfl, by decide +kernel, rfl, by decide +kernel, by decide +kernel⟩, by decide +kernel, by decide +kernel, by decide +kernel⟩
def r_f_law_l1 (setting47 : ((List Int) × (List (List Int)) × Unit)) : ((List ((List Bool) × (List (Tx × Tx × Unit)) × (List ((List Bool) × (List (Tx × Tx × Unit)) × Unit)) × (List (((List Int) × (List Int) × Unit) ⊕ ((List Tx) × (List Tx) × Unit))) × Unit))) → Int → M ((List ((List Bool) × (List (Tx × Tx × Unit)) × (List ((List Bool) × (List (Tx × Tx × Unit)) × Unit)) × (List (((List Int) × (List Int) × Unit) ⊕ ((List Tx) × (List Tx) × Unit))) × Unit))) := fun s111 k112 => M.bind (M.bind (M.bind (M.bind (M.ok setting47) fun y114 => M.ok y114.2.1) fun xs118 => compM (fun tie115 => M.bind (M.ok true) fun c116 => if c116 = true then M.bind (M.ok false) fun y117 => M.ok (some y117) else M.ok none) xs118) fun y125 => M.bind (M.bind (M.ok []) fun y123 => M.bind (M.bind (M.ok []) fun y121 => M.bind (M.bind (M.ok []) fun y119 => M.bind (M.ok ()) fun y120 => M.ok (y119, y120)) fun y122 => M.ok (y121, y122)) fun y124 => M.ok (y123, y124)) fun y126 => M.ok (y125, y126)) fun y131 => M.bind (pushM s111 y131) fun states113 => M.ok states113
def f_law_l1 (setting47 : ((List Int) × (List (List Int)) × Unit)) : ((List ((List Bool) × (List (Tx × Tx × Unit)) × (List ((List Bool) × (List (Tx × Tx × Unit)) × Unit)) × (List (((List Int) × (List Int) × Unit) ⊕ ((List Tx) × (List Tx) × Unit))) × Unit))) → Int → M ((List ((List Bool) × (List (Tx × Tx × Unit)) × (List ((List Bool) × (List (Tx × Tx × Unit)) × Unit)) × (List (((List Int) × (List Int) × Unit) ⊕ ((List Tx) × (List Tx) × Unit))) × Unit))) := fun s111 k112 => M.bind (M.bind (compM (fun tie115 => M.ok (some false)) setting47.2.1) fun y127 => M.ok (y127, ([]), ([]), ([]), ())) fun y131 => M.bind (pushM s111 y131) fun states113 => M.ok states113
theorem eq_f_law_l1 (setting47 : ((List Int) × (List (List Int)) × Unit)) : r_f_law_l1 setting47 = f_law_l1 setting47 := by funext s111 k112; first | (simp only [r_f_law_l1, f_law_l1, M.bind_assoc, M.bok, c_Loom_init, c__law_answered, c__law_cell_at, c__law_done, c__law_size, c__law_threading, c__law_ties]; done) | (simp only [r_f_law_l1, f_law_l1, M.bind_assoc, M.bok, c_Loom_init, c__law_answered, c__law_cell_at, c__law_done, c__law_size, c__law_threading, c__law_ties]; rfl)
def r_f_law_l2 (setting47 : ((List Int) × (List (List Int)) × Unit)) : ((List O_Loom) × (List ((List Bool) × (List (Tx × Tx × Unit)) × (List ((List Bool) × (List (Tx × Tx × Unit)) × Unit)) × (List (((List Int) × (List Int) × Unit) ⊕ ((List Tx) × (List Tx) × Unit))) × Unit))) → Int → M (Fl ((List O_Loom) × (List ((List Bool) × (List (Tx × Tx × Unit)) × (List ((List Bool) × (List (Tx × Tx × Unit)) × Unit)) × (List (((List Int) × (List Int) × Unit) ⊕ ((List Tx) × (List Tx) × Unit))) × Unit))) Bool) := fun s143 k144 => M.bind (M.bind (M.bind (M.bind (M.bind (M.ok (s143.1, fun (y : (List O_Loom)) => y)) fun y148 => M.bind (M.ok (0 : Int)) fun y149 => atP y148 y149) fun q159 => M.bind (M.bind (M.ok setting47) fun y157 => M.bind (M.bind (M.bind (M.ok (s143.2, fun (y : (List ((List Bool) × (List (Tx × Tx × Unit)) × (List ((List Bool) × (List (Tx × Tx × Unit)) × Unit)) × (List (((List Int) × (List Int) × Unit) ⊕ ((List Tx) × (List Tx) × Unit))) × Unit))) => y)) fun y150 => M.bind (M.ok (0 : Int)) fun y151 => atP y150 y151) fun q154 => M.bind (M.bind (M.bind (M.ok (3 : Int)) fun y146 => M.bind (M.bind (M.ok k144) fun y145 => M.ok ((8 : Int) * y145)) fun y147 => M.ok (y146 + y147)) fun y152 => M.bind (M.ok ((), fun (_ : Unit) => ())) fun r153 => M.ok ((y152, r153.1), r153.2)) fun r155 => M.ok ((q154.1, r155.1), fun (w156 : ((List Bool) × (List (Tx × Tx × Unit)) × (List ((List Bool) × (List (Tx × Tx × Unit)) × Unit)) × (List (((List Int) × (List Int) × Unit) ⊕ ((List Tx) × (List Tx) × Unit))) × Unit) × Unit) => (q154.2 w156.1, r155.2 w156.2))) fun r158 => M.ok ((y157, r158.1), r158.2)) fun r160 => M.ok ((q159.1, r160.1), fun (w161 : O_Loom × (((List Bool) × (List (Tx × Tx × Unit)) × (List ((List Bool) × (List (Tx × Tx × Unit)) × Unit)) × (List (((List Int) × (List Int) × Unit) ⊕ ((List Tx) × (List Tx) × Unit))) × Unit) × Unit)) => (q159.2 w161.1, r160.2 w161.2))) fun q162 => M.bind (c__law_done q162.1) fun r163 => M.ok (r163.1, q162.2 r163.2)) fun r168 => M.ok (!r168.1, r168.2)) fun x164 => if x164.1 = true then M.bind (M.ok false) fun r167 => M.ok (Fl.rt r167) else M.ok (Fl.nx (x164.2.1, x164.2.2.1))
def f_law_l2 (setting47 : ((List Int) × (List (List Int)) × Unit)) : ((List O_Loom) × (List ((List Bool) × (List (Tx × Tx × Unit)) × (List ((List Bool) × (List (Tx × Tx × Unit)) × Unit)) × (List (((List Int) × (List Int) × Unit) ⊕ ((List Tx) × (List Tx) × Unit))) × Unit))) → Int → M (Fl ((List O_Loom) × (List ((List Bool) × (List (Tx × Tx × Unit)) × (List ((List Bool) × (List (Tx × Tx × Unit)) × Unit)) × (List (((List Int) × (List Int) × Unit) ⊕ ((List Tx) × (List Tx) × Unit))) × Unit))) Bool) := fun s143 k144 => M.bind (atP (s143.1, fun (y : (List O_Loom)) => y) (0 : Int)) fun q165 => M.bind (atP (s143.2, fun (y : (List ((List Bool) × (List (Tx × Tx × Unit)) × (List ((List Bool) × (List (Tx × Tx × Unit)) × Unit)) × (List (((List Int) × (List Int) × Unit) ⊕ ((List Tx) × (List Tx) × Unit))) × Unit))) => y) (0 : Int)) fun q166 => M.bind (f_law_done q165.1 setting47 q166.1 ((3 : Int) + ((8 : Int) * k144))) fun x169 => let x164 : Bool × ((List O_Loom) × ((List ((List Bool) × (List (Tx × Tx × Unit)) × (List ((List Bool) × (List (Tx × Tx × Unit)) × Unit)) × (List (((List Int) × (List Int) × Unit) ⊕ ((List Tx) × (List Tx) × Unit))) × Unit)) × Unit)) := (x169.1, (q165.2 x169.2.1, q166.2 x169.2.2.1, ())); if (!x164.1) = true then M.ok (Fl.rt false) else M.ok (Fl.nx (x164.2.1, x164.2.2.1))
theorem eq_f_law_l2 (setting47 : ((List Int) × (List (List Int)) × Unit)) : r_f_law_l2 setting47 = f_law_l2 setting47 := by funext s143 k144; first | (simp only [r_f_law_l2, f_law_l2, M.bind_assoc, M.bok, eq_f_law_l1, c_Loom_init, c__law_answered, c__law_cell_at, c__law_done, c__law_size, c__law_threading, c__law_ties]; done) | (simp only [r_f_law_l2, f_law_l2, M.bind_assoc, M.bok, eq_f_law_l1, c_Loom_init, c__law_answered, c__law_cell_at, c__law_done, c__law_size, c__law_threading, c__law_ties]; rfl)
def r_f_law_l3 (script1 : (List Int)) (setting47 : ((List Int) × (List (List Int)) × Unit)) : ((List O_Loom) × (List ((List Bool) × (List (Tx × Tx × Unit)) × (List ((List Bool) × (List (Tx × Tx × Unit)) × Unit)) × (List (((List Int) × (List Int) × Unit) ⊕ ((List Tx) × (List Tx) × Unit))) × Unit))) → Int → M (Fl ((List O_Loom) × (List ((List Bool) × (List (Tx × Tx × Unit)) × (List ((List Bool) × (List (Tx × Tx × Unit)) × Unit)) × (List (((List Int) × (List Int) × Unit) ⊕ ((List Tx) × (List Tx) × Unit))) × Unit))) Bool) := fun s175 k176 => M.bind (M.bind (M.bind (M.ok script1) fun y180 => M.bind (M.bind (M.ok k176) fun y178 => M.bind (M.ok ()) fun y179 => M.ok (y178, y179)) fun y181 => M.ok (y180, y181)) c__law_cell_at) fun cell177 => M.bind (M.bind (M.bind (M.bind (M.ok cell177) fun y185 => M.ok (y185 * (16807 : Int))) fun y186 => M.ok (y186 % (2147483629 : Int))) fun y187 => M.ok (y187 % (2 : Int))) fun at184 => M.bind (M.bind (M.bind (M.bind (M.bind (M.ok (s175.1, fun (y : (List O_Loom)) => y)) fun y188 => M.bind (M.ok at184) fun y189 => atP y188 y189) fun q199 => M.bind (M.bind (M.ok setting47) fun y197 => M.bind (M.bind (M.bind (M.ok (s175.2, fun (y : (List ((List Bool) × (List (Tx × Tx × Unit)) × (List ((List Bool) × (List (Tx × Tx × Unit)) × Unit)) × (List (((List Int) × (List Int) × Unit) ⊕ ((List Tx) × (List Tx) × Unit))) × Unit))) => y)) fun y190 => M.bind (M.ok at184) fun y191 => atP y190 y191) fun q194 => M.bind (M.bind (M.ok cell177) fun y192 => M.bind (M.ok ((), fun (_ : Unit) => ())) fun r193 => M.ok ((y192, r193.1), r193.2)) fun r195 => M.ok ((q194.1, r195.1), fun (w196 : ((List Bool) × (List (Tx × Tx × Unit)) × (List ((List Bool) × (List (Tx × Tx × Unit)) × Unit)) × (List (((List Int) × (List Int) × Unit) ⊕ ((List Tx) × (List Tx) × Unit))) × Unit) × Unit) => (q194.2 w196.1, r195.2 w196.2))) fun r198 => M.ok ((y197, r198.1), r198.2)) fun r200 => M.ok ((q199.1, r200.1), fun (w201 : O_Loom × (((List Bool) × (List (Tx × Tx × Unit)) × (List ((List Bool) × (List (Tx × Tx × Unit)) × Unit)) × (List (((List Int) × (List Int) × Unit) ⊕ ((List Tx) × (List Tx) × Unit))) × Unit) × Unit)) => (q199.2 w201.1, r200.2 w201.2))) fun q202 => M.bind (c__law_done q202.1) fun r203 => M.ok (r203.1, q202.2 r203.2)) fun r208 => M.ok (!r208.1, r208.2)) fun x204 => if x204.1 = true then M.bind (M.ok false) fun r207 => M.ok (Fl.rt r207) else M.ok (Fl.nx (x204.2.1, x204.2.2.1))
def f_law_l3 (script1 : (List Int)) (setting47 : ((List Int) × (List (List Int)) × Unit)) : ((List O_Loom) × (List ((List Bool) × (List (Tx × Tx × Unit)) × (List ((List Bool) × (List (Tx × Tx × Unit)) × Unit)) × (List (((List Int) × (List Int) × Unit) ⊕ ((List Tx) × (List Tx) × Unit))) × Unit))) → Int → M (Fl ((List O_Loom) × (List ((List Bool) × (List (Tx × Tx × Unit)) × (List ((List Bool) × (List (Tx × Tx × Unit)) × Unit)) × (List (((List Int) × (List Int) × Unit) ⊕ ((List Tx) × (List Tx) × Unit))) × Unit))) Bool) := fun s175 k176 => M.bind (f_law_cell_at script1 k176) fun cell177 => let at184 : Int := (((cell177 * (16807 : Int)) % (2147483629 : Int)) % (2 : Int)); M.bind (atP (s175.1, fun (y : (List O_Loom)) => y) at184) fun q205 => M.bind (atP (s175.2, fun (y : (List ((List Bool) × (List (Tx × Tx × Unit)) × (List ((List Bool) × (List (Tx × Tx × Unit)) × Unit)) × (List (((List Int) × (List Int) × Unit) ⊕ ((List Tx) × (List Tx) × Unit))) × Unit))) => y) at184) fun q206 => M.bind (f_law_done q205.1 setting47 q206.1 cell177) fun x209 => let x204 : Bool × ((List O_Loom) × ((List ((List Bool) × (List (Tx × Tx × Unit)) × (List ((List Bool) × (List (Tx × Tx × Unit)) × Unit)) × (List (((List Int) × (List Int) × Unit) ⊕ ((List Tx) × (List Tx) × Unit))) × Unit)) × Unit)) := (x209.1, (q205.2 x209.2.1, q206.2 x209.2.2.1, ())); if (!x204.1) = true then M.ok (Fl.rt false) else M.ok (Fl.nx (x204.2.1, x204.2.2.1))
theorem eq_f_law_l3 (script1 : (List Int)) (setting47 : ((List Int) × (List (List Int)) × Unit)) : r_f_law_l3 script1 setting47 = f_law_l3 script1 setting47 := by funext s175 k176; first | (simp only [r_f_law_l3, f_law_l3, M.bind_assoc, M.bok, eq_f_law_l1, eq_f_law_l2, c_Loom_init, c__law_answered, c__law_cell_at, c__law_done, c__law_size, c__law_threading, c__law_ties]; done) | (simp only [r_f_law_l3, f_law_l3, M.bind_assoc, M.bok, eq_f_law_l1, eq_f_law_l2, c_Loom_init, c__law_answered, c__law_cell_at, c__law_done, c__law_size, c__law_threading, c__law_ties]; rfl)
def r_f_law_l4 (setting47 : ((List Int) × (List (List Int)) × Unit)) : ((List O_Loom) × (List ((List Bool) × (List (Tx × Tx × Unit)) × (List ((List Bool) × (List (Tx × Tx × Unit)) × Unit)) × (List (((List Int) × (List Int) × Unit) ⊕ ((List Tx) × (List Tx) × Unit))) × Unit))) → Int → M (Fl ((List O_Loom) × (List ((List Bool) × (List (Tx × Tx × Unit)) × (List ((List Bool) × (List (Tx × Tx × Unit)) × Unit)) × (List (((List Int) × (List Int) × Unit) ⊕ ((List Tx) × (List Tx) × Unit))) × Unit))) Bool) := fun s213 k214 => M.bind (M.bind (M.bind (M.bind (M.bind (M.ok (s213.1, fun (y : (List O_Loom)) => y)) fun y217 => M.bind (M.bind (M.ok k214) fun y216 => M.ok (y216 % (2 : Int))) fun y218 => atP y217 y218) fun q229 => M.bind (M.bind (M.ok setting47) fun y227 => M.bind (M.bind (M.bind (M.ok (s213.2, fun (y : (List ((List Bool) × (List (Tx × Tx × Unit)) × (List ((List Bool) × (List (Tx × Tx × Unit)) × Unit)) × (List (((List Int) × (List Int) × Unit) ⊕ ((List Tx) × (List Tx) × Unit))) × Unit))) => y)) fun y220 => M.bind (M.bind (M.ok k214) fun y219 => M.ok (y219 % (2 : Int))) fun y221 => atP y220 y221) fun q224 => M.bind (M.bind (M.bind (M.ok k214) fun y215 => M.ok (y215 / (2 : Int))) fun y222 => M.bind (M.ok ((), fun (_ : Unit) => ())) fun r223 => M.ok ((y222, r223.1), r223.2)) fun r225 => M.ok ((q224.1, r225.1), fun (w226 : ((List Bool) × (List (Tx × Tx × Unit)) × (List ((List Bool) × (List (Tx × Tx × Unit)) × Unit)) × (List (((List Int) × (List Int) × Unit) ⊕ ((List Tx) × (List Tx) × Unit))) × Unit) × Unit) => (q224.2 w226.1, r225.2 w226.2))) fun r228 => M.ok ((y227, r228.1), r228.2)) fun r230 => M.ok ((q229.1, r230.1), fun (w231 : O_Loom × (((List Bool) × (List (Tx × Tx × Unit)) × (List ((List Bool) × (List (Tx × Tx × Unit)) × Unit)) × (List (((List Int) × (List Int) × Unit) ⊕ ((List Tx) × (List Tx) × Unit))) × Unit) × Unit)) => (q229.2 w231.1, r230.2 w231.2))) fun q232 => M.bind (c__law_answered q232.1) fun r233 => M.ok (r233.1, q232.2 r233.2)) fun r238 => M.ok (!r238.1, r238.2)) fun x234 => if x234.1 = true then M.bind (M.ok false) fun r237 => M.ok (Fl.rt r237) else M.ok (Fl.nx (x234.2.1, x234.2.2.1))
def f_law_l4 (setting47 : ((List Int) × (List (List Int)) × Unit)) : ((List O_Loom) × (List ((List Bool) × (List (Tx × Tx × Unit)) × (List ((List Bool) × (List (Tx × Tx × Unit)) × Unit)) × (List (((List Int) × (List Int) × Unit) ⊕ ((List Tx) × (List Tx) × Unit))) × Unit))) → Int → M (Fl ((List O_Loom) × (List ((List Bool) × (List (Tx × Tx × Unit)) × (List ((List Bool) × (List (Tx × Tx × Unit)) × Unit)) × (List (((List Int) × (List Int) × Unit) ⊕ ((List Tx) × (List Tx) × Unit))) × Unit))) Bool) := fun s213 k214 => M.bind (atP (s213.1, fun (y : (List O_Loom)) => y) (k214 % (2 : Int))) fun q235 => M.bind (atP (s213.2, fun (y : (List ((List Bool) × (List (Tx × Tx × Unit)) × (List ((List Bool) × (List (Tx × Tx × Unit)) × Unit)) × (List (((List Int) × (List Int) × Unit) ⊕ ((List Tx) × (List Tx) × Unit))) × Unit))) => y) (k214 % (2 : Int))) fun q236 => M.bind (f_law_answered q235.1 setting47 q236.1 (k214 / (2 : Int))) fun x239 => let x234 : Bool × ((List O_Loom) × ((List ((List Bool) × (List (Tx × Tx × Unit)) × (List ((List Bool) × (List (Tx × Tx × Unit)) × Unit)) × (List (((List Int) × (List Int) × Unit) ⊕ ((List Tx) × (List Tx) × Unit))) × Unit)) × Unit)) := (x239.1, (q235.2 x239.2.1, q236.2 x239.2.2.1, ())); if (!x234.1) = true then M.ok (Fl.rt false) else M.ok (Fl.nx (x234.2.1, x234.2.2.1))
theorem eq_f_law_l4 (setting47 : ((List Int) × (List (List Int)) × Unit)) : r_f_law_l4 setting47 = f_law_l4 setting47 := by funext s213 k214; first | (simp only [r_f_law_l4, f_law_l4, M.bind_assoc, M.bok, eq_f_law_l1, eq_f_law_l2, eq_f_law_l3, c_Loom_init, c__law_answered, c__law_cell_at, c__law_done, c__law_size, c__law_threading, c__law_ties]; done) | (simp only [r_f_law_l4, f_law_l4, M.bind_assoc, M.bok, eq_f_law_l1, eq_f_law_l2, eq_f_law_l3, c_Loom_init, c__law_answered, c__law_cell_at, c__law_done, c__law_size, c__law_threading, c__law_ties]; rfl)
def r_f_law_l5  : Unit → (((List Int) × (List Int) × Unit) ⊕ ((List Tx) × (List Tx) × Unit)) → M (Fl Unit Bool) := fun s255 pair256 => M.bind (M.bind (M.bind (M.ok pair256) fun y257 => M.ok ((selm (fun a => .inl ((fun d : ((List Int) × (List Int) × Unit) => d.1) a)) (fun b => .inr ((fun d : ((List Tx) × (List Tx) × Unit) => d.1) b)) : (((List Int) × (List Int) × Unit) ⊕ ((List Tx) × (List Tx) × Unit)) → ((List Int) ⊕ (List Tx))) y257)) fun y259 => M.bind (M.bind (M.ok pair256) fun y258 => M.ok ((selm (fun a => .inl ((fun d : ((List Int) × (List Int) × Unit) => d.2.1) a)) (fun b => .inr ((fun d : ((List Tx) × (List Tx) × Unit) => d.2.1) b)) : (((List Int) × (List Int) × Unit) ⊕ ((List Tx) × (List Tx) × Unit)) → ((List Int) ⊕ (List Tx))) y258)) fun y260 => neqS y259 y260) fun c261 => if c261 = true then M.bind (M.ok false) fun r262 => M.ok (Fl.rt r262) else M.ok (Fl.nx ())
def f_law_l5  : Unit → (((List Int) × (List Int) × Unit) ⊕ ((List Tx) × (List Tx) × Unit)) → M (Fl Unit Bool) := fun s255 pair256 => M.bind (neqS ((selm (fun a => .inl ((fun d : ((List Int) × (List Int) × Unit) => d.1) a)) (fun b => .inr ((fun d : ((List Tx) × (List Tx) × Unit) => d.1) b)) : (((List Int) × (List Int) × Unit) ⊕ ((List Tx) × (List Tx) × Unit)) → ((List Int) ⊕ (List Tx))) pair256) ((selm (fun a => .inl ((fun d : ((List Int) × (List Int) × Unit) => d.2.1) a)) (fun b => .inr ((fun d : ((List Tx) × (List Tx) × Unit) => d.2.1) b)) : (((List Int) × (List Int) × Unit) ⊕ ((List Tx) × (List Tx) × Unit)) → ((List Int) ⊕ (List Tx))) pair256)) fun c263 => if c263 = true then M.ok (Fl.rt false) else M.ok (Fl.nx ())
theorem eq_f_law_l5  : r_f_law_l5  = f_law_l5  := by funext s255 pair256; first | (simp only [r_f_law_l5, f_law_l5, M.bind_assoc, M.bok, eq_f_law_l1, eq_f_law_l2, eq_f_law_l3, eq_f_law_l4, c_Loom_init, c__law_answered, c__law_cell_at, c__law_done, c__law_size, c__law_threading, c__law_ties]; done) | (simp only [r_f_law_l5, f_law_l5, M.bind_assoc, M.bok, eq_f_law_l1, eq_f_law_l2, eq_f_law_l3, eq_f_law_l4, c_Loom_init, c__law_answered, c__law_cell_at, c__law_done, c__law_size, c__law_threading, c__law_ties]; rfl)
def q_law (script1 : (List Int)) : M Bool := M.bind (M.bind (M.bind (M.bind (M.bind (M.ok script1) fun y5 => M.bind (M.bind (M.ok (0 : Int)) fun y3 => M.bind (M.ok ()) fun y4 => M.ok (y3, y4)) fun y6 => M.ok (y5, y6)) c__law_cell_at) fun y11 => M.bind (M.bind (M.ok (8 : Int)) fun y9 => M.bind (M.ok ()) fun y10 => M.ok (y9, y10)) fun y12 => M.ok (y11, y12)) c__law_size) fun ends2 => M.bind (M.bind (M.bind (M.bind (M.bind (M.ok script1) fun y18 => M.bind (M.bind (M.ok (1 : Int)) fun y16 => M.bind (M.ok ()) fun y17 => M.ok (y16, y17)) fun y19 => M.ok (y18, y19)) c__law_cell_at) fun y24 => M.bind (M.bind (M.ok (5 : Int)) fun y22 => M.bind (M.ok ()) fun y23 => M.ok (y22, y23)) fun y25 => M.ok (y24, y25)) c__law_size) fun treadles15 => M.bind (M.bind (M.bind (M.ok (4 : Int)) fun y33 => M.bind (M.bind (M.ok (8 : Int)) fun y31 => M.bind (M.bind (M.ok (40 : Int)) fun y29 => M.bind (M.ok []) fun y30 => M.ok (y29 :: y30)) fun y32 => M.ok (y31 :: y32)) fun y34 => M.ok (y33 :: y34)) fun y45 => M.bind (M.bind (M.bind (M.bind (M.ok script1) fun y40 => M.bind (M.bind (M.ok (2 : Int)) fun y38 => M.bind (M.ok ()) fun y39 => M.ok (y38, y39)) fun y41 => M.ok (y40, y41)) c__law_cell_at) fun y44 => M.ok (y44 % (3 : Int))) fun y46 => getM y45 y46) fun high28 => M.bind (M.bind (M.bind (M.bind (M.ok script1) fun y52 => M.bind (M.bind (M.ok ends2) fun y50 => M.bind (M.bind (M.ok high28) fun y48 => M.bind (M.ok ()) fun y49 => M.ok (y48, y49)) fun y51 => M.ok (y50, y51)) fun y53 => M.ok (y52, y53)) c__law_threading) fun y68 => M.bind (M.bind (M.bind (M.bind (M.ok script1) fun y61 => M.bind (M.bind (M.ok treadles15) fun y59 => M.bind (M.bind (M.ok high28) fun y57 => M.bind (M.ok ()) fun y58 => M.ok (y57, y58)) fun y60 => M.ok (y59, y60)) fun y62 => M.ok (y61, y62)) c__law_ties) fun y66 => M.bind (M.ok ()) fun y67 => M.ok (y66, y67)) fun y69 => M.ok (y68, y69)) fun setting47 => M.bind (M.bind (M.bind (M.ok setting47) fun y73 => M.ok y73.1) fun y81 => M.bind (M.bind (M.bind (M.bind (M.ok setting47) fun y74 => M.ok y74.2.1) fun xs78 => compM (fun tie75 => M.bind (M.ok true) fun c76 => if c76 = true then M.bind (M.ok tie75) fun y77 => M.ok (some y77) else M.ok none) xs78) fun y79 => M.bind (M.ok ()) fun y80 => M.ok (y79, y80)) fun y82 => M.ok (y81, y82)) fun handed72 => M.bind (M.bind (M.bind (M.bind (M.bind (M.bind (M.ok handed72) fun y86 => M.ok y86.1) fun y90 => M.bind (M.bind (M.bind (M.ok handed72) fun y87 => M.ok y87.2.1) fun y88 => M.bind (M.ok ()) fun y89 => M.ok (y88, y89)) fun y91 => M.ok (y90, y91)) c_Loom_init) fun y104 => M.bind (M.bind (M.bind (M.bind (M.bind (M.ok handed72) fun y94 => M.ok y94.1) fun y98 => M.bind (M.bind (M.bind (M.ok handed72) fun y95 => M.ok y95.2.1) fun y96 => M.bind (M.ok ()) fun y97 => M.ok (y96, y97)) fun y99 => M.ok (y98, y99)) c_Loom_init) fun y102 => M.bind (M.ok ()) fun y103 => M.ok (y102, y103)) fun y105 => M.ok (y104, y105)) fun y108 => M.ok ([y108.1, y108.2.1])) fun made85 => M.bind (M.ok []) fun states109 => M.bind (M.bind (M.ok (2 : Int)) fun y110 => rangeM 0 y110) fun xs132 => M.bind (forM (r_f_law_l1 setting47) states109 xs132) fun (s133 : ((List ((List Bool) × (List (Tx × Tx × Unit)) × (List ((List Bool) × (List (Tx × Tx × Unit)) × Unit)) × (List (((List Int) × (List Int) × Unit) ⊕ ((List Tx) × (List Tx) × Unit))) × Unit)))) => M.bind (M.bind (M.bind (M.bind (M.bind (M.bind (M.ok script1) fun y136 => M.bind (M.bind (M.ok (0 : Int)) fun y134 => M.bind (M.ok ()) fun y135 => M.ok (y134, y135)) fun y137 => M.ok (y136, y137)) c__law_cell_at) fun y140 => M.ok (y140 / (1280 : Int))) fun y141 => M.ok (y141 % (42 : Int))) fun y142 => rangeM 0 y142) fun xs170 => M.bind (forF (r_f_law_l2 setting47) (made85, s133) xs170) (Fl.el (fun (s171 : ((List O_Loom) × (List ((List Bool) × (List (Tx × Tx × Unit)) × (List ((List Bool) × (List (Tx × Tx × Unit)) × Unit)) × (List (((List Int) × (List Int) × Unit) ⊕ ((List Tx) × (List Tx) × Unit))) × Unit)))) => M.bind (M.bind (M.ok (3 : Int)) fun y173 => M.bind (M.bind (M.ok script1) fun y172 => M.ok (y172.length : Int)) fun y174 => rangeM y173 y174) fun xs210 => M.bind (forF (r_f_law_l3 script1 setting47) (s171.1, s171.2) xs210) (Fl.el (fun (s211 : ((List O_Loom) × (List ((List Bool) × (List (Tx × Tx × Unit)) × (List ((List Bool) × (List (Tx × Tx × Unit)) × Unit)) × (List (((List Int) × (List Int) × Unit) ⊕ ((List Tx) × (List Tx) × Unit))) × Unit)))) => M.bind (M.bind (M.ok (10 : Int)) fun y212 => rangeM 0 y212) fun xs240 => M.bind (forF (r_f_law_l4 setting47) (s211.1, s211.2) xs240) (Fl.el (fun (s241 : ((List O_Loom) × (List ((List Bool) × (List (Tx × Tx × Unit)) × (List ((List Bool) × (List (Tx × Tx × Unit)) × Unit)) × (List (((List Int) × (List Int) × Unit) ⊕ ((List Tx) × (List Tx) × Unit))) × Unit)))) => M.bind (M.bind (M.bind (M.bind (M.ok s241.2) fun y247 => M.bind (M.ok (0 : Int)) fun y248 => getM y247 y248) fun y249 => M.ok y249.2.2.2.1) fun y253 => M.bind (M.bind (M.bind (M.ok s241.2) fun y250 => M.bind (M.ok (1 : Int)) fun y251 => getM y250 y251) fun y252 => M.ok y252.2.2.2.1) fun y254 => catL y253 y254) fun xs264 => M.bind (forF r_f_law_l5 () xs264) (Fl.el (fun (s265 : Unit) => M.ok true) fun r267 => M.ok r267)) fun r268 => M.ok r268)) fun r269 => M.ok r269)) fun r270 => M.ok r270)
def f_law (script1 : (List Int)) : M Bool := M.bind (M.bind (f_law_cell_at script1 (0 : Int)) fun y13 => f_law_size y13 (8 : Int)) fun ends2 => M.bind (M.bind (f_law_cell_at script1 (1 : Int)) fun y26 => f_law_size y26 (5 : Int)) fun treadles15 => M.bind (M.bind (M.bind (f_law_cell_at script1 (2 : Int)) fun y44 => M.ok (y44 % (3 : Int))) fun y46 => getM ([(4 : Int), (8 : Int), (40 : Int)]) y46) fun high28 => M.bind (M.bind (f_law_threading script1 ends2 high28) fun y70 => M.bind (f_law_ties script1 treadles15 high28) fun y71 => M.ok (y70, y71, ())) fun setting47 => M.bind (M.bind (compM (fun tie75 => M.ok (some tie75)) setting47.2.1) fun y84 => M.ok (setting47.1, y84, ())) fun handed72 => M.bind (M.bind (M.bind (f_Loom_init handed72.1 handed72.2.1) fun y106 => M.bind (f_Loom_init handed72.1 handed72.2.1) fun y107 => M.ok (y106, y107, ())) fun y108 => M.ok ([y108.1, y108.2.1])) fun made85 => let states109 : (List ((List Bool) × (List (Tx × Tx × Unit)) × (List ((List Bool) × (List (Tx × Tx × Unit)) × Unit)) × (List (((List Int) × (List Int) × Unit) ⊕ ((List Tx) × (List Tx) × Unit))) × Unit)) := []; M.bind (rangeM 0 (2 : Int)) fun xs132 => M.bind (forM (f_law_l1 setting47) states109 xs132) fun (s133 : ((List ((List Bool) × (List (Tx × Tx × Unit)) × (List ((List Bool) × (List (Tx × Tx × Unit)) × Unit)) × (List (((List Int) × (List Int) × Unit) ⊕ ((List Tx) × (List Tx) × Unit))) × Unit)))) => M.bind (M.bind (M.bind (M.bind (f_law_cell_at script1 (0 : Int)) fun y140 => M.ok (y140 / (1280 : Int))) fun y141 => M.ok (y141 % (42 : Int))) fun y142 => rangeM 0 y142) fun xs170 => M.bind (forF (f_law_l2 setting47) (made85, s133) xs170) (Fl.el (fun (s171 : ((List O_Loom) × (List ((List Bool) × (List (Tx × Tx × Unit)) × (List ((List Bool) × (List (Tx × Tx × Unit)) × Unit)) × (List (((List Int) × (List Int) × Unit) ⊕ ((List Tx) × (List Tx) × Unit))) × Unit)))) => M.bind (rangeM (3 : Int) (script1.length : Int)) fun xs210 => M.bind (forF (f_law_l3 script1 setting47) (s171.1, s171.2) xs210) (Fl.el (fun (s211 : ((List O_Loom) × (List ((List Bool) × (List (Tx × Tx × Unit)) × (List ((List Bool) × (List (Tx × Tx × Unit)) × Unit)) × (List (((List Int) × (List Int) × Unit) ⊕ ((List Tx) × (List Tx) × Unit))) × Unit)))) => M.bind (rangeM 0 (10 : Int)) fun xs240 => M.bind (forF (f_law_l4 setting47) (s211.1, s211.2) xs240) (Fl.el (fun (s241 : ((List O_Loom) × (List ((List Bool) × (List (Tx × Tx × Unit)) × (List ((List Bool) × (List (Tx × Tx × Unit)) × Unit)) × (List (((List Int) × (List Int) × Unit) ⊕ ((List Tx) × (List Tx) × Unit))) × Unit)))) => M.bind (M.bind (M.bind (getM s241.2 (0 : Int)) fun y249 => M.ok y249.2.2.2.1) fun y253 => M.bind (M.bind (getM s241.2 (1 : Int)) fun y252 => M.ok y252.2.2.2.1) fun y254 => catL y253 y254) fun xs264 => M.bind (forF f_law_l5 () xs264) (Fl.el (fun (s265 : Unit) => M.ok true) fun r267 => M.ok r267)) fun r268 => M.ok r268)) fun r269 => M.ok r269)) fun r270 => M.ok r270)
def r_law (d : ((List Int) × Unit)) : M Bool := q_law d.1
def c_law (d : ((List Int) × Unit)) : M Bool := f_law d.1
theorem eq_law : r_law = c_law := by funext d; first | (simp only [r_law, c_law, q_law, f_law, M.bind_assoc, M.bok, eq_f_law_l1, eq_f_law_l2, eq_f_law_l3, eq_f_law_l4, eq_f_law_l5, c_Loom_init, c__law_answered, c__law_cell_at, c__law_done, c__law_size, c__law_threading, c__law_ties]; done) | (simp only [r_law, c_law, q_law, f_law, M.bind_assoc, M.bok, eq_f_law_l1, eq_f_law_l2, eq_f_law_l3, eq_f_law_l4, eq_f_law_l5, c_Loom_init, c__law_answered, c__law_cell_at, c__law_done, c__law_size, c__law_threading, c__law_ties]; rfl)
theorem bb_law {p : Pr} (X : Facts p) {g : G} (ok : OkS p (defScope s_law) N_law V_law G_law 6 g) (hX : g.LX = List.replicate N_law.length sAny) (script1 : (List Int)) : EvB g [(sV false (tListK p.K tInt) script1), sAny, sAny, sAny, sAny, sAny, sAny, sAny, sAny, sAny, sAny, sAny, sAny] (defBody s_law) (fun r => .rt false tBool r) (q_law script1) := (evb_set ok (i := 1) (j := 1) rfl rfl (wkX hX rfl) .sh (ev_call (md' := .sh) ok.toOk (fn__law_size X) (by decide) (j := 1) rfl .sh (eva_cons (md := .sh) (ev_call (md' := .sh) ok.toOk (fn__law_cell_at X) (by decide) (j := 0) rfl .sh (eva_cons (md := .sh) (ev_vsh ok.toOk (i := 0) (j := 0) rfl rfl rfl) (eva_cons (md := .sh) (ev_int (md := .sh)) eva_nil))) (eva_cons (md := .sh) (ev_int (md := .sh)) eva_nil))) fun ends2 => (evb_set ok (i := 2) (j := 2) rfl rfl (wkX hX rfl) .sh (ev_call (md' := .sh) ok.toOk (fn__law_size X) (by decide) (j := 1) rfl .sh (eva_cons (md := .sh) (ev_call (md' := .sh) ok.toOk (fn__law_cell_at X) (by decide) (j := 0) rfl .sh (eva_cons (md := .sh) (ev_vsh ok.toOk (i := 0) (j := 0) rfl rfl rfl) (eva_cons (md := .sh) (ev_int (md := .sh)) eva_nil))) (eva_cons (md := .sh) (ev_int (md := .sh)) eva_nil))) fun treadles15 => (evb_set ok (i := 3) (j := 3) rfl rfl (wkX hX rfl) .sh (ev_ixQ ok.toOk sq_l (ev_ofL (evl_lstN (n := 3) (lnS (lnS (lnS ln0))) (by decide) (evs_cons (ev_int (md := .sh)) (evs_cons (ev_int (md := .sh)) (evs_cons (ev_int (md := .sh)) evs_nil))))) (ev_modC (md' := .sh) ok.toOk (by decide) (ev_call (md' := .sh) ok.toOk (fn__law_cell_at X) (by decide) (j := 0) rfl .sh (eva_cons (md := .sh) (ev_vsh ok.toOk (i := 0) (j := 0) rfl rfl rfl) (eva_cons (md := .sh) (ev_int (md := .sh)) eva_nil))) (ev_int (md := .sh)))) fun high28 => (evb_set ok (i := 4) (j := 4) rfl rfl (wkX hX rfl) .sh (ev_tup (fun d vs R h => by rw [(lenS (lenS len0)) h]; decide) (eva_cons (ev_ofL (evl_call (md' := .sh) ok.toOk (fn__law_threading X) (by decide) (j := 2) rfl .sh (eva_cons (md := .sh) (ev_vsh ok.toOk (i := 0) (j := 0) rfl rfl rfl) (eva_cons (md := .sh) (ev_vsh ok.toOk (i := 1) (j := 1) rfl rfl rfl) (eva_cons (md := .sh) (ev_vsh ok.toOk (i := 3) (j := 3) rfl rfl rfl) eva_nil))))) (eva_cons (ev_ofL (evl_call (md' := .sh) ok.toOk (fn__law_ties X) (by decide) (j := 3) rfl .sh (eva_cons (md := .sh) (ev_vsh ok.toOk (i := 0) (j := 0) rfl rfl rfl) (eva_cons (md := .sh) (ev_vsh ok.toOk (i := 2) (j := 2) rfl rfl rfl) (eva_cons (md := .sh) (ev_vsh ok.toOk (i := 3) (j := 3) rfl rfl rfl) eva_nil))))) eva_nil))) fun setting47 => (evb_set ok (i := 5) (j := 5) rfl rfl (wkX hX rfl) .sh (ev_tup (fun d vs R h => by rw [(lenS (lenS len0)) h]; decide) (eva_cons (ev_ofL (evl_copyQ (md := .sh) ok.toOk sq_l (j := 4) rfl X.g_list (ev_ixA (n := 0) ok.toOk .z (ev_vsh ok.toOk (i := 4) (j := 4) rfl rfl rfl) (ev_int (md := .sh))))) (eva_cons (ev_ofL (evl_lc (md := .sh) (VV' := ["tie"]) (GG' := ["list"]) (i := 12) ok.toOk (evi_seq ok.toOk sq_l (ev_ixA (n := 1) ok.toOk (.s .z) (ev_vsh ok.toOk (i := 4) (j := 4) rfl rfl rfl) (ev_int (md := .sh)))) rfl rfl no_any (by decide +kernel) (by decide +kernel) (by decide +kernel) (by decide +kernel) (fun g' okc tie75 => evpts_nil) (fun g' okc tie75 => (ev_ofL (evl_copyQ (md := .sh) okc sq_l (j := 0) rfl X.g_list (ev_vsh okc (i := 12) (j := 0) rfl rfl rfl)))))) eva_nil))) fun handed72 => (evb_setN ok (i := 6) (j := 6) rfl rfl (.inl (wkX hX rfl)) (evn_two (evn_r (evr_hl (lenWl (n := 2) (by decide) (lenWS (lenWS @lenW0))) (evra_cons ok.toOk (evr_n (evm_n (evm_make (md' := .fx) ok.toOk (mk_Loom_init X) (by decide) (j := 5) rfl .fx (eva_cons (md := .sh) (ev_ixA (n := 0) ok.toOk .z (ev_vsh ok.toOk (i := 5) (j := 5) rfl rfl rfl) (ev_int (md := .sh))) (eva_cons (md := .sh) (ev_ixA (n := 1) ok.toOk (.s .z) (ev_vsh ok.toOk (i := 5) (j := 5) rfl rfl rfl) (ev_int (md := .sh))) eva_nil))))) (fun g okr => (evra_cons okr (evr_n (evm_n (evm_make (md' := .fx) okr (mk_Loom_init X) (by decide) (j := 5) rfl .fx (eva_cons (md := .sh) (ev_ixA (n := 0) okr .z (ev_vsh okr (i := 5) (j := 5) rfl rfl rfl) (ev_int (md := .sh))) (eva_cons (md := .sh) (ev_ixA (n := 1) okr (.s .z) (ev_vsh okr (i := 5) (j := 5) rfl rfl rfl) (ev_int (md := .sh))) eva_nil))))) (fun g okr => evra_nil) (by decide))) (by decide))))) fun made85 => (evb_setN ok (i := 7) (j := 7) rfl rfl (.inl (wkX hX rfl)) evn_lnil fun states109 => (evb_for (LF := (fun (s111 : ((List ((List Bool) × (List (Tx × Tx × Unit)) × (List ((List Bool) × (List (Tx × Tx × Unit)) × Unit)) × (List (((List Int) × (List Int) × Unit) ⊕ ((List Tx) × (List Tx) × Unit))) × Unit)))) => [(sV false (tListK p.K tInt) script1), (sV false tInt ends2), (sV false tInt treadles15), (sV false tInt high28), (sV false (tTup (aCons (tList tInt) (aCons (tList (tList tInt)) aNil))) setting47), (sV false (tTup (aCons (tList tInt) (aCons (tList (tList tInt)) aNil))) handed72), (sO (wL (wIns (cA p "Loom") ["threading", "ties", "pressed", "thrown", "done_deeds"] (waCons (wV (tList tInt)) (waCons (wV (tList (tList tInt))) (waCons (wL (wV tBool)) (waCons (wL (wV (tTup (aCons (tTupL tInt) (aCons tStr (aCons tStr aNil)))))) (waCons (wL (wV (tTup (aCons tStr (aCons tInt (aCons (tOpt (tTup (aCons (tTupL tInt) (aCons tStr (aCons tStr aNil))))) aNil)))))) waNil))))))) made85), (sO (wL (wHl (waCons (wL (wV tBool)) (waCons (wL (wV (tTup (aCons tStr (aCons tStr aNil))))) (waCons (wL (wTup (waCons (wL (wV tBool)) (waCons (wL (wV (tTup (aCons tStr (aCons tStr aNil))))) waNil)))) (waCons (wL (wV (tSum (tTup (aCons (tList tInt) (aCons (tList tInt) aNil))) (tTup (aCons (tList tStr) (aCons (tList tStr) aNil)))))) waNil)))))) s111), sAny, sAny, sAny, sAny, sAny])) (s0 := states109) ok (wkX hX rfl) (evi_range1 ok.toOk (j := 6) rfl X.g_range (ev_int (md := .sh))) (Wk.s (Wk.s (Wk.s (Wk.s (Wk.s (Wk.s (Wk.s (Wk.s (Wk.s (Wk.s (Wk.s (Wk.s (Wk.s Wk.n))))))))))))) (fun _ => evg_name ok (i := 8) (j := 8) rfl rfl) (fun s111 k112 => (evb_nAppend ok (i := 7) (j := 7) rfl rfl rfl (wkX hX rfl) (evn_r (evr_hl (lenWl (n := 4) (by decide) (lenWS (lenWS (lenWS (lenWS @lenW0))))) (evra_cons ok.toOk (evr_n (evn_l (evl_lc (md := .sh) (VV' := []) (GG' := []) (i := 12) ok.toOk (evi_seq ok.toOk sq_l (ev_ixA (n := 1) ok.toOk (.s .z) (ev_vsh ok.toOk (i := 4) (j := 4) rfl rfl rfl) (ev_int (md := .sh)))) rfl rfl no_any (by decide +kernel) (by decide +kernel) (by decide +kernel) (by decide +kernel) (fun g' okc tie115 => evpts_nil) (fun g' okc tie115 => (ev_bool (md := .sh)))))) (fun g okr => (evra_cons okr (evr_n (evn_l (evl_nil (md := .sh) (S := (tTup (aCons tStr (aCons tStr aNil))))))) (fun g okr => (evra_cons okr (evr_n evn_lnil) (fun g okr => (evra_cons okr (evr_n (evn_l (evl_nil (md := .sh) (S := (tSum (tTup (aCons (tList tInt) (aCons (tList tInt) aNil))) (tTup (aCons (tList tStr) (aCons (tList tStr) aNil)))))))) (fun g okr => evra_nil) (by decide))) (by decide))) (by decide))) (by decide)))) fun states113 => (evb_go (by rfl) (Wk.s (Wk.s (Wk.s (Wk.s (Wk.s (Wk.s (Wk.s (Wk.s (Wk.a (Wk.s (Wk.s (Wk.s (Wk.s Wk.n)))))))))))))))) fun s133 => (evb_forF (LF := (fun (s143 : ((List O_Loom) × (List ((List Bool) × (List (Tx × Tx × Unit)) × (List ((List Bool) × (List (Tx × Tx × Unit)) × Unit)) × (List (((List Int) × (List Int) × Unit) ⊕ ((List Tx) × (List Tx) × Unit))) × Unit)))) => [(sV false (tListK p.K tInt) script1), (sV false tInt ends2), (sV false tInt treadles15), (sV false tInt high28), (sV false (tTup (aCons (tList tInt) (aCons (tList (tList tInt)) aNil))) setting47), (sV false (tTup (aCons (tList tInt) (aCons (tList (tList tInt)) aNil))) handed72), (sO (wL (wIns (cA p "Loom") ["threading", "ties", "pressed", "thrown", "done_deeds"] (waCons (wV (tList tInt)) (waCons (wV (tList (tList tInt))) (waCons (wL (wV tBool)) (waCons (wL (wV (tTup (aCons (tTupL tInt) (aCons tStr (aCons tStr aNil)))))) (waCons (wL (wV (tTup (aCons tStr (aCons tInt (aCons (tOpt (tTup (aCons (tTupL tInt) (aCons tStr (aCons tStr aNil))))) aNil)))))) waNil))))))) s143.1), (sO (wL (wHl (waCons (wL (wV tBool)) (waCons (wL (wV (tTup (aCons tStr (aCons tStr aNil))))) (waCons (wL (wTup (waCons (wL (wV tBool)) (waCons (wL (wV (tTup (aCons tStr (aCons tStr aNil))))) waNil)))) (waCons (wL (wV (tSum (tTup (aCons (tList tInt) (aCons (tList tInt) aNil))) (tTup (aCons (tList tStr) (aCons (tList tStr) aNil)))))) waNil)))))) s143.2), sAny, sAny, sAny, sAny, sAny])) (s0 := (made85, s133)) (dr := fun r270 => r270) ok (wkX hX rfl) (evi_range1 ok.toOk (j := 6) rfl X.g_range (ev_modC (md' := .sh) ok.toOk (by decide) (ev_divC (md' := .sh) ok.toOk (by decide) (by decide) (ev_call (md' := .sh) ok.toOk (fn__law_cell_at X) (by decide) (j := 0) rfl .sh (eva_cons (md := .sh) (ev_vsh ok.toOk (i := 0) (j := 0) rfl rfl rfl) (eva_cons (md := .sh) (ev_int (md := .sh)) eva_nil))) (ev_int (md := .sh))) (ev_int (md := .sh)))) (Wk.s (Wk.s (Wk.s (Wk.s (Wk.s (Wk.s (Wk.s (Wk.s (Wk.s (Wk.s (Wk.s (Wk.s (Wk.s Wk.n))))))))))))) (fun _ => evg_name ok (i := 8) (j := 8) rfl rfl) (fun s143 k144 => (evb_ifxX (evtx_not (evtx_of (ex_call ok.toOk (fn__law_done X) (by decide) (j := 7) rfl (.any hX) (evxa_ow (up := (fun (d : (((List Int) × (List (List Int)) × Unit) × (((List Bool) × (List (Tx × Tx × Unit)) × (List ((List Bool) × (List (Tx × Tx × Unit)) × Unit)) × (List (((List Int) × (List Int) × Unit) ⊕ ((List Tx) × (List Tx) × Unit))) × Unit) × (Int × Unit)))) (w : (((List Bool) × (List (Tx × Tx × Unit)) × (List ((List Bool) × (List (Tx × Tx × Unit)) × Unit)) × (List (((List Int) × (List Int) × Unit) ⊕ ((List Tx) × (List Tx) × Unit))) × Unit) × Unit)) => (d.1, (fun (d : (((List Bool) × (List (Tx × Tx × Unit)) × (List ((List Bool) × (List (Tx × Tx × Unit)) × Unit)) × (List (((List Int) × (List Int) × Unit) ⊕ ((List Tx) × (List Tx) × Unit))) × Unit) × (Int × Unit))) (w : (((List Bool) × (List (Tx × Tx × Unit)) × (List ((List Bool) × (List (Tx × Tx × Unit)) × Unit)) × (List (((List Int) × (List Int) × Unit) ⊕ ((List Tx) × (List Tx) × Unit))) × Unit) × Unit)) => (w.1, (fun (d : (Int × Unit)) (w : Unit) => (d.1, (fun (d : Unit) (_ : Unit) => d) d.2 w)) d.2 w.2)) d.2 w))) (evp_ix ok.toOk (evp_name ok.toOk (i := 6) (j := 6) rfl rfl rfl) (ev_int (md := .sh))) (evxa_sh (up := (fun (d : (((List Bool) × (List (Tx × Tx × Unit)) × (List ((List Bool) × (List (Tx × Tx × Unit)) × Unit)) × (List (((List Int) × (List Int) × Unit) ⊕ ((List Tx) × (List Tx) × Unit))) × Unit) × (Int × Unit))) (w : (((List Bool) × (List (Tx × Tx × Unit)) × (List ((List Bool) × (List (Tx × Tx × Unit)) × Unit)) × (List (((List Int) × (List Int) × Unit) ⊕ ((List Tx) × (List Tx) × Unit))) × Unit) × Unit)) => (w.1, (fun (d : (Int × Unit)) (w : Unit) => (d.1, (fun (d : Unit) (_ : Unit) => d) d.2 w)) d.2 w.2))) (md := .sh) (ev_vsh ok.toOk (i := 4) (j := 4) rfl rfl rfl) (evxa_ow (up := (fun (d : (Int × Unit)) (w : Unit) => (d.1, (fun (d : Unit) (_ : Unit) => d) d.2 w))) (evp_ix ok.toOk (evp_name ok.toOk (i := 7) (j := 7) rfl rfl rfl) (ev_int (md := .sh))) (evxa_sh (up := (fun (d : Unit) (_ : Unit) => d)) (md := .sh) (ev_add (md' := .sh) ok.toOk (ev_int (md := .sh)) (ev_mulL (md' := .sh) ok.toOk (by decide) (ev_int (md := .sh)) (ev_vsh ok.toOk (i := 8) (j := 8) rfl rfl rfl))) evxa_nil) (by decide))) (by decide))))) (fun x164 => (evb_retF (mk := fun r167 => Fl.rt r167) (wkX hX rfl) .sh (by intro _; rfl) (ev_bool (md := .sh)))) fun x164 => (evb_go (by rfl) (Wk.s (Wk.s (Wk.s (Wk.s (Wk.s (Wk.s (Wk.s (Wk.s (Wk.a (Wk.s (Wk.s (Wk.s (Wk.s Wk.n)))))))))))))))) fun s171 => (evb_forF (LF := (fun (s175 : ((List O_Loom) × (List ((List Bool) × (List (Tx × Tx × Unit)) × (List ((List Bool) × (List (Tx × Tx × Unit)) × Unit)) × (List (((List Int) × (List Int) × Unit) ⊕ ((List Tx) × (List Tx) × Unit))) × Unit)))) => [(sV false (tListK p.K tInt) script1), (sV false tInt ends2), (sV false tInt treadles15), (sV false tInt high28), (sV false (tTup (aCons (tList tInt) (aCons (tList (tList tInt)) aNil))) setting47), (sV false (tTup (aCons (tList tInt) (aCons (tList (tList tInt)) aNil))) handed72), (sO (wL (wIns (cA p "Loom") ["threading", "ties", "pressed", "thrown", "done_deeds"] (waCons (wV (tList tInt)) (waCons (wV (tList (tList tInt))) (waCons (wL (wV tBool)) (waCons (wL (wV (tTup (aCons (tTupL tInt) (aCons tStr (aCons tStr aNil)))))) (waCons (wL (wV (tTup (aCons tStr (aCons tInt (aCons (tOpt (tTup (aCons (tTupL tInt) (aCons tStr (aCons tStr aNil))))) aNil)))))) waNil))))))) s175.1), (sO (wL (wHl (waCons (wL (wV tBool)) (waCons (wL (wV (tTup (aCons tStr (aCons tStr aNil))))) (waCons (wL (wTup (waCons (wL (wV tBool)) (waCons (wL (wV (tTup (aCons tStr (aCons tStr aNil))))) waNil)))) (waCons (wL (wV (tSum (tTup (aCons (tList tInt) (aCons (tList tInt) aNil))) (tTup (aCons (tList tStr) (aCons (tList tStr) aNil)))))) waNil)))))) s175.2), sAny, sAny, sAny, sAny, sAny])) (s0 := (s171.1, s171.2)) (dr := fun r269 => r269) ok (wkX hX rfl) (evi_range2 ok.toOk (j := 6) rfl X.g_range (ev_int (md := .sh)) (ev_lenQ (md' := .sh) ok.toOk sq_k (j := 8) rfl X.g_len (ev_vsh ok.toOk (i := 0) (j := 0) rfl rfl rfl))) (Wk.s (Wk.s (Wk.s (Wk.s (Wk.s (Wk.s (Wk.s (Wk.s (Wk.s (Wk.s (Wk.s (Wk.s (Wk.s Wk.n))))))))))))) (fun _ => evg_name ok (i := 8) (j := 8) rfl rfl) (fun s175 k176 => (evb_set ok (i := 9) (j := 9) rfl rfl (wkX hX rfl) .sh (ev_call (md' := .sh) ok.toOk (fn__law_cell_at X) (by decide) (j := 0) rfl .sh (eva_cons (md := .sh) (ev_vsh ok.toOk (i := 0) (j := 0) rfl rfl rfl) (eva_cons (md := .sh) (ev_vsh ok.toOk (i := 8) (j := 8) rfl rfl rfl) eva_nil))) fun cell177 => (evb_set ok (i := 10) (j := 10) rfl rfl (wkX hX rfl) .sh (ev_modC (md' := .sh) ok.toOk (by decide) (ev_modC (md' := .sh) ok.toOk (by decide) (ev_mulC (md' := .sh) ok.toOk (by decide) (ev_vsh ok.toOk (i := 9) (j := 9) rfl rfl rfl) (ev_int (md := .sh))) (ev_int (md := .sh))) (ev_int (md := .sh))) fun at184 => (evb_ifxX (evtx_not (evtx_of (ex_call ok.toOk (fn__law_done X) (by decide) (j := 7) rfl (.any hX) (evxa_ow (up := (fun (d : (((List Int) × (List (List Int)) × Unit) × (((List Bool) × (List (Tx × Tx × Unit)) × (List ((List Bool) × (List (Tx × Tx × Unit)) × Unit)) × (List (((List Int) × (List Int) × Unit) ⊕ ((List Tx) × (List Tx) × Unit))) × Unit) × (Int × Unit)))) (w : (((List Bool) × (List (Tx × Tx × Unit)) × (List ((List Bool) × (List (Tx × Tx × Unit)) × Unit)) × (List (((List Int) × (List Int) × Unit) ⊕ ((List Tx) × (List Tx) × Unit))) × Unit) × Unit)) => (d.1, (fun (d : (((List Bool) × (List (Tx × Tx × Unit)) × (List ((List Bool) × (List (Tx × Tx × Unit)) × Unit)) × (List (((List Int) × (List Int) × Unit) ⊕ ((List Tx) × (List Tx) × Unit))) × Unit) × (Int × Unit))) (w : (((List Bool) × (List (Tx × Tx × Unit)) × (List ((List Bool) × (List (Tx × Tx × Unit)) × Unit)) × (List (((List Int) × (List Int) × Unit) ⊕ ((List Tx) × (List Tx) × Unit))) × Unit) × Unit)) => (w.1, (fun (d : (Int × Unit)) (w : Unit) => (d.1, (fun (d : Unit) (_ : Unit) => d) d.2 w)) d.2 w.2)) d.2 w))) (evp_ix ok.toOk (evp_name ok.toOk (i := 6) (j := 6) rfl rfl rfl) (ev_vsh ok.toOk (i := 10) (j := 10) rfl rfl rfl)) (evxa_sh (up := (fun (d : (((List Bool) × (List (Tx × Tx × Unit)) × (List ((List Bool) × (List (Tx × Tx × Unit)) × Unit)) × (List (((List Int) × (List Int) × Unit) ⊕ ((List Tx) × (List Tx) × Unit))) × Unit) × (Int × Unit))) (w : (((List Bool) × (List (Tx × Tx × Unit)) × (List ((List Bool) × (List (Tx × Tx × Unit)) × Unit)) × (List (((List Int) × (List Int) × Unit) ⊕ ((List Tx) × (List Tx) × Unit))) × Unit) × Unit)) => (w.1, (fun (d : (Int × Unit)) (w : Unit) => (d.1, (fun (d : Unit) (_ : Unit) => d) d.2 w)) d.2 w.2))) (md := .sh) (ev_vsh ok.toOk (i := 4) (j := 4) rfl rfl rfl) (evxa_ow (up := (fun (d : (Int × Unit)) (w : Unit) => (d.1, (fun (d : Unit) (_ : Unit) => d) d.2 w))) (evp_ix ok.toOk (evp_name ok.toOk (i := 7) (j := 7) rfl rfl rfl) (ev_vsh ok.toOk (i := 10) (j := 10) rfl rfl rfl)) (evxa_sh (up := (fun (d : Unit) (_ : Unit) => d)) (md := .sh) (ev_vsh ok.toOk (i := 9) (j := 9) rfl rfl rfl) evxa_nil) (by decide))) (by decide))))) (fun x204 => (evb_retF (mk := fun r207 => Fl.rt r207) (wkX hX rfl) .sh (by intro _; rfl) (ev_bool (md := .sh)))) fun x204 => (evb_go (by rfl) (Wk.s (Wk.s (Wk.s (Wk.s (Wk.s (Wk.s (Wk.s (Wk.s (Wk.a (Wk.a (Wk.a (Wk.s (Wk.s Wk.n)))))))))))))))))) fun s211 => (evb_forF (LF := (fun (s213 : ((List O_Loom) × (List ((List Bool) × (List (Tx × Tx × Unit)) × (List ((List Bool) × (List (Tx × Tx × Unit)) × Unit)) × (List (((List Int) × (List Int) × Unit) ⊕ ((List Tx) × (List Tx) × Unit))) × Unit)))) => [(sV false (tListK p.K tInt) script1), (sV false tInt ends2), (sV false tInt treadles15), (sV false tInt high28), (sV false (tTup (aCons (tList tInt) (aCons (tList (tList tInt)) aNil))) setting47), (sV false (tTup (aCons (tList tInt) (aCons (tList (tList tInt)) aNil))) handed72), (sO (wL (wIns (cA p "Loom") ["threading", "ties", "pressed", "thrown", "done_deeds"] (waCons (wV (tList tInt)) (waCons (wV (tList (tList tInt))) (waCons (wL (wV tBool)) (waCons (wL (wV (tTup (aCons (tTupL tInt) (aCons tStr (aCons tStr aNil)))))) (waCons (wL (wV (tTup (aCons tStr (aCons tInt (aCons (tOpt (tTup (aCons (tTupL tInt) (aCons tStr (aCons tStr aNil))))) aNil)))))) waNil))))))) s213.1), (sO (wL (wHl (waCons (wL (wV tBool)) (waCons (wL (wV (tTup (aCons tStr (aCons tStr aNil))))) (waCons (wL (wTup (waCons (wL (wV tBool)) (waCons (wL (wV (tTup (aCons tStr (aCons tStr aNil))))) waNil)))) (waCons (wL (wV (tSum (tTup (aCons (tList tInt) (aCons (tList tInt) aNil))) (tTup (aCons (tList tStr) (aCons (tList tStr) aNil)))))) waNil)))))) s213.2), sAny, sAny, sAny, sAny, sAny])) (s0 := (s211.1, s211.2)) (dr := fun r268 => r268) ok (wkX hX rfl) (evi_range1 ok.toOk (j := 6) rfl X.g_range (ev_int (md := .sh))) (Wk.s (Wk.s (Wk.s (Wk.s (Wk.s (Wk.s (Wk.s (Wk.s (Wk.s (Wk.s (Wk.s (Wk.s (Wk.s Wk.n))))))))))))) (fun _ => evg_name ok (i := 8) (j := 8) rfl rfl) (fun s213 k214 => (evb_ifxX (evtx_not (evtx_of (ex_call ok.toOk (fn__law_answered X) (by decide) (j := 9) rfl (.any hX) (evxa_ow (up := (fun (d : (((List Int) × (List (List Int)) × Unit) × (((List Bool) × (List (Tx × Tx × Unit)) × (List ((List Bool) × (List (Tx × Tx × Unit)) × Unit)) × (List (((List Int) × (List Int) × Unit) ⊕ ((List Tx) × (List Tx) × Unit))) × Unit) × (Int × Unit)))) (w : (((List Bool) × (List (Tx × Tx × Unit)) × (List ((List Bool) × (List (Tx × Tx × Unit)) × Unit)) × (List (((List Int) × (List Int) × Unit) ⊕ ((List Tx) × (List Tx) × Unit))) × Unit) × Unit)) => (d.1, (fun (d : (((List Bool) × (List (Tx × Tx × Unit)) × (List ((List Bool) × (List (Tx × Tx × Unit)) × Unit)) × (List (((List Int) × (List Int) × Unit) ⊕ ((List Tx) × (List Tx) × Unit))) × Unit) × (Int × Unit))) (w : (((List Bool) × (List (Tx × Tx × Unit)) × (List ((List Bool) × (List (Tx × Tx × Unit)) × Unit)) × (List (((List Int) × (List Int) × Unit) ⊕ ((List Tx) × (List Tx) × Unit))) × Unit) × Unit)) => (w.1, (fun (d : (Int × Unit)) (w : Unit) => (d.1, (fun (d : Unit) (_ : Unit) => d) d.2 w)) d.2 w.2)) d.2 w))) (evp_ix ok.toOk (evp_name ok.toOk (i := 6) (j := 6) rfl rfl rfl) (ev_modC (md' := .sh) ok.toOk (by decide) (ev_vsh ok.toOk (i := 8) (j := 8) rfl rfl rfl) (ev_int (md := .sh)))) (evxa_sh (up := (fun (d : (((List Bool) × (List (Tx × Tx × Unit)) × (List ((List Bool) × (List (Tx × Tx × Unit)) × Unit)) × (List (((List Int) × (List Int) × Unit) ⊕ ((List Tx) × (List Tx) × Unit))) × Unit) × (Int × Unit))) (w : (((List Bool) × (List (Tx × Tx × Unit)) × (List ((List Bool) × (List (Tx × Tx × Unit)) × Unit)) × (List (((List Int) × (List Int) × Unit) ⊕ ((List Tx) × (List Tx) × Unit))) × Unit) × Unit)) => (w.1, (fun (d : (Int × Unit)) (w : Unit) => (d.1, (fun (d : Unit) (_ : Unit) => d) d.2 w)) d.2 w.2))) (md := .sh) (ev_vsh ok.toOk (i := 4) (j := 4) rfl rfl rfl) (evxa_ow (up := (fun (d : (Int × Unit)) (w : Unit) => (d.1, (fun (d : Unit) (_ : Unit) => d) d.2 w))) (evp_ix ok.toOk (evp_name ok.toOk (i := 7) (j := 7) rfl rfl rfl) (ev_modC (md' := .sh) ok.toOk (by decide) (ev_vsh ok.toOk (i := 8) (j := 8) rfl rfl rfl) (ev_int (md := .sh)))) (evxa_sh (up := (fun (d : Unit) (_ : Unit) => d)) (md := .sh) (ev_divC (md' := .sh) ok.toOk (by decide) (by decide) (ev_vsh ok.toOk (i := 8) (j := 8) rfl rfl rfl) (ev_int (md := .sh))) evxa_nil) (by decide))) (by decide))))) (fun x234 => (evb_retF (mk := fun r237 => Fl.rt r237) (wkX hX rfl) .sh (by intro _; rfl) (ev_bool (md := .sh)))) fun x234 => (evb_go (by rfl) (Wk.s (Wk.s (Wk.s (Wk.s (Wk.s (Wk.s (Wk.s (Wk.s (Wk.a (Wk.s (Wk.s (Wk.s (Wk.s Wk.n)))))))))))))))) fun s241 => (evb_freezeP (i := 7) rfl (evb_forF (LF := (fun (s255 : Unit) => [(sV false (tListK p.K tInt) script1), (sV false tInt ends2), (sV false tInt treadles15), (sV false tInt high28), (sV false (tTup (aCons (tList tInt) (aCons (tList (tList tInt)) aNil))) setting47), (sV false (tTup (aCons (tList tInt) (aCons (tList (tList tInt)) aNil))) handed72), (sO (wL (wIns (cA p "Loom") ["threading", "ties", "pressed", "thrown", "done_deeds"] (waCons (wV (tList tInt)) (waCons (wV (tList (tList tInt))) (waCons (wL (wV tBool)) (waCons (wL (wV (tTup (aCons (tTupL tInt) (aCons tStr (aCons tStr aNil)))))) (waCons (wL (wV (tTup (aCons tStr (aCons tInt (aCons (tOpt (tTup (aCons (tTupL tInt) (aCons tStr (aCons tStr aNil))))) aNil)))))) waNil))))))) s241.1), (sV false (tList (tHl (aCons (tList tBool) (aCons (tList (tTup (aCons tStr (aCons tStr aNil)))) (aCons (tList (tTup (aCons (tList tBool) (aCons (tList (tTup (aCons tStr (aCons tStr aNil)))) aNil)))) (aCons (tList (tSum (tTup (aCons (tList tInt) (aCons (tList tInt) aNil))) (tTup (aCons (tList tStr) (aCons (tList tStr) aNil))))) aNil)))))) s241.2), sAny, sAny, sAny, sAny, sAny])) (s0 := ()) (dr := fun r267 => r267) ok (wkX hX rfl) (evi_seq ok.toOk sq_l (ev_ofL (evl_cat (md := .sh) ok.toOk (ev_hlIx (n := 3) ok.toOk (.s (.s (.s .z))) (ev_ixQ ok.toOk sq_l (ev_vsh ok.toOk (i := 7) (j := 7) rfl rfl rfl) (ev_int (md := .sh))) (ev_int (md := .sh))) (ev_hlIx (n := 3) ok.toOk (.s (.s (.s .z))) (ev_ixQ ok.toOk sq_l (ev_vsh ok.toOk (i := 7) (j := 7) rfl rfl rfl) (ev_int (md := .sh))) (ev_int (md := .sh)))))) (Wk.s (Wk.s (Wk.s (Wk.s (Wk.s (Wk.s (Wk.s (Wk.s (Wk.s (Wk.s (Wk.s (Wk.s (Wk.s Wk.n))))))))))))) (fun _ => evg_name ok (i := 11) (j := 11) rfl rfl) (fun s255 pair256 => (evb_ifl (wkX hX rfl) (evt_neqS ok.toOk (dList dInt) (dList dStr) (by decide) (by decide) (ev_ixG (n := 0) ok.toOk (ta_sumX (ta_tup (n := 0) .z) (ta_tup (n := 0) .z)) (ev_vsh ok.toOk (i := 11) (j := 11) rfl rfl rfl) (ev_int (md := .sh))) (ev_ixG (n := 1) ok.toOk (ta_sumX (ta_tup (n := 1) (.s .z)) (ta_tup (n := 1) (.s .z))) (ev_vsh ok.toOk (i := 11) (j := 11) rfl rfl rfl) (ev_int (md := .sh)))) (evb_retF (mk := fun r262 => Fl.rt r262) (wkX hX rfl) .sh (by intro _; rfl) (ev_bool (md := .sh))) (evb_go (by rfl) (Wk.s (Wk.s (Wk.s (Wk.s (Wk.s (Wk.s (Wk.s (Wk.s (Wk.s (Wk.s (Wk.s (Wk.a (Wk.s Wk.n)))))))))))))))) fun s265 => (evb_ret (wkX hX rfl) .sh (by intro _; rfl) (ev_bool (md := .sh))))))))))))))))
theorem b_law {p : Pr} (X : Facts p) : Body p s_law N_law V_law G_law 6 (fun (d : ((List Int) × Unit)) => [(sV false (tListK p.K tInt) d.1), sAny, sAny, sAny, sAny, sAny, sAny, sAny, sAny, sAny, sAny, sAny, sAny]) (fun r => .rt false tBool r) r_law := fun g ok hX d => bb_law X ok hX d.1
theorem fnok_law {p : Pr} (X : Facts p) {f : Addr} {fd : FuncData} (hF : FunD p.K "law" "law" (defArgs s_law) (defBody s_law) (defScope s_law) [] [] f fd) : FnOk p.P p.w p.K p.mg p.base (L2.CX p.P p.w) 7 f fd ["script"] (spM p (aCons (tListK p.K tInt) aNil) (fun r => .rt false tBool r) c_law) := eq_law ▸ fn_rt (m := 12) hF sc_law (.cons .nil) rfl rfl (b_law X)
theorem flat_map_f {α : Type} {f : α → Nat} {l : List α} : (l.map fun c => [f c]).flatten = l.map f := by
  induction l with
  | nil => rfl
  | cons a r ih => rw [List.map_cons, List.flatten_cons, ih]; rfl
theorem sum_map_f {α : Type} {f : α → Nat} {l : List α} : ((l.map fun c => [f c]).map List.length).sum = l.length := by
  induction l with
  | nil => rfl
  | cons a r ih => simp only [List.map_cons, List.sum_cons, List.length_cons, List.length_nil]; rw [ih]; omega
theorem forM_app {α β : Type} {f : List β → α → M (List β)} {h : α → List β} {N : Nat} : ∀ (xs : List α) (s : List β), (s ++ xs.flatMap h).length ≤ N → (∀ x ∈ xs, ∀ s, (s ++ h x).length ≤ N → f s x = .ok (s ++ h x)) → forM f s xs = .ok (s ++ xs.flatMap h)
  | [], s, _, _ => by show M.ok s = _; rw [List.flatMap_nil, List.append_nil]
  | x :: xs, s, hl, hs => by
    rw [List.flatMap_cons, ← List.append_assoc] at hl
    show (f s x).bind (fun s' => forM f s' xs) = _
    rw [hs x List.mem_cons_self s (by rw [List.length_append] at hl; omega), M.bind_ok, forM_app xs _ hl (fun y hy => hs y (List.mem_cons_of_mem _ hy)), List.flatMap_cons, List.append_assoc]
theorem flat_one' {α β : Type} (f : α → β) (l : List α) : (l.flatMap fun x => [f x]) = l.map f := by
  induction l with
  | nil => rfl
  | cons a l ih => rw [List.flatMap_cons, ih]; rfl
theorem dget_map {α : Type} (k k' : Key) (d : α) : ∀ ds : List (Key × α), dgetL (ds.map fun kv => if kv.1 = k then (kv.1, d) else kv) k' = (dgetL ds k').map fun x => if k' = k then d else x
  | [] => rfl
  | (q, x) :: ds => by
    have ih := dget_map k k' d ds
    unfold dgetL at ih ⊢
    rw [List.map_cons]
    by_cases a : q = k'
    · subst a
      by_cases b : q = k
      · subst b; simp [List.find?_cons]
      · simp [List.find?_cons, b]
    · by_cases b : q = k
      · subst b; simpa [List.find?_cons, a] using ih
      · simpa [List.find?_cons, a, b] using ih
theorem dget_snoc {α : Type} (k k' : Key) (d : α) : ∀ ds : List (Key × α), dgetL (ds ++ [(k, d)]) k' = match dgetL ds k' with | some x => some x | none => if k' = k then some d else none
  | [] => by
    unfold dgetL
    by_cases a : k = k'
    · subst a; simp [List.find?_cons]
    · have : ¬ k' = k := fun e => a e.symm
      simp [List.find?_cons, a, this]
  | (q, x) :: ds => by
    have ih := dget_snoc k k' d ds
    unfold dgetL at ih ⊢
    by_cases a : q = k'
    · subst a; simp [List.find?_cons]
    · simpa [List.find?_cons, a] using ih
theorem dget_any {α : Type} (k : Key) : ∀ ds : List (Key × α), (ds.any fun kv => decide (kv.1 = k)) = (dgetL ds k).isSome
  | [] => rfl
  | (q, x) :: ds => by
    have ih := dget_any k ds
    unfold dgetL at ih ⊢
    by_cases a : q = k
    · subst a; simp [List.find?_cons]
    · simpa [List.find?_cons, a] using ih
theorem dget_put {α : Type} (ds : List (Key × α)) (k k' : Key) (d : α) : dgetL (dputL ds k d) k' = if k' = k then some d else dgetL ds k' := by
  unfold dputL
  split
  · rename_i h
    rw [dget_map]
    by_cases a : k' = k
    · subst a
      rw [dget_any] at h
      obtain ⟨x, hx⟩ := Option.isSome_iff_exists.mp h
      rw [hx]; simp
    · simp [a]
  · rename_i h
    rw [dget_snoc]
    by_cases a : k' = k
    · subst a
      rw [dget_any] at h
      cases hx : dgetL ds k' with
      | none => rfl
      | some x => rw [hx] at h; exact absurd rfl h
    · simp only [a, if_false]
      cases dgetL ds k' <;> rfl
theorem dput_len {α : Type} (ds : List (Key × α)) (k : Key) (d : α) : (dputL ds k d).length ≤ ds.length + 1 := by
  unfold dputL
  split <;> simp
def riB : Int → List Int → Bool
  | _, [] => true
  | last, x :: r => decide (last < x) && (decide (x < 40) && riB x r)
theorem riB_iff : ∀ (l : List Int) (last : Int), riB last l = true ↔ (∀ x ∈ l, last < x ∧ x < 40) ∧ l.Pairwise (· < ·)
  | [], _ => ⟨fun _ => ⟨(fun x hx => nomatch hx), List.Pairwise.nil⟩, fun _ => rfl⟩
  | x :: r, last => by
    unfold riB
    rw [Bool.and_eq_true, Bool.and_eq_true, decide_eq_true_eq, decide_eq_true_eq, riB_iff r x, List.pairwise_cons]
    constructor
    · rintro ⟨h1, h2, h3, h4⟩
      refine ⟨fun y hy => ?_, fun y hy => (h3 y hy).1, h4⟩
      rcases List.mem_cons.mp hy with e | hy
      · subst e; exact ⟨h1, h2⟩
      · have := h3 y hy; omega
    · rintro ⟨h1, h2, h3⟩
      have hx := h1 x List.mem_cons_self
      exact ⟨hx.1, hx.2, fun y hy => ⟨h2 y hy, (h1 y (List.mem_cons_of_mem _ hy)).2⟩, h3⟩
theorem tie_loop : ∀ (l : List Int) (last : Int), if riB last l = true then ∃ z, forF f_tie_rises_l1 last l = .ok (Fl.nx z) else forF f_tie_rises_l1 last l = .ok (Fl.rt false)
  | [], last => by unfold riB; rw [if_pos rfl]; exact ⟨last, rfl⟩
  | x :: r, last => by
    have ih := tie_loop r x
    have st : forF f_tie_rises_l1 last (x :: r) = (f_tie_rises_l1 last x).bind (Fl.el (fun s' => forF f_tie_rises_l1 s' r) fun q => .ok (.rt q)) := rfl
    have e : f_tie_rises_l1 last x = if x ≤ last ∨ 40 ≤ x then .ok (.rt false) else .ok (.nx x) := by
      unfold f_tie_rises_l1
      by_cases c : x ≤ last ∨ 40 ≤ x
      · rw [if_pos c, if_pos (by simpa using c)]
      · rw [if_neg c, if_neg (by simpa using c)]
    rw [st, e]
    unfold riB
    by_cases c : x ≤ last ∨ 40 ≤ x
    · rw [if_pos c, if_neg (by simp only [Bool.and_eq_true, decide_eq_true_eq]; omega)]
      rfl
    · rw [if_neg c, decide_eq_true (show last < x by omega), decide_eq_true (show x < 40 by omega), Bool.true_and, Bool.true_and]
      exact ih
theorem tie_ok (l : List Int) : f_tie_rises l = .ok (riB (-1) l) := by
  have h := tie_loop l (-1)
  unfold f_tie_rises
  show M.bind (forF f_tie_rises_l1 (-(1 : Int)) l) _ = _
  cases c : riB (-1) l with
  | true =>
    rw [c, if_pos rfl] at h
    obtain ⟨z, e⟩ := h
    rw [show (-(1 : Int)) = -1 from rfl, e]; rfl
  | false =>
    rw [c, if_neg Bool.false_ne_true] at h
    rw [show (-(1 : Int)) = -1 from rfl, h]; rfl
theorem forF_all {α ρ : Type} {f : Unit → α → M (Fl Unit ρ)} {b : α → Bool} {r : ρ} : ∀ {xs : List α}, (∀ x ∈ xs, f () x = .ok (if b x = true then .nx () else .rt r)) → forF f () xs = .ok (if xs.all b = true then .nx () else .rt r)
  | [], _ => rfl
  | x :: xs, h => by
    show (f () x).bind (Fl.el (fun s' => forF f s' xs) fun q => .ok (.rt q)) = _
    rw [h x List.mem_cons_self, List.all_cons]
    cases hb : b x with
    | true =>
      show forF f () xs = _
      rw [forF_all fun y hy => h y (List.mem_cons_of_mem _ hy)]; rfl
    | false => rfl
def lenB (n : Int) : Bool := decide (1 ≤ n) && decide (n ≤ 40)
def fitB (th : List Int) (ties : List (List Int)) (tr : List Int) : Bool :=
  [(th.length : Int), (ties.length : Int), (tr.length : Int)].all lenB && (th.all (fun s => decide (0 ≤ s) && decide (s < 40)) && (ties.all (riB (-1)) && tr.all fun t => decide (0 ≤ t) && decide (t < (ties.length : Int))))
theorem fit_ok (th : List Int) (ties : List (List Int)) (tr : List Int) : f_lists_fit th ties tr = .ok (fitB th ties tr) := by
  unfold f_lists_fit fitB
  show M.bind (forF f_lists_fit_l1 () [(th.length : Int), (ties.length : Int), (tr.length : Int)]) _ = _
  rw [forF_all (b := lenB) (r := false) fun x _ => ?_, forF_all (b := fun s => decide (0 ≤ s) && decide (s < 40)) (r := false) fun x _ => ?_, forF_all (b := riB (-1)) (r := false) fun x _ => ?_, forF_all (b := fun t => decide (0 ≤ t) && decide (t < (ties.length : Int))) (r := false) fun x _ => ?_]
  · cases h1 : [(th.length : Int), (ties.length : Int), (tr.length : Int)].all lenB
    · rfl
    cases h2 : th.all (fun s => decide (0 ≤ s) && decide (s < 40))
    · rfl
    cases h3 : ties.all (riB (-1))
    · rfl
    cases h4 : tr.all fun t => decide (0 ≤ t) && decide (t < (ties.length : Int)) <;> rfl
  · unfold f_lists_fit_l4
    by_cases c : x < 0 ∨ (ties.length : Int) ≤ x
    · rw [if_pos (by simpa using c), if_neg (by simp only [Bool.and_eq_true, decide_eq_true_eq]; omega)]
    · rw [if_neg (by simpa using c), if_pos (by simp only [Bool.and_eq_true, decide_eq_true_eq]; omega)]
  · unfold f_lists_fit_l3
    rw [tie_ok, M.bind_ok, M.bind_ok]
    cases riB (-1) x <;> rfl
  · unfold f_lists_fit_l2
    by_cases c : x < 0 ∨ 40 ≤ x
    · rw [if_pos (by simpa using c), if_neg (by simp only [Bool.and_eq_true, decide_eq_true_eq]; omega)]
    · rw [if_neg (by simpa using c), if_pos (by simp only [Bool.and_eq_true, decide_eq_true_eq]; omega)]
  · unfold f_lists_fit_l1 lenB
    by_cases c : x < 1 ∨ 40 < x
    · rw [if_pos (by simpa using c), if_neg (by simp only [Bool.and_eq_true, decide_eq_true_eq]; omega)]
    · rw [if_neg (by simpa using c), if_pos (by simp only [Bool.and_eq_true, decide_eq_true_eq]; omega)]
theorem id_comp {α : Type} {xs : List α} (h : xs.length ≤ 1000000) : compM (fun x : α => M.ok (some x)) xs = .ok xs := by
  have := comp_map (h := fun x : α => M.ok (some x)) (g := fun x => x) (xs := xs) h fun x _ => rfl
  rw [this]; simp
theorem lens_le {th : List Int} {ties : List (List Int)} {tr : List Int} (h : fitB th ties tr = true) : 1 ≤ th.length ∧ th.length ≤ 40 ∧ 1 ≤ ties.length ∧ ties.length ≤ 40 ∧ 1 ≤ tr.length ∧ tr.length ≤ 40 := by
  unfold fitB at h
  rw [Bool.and_eq_true] at h
  have h1 := h.1
  simp only [List.all_cons, List.all_nil, Bool.and_eq_true, lenB, decide_eq_true_eq] at h1
  omega
theorem draft_ok (th : List Int) (ties : List (List Int)) (tr : List Int) : f_Draft_init th ties tr = if fitB th ties tr = true then .ok (th, ties, tr, ()) else .ex .noDraft := by
  unfold f_Draft_init
  rw [fit_ok, M.bind_ok, M.bind_ok]
  cases h : fitB th ties tr with
  | true =>
    have := lens_le h
    rw [if_neg (by simp)]
    show M.bind (compM (fun tie => M.ok (some tie)) ties) _ = _
    rw [id_comp (by omega), M.bind_ok, if_pos rfl]
  | false => rfl
/-- it fits -/
theorem fit_true {th : List Int} {ties : List (List Int)} {tr : List Int} (h1 : 1 ≤ th.length) (h2 : th.length ≤ 40) (h3 : 1 ≤ ties.length) (h4 : ties.length ≤ 40) (h5 : 1 ≤ tr.length) (h6 : tr.length ≤ 40) (h7 : ∀ s ∈ th, 0 ≤ s ∧ s < 40) (h8 : ∀ t ∈ ties, riB (-1) t = true) (h9 : ∀ t ∈ tr, 0 ≤ t ∧ t < (ties.length : Int)) : fitB th ties tr = true := by
  unfold fitB
  rw [Bool.and_eq_true, Bool.and_eq_true, Bool.and_eq_true]
  refine ⟨?_, List.all_eq_true.mpr fun s hs => ?_, List.all_eq_true.mpr h8, List.all_eq_true.mpr fun t ht => ?_⟩
  · simp [lenB]; omega
  · have := h7 s hs; simp only [Bool.and_eq_true, decide_eq_true_eq]; exact this
  · have := h9 t ht; simp only [Bool.and_eq_true, decide_eq_true_eq]; exact this
theorem enumL_get {α : Type} {xs : List α} {j : Nat} {t : Int × α × Unit} (h : (enumL xs)[j]? = some t) : t.1 = (j : Int) ∧ xs[j]? = some t.2.1 := by
  unfold enumL at h
  rw [List.getElem?_mapIdx] at h
  cases hz : xs[j]? with
  | none => rw [hz] at h; cases h
  | some d =>
    rw [hz] at h
    cases h
    exact ⟨rfl, rfl⟩
theorem cell_ok {script : List Int} {k : Int} (k0 : 0 ≤ k) : Okm (f_law_cell_at script k) (fun c => 0 ≤ c ∧ c < 10 ^ 61) := by
  unfold f_law_cell_at
  refine okif (fun c => ?_) fun _ => okv ⟨by omega, by omega⟩
  rw [decide_eq_true_eq] at c
  exact okb (ok_get k0 c) fun y _ => okv ⟨Int.emod_nonneg _ (by decide), Int.emod_lt_of_pos _ (by decide)⟩
theorem size_ok {c small : Int} (h1 : 1 ≤ small) (h2 : small ≤ 40) : Okm (f_law_size c small) (fun n => 1 ≤ n ∧ n ≤ 40) := by
  unfold f_law_size
  refine okb (P := fun _ => True) (okb (P := fun _ => True) (okb (ok_div (by omega) (by omega)) fun y _ => okv trivial) fun y _ => okv trivial) fun b _ => okif (fun _ => ?_) fun _ => ?_
  · exact okb (P := fun y => 0 ≤ y ∧ y < 40) (okb (ok_div (by omega) (by omega)) fun y _ => okv ⟨Int.emod_nonneg _ (by decide), Int.emod_lt_of_pos _ (by decide)⟩) fun y hy => okv (by omega)
  · refine okb (ok_mod (by omega)) fun y e => okv ?_
    have := Int.emod_nonneg c (show small ≠ 0 by omega)
    have := Int.emod_lt_of_pos c (show 0 < small by omega)
    omega
theorem sums_ok {script : List Int} {behind many : Int} (hl : script.length ≤ 63) (b0 : 0 ≤ behind) (b1 : behind ≤ 10) (m1 : 1 ≤ many) (m2 : many ≤ 40) : Okm (f_law_sums script behind many) (fun ss => ss.length = many.toNat ∧ ∀ x ∈ ss, 0 ≤ x ∧ x ≤ 63 * 10 ^ 61) := by
  unfold f_law_sums
  rw [range_eq, M.bind_ok]
  rw [comp_map (g := fun _ => (0 : Int)) (by rw [upFrom_len]; omega) fun x _ => rfl, M.bind_ok, range_eq, M.bind_ok]
  refine okmono (okb (ok_forR (fun i (s : List Int) => s.length = many.toNat ∧ ∀ x ∈ s, 0 ≤ x ∧ x ≤ i * 10 ^ 61) ⟨by rw [List.length_map, upFrom_len]; omega, fun x hx => ?_⟩ fun i s hi ⟨a1, a2⟩ => ?_) fun s hs => okv hs) fun s ⟨a1, a2⟩ => ⟨a1, fun x hx => ?_⟩
  · obtain ⟨_, _, rfl⟩ := List.mem_map.mp hx
    omega
  · unfold f_law_sums_l1
    refine okb (ok_mod (by omega)) fun at_ e => ?_
    have e0 : 0 ≤ at_ := by rw [e]; exact Int.emod_nonneg _ (by omega)
    have e1 : at_ < many := by rw [e]; exact Int.emod_lt_of_pos _ (by omega)
    clear e
    refine okb (P := fun (y : Int) => 0 ≤ y ∧ y ≤ ((i + 1 : Nat) : Int) * 10 ^ 61) ?_ fun y hy => ?_
    · refine okb (ok_get e0 (by omega)) fun a ha => ?_
      have := a2 a (List.mem_of_getElem? ha)
      refine okb (P := fun y => 0 ≤ y ∧ y < 10 ^ 61) (okb (ok_get (by omega) (by omega)) fun y _ => okv ⟨Int.emod_nonneg _ (by decide), Int.emod_lt_of_pos _ (by decide)⟩) fun y hy => okv ?_
      push_cast; omega
    · refine okb (ok_set e0 (by omega)) fun s' e => okv ?_
      subst e
      refine ⟨by rw [List.length_set]; exact a1, fun x hx => ?_⟩
      rcases List.mem_or_eq_of_mem_set hx with hx | hx
      · have := a2 x hx; push_cast; omega
      · subst hx; exact hy
  · have := a2 x hx
    omega
theorem threading_ok {script : List Int} {ends : Int} (hl : script.length ≤ 63) (m1 : 1 ≤ ends) (m2 : ends ≤ 40) {high : Int} (g1 : 1 ≤ high) (g2 : high ≤ 40) : Okm (f_law_threading script ends high) (fun th => th.length = ends.toNat ∧ ∀ x ∈ th, 0 ≤ x ∧ x < 40) := by
  unfold f_law_threading
  refine okb (P := fun c => 0 ≤ c ∧ c < 10 ^ 61) (okb (cell_ok (by omega)) fun c hc => okv (by omega)) fun step hst => ?_
  refine okb (sums_ok hl (by omega) (by omega) m1 m2) fun ss ⟨s1, s2⟩ => ?_
  rw [range_eq, M.bind_ok]
  refine okmono (ok_comp (fun _ (x : Int) => 0 ≤ x ∧ x < 40) (by rw [upFrom_len]; omega) fun k hk => ?_) fun th ⟨t1, t2⟩ => ⟨by rw [t1, upFrom_len]; omega, fun x hx => ?_⟩
  · rw [upFrom_mem] at hk
    refine okb (P := fun x => 0 ≤ x ∧ x < 40) (okb (P := fun _ => True) (okb (ok_get (by omega) (by omega)) fun a _ => okb (ok_mul 64 220 (by omega) (by omega)) fun b _ => okv trivial) fun y _ => okmono (ok_mod (x := y) (y := high) (by omega)) fun z e => by
      have e1 := Int.emod_nonneg y (show high ≠ 0 by omega)
      have e2 := Int.emod_lt_of_pos y (show 0 < high by omega)
      rw [e]; exact ⟨e1, by omega⟩) fun x hx => okv ⟨x, rfl, hx⟩
  · rw [upFrom_len] at t1
    obtain ⟨i, hi⟩ := List.mem_iff_getElem?.mp hx
    have hlt := (List.getElem?_eq_some_iff.mp hi).1
    exact t2 i ((0 : Int) + i) x (by rw [upFrom_get, if_pos (by omega)]) hi
theorem law_tie_ok (n : Int) {high : Int} (g1 : 1 ≤ high) (g2 : high ≤ 40) : Okm (f_law_tie n high) (fun t => riB (-1) t = true ∧ t.length ≤ 40) := by
  unfold f_law_tie
  show Okm (M.bind (rangeM 0 high) _) _
  rw [range_eq, M.bind_ok, Int.sub_zero]
  refine okb (ok_forR (fun i (s : Int × List Int) => s.2.length ≤ i ∧ (∀ x ∈ s.2, -1 < x ∧ x < (i : Int)) ∧ s.2.Pairwise (· < ·)) ⟨Nat.le_refl _, (fun x hx => nomatch hx), .nil⟩ fun i s hi ⟨a1, a2, a3⟩ => ?_) fun s ⟨a1, a2, a3⟩ => okv ⟨(riB_iff _ _).mpr ⟨fun x hx => by have := a2 x hx; exact ⟨this.1, by omega⟩, a3⟩, by omega⟩
  unfold f_law_tie_l1
  refine okb (P := fun t => t.length ≤ i + 1 ∧ (∀ x ∈ t, -1 < x ∧ x < ((i + 1 : Nat) : Int)) ∧ t.Pairwise (· < ·)) (okif (fun _ => ?_) fun _ => okv ⟨by omega, fun x hx => by have := a2 x hx; omega, a3⟩) fun t ht => okv ht
  refine okb (ok_push (by omega)) fun t e => okv ?_
  subst e
  refine ⟨by simp; omega, fun x hx => ?_, List.pairwise_append.mpr ⟨a3, List.pairwise_singleton _ _, fun a ha b hb => ?_⟩⟩
  · rcases List.mem_append.mp hx with q | q
    · have := a2 x q; omega
    · rw [List.mem_singleton.mp q]; omega
  · have := a2 a ha
    rw [List.mem_singleton.mp hb]; omega
theorem law_ties_ok {script : List Int} {treadles : Int} (hl : script.length ≤ 63) (m1 : 1 ≤ treadles) (m2 : treadles ≤ 40) {high : Int} (g1 : 1 ≤ high) (g2 : high ≤ 40) : Okm (f_law_ties script treadles high) (fun ts => ts.length = treadles.toNat ∧ ∀ t ∈ ts, riB (-1) t = true ∧ t.length ≤ 40) := by
  unfold f_law_ties
  refine okb (sums_ok hl (by omega) (by omega) m1 m2) fun ss ⟨s1, s2⟩ => ?_
  refine okb (P := fun c => 0 ≤ c ∧ c < 2147483647) (okb (P := fun _ => True) (okb (cell_ok (by omega)) fun c hc => okv trivial) fun c _ => okv ⟨Int.emod_nonneg _ (by decide), Int.emod_lt_of_pos _ (by decide)⟩) fun start hst => ?_
  rw [range_eq, M.bind_ok]
  refine okmono (ok_comp (fun _ (t : List Int) => riB (-1) t = true ∧ t.length ≤ 40) (by rw [upFrom_len]; omega) fun k hk => ?_) fun th ⟨t1, t2⟩ => ⟨by rw [t1, upFrom_len]; omega, fun x hx => ?_⟩
  · rw [upFrom_mem] at hk
    refine okb (P := fun t => riB (-1) t = true ∧ t.length ≤ 40) ?_ fun t ht => okv ⟨t, rfl, ht⟩
    refine okb (P := fun _ => True) ?_ fun y _ => law_tie_ok y g1 g2
    refine okb (P := fun _ => True) (okb (ok_get (by omega) (by omega)) fun a _ => okv trivial) fun y _ => ?_
    refine okb (P := fun _ => True) ?_ fun y _ => okv trivial
    refine okb (P := fun _ => True) ?_ fun y _ => okv trivial
    obtain ⟨kk, rfl⟩ := Int.eq_ofNat_of_zero_le (a := k) (by omega)
    have hk2 : kk * kk ≤ 40 * 40 := Nat.mul_le_mul (by omega) (by omega)
    refine okb (P := fun y => 0 ≤ y ∧ y ≤ 1601) (okb (P := fun y => 0 ≤ y ∧ y ≤ 1600) (okmono (ok_mul 64 64 (by omega) (by omega)) fun z e => ?_) fun y hy => okv (by omega)) fun y hy => okmono (ok_mul 64 64 (by omega) (by omega)) fun _ _ => trivial
    rw [e, show (kk : Int) * (kk : Int) = ((kk * kk : Nat) : Int) by push_cast; rfl]
    omega
  · rw [upFrom_len] at t1
    obtain ⟨i, hi⟩ := List.mem_iff_getElem?.mp hx
    have hlt := (List.getElem?_eq_some_iff.mp hi).1
    exact t2 i ((0 : Int) + i) x (by rw [upFrom_get, if_pos (by omega)]) hi
theorem loom_ok (th : List Int) (ties : List (List Int)) : f_Loom_init th ties = if fitB th ties [0] = true then .ok (th, ties, List.replicate ties.length false, [], [], ()) else .ex .noDraft := by
  unfold f_Loom_init
  rw [draft_ok]
  cases h : fitB th ties [0] with
  | true =>
    have := lens_le h
    rw [if_pos rfl, M.bind_ok]
    show M.bind (compM (fun tie => M.ok (some false)) ties) _ = _
    rw [comp_map (g := fun _ => false) (by omega) fun x _ => rfl, M.bind_ok, if_pos rfl]
    show M.ok (th, ties, ties.map (fun _ => false), [], [], ()) = _
    rw [List.map_const']
  | false => rfl
theorem filterMap_ifB {α : Type} {p : α → Bool} {l : List α} : l.filterMap (fun x => if p x = true then some x else none) = l.filter p := by
  induction l with
  | nil => rfl
  | cons x r ih =>
    rw [List.filterMap_cons, List.filter_cons]
    cases p x <;> simp [ih]
def liftB (ties : List (List Int)) (down : List Bool) (n : Nat) (s : Int) : Bool := (List.range n).any fun k => (down[k]?.getD false) && decide (s ∈ ties[k]?.getD [])
theorem liftB_succ {ties : List (List Int)} {down : List Bool} {n : Nat} {s : Int} : liftB ties down (n + 1) s = (liftB ties down n s || ((down[n]?.getD false) && decide (s ∈ ties[n]?.getD []))) := by
  unfold liftB
  rw [List.range_succ, List.any_append]
  simp
def LS (ties : List (List Int)) (down : List Bool) : List Int := (upFrom 0 40).filter (liftB ties down ties.length)
section
variable {th : List Int} {ties : List (List Int)} {down : List Bool} {thr : List (List Int × Tx × Tx × Unit)} {deeds : List (Tx × Int × Option (List Int × Tx × Tx × Unit) × Unit)}
theorem lifted_ok (hl : ties.length ≤ 40) (hd : down.length = ties.length) (ht : ∀ t ∈ ties, riB (-1) t = true ∧ t.length ≤ 40) : f_Loom_lifted_shafts (th, ties, down, thr, deeds, ()) = .ok (LS ties down) := by
  refine oke ?_
  unfold f_Loom_lifted_shafts
  rw [range_eq, M.bind_ok]
  rw [comp_map (g := fun _ => false) (by rw [upFrom_len]; omega) fun x _ => rfl, M.bind_ok]
  show Okm (M.bind (forM (f_Loom_lifted_shafts_l2 (th, ties, down, thr, deeds, ())) ((upFrom 0 ((40 : Int) - 0).toNat).map fun _ => false) (enumL ties)) _) _
  have e0 : ∀ x : Nat, x < 40 → ((upFrom 0 ((40 : Int) - 0).toNat).map fun _ => false)[x]? = some false := fun x hx => by
    rw [List.getElem?_map, upFrom_get, if_pos (by omega)]; rfl
  have hel : (enumL ties).length = ties.length := by unfold enumL; rw [List.length_mapIdx]
  refine okb (ok_for (fun i (s : List Bool) => s.length = 40 ∧ ∀ x : Nat, x < 40 → s[x]? = some (liftB ties down i (x : Int))) ⟨by rw [List.length_map, upFrom_len]; rfl, fun x hx => by rw [e0 x hx]; rfl⟩ fun i t s htt ⟨a1, a2⟩ => ?_) fun s ⟨a1, a2⟩ => ?_
  · unfold f_Loom_lifted_shafts_l2
    obtain ⟨q1, q2⟩ := enumL_get htt
    have hi := (List.getElem?_eq_some_iff.mp q2).1
    obtain ⟨b, hb⟩ : ∃ b, down[i]? = some b := ⟨_, List.getElem?_eq_getElem (by omega)⟩
    show Okm (M.bind (getM down t.1) _) _
    rw [q1, getM_nat hb, M.bind_ok]
    have hs : ∀ x : Int, liftB ties down (i + 1) x = (liftB ties down i x || (b && decide (x ∈ t.2.1))) := fun x => by rw [liftB_succ, hb, q2]; rfl
    refine okif (fun c => ?_) fun c => okv ⟨a1, fun x hx => by rw [hs, c, Bool.false_and, Bool.or_false]; exact a2 x hx⟩
    subst c
    have hr := ((riB_iff _ _).mp (ht t.2.1 (List.mem_of_getElem? q2)).1).1
    refine okb (ok_for (fun j (s : List Bool) => s.length = 40 ∧ ∀ x : Nat, x < 40 → s[x]? = some (liftB ties down i (x : Int) || decide ((x : Int) ∈ t.2.1.take j))) ⟨a1, fun x hx => by simp [a2 x hx]⟩ fun j y s hy ⟨b1, b2⟩ => ?_) fun s ⟨b1, b2⟩ => okv ⟨b1, fun x hx => by rw [b2 x hx, List.take_length, hs, Bool.true_and]⟩
    unfold f_Loom_lifted_shafts_l1
    have hyr := hr y (List.mem_of_getElem? hy)
    refine okb (ok_set (by omega) (by omega)) fun s' e => okv ?_
    subst e
    refine ⟨by rw [List.length_set]; exact b1, fun x hx => ?_⟩
    rw [List.take_add_one, hy]
    by_cases q : y.toNat = x
    · rw [q, List.getElem?_set_self (by omega)]
      have : (x : Int) = y := by omega
      simp [this]
    · rw [List.getElem?_set_ne q, b2 x hx]
      have : ¬ (x : Int) = y := by omega
      simp [this]
  · rw [hel] at a2
    rw [M.bind_ok]
    rw [comp_eq (g := fun x => if liftB ties down ties.length x = true then some x else none) (by rw [upFrom_len]; omega) fun x hx => ?_]
    · rw [filterMap_ifB]
      exact okv rfl
    · rw [upFrom_mem] at hx
      have := a2 x.toNat (by omega)
      rw [show ((x.toNat : Nat) : Int) = x by omega] at this
      rw [getM_at (by omega) this, M.bind_ok]
      cases liftB ties down ties.length x <;> rfl
theorem law_lifted_ok (hl : ties.length ≤ 40) (hd : down.length = ties.length) (ht : ∀ t ∈ ties, riB (-1) t = true ∧ t.length ≤ 40) : f_law_lifted ties down = .ok (LS ties down) := by
  refine oke ?_
  unfold f_law_lifted
  dsimp only
  rw [range_eq, M.bind_ok, Int.sub_zero, Int.toNat_natCast]
  refine okb (ok_forR (fun i (s : List (Key × Bool)) => s.length ≤ 40 * i ∧ ∀ x : Int, (dgetL s (.inl x)).isSome = liftB ties down i x) ⟨Nat.zero_le _, fun x => rfl⟩ fun i s hi ⟨a1, a2⟩ => ?_) fun s ⟨a1, a2⟩ => ?_
  · rw [Int.zero_add]
    unfold f_law_lifted_l2
    obtain ⟨b, hb⟩ : ∃ b, down[i]? = some b := ⟨_, List.getElem?_eq_getElem (by omega)⟩
    obtain ⟨t, q2⟩ : ∃ b, ties[i]? = some b := ⟨_, List.getElem?_eq_getElem (by omega)⟩
    rw [getM_nat hb, M.bind_ok, getM_nat q2, M.bind_ok]
    have hs : ∀ x : Int, liftB ties down (i + 1) x = (liftB ties down i x || (b && decide (x ∈ t))) := fun x => by rw [liftB_succ, hb, q2]; rfl
    refine okif (fun c => ?_) fun c => okv ⟨by omega, fun x => by rw [hs, c, Bool.false_and, Bool.or_false]; exact a2 x⟩
    subst c
    have hr := (ht t (List.mem_of_getElem? q2)).2
    refine okb (ok_for (fun j (s : List (Key × Bool)) => s.length ≤ 40 * i + j ∧ ∀ x : Int, (dgetL s (.inl x)).isSome = (liftB ties down i x || decide (x ∈ t.take j))) ⟨a1, fun x => by simp [a2 x]⟩ fun j y s hy ⟨b1, b2⟩ => ?_) fun s ⟨b1, b2⟩ => okv ⟨by omega, fun x => by rw [b2 x, List.take_length, hs, Bool.true_and]⟩
    unfold f_law_lifted_l1
    have hj := (List.getElem?_eq_some_iff.mp hy).1
    refine okb (m := dputM _ _ _) (P := (· = dputL s (.inl y) true)) ?_ fun s' e => okv ?_
    · unfold dputM
      rw [if_pos (Nat.lt_of_le_of_lt (by omega : _ ≤ 1700) (by decide))]
      exact okv rfl
    subst e
    refine ⟨Nat.le_trans (dput_len _ _ _) (by omega), fun x => ?_⟩
    rw [dget_put, List.take_add_one, hy]
    by_cases q : x = y
    · subst q; simp
    · have : ¬ (Sum.inl x : Key) = Sum.inl y := fun e => q (by cases e; rfl)
      rw [if_neg this, b2 x]
      simp [q]
  · rw [range_eq, M.bind_ok]
    rw [comp_eq (g := fun x => if liftB ties down ties.length x = true then some x else none) (by rw [upFrom_len]; omega) fun x hx => ?_]
    · rw [filterMap_ifB]
      exact okv rfl
    · rw [a2 x]
      cases liftB ties down ties.length x <;> rfl
def shedT (th l : List Int) : Tx := th.map fun s => if s ∈ l then 35 else 46
theorem shed_over_ok {l : List Int} (hl : th.length ≤ 40) : f_shed_over th l = .ok (shedT th l) := by
  unfold f_shed_over
  show M.bind (forM (f_shed_over_l1 l) [] th) _ = _
  rw [forM_app (N := 100) (h := fun s => [[if s ∈ l then 35 else 46]]) th [] (by rw [List.nil_append, flat_one', List.length_map]; omega) fun x hx s hs => ?_, M.bind_ok, List.nil_append, flat_one', tx_nil, oke (ok_join ?_)]
  · congr 1
    exact flat_map_f (f := fun s => if s ∈ l then 35 else 46) (l := th)
  · rw [sum_map_f]; omega
  · rw [List.length_append, List.length_singleton] at hs
    unfold f_shed_over_l1
    rw [tx_hash, tx_dot]
    by_cases c : x ∈ l
    · rw [if_pos (by simpa using c), if_pos c, oke (ok_push (by omega)), M.bind_ok]
    · rw [if_neg (by simpa using c), if_neg c, oke (ok_push (by omega)), M.bind_ok]
theorem press_ok {k : Nat} (hk : k < ties.length) (hd : down[k]? = some false) (hl : deeds.length < 1000) : f_Loom_press (th, ties, down, thr, deeds, ()) (k : Int) = .ok ((), ((th, ties, down.set k true, thr, deeds ++ [(tx "press", (k : Int), none, ())], ()), ())) := by
  have hkd := (List.getElem?_eq_some_iff.mp hd).1
  unfold f_Loom_press f_Loom_has_treadle
  have e1 : (decide ((0 : Int) ≤ (k : Int)) && decide ((k : Int) < ((th, ties, down, thr, deeds, ()).2.1.length : Int))) = true := by
    show (decide ((0 : Int) ≤ (k : Int)) && decide ((k : Int) < (ties.length : Int))) = true
    simp; omega
  rw [e1]
  simp only [M.bok]
  rw [if_neg (by simp), getM_nat hd, M.bind_ok, if_neg (by simp), oke (ok_set (by omega) (by omega)), M.bind_ok, oke (ok_push (by omega)), M.bind_ok, Int.toNat_natCast]
theorem lift_ok {k : Nat} (hk : k < ties.length) (hd : down[k]? = some true) (hl : deeds.length < 1000) : f_Loom_lift (th, ties, down, thr, deeds, ()) (k : Int) = .ok ((), ((th, ties, down.set k false, thr, deeds ++ [(tx "lift", (k : Int), none, ())], ()), ())) := by
  have hkd := (List.getElem?_eq_some_iff.mp hd).1
  unfold f_Loom_lift f_Loom_has_treadle
  have e1 : (decide ((0 : Int) ≤ (k : Int)) && decide ((k : Int) < ((th, ties, down, thr, deeds, ()).2.1.length : Int))) = true := by
    show (decide ((0 : Int) ≤ (k : Int)) && decide ((k : Int) < (ties.length : Int))) = true
    simp; omega
  rw [e1]
  simp only [M.bok]
  rw [if_neg (by simp), getM_nat hd, M.bind_ok, M.bind_ok, if_neg (by simp), oke (ok_set (by omega) (by omega)), M.bind_ok, oke (ok_push (by omega)), M.bind_ok, Int.toNat_natCast]
end
section
variable {th : List Int} {ties : List (List Int)} {down : List Bool} {thr : List (List Int × Tx × Tx × Unit)} {deeds : List (Tx × Int × Option (List Int × Tx × Tx × Unit) × Unit)} {col : Tx}
theorem throw_ok (hw : th.length ≤ 40) (hl : ties.length ≤ 40) (hd : down.length = ties.length) (ht : ∀ t ∈ ties, riB (-1) t = true ∧ t.length ≤ 40) (h1 : thr.length < 40) (h2 : deeds.length < 1000) : f_Loom_throw (th, ties, down, thr, deeds, ()) col = .ok ((), ((th, ties, down, thr ++ [(LS ties down, shedT th (LS ties down), col, ())], deeds ++ [(tx "throw", (0 : Int), none, ())], ()), ())) := by
  unfold f_Loom_throw
  rw [if_neg (by simp; omega), lifted_ok hl hd ht, M.bind_ok]
  show M.bind (M.bind (f_shed_over th (LS ties down)) _) _ = _
  rw [shed_over_ok hw, M.bind_ok, M.bind_ok, oke (ok_push (by show thr.length < _; omega)), M.bind_ok]
  dsimp only
  rw [oke (ok_push (by omega)), M.bind_ok]
theorem throw_full (h1 : 40 ≤ thr.length) : f_Loom_throw (th, ties, down, thr, deeds, ()) col = .ex .tooLarge := by
  unfold f_Loom_throw
  rw [if_pos (by simp; omega)]
theorem popX_app {γ : Type} {xs : List γ} {x : γ} : popX (xs ++ [x]) = .ok (x, xs) := by
  unfold popX
  simp
theorem unthrow_ok {pick : List Int × Tx × Tx × Unit} (h2 : deeds.length < 1000) : f_Loom_unthrow (th, ties, down, thr ++ [pick], deeds, ()) = .ok (pick.2.2.1, ((th, ties, down, thr, deeds ++ [(tx "unthrow", (0 : Int), some pick, ())], ()), ())) := by
  unfold f_Loom_unthrow
  rw [if_neg (by simp; omega)]
  show M.bind (popX (thr ++ [pick])) _ = _
  rw [popX_app, M.bind_ok]
  dsimp only
  rw [oke (ok_push (by omega)), M.bind_ok]
theorem unthrow_none : f_Loom_unthrow (th, ties, down, [], deeds, ()) = .ex .noDeed := by
  unfold f_Loom_unthrow
  rw [if_pos (by simp)]
end
theorem atP_nat' {α β : Type} {xs : List α} {i : Nat} {x : α} {put : List α → β} (h : xs[i]? = some x) : atP (xs, put) (i : Int) = .ok (x, fun y => put (xs.set i y)) := by
  have hl := (List.getElem?_eq_some_iff.mp h).1
  unfold atP L2.ixN
  rw [if_pos (by omega), if_pos (by show (i : Int) < (xs.length : Int); omega), Int.toNat_natCast]
  show (match xs[i]? with | some x => M.ok (x, fun y => put (xs.set i y)) | none => .no) = _
  rw [h]
abbrev Pk := List Int × Tx × Tx × Unit
abbrev Dd := Tx × Int × Option Pk × Unit
theorem tx_ne1 : tx "lift" ≠ tx "press" := by decide +kernel
theorem tx_ne2 : tx "throw" ≠ tx "press" := by decide +kernel
theorem tx_ne3 : tx "throw" ≠ tx "lift" := by decide +kernel
theorem tx_ne4 : tx "unthrow" ≠ tx "press" := by decide +kernel
theorem tx_ne5 : tx "unthrow" ≠ tx "lift" := by decide +kernel
theorem tx_ne6 : tx "unthrow" ≠ tx "throw" := by decide +kernel
theorem set_at {α : Type} {l : List α} {k : Nat} {x : α} (h : l[k]? = some x) : l.set k x = l := by
  refine List.ext_getElem? fun p => ?_
  by_cases e : k = p
  · subst e; rw [List.getElem?_set_self (List.getElem?_eq_some_iff.mp h).1, h]
  · rw [List.getElem?_set_ne e]
section
variable {th : List Int} {ties : List (List Int)} {down : List Bool} {thr : List Pk} {deeds : List Dd}
theorem undo_none : f_Loom_undo (th, ties, down, thr, [], ()) = .ex .noDeed := by
  unfold f_Loom_undo
  rw [if_pos (by simp)]
theorem undo_press {k : Nat} (hk : k < down.length) : f_Loom_undo (th, ties, down, thr, deeds ++ [(tx "press", (k : Int), none, ())], ()) = .ok ((), ((th, ties, down.set k false, thr, deeds, ()), ())) := by
  unfold f_Loom_undo
  rw [if_neg (by simp; omega)]
  show M.bind (popX (deeds ++ [(tx "press", (k : Int), none, ())])) _ = _
  rw [popX_app, M.bok]
  dsimp only
  rw [if_pos (decide_eq_true rfl), oke (ok_set (by omega) (by omega)), M.bok, Int.toNat_natCast]
theorem undo_lift {k : Nat} (hk : k < down.length) : f_Loom_undo (th, ties, down, thr, deeds ++ [(tx "lift", (k : Int), none, ())], ()) = .ok ((), ((th, ties, down.set k true, thr, deeds, ()), ())) := by
  unfold f_Loom_undo
  rw [if_neg (by simp; omega)]
  show M.bind (popX (deeds ++ [(tx "lift", (k : Int), none, ())])) _ = _
  rw [popX_app, M.bok]
  dsimp only
  rw [if_neg (by simpa using tx_ne1), if_pos (decide_eq_true rfl), oke (ok_set (by omega) (by omega)), M.bok, Int.toNat_natCast]
theorem popM_app {α : Type} {xs : List α} {x : α} : popM (xs ++ [x]) = .ok xs := by
  unfold popM
  rw [if_pos (by simp), List.dropLast_concat]
theorem undo_throw {p : Pk} {n : Int} : f_Loom_undo (th, ties, down, thr ++ [p], deeds ++ [(tx "throw", n, none, ())], ()) = .ok ((), ((th, ties, down, thr, deeds, ()), ())) := by
  unfold f_Loom_undo
  rw [if_neg (by simp; omega)]
  show M.bind (popX (deeds ++ [(tx "throw", n, none, ())])) _ = _
  rw [popX_app, M.bok]
  dsimp only
  rw [if_neg (by simpa using tx_ne2), if_neg (by simpa using tx_ne3), if_pos (decide_eq_true rfl), popM_app, M.bok]
theorem undo_unthrow {p : Pk} {n : Int} (hl : thr.length < 1000) : f_Loom_undo (th, ties, down, thr, deeds ++ [(tx "unthrow", n, some p, ())], ()) = .ok ((), ((th, ties, down, thr ++ [p], deeds, ()), ())) := by
  unfold f_Loom_undo
  rw [if_neg (by simp; omega)]
  show M.bind (popX (deeds ++ [(tx "unthrow", n, some p, ())])) _ = _
  rw [popX_app, M.bok]
  dsimp only
  rw [if_neg (by simpa using tx_ne4), if_neg (by simpa using tx_ne5), if_neg (by simpa using tx_ne6)]
  show M.bind (M.ok p) _ = _
  rw [M.bok, oke (ok_push (by omega)), M.bok]
end
/-- a pick that was thrown -/
def Gp (th : List Int) (p : Pk) : Prop := riB (-1) p.1 = true ∧ p.1.length ≤ 40 ∧ p.2.1 = shedT th p.1
structure OkL (th : List Int) (ties : List (List Int)) (down : List Bool) (thr : List Pk) : Prop where
  d : down.length = ties.length
  n : thr.length ≤ 40
  g : ∀ p ∈ thr, Gp th p
/-- the deeds and what a law's books keep of the times ahead of them -/
inductive Ch {β : Type} (kp : Pk → β) (th : List Int) (ties : List (List Int)) : List Bool → List Pk → List Dd → List (List Bool × List β × Unit) → Prop where
  | nil {down thr} : Ch kp th ties down thr [] []
  | press {down thr ds hs k} : Ch kp th ties down thr ds hs → OkL th ties down thr → down[k]? = some false → Ch kp th ties (down.set k true) thr (ds ++ [(tx "press", ((k : Nat) : Int), none, ())]) (hs ++ [(down, thr.map kp, ())])
  | lift {down thr ds hs k} : Ch kp th ties down thr ds hs → OkL th ties down thr → down[k]? = some true → Ch kp th ties (down.set k false) thr (ds ++ [(tx "lift", ((k : Nat) : Int), none, ())]) (hs ++ [(down, thr.map kp, ())])
  | throw {down thr ds hs p} : Ch kp th ties down thr ds hs → OkL th ties down thr → Ch kp th ties down (thr ++ [p]) (ds ++ [(tx "throw", (0 : Int), none, ())]) (hs ++ [(down, thr.map kp, ())])
  | unthrow {down thr ds hs p} : Ch kp th ties down (thr ++ [p]) ds hs → OkL th ties down (thr ++ [p]) → Ch kp th ties down thr (ds ++ [(tx "unthrow", (0 : Int), some p, ())]) (hs ++ [(down, (thr ++ [p]).map kp, ())])
section
variable {β : Type} {kp : Pk → β} {th : List Int} {ties : List (List Int)} {down : List Bool} {thr : List Pk} {deeds : List Dd} {hist : List (List Bool × List β × Unit)}
theorem Ch.len (h : Ch kp th ties down thr deeds hist) : deeds.length = hist.length := by
  induction h with
  | nil => rfl
  | press _ _ _ ih => simp [ih]
  | lift _ _ _ ih => simp [ih]
  | throw _ _ ih => simp [ih]
  | unthrow _ _ ih => simp [ih]
theorem Ch.back (h : Ch kp th ties down thr deeds hist) (hne : 0 < deeds.length) : ∃ ds hs down' thr', hist = hs ++ [(down', thr'.map kp, ())] ∧ Ch kp th ties down' thr' ds hs ∧ OkL th ties down' thr' ∧ f_Loom_undo (th, ties, down, thr, deeds, ()) = .ok ((), ((th, ties, down', thr', ds, ()), ())) ∧ ds.length + 1 = deeds.length := by
  cases h with
  | nil => simp at hne
  | @press down thr ds hs k h o hd =>
    refine ⟨ds, hs, down, thr, rfl, h, o, ?_, by simp⟩
    have hk := (List.getElem?_eq_some_iff.mp hd).1
    rw [undo_press (by rw [List.length_set]; exact hk), List.set_set, set_at hd]
  | @lift down thr ds hs k h o hd =>
    refine ⟨ds, hs, down, thr, rfl, h, o, ?_, by simp⟩
    have hk := (List.getElem?_eq_some_iff.mp hd).1
    rw [undo_lift (by rw [List.length_set]; exact hk), List.set_set, set_at hd]
  | @throw down thr ds hs p h o => exact ⟨ds, hs, down, thr, rfl, h, o, undo_throw, by simp⟩
  | @unthrow down thr ds hs p h o =>
    have := o.n
    rw [List.length_append, List.length_singleton] at this
    exact ⟨ds, hs, down, thr ++ [p], rfl, h, o, undo_unthrow (by omega), by simp⟩
theorem OkL.set (o : OkL th ties down thr) (k : Nat) (b : Bool) : OkL th ties (down.set k b) thr := ⟨by rw [List.length_set]; exact o.d, o.n, o.g⟩
theorem OkL.pop {p : Pk} (o : OkL th ties down (thr ++ [p])) : OkL th ties down thr := ⟨o.d, by have := o.n; rw [List.length_append, List.length_singleton] at this; omega, fun q hq => o.g q (List.mem_append_left _ hq)⟩
theorem LS_up : riB (-1) (LS ties down) = true ∧ (LS ties down).length ≤ 40 := by
  refine ⟨(riB_iff _ _).mpr ⟨fun x hx => ?_, ?_⟩, Nat.le_trans (List.length_filter_le _ _) (by rw [upFrom_len]; decide)⟩
  · have := upFrom_mem.mp (List.mem_filter.mp hx).1
    omega
  · refine List.Pairwise.filter _ ?_
    have up : ∀ (n : Nat) (lo : Int), (upFrom lo n).Pairwise (· < ·) := fun n => by
      induction n with
      | zero => intro lo; exact .nil
      | succ n ih =>
        intro lo
        rw [upFrom]
        refine List.pairwise_cons.mpr ⟨fun y hy => ?_, ih _⟩
        have := upFrom_mem.mp hy
        omega
    exact up _ _
theorem OkL.push (o : OkL th ties down thr) (h : thr.length < 40) (col : Tx) : OkL th ties down (thr ++ [(LS ties down, shedT th (LS ties down), col, ())]) := ⟨o.d, by rw [List.length_append, List.length_singleton]; omega, fun p hp => by
  rcases List.mem_append.mp hp with hp | hp
  · exact o.g p hp
  · rw [List.mem_singleton.mp hp]; exact ⟨LS_up.1, LS_up.2, rfl⟩⟩
end
section
variable {th : List Int}
theorem law_shed_ok {l : List Int} (hl : th.length ≤ 40) : f_law_shed th l = .ok (shedT th l) := by
  refine oke ?_
  unfold f_law_shed
  refine okb (P := (· = shedT th l)) (okmono (ok_for (fun i (s : Tx) => s = shedT (th.take i) l) (by rw [tx_nil]; rfl) fun i x s hx e => ?_) fun s e => by rw [e, List.take_length]) fun s e => okv e
  subst e
  have hi := (List.getElem?_eq_some_iff.mp hx).1
  unfold f_law_shed_l1
  rw [tx_hash, tx_dot]
  have g : getM ([[46], [35]] : List Tx) (bInt (decide (x ∈ l))) = .ok [if x ∈ l then 35 else 46] := by
    by_cases c : x ∈ l
    · rw [decide_eq_true c, if_pos c]; exact getM_at (by decide) rfl
    · rw [decide_eq_false c, if_neg c]; exact getM_at (by decide) rfl
  rw [g, M.bind_ok]
  refine okb (ok_cat (by unfold shedT; simp; omega)) fun y e => okv ?_
  subst e
  unfold shedT
  rw [List.take_add_one, hx, List.map_append]; rfl
end
abbrev He16 := (List Int × List Int × Unit) ⊕ (List Tx × List Tx × Unit)
abbrev Pr16 := Tx × Tx × Unit
abbrev St16 := List Bool × List Pr16 × List (List Bool × List Pr16 × Unit) × List He16 × Unit
abbrev Td16 := (Option Tx × Unit) ⊕ (Option Tx × Tx × Unit)
def kp16 (p : Pk) : Pr16 := (p.2.1, p.2.2.1, ())
def ref16 (x : Tx) : Td16 := .inr (some (tx "refused"), x, ())
theorem tx_ne7 : tx "undo" ≠ tx "press" := by decide +kernel
theorem tx_ne8 : tx "undo" ≠ tx "lift" := by decide +kernel
theorem tx_ne9 : tx "undo" ≠ tx "throw" := by decide +kernel
theorem tx_ne10 : tx "undo" ≠ tx "unthrow" := by decide +kernel
theorem tx_ne11 : tx "lift" ≠ tx "throw" := by decide +kernel
theorem tx_ne12 : tx "lift" ≠ tx "undo" := by decide +kernel
theorem tx_ne13 : tx "lift" ≠ tx "unthrow" := by decide +kernel
theorem tx_ne14 : tx "press" ≠ tx "throw" := by decide +kernel
theorem tx_ne15 : tx "press" ≠ tx "undo" := by decide +kernel
theorem tx_ne16 : tx "press" ≠ tx "unthrow" := by decide +kernel
theorem tx_ne17 : tx "throw" ≠ tx "unthrow" := by decide +kernel
theorem tx_ne18 : tx "throw" ≠ tx "undo" := by decide +kernel
theorem tx_ne19 : tx "unthrow" ≠ tx "undo" := by decide +kernel
def HeldOk (h : List He16) : Prop := ∀ x ∈ h, (∃ a, x = .inl (a, a, ())) ∨ ∃ a, x = .inr (a, a, ())
structure Inv16 (th : List Int) (ties : List (List Int)) (n : Nat) (m : O_Loom) (st : St16) : Prop where
  ex : ∃ down thr deeds hist held, m = (th, ties, down, thr, deeds, ()) ∧ st = (down, thr.map kp16, hist, held, ()) ∧ OkL th ties down thr ∧ Ch kp16 th ties down thr deeds hist ∧ deeds.length ≤ n ∧ HeldOk held ∧ held.length ≤ n
structure Set16 (th : List Int) (ties : List (List Int)) : Prop where
  w : th.length ≤ 40
  l : ties.length ≤ 40
  l1 : 1 ≤ ties.length
  t : ∀ t ∈ ties, riB (-1) t = true ∧ t.length ≤ 40
theorem Inv16.mono {th ties n n' m st} (h : Inv16 th ties n m st) (hn : n ≤ n') : Inv16 th ties n' m st := by
  obtain ⟨down, thr, deeds, hist, held, a, b, c, d, e, f, g⟩ := h.ex
  exact ⟨down, thr, deeds, hist, held, a, b, c, d, by omega, f, by omega⟩
section
variable {m m' : O_Loom} {at_ : Int} {l c : Tx}
theorem nd_f {β : Type} {h : Ec → β} : tryM kn_ .weave (M.ex .noDeed) h = .ok (h .noDeed) := by
  unfold tryM
  simp only
  rw [if_pos (by decide), if_pos (by decide)]
theorem tl_f {β : Type} {h : Ec → β} : tryM kn_ .weave (M.ex .tooLarge) h = .ok (h .tooLarge) := by
  unfold tryM
  simp only
  rw [if_pos (by decide), if_pos (by decide)]
theorem isE_nn : isEM kn_ (some .noDeed) .noDeed = .ok true := by unfold isEM; simp only; rw [if_pos (by decide)]; rfl
theorem isE_nt : isEM kn_ (some .noDeed) .tooLarge = .ok false := by unfold isEM; simp only; rw [if_pos (by decide)]; rfl
theorem isE_tn : isEM kn_ (some .tooLarge) .noDeed = .ok false := by unfold isEM; simp only; rw [if_pos (by decide)]; rfl
theorem isE_tt : isEM kn_ (some .tooLarge) .tooLarge = .ok true := by unfold isEM; simp only; rw [if_pos (by decide)]; rfl
theorem exb {α β : Type} {e : Ec} {f : α → M β} : M.bind (M.ex e) f = .ex e := rfl
theorem try_okv {β : Type} {v : β} {h : Ec → β} : tryM kn_ .weave (M.ok v) h = .ok v := rfl
theorem try_press (h : f_Loom_press m at_ = .ok ((), (m', ()))) : f_law_try m (tx "press") at_ l = .ok (.inl (none, ()), (m', ())) := by
  unfold f_law_try
  dsimp only
  rw [if_pos (decide_eq_true rfl), h, M.bok, try_okv, M.bok]
  rfl
theorem try_press_no (h : f_Loom_press m at_ = .ex .noDeed) : f_law_try m (tx "press") at_ l = .ok (ref16 (tx "NoDeed"), (m, ())) := by
  unfold f_law_try
  dsimp only
  rw [if_pos (decide_eq_true rfl), h, exb, nd_f, M.bok, if_neg (by simp), isE_nn, M.bok, if_pos rfl, isE_nt]
  rfl
theorem try_lift (h : f_Loom_lift m at_ = .ok ((), (m', ()))) : f_law_try m (tx "lift") at_ l = .ok (.inl (none, ()), (m', ())) := by
  unfold f_law_try
  dsimp only
  rw [if_neg (by simpa using tx_ne1), if_pos (decide_eq_true rfl), h, M.bok, try_okv, M.bok]
  rfl
theorem try_lift_no (h : f_Loom_lift m at_ = .ex .noDeed) : f_law_try m (tx "lift") at_ l = .ok (ref16 (tx "NoDeed"), (m, ())) := by
  unfold f_law_try
  dsimp only
  rw [if_neg (by simpa using tx_ne1), if_pos (decide_eq_true rfl), h, exb, nd_f, M.bok, if_neg (by simp), isE_nn, M.bok, if_pos rfl, isE_nt]
  rfl
theorem try_throw (h : f_Loom_throw m l = .ok ((), (m', ()))) : f_law_try m (tx "throw") at_ l = .ok (.inl (none, ()), (m', ())) := by
  unfold f_law_try
  dsimp only
  rw [if_neg (by simpa using tx_ne2), if_neg (by simpa using tx_ne3), if_pos (decide_eq_true rfl), h, M.bok, try_okv, M.bok]
  rfl
theorem try_throw_no (h : f_Loom_throw m l = .ex .tooLarge) : f_law_try m (tx "throw") at_ l = .ok (ref16 (tx "TooLarge"), (m, ())) := by
  unfold f_law_try
  dsimp only
  rw [if_neg (by simpa using tx_ne2), if_neg (by simpa using tx_ne3), if_pos (decide_eq_true rfl), h, exb, tl_f, M.bok, if_neg (by simp), isE_tn, M.bok, if_neg (by simp), M.bok, if_neg (by simp), isE_tt, M.bok, if_pos rfl]
  rfl
theorem try_unthrow (h : f_Loom_unthrow m = .ok (c, (m', ()))) : f_law_try m (tx "unthrow") at_ l = .ok (.inl (some c, ()), (m', ())) := by
  unfold f_law_try
  dsimp only
  rw [if_neg (by simpa using tx_ne4), if_neg (by simpa using tx_ne5), if_neg (by simpa using tx_ne6), if_pos (decide_eq_true rfl), h, M.bok, try_okv, M.bok]
  rfl
theorem try_unthrow_no (h : f_Loom_unthrow m = .ex .noDeed) : f_law_try m (tx "unthrow") at_ l = .ok (ref16 (tx "NoDeed"), (m, ())) := by
  unfold f_law_try
  dsimp only
  rw [if_neg (by simpa using tx_ne4), if_neg (by simpa using tx_ne5), if_neg (by simpa using tx_ne6), if_pos (decide_eq_true rfl), h, exb, nd_f, M.bok, if_neg (by simp), isE_nn, M.bok, if_pos rfl, isE_nt]
  rfl
theorem try_undo (h : f_Loom_undo m = .ok ((), (m', ()))) : f_law_try m (tx "undo") at_ l = .ok (.inl (none, ()), (m', ())) := by
  unfold f_law_try
  dsimp only
  rw [if_neg (by simpa using tx_ne7), if_neg (by simpa using tx_ne8), if_neg (by simpa using tx_ne9), if_neg (by simpa using tx_ne10), h, M.bok, try_okv, M.bok]
  rfl
theorem try_undo_no (h : f_Loom_undo m = .ex .noDeed) : f_law_try m (tx "undo") at_ l = .ok (ref16 (tx "NoDeed"), (m, ())) := by
  unfold f_law_try
  dsimp only
  rw [if_neg (by simpa using tx_ne7), if_neg (by simpa using tx_ne8), if_neg (by simpa using tx_ne9), if_neg (by simpa using tx_ne10), h, exb, nd_f, M.bok, if_neg (by simp), isE_nn, M.bok, if_pos rfl, isE_nt]
  rfl
end
theorem same16 {t : Td16} (h : (∃ c, t = .inl (c, ())) ∨ ∃ x, t = ref16 x) : f_law_same t t = .ok true := by
  unfold f_law_same
  rw [if_neg (by simp)]
  rcases h with ⟨c, rfl⟩ | ⟨x, rfl⟩
  · cases c with
    | none => simp [selm]
    | some c => rw [if_neg (by simp [selm])]; simp [selm]
  · unfold ref16
    rw [if_neg (by simp [selm])]; simp [selm]
section
variable {th : List Int} {ties : List (List Int)} {down : List Bool} {ps : List Pr16} {hist : List (List Bool × List Pr16 × Unit)} {held : List He16} {at_ : Int} {l : Tx}
theorem mv_no {set : List Int × List (List Int) × Unit} {st : St16} {w : Tx} (h : f_law_cannot st w at_ = .ok true) : f_law_moved_on set st w at_ l = .ok (ref16 (tx "NoDeed"), (st, ())) := by
  unfold f_law_moved_on
  rw [h, M.bok, if_pos rfl]
  rfl
theorem known_yes {k : Nat} {b : Bool} (hb : down[k]? = some b) : (decide ((0 : Int) ≤ (k : Int)) && decide ((k : Int) < (down.length : Int))) = true := by
  have := (List.getElem?_eq_some_iff.mp hb).1
  simp; omega
theorem cn_press {k : Nat} {b : Bool} (hb : down[k]? = some b) : f_law_cannot (down, ps, hist, held, ()) (tx "press") (k : Int) = .ok b := by
  unfold f_law_cannot
  dsimp only
  rw [known_yes hb, if_pos (decide_eq_true rfl), if_neg (by simp), getM_nat hb]
theorem cn_press_no (h : ¬ (0 ≤ at_ ∧ at_ < (down.length : Int))) : f_law_cannot (down, ps, hist, held, ()) (tx "press") at_ = .ok true := by
  unfold f_law_cannot
  dsimp only
  rw [if_pos (decide_eq_true rfl), if_pos (by simp; omega)]
theorem cn_lift {k : Nat} {b : Bool} (hb : down[k]? = some b) : f_law_cannot (down, ps, hist, held, ()) (tx "lift") (k : Int) = .ok (!b) := by
  unfold f_law_cannot
  dsimp only
  rw [known_yes hb, if_neg (by simpa using tx_ne1), if_pos (decide_eq_true rfl), if_neg (by simp), getM_nat hb, M.bok]
theorem cn_lift_no (h : ¬ (0 ≤ at_ ∧ at_ < (down.length : Int))) : f_law_cannot (down, ps, hist, held, ()) (tx "lift") at_ = .ok true := by
  unfold f_law_cannot
  dsimp only
  rw [if_neg (by simpa using tx_ne1), if_pos (decide_eq_true rfl), if_pos (by simp; omega)]
theorem cn_throw : f_law_cannot (down, ps, hist, held, ()) (tx "throw") at_ = .ok false := by
  unfold f_law_cannot
  dsimp only
  rw [if_neg (by simpa using tx_ne2), if_neg (by simpa using tx_ne3), if_neg (by simpa using tx_ne17), decide_eq_false tx_ne18, Bool.false_and]
theorem cn_unthrow : f_law_cannot (down, ps, hist, held, ()) (tx "unthrow") at_ = .ok (decide (ps.length = 0)) := by
  unfold f_law_cannot
  dsimp only
  rw [if_neg (by simpa using tx_ne4), if_neg (by simpa using tx_ne5), if_pos (decide_eq_true rfl)]
  congr 2
  exact propext ⟨fun h => by omega, fun h => by omega⟩
theorem cn_undo : f_law_cannot (down, ps, hist, held, ()) (tx "undo") at_ = .ok (decide (hist.length = 0)) := by
  unfold f_law_cannot
  dsimp only
  rw [if_neg (by simpa using tx_ne7), if_neg (by simpa using tx_ne8), if_neg (by simpa using tx_ne10), decide_eq_true rfl, Bool.true_and]
  congr 2
  exact propext ⟨fun h => by omega, fun h => by omega⟩
variable (hh : hist.length < 1000)
include hh
theorem mv_press {k : Nat} (hb : down[k]? = some false) : f_law_moved_on (th, ties, ()) (down, ps, hist, held, ()) (tx "press") (k : Int) l = .ok (.inl (none, ()), ((down.set k true, ps, hist ++ [(down, ps, ())], held, ()), ())) := by
  have hk := (List.getElem?_eq_some_iff.mp hb).1
  unfold f_law_moved_on
  rw [cn_press hb, M.bok, if_neg (by simp)]
  dsimp only
  rw [decide_eq_false tx_ne14, Bool.false_and, if_neg (by simp), if_neg (by simpa using tx_ne15), oke (ok_push (by omega)), M.bok, if_neg (by simpa using tx_ne16), if_neg (by simp), decide_eq_true rfl, show setM down (k : Int) _ = _ from oke (ok_set (by omega) (by omega)), M.bok, M.bok, Int.toNat_natCast]
theorem mv_lift {k : Nat} (hb : down[k]? = some true) : f_law_moved_on (th, ties, ()) (down, ps, hist, held, ()) (tx "lift") (k : Int) l = .ok (.inl (none, ()), ((down.set k false, ps, hist ++ [(down, ps, ())], held, ()), ())) := by
  have hk := (List.getElem?_eq_some_iff.mp hb).1
  unfold f_law_moved_on
  rw [cn_lift hb, M.bok, if_neg (by simp)]
  dsimp only
  rw [decide_eq_false tx_ne11, Bool.false_and, if_neg (by simp), if_neg (by simpa using tx_ne12), oke (ok_push (by omega)), M.bok, if_neg (by simpa using tx_ne13), if_neg (by simp), decide_eq_false tx_ne1, show setM down (k : Int) _ = _ from oke (ok_set (by omega) (by omega)), M.bok, M.bok, Int.toNat_natCast]
theorem mv_throw (g : Set16 th ties) (hd : down.length = ties.length) (hp : ps.length < 40) : f_law_moved_on (th, ties, ()) (down, ps, hist, held, ()) (tx "throw") at_ l = .ok (.inl (none, ()), ((down, ps ++ [(shedT th (LS ties down), l, ())], hist ++ [(down, ps, ())], held, ()), ())) := by
  unfold f_law_moved_on
  rw [cn_throw, M.bok, if_neg (by simp)]
  dsimp only
  rw [if_neg (by simp; omega), if_neg (by simpa using tx_ne18), oke (ok_push (by omega)), M.bok, if_neg (by simpa using tx_ne17), if_pos (decide_eq_true rfl)]
  rw [law_lifted_ok g.l hd g.t, M.bok, law_shed_ok g.w, M.bok, M.bok, oke (ok_push (by omega)), M.bok, M.bok]
theorem mv_full (hp : ps.length = 40) : f_law_moved_on (th, ties, ()) (down, ps, hist, held, ()) (tx "throw") at_ l = .ok (ref16 (tx "TooLarge"), ((down, ps, hist, held, ()), ())) := by
  unfold f_law_moved_on
  rw [cn_throw, M.bok, if_neg (by simp)]
  dsimp only
  rw [if_pos (by simp [hp])]
  rfl
theorem mv_unthrow {p : Pr16} : f_law_moved_on (th, ties, ()) (down, ps ++ [p], hist, held, ()) (tx "unthrow") at_ l = .ok (.inl (some p.2.1, ()), ((down, ps, hist ++ [(down, ps ++ [p], ())], held, ()), ())) := by
  unfold f_law_moved_on
  rw [cn_unthrow, M.bok, if_neg (by simp)]
  dsimp only
  rw [decide_eq_false tx_ne6, Bool.false_and, if_neg (by simp), if_neg (by simpa using tx_ne19), oke (ok_push (by omega)), M.bok, if_pos (decide_eq_true rfl), popX_app, M.bok, M.bok]
theorem mv_undo {d' : List Bool} {ps' : List Pr16} : f_law_moved_on (th, ties, ()) (down, ps, hist ++ [(d', ps', ())], held, ()) (tx "undo") at_ l = .ok (.inl (none, ()), ((d', ps', hist, held, ()), ())) := by
  unfold f_law_moved_on
  rw [cn_undo, M.bok, if_neg (by simp)]
  dsimp only
  rw [decide_eq_false tx_ne9, Bool.false_and, if_neg (by simp), if_pos (decide_eq_true rfl), popX_app, M.bok]
end
section
variable {th : List Int} {ties : List (List Int)} {down : List Bool} {thr : List Pk} {deeds : List Dd} {n : Nat} {m : O_Loom} {st : St16}
theorem press_no {a : Int} (h : ¬ (0 ≤ a ∧ a < (ties.length : Int))) : f_Loom_press (th, ties, down, thr, deeds, ()) a = .ex .noDeed := by
  unfold f_Loom_press f_Loom_has_treadle
  have e1 : (decide ((0 : Int) ≤ a) && decide (a < ((th, ties, down, thr, deeds, ()).2.1.length : Int))) = false := by
    show (decide ((0 : Int) ≤ a) && decide (a < (ties.length : Int))) = false
    simpa using h
  rw [e1]
  simp only [M.bok]
  rw [if_pos (by simp), M.bok, if_pos rfl]
theorem press_down {k : Nat} (hk : k < ties.length) (hd : down[k]? = some true) : f_Loom_press (th, ties, down, thr, deeds, ()) (k : Int) = .ex .noDeed := by
  unfold f_Loom_press f_Loom_has_treadle
  have e1 : (decide ((0 : Int) ≤ (k : Int)) && decide ((k : Int) < ((th, ties, down, thr, deeds, ()).2.1.length : Int))) = true := by
    show (decide ((0 : Int) ≤ (k : Int)) && decide ((k : Int) < (ties.length : Int))) = true
    simp; omega
  rw [e1]
  simp only [M.bok]
  rw [if_neg (by simp), getM_nat hd, M.bok, if_pos rfl]
theorem lift_no {a : Int} (h : ¬ (0 ≤ a ∧ a < (ties.length : Int))) : f_Loom_lift (th, ties, down, thr, deeds, ()) a = .ex .noDeed := by
  unfold f_Loom_lift f_Loom_has_treadle
  have e1 : (decide ((0 : Int) ≤ a) && decide (a < ((th, ties, down, thr, deeds, ()).2.1.length : Int))) = false := by
    show (decide ((0 : Int) ≤ a) && decide (a < (ties.length : Int))) = false
    simpa using h
  rw [e1]
  simp only [M.bok]
  rw [if_pos (by simp), M.bok, if_pos rfl]
theorem lift_up {k : Nat} (hk : k < ties.length) (hd : down[k]? = some false) : f_Loom_lift (th, ties, down, thr, deeds, ()) (k : Int) = .ex .noDeed := by
  unfold f_Loom_lift f_Loom_has_treadle
  have e1 : (decide ((0 : Int) ≤ (k : Int)) && decide ((k : Int) < ((th, ties, down, thr, deeds, ()).2.1.length : Int))) = true := by
    show (decide ((0 : Int) ≤ (k : Int)) && decide ((k : Int) < (ties.length : Int))) = true
    simp; omega
  rw [e1]
  simp only [M.bok]
  rw [if_neg (by simp), getM_nat hd, M.bok, M.bok, if_pos (by simp)]
/-- what a deed comes to, on the loom and in the books -/
def Did16 (th : List Int) (ties : List (List Int)) (n : Nat) (m : O_Loom) (st : St16) (w : Tx) (a : Int) (l : Tx) : Prop :=
  ∃ t m' st', f_law_moved_on (th, ties, ()) st w a l = .ok (t, (st', ())) ∧ f_law_try m w a l = .ok (t, (m', ())) ∧ Inv16 th ties (n + 1) m' st' ∧ ((∃ c, t = .inl (c, ())) ∨ ∃ x, t = ref16 x)
theorem did16 (h : Inv16 th ties n m st) (g : Set16 th ties) (hn : n < 900) {w : Tx} (hw : w ∈ [tx "press", tx "lift", tx "throw", tx "unthrow", tx "undo"]) (a : Int) (l : Tx) : Did16 th ties n m st w a l := by
  obtain ⟨down, thr, deeds, hist, held, rfl, rfl, ho, hch, hnd, hh, hhn⟩ := h.ex
  have hd := ho.d
  have hln := hch.len
  have htn := ho.n
  have hL : hist.length < 1000 := by omega
  have stay : Inv16 th ties (n + 1) (th, ties, down, thr, deeds, ()) (down, thr.map kp16, hist, held, ()) := h.mono (by omega)
  have push1 : ∀ {d : Dd}, (deeds ++ [d]).length ≤ n + 1 := fun {d} => by rw [List.length_append, List.length_singleton]; omega
  simp only [List.mem_cons, List.not_mem_nil, or_false] at hw
  rcases hw with rfl | rfl | rfl | rfl | rfl
  · by_cases c : 0 ≤ a ∧ a < (down.length : Int)
    · obtain ⟨k, rfl⟩ : ∃ k : Nat, a = (k : Int) := ⟨a.toNat, by omega⟩
      obtain ⟨b, hb⟩ : ∃ b, down[k]? = some b := ⟨_, List.getElem?_eq_getElem (by omega)⟩
      cases b with
      | true => exact ⟨_, _, _, mv_no (cn_press hb), try_press_no (press_down (by omega) hb), stay, .inr ⟨_, rfl⟩⟩
      | false => exact ⟨_, _, _, mv_press hL hb, try_press (press_ok (by omega) hb (by omega)), ⟨_, _, _, _, held, rfl, rfl, ho.set k true, .press hch ho hb, push1, hh, by omega⟩, .inl ⟨_, rfl⟩⟩
    · exact ⟨_, _, _, mv_no (cn_press_no c), try_press_no (press_no (by rw [← hd]; exact c)), stay, .inr ⟨_, rfl⟩⟩
  · by_cases c : 0 ≤ a ∧ a < (down.length : Int)
    · obtain ⟨k, rfl⟩ : ∃ k : Nat, a = (k : Int) := ⟨a.toNat, by omega⟩
      obtain ⟨b, hb⟩ : ∃ b, down[k]? = some b := ⟨_, List.getElem?_eq_getElem (by omega)⟩
      cases b with
      | false => exact ⟨_, _, _, mv_no (cn_lift hb), try_lift_no (lift_up (by omega) hb), stay, .inr ⟨_, rfl⟩⟩
      | true => exact ⟨_, _, _, mv_lift hL hb, try_lift (lift_ok (by omega) hb (by omega)), ⟨_, _, _, _, held, rfl, rfl, ho.set k false, .lift hch ho hb, push1, hh, by omega⟩, .inl ⟨_, rfl⟩⟩
    · exact ⟨_, _, _, mv_no (cn_lift_no c), try_lift_no (lift_no (by rw [← hd]; exact c)), stay, .inr ⟨_, rfl⟩⟩
  · by_cases c : thr.length < 40
    · refine ⟨_, _, _, mv_throw hL g hd (by rw [List.length_map]; exact c), try_throw (throw_ok g.w g.l hd g.t c (by omega)), ⟨_, _, _, _, held, rfl, ?_, ho.push c l, .throw hch ho, push1, hh, by omega⟩, .inl ⟨_, rfl⟩⟩
      rw [List.map_append]; rfl
    · exact ⟨_, _, _, mv_full hL (by rw [List.length_map]; omega), try_throw_no (throw_full (by omega)), stay, .inr ⟨_, rfl⟩⟩
  · rcases List.eq_nil_or_concat thr with rfl | ⟨t0, pick, rfl⟩
    · exact ⟨_, _, _, mv_no (by rw [cn_unthrow]; rfl), try_unthrow_no unthrow_none, stay, .inr ⟨_, rfl⟩⟩
    · rw [List.concat_eq_append] at *
      have e : (t0 ++ [pick]).map kp16 = t0.map kp16 ++ [kp16 pick] := by rw [List.map_append]; rfl
      refine ⟨_, _, _, by rw [e]; exact mv_unthrow hL, try_unthrow (unthrow_ok (by omega)), ⟨_, _, _, _, held, rfl, ?_, ho.pop, .unthrow hch ho, push1, hh, by omega⟩, .inl ⟨_, rfl⟩⟩
      rw [e]
  · by_cases c : 0 < deeds.length
    · obtain ⟨ds, hs, down', thr', e1, h', o', eu, ln⟩ := hch.back c
      subst e1
      rw [List.length_append] at hL
      exact ⟨_, _, _, mv_undo (by omega), try_undo eu, ⟨_, _, _, _, held, rfl, rfl, o', h', by omega, hh, by omega⟩, .inl ⟨_, rfl⟩⟩
    · have e0 : deeds = [] := List.length_eq_zero_iff.mp (by omega)
      subst e0
      refine ⟨_, _, _, mv_no (by rw [cn_undo, decide_eq_true (by simpa using hln.symm)]), try_undo_no undo_none, stay, .inr ⟨_, rfl⟩⟩
end
section
variable {th : List Int} {ties : List (List Int)} {n : Nat} {m : O_Loom} {st : St16}
theorem listI {t : List Int} {held : List He16} (h : held.length < 1000) : f_law_list t t held = .ok (true, (held ++ [.inl (t, t, ())], ())) := by
  refine oke ?_
  unfold f_law_list
  rw [if_neg (by simp)]
  refine okb (ok_for (fun _ _ => True) trivial fun i x s hx _ => ?_) fun s _ => ?_
  · unfold f_law_list_l1
    rw [if_neg (by simp)]
    exact okv trivial
  · rw [oke (ok_push (by omega)), M.bok]
    exact okv rfl
theorem listS {t : List Tx} {held : List He16} (h : held.length < 1000) : f_law_list__k2 t t held = .ok (true, (held ++ [.inr (t, t, ())], ())) := by
  refine oke ?_
  unfold f_law_list__k2
  rw [if_neg (by simp)]
  refine okb (ok_for (fun _ _ => True) trivial fun i x s hx _ => ?_) fun s _ => ?_
  · unfold f_law_list__k2_l1
    rw [if_neg (by simp)]
    exact okv trivial
  · rw [oke (ok_push (by omega)), M.bok]
    exact okv rfl
theorem heldI {held : List He16} (h : HeldOk held) (t : List Int) : HeldOk (held ++ [.inl (t, t, ())]) := fun x hx => by
  rcases List.mem_append.mp hx with hx | hx
  · exact h x hx
  · rw [List.mem_singleton.mp hx]; exact .inl ⟨t, rfl⟩
theorem heldS {held : List He16} (h : HeldOk held) (t : List Tx) : HeldOk (held ++ [.inr (t, t, ())]) := fun x hx => by
  rcases List.mem_append.mp hx with hx | hx
  · exact h x hx
  · rw [List.mem_singleton.mp hx]; exact .inr ⟨t, rfl⟩
theorem answered16 (h : Inv16 th ties n m st) (g : Set16 th ties) (hn : n < 900) (way : Int) : Okm (f_law_answered m (th, ties, ()) st way) (fun r => r.1 = true ∧ Inv16 th ties (n + 1) r.2.1 r.2.2.1) := by
  obtain ⟨down, thr, deeds, hist, held, rfl, rfl, ho, hch, hnd, hh, hhn⟩ := h.ex
  have hd := ho.d
  have hln := hch.len
  have htn := ho.n
  have gl := g.l
  have stay : Inv16 th ties (n + 1) (th, ties, down, thr, deeds, ()) (down, thr.map kp16, hist, held, ()) := h.mono (by omega)
  have more : ∀ x : He16, HeldOk (held ++ [x]) → Inv16 th ties (n + 1) (th, ties, down, thr, deeds, ()) (down, thr.map kp16, hist, held ++ [x], ()) := fun x hx => ⟨_, _, _, _, _, rfl, rfl, ho, hch, by omega, hx, by rw [List.length_append, List.length_singleton]; omega⟩
  unfold f_law_answered
  dsimp only
  by_cases c0 : way = 0
  · rw [if_pos (decide_eq_true c0)]
    unfold f_Loom_deeds_done
    rw [M.bok]
    refine okv ⟨?_, stay⟩
    show (true && (!false && decide ((deeds.length : Int) = (hist.length : Int)))) = true
    rw [hln]
    simp
  rw [if_neg (by simpa using c0)]
  by_cases c1 : way = 1
  · rw [if_pos (decide_eq_true c1)]
    have e : ∀ nn : Nat, nn = down.length → (M.bind (rangeM 0 (nn : Int)) fun xs => compM (fun k => M.bind (getM down k) fun c => if c = true then M.ok (some k) else M.ok none) xs) = .ok ((upFrom 0 down.length).filterMap fun x => if (down[x.toNat]?.getD false) = true then some x else none) := fun nn en => by
      subst en
      rw [range_eq, M.bok, Int.sub_zero, Int.toNat_natCast]
      rw [comp_eq (g := fun x => if (down[x.toNat]?.getD false) = true then some x else none) (by rw [upFrom_len]; omega) fun x hx => ?_]
      rw [upFrom_mem] at hx
      obtain ⟨b, hb⟩ : ∃ b, down[x.toNat]? = some b := ⟨_, List.getElem?_eq_getElem (by omega)⟩
      rw [getM_at (by omega) hb, M.bok, hb]
      cases b <;> rfl
    rw [e _ rfl, M.bok]
    have e2 : f_Loom_treadles_down (th, ties, down, thr, deeds, ()) = .ok ((upFrom 0 down.length).filterMap fun x => if (down[x.toNat]?.getD false) = true then some x else none) := e ties.length hd.symm
    rw [e2, M.bok, listI (by omega)]
    simp only [M.bok]
    exact okv ⟨rfl, more _ (heldI hh _)⟩
  rw [if_neg (by simpa using c1)]
  by_cases c2 : way = 2
  · rw [if_pos (decide_eq_true c2)]
    have e2 : f_Loom_shed (th, ties, down, thr, deeds, ()) = .ok (shedT th (LS ties down)) := by
      unfold f_Loom_shed
      rw [lifted_ok g.l hd g.t, M.bok]
      exact shed_over_ok g.w
    rw [e2, M.bok, if_pos rfl, law_lifted_ok g.l hd g.t, M.bok, law_shed_ok g.w, M.bok, M.bok]
    exact okv ⟨decide_eq_true rfl, stay⟩
  rw [if_neg (by simpa using c2)]
  by_cases c3 : way = 3
  · rw [if_pos (decide_eq_true c3)]
    have e2 : f_Loom_cloth (th, ties, down, thr, deeds, ()) = .ok (thr.map fun p => p.2.1) := by
      unfold f_Loom_cloth
      exact comp_map (g := fun p : Pk => p.2.1) (by show thr.length ≤ _; omega) fun x _ => rfl
    rw [e2, M.bok, comp_map (g := fun p : Pr16 => p.1) (by rw [List.length_map]; omega) fun x _ => rfl, M.bok, List.map_map]
    rw [show List.map ((fun p : Pr16 => p.1) ∘ kp16) thr = thr.map fun p => p.2.1 from rfl, listS (by omega)]
    simp only [M.bok]
    exact okv ⟨rfl, more _ (heldS hh _)⟩
  rw [if_neg (by simpa using c3)]
  have e2 : f_Loom_colours (th, ties, down, thr, deeds, ()) = .ok (thr.map fun p => p.2.2.1) := by
    unfold f_Loom_colours
    exact comp_map (g := fun p : Pk => p.2.2.1) (by show thr.length ≤ _; omega) fun x _ => rfl
  rw [e2, M.bok, comp_map (g := fun p : Pr16 => p.2.1) (by rw [List.length_map]; omega) fun x _ => rfl, M.bok, List.map_map]
  rw [show List.map ((fun p : Pr16 => p.2.1) ∘ kp16) thr = thr.map fun p => p.2.2.1 from rfl, listS (by omega)]
  simp only [M.bok]
  exact okv ⟨rfl, more _ (heldS hh _)⟩
theorem treadle16 {a t : Int} (h : 0 ≤ t) (h2 : t ≤ 1000) : Okm (f_law_treadle a t) (fun _ => True) := by
  unfold f_law_treadle
  rw [oke (ok_mod (by omega)), M.bok, M.bok]
  refine okif (fun _ => ?_) fun _ => okv trivial
  rw [oke (ok_div (by omega) (by omega)), M.bok]
  have q0 := Int.emod_nonneg (a / (t + 3)) (show (2 : Int) ≠ 0 by decide)
  have q1 := Int.emod_lt_of_pos (a / (t + 3)) (show (0 : Int) < 2 by decide)
  exact okmono (ok_get q0 q1) fun _ _ => trivial
theorem done16 (h : Inv16 th ties n m st) (g : Set16 th ties) (hn : n < 800) (cell : Int) : Okm (f_law_done m (th, ties, ()) st cell) (fun r => r.1 = true ∧ Inv16 th ties (n + 2) r.2.1 r.2.2.1) := by
  unfold f_law_done
  dsimp only
  refine okb (P := fun _ => True) (okmono (ok_getS (Int.emod_nonneg _ (by decide)) (by rw [show (tx "abcdefghijklmnopqrstuvwxyz").length = 26 by decide +kernel]; exact Int.emod_lt_of_pos _ (by decide))) fun _ _ => trivial) fun letter _ => ?_
  refine okb (treadle16 (Int.natCast_nonneg _) ?_) fun a _ => ?_
  · obtain ⟨down, _, _, _, _, _, rfl, ho, _⟩ := h.ex
    have := ho.d
    have := g.l
    show (down.length : Int) ≤ 1000
    omega
  obtain ⟨w, ew, hw⟩ := ok_get (xs := [tx "press", tx "press", tx "lift", tx "throw", tx "throw", tx "unthrow", tx "undo", tx "undo"]) (i := cell % 8) (Int.emod_nonneg _ (by decide)) (Int.emod_lt_of_pos _ (by decide))
  have hw : w ∈ [tx "press", tx "lift", tx "throw", tx "unthrow", tx "undo"] := by
    have := List.mem_of_getElem? hw
    simp only [List.mem_cons, List.not_mem_nil, or_false] at this ⊢
    rcases this with h | h | h | h | h | h | h | h <;> simp [h]
  rw [ew, M.bok]
  obtain ⟨t, m', st', e1, e2, hi, ht⟩ := did16 h g (by omega) hw a letter
  rw [e1, M.bok, M.bok, e2, M.bok, same16 ht, M.bok, if_pos rfl]
  refine okb (okb (answered16 hi g (by omega) _) fun r hr => okv hr) fun r hr => okv hr
end
def Two16 (th : List Int) (ties : List (List Int)) (n : Nat) (s : List O_Loom × List St16) : Prop := ∃ m0 m1 t0 t1, s = ([m0, m1], [t0, t1]) ∧ Inv16 th ties n m0 t0 ∧ Inv16 th ties n m1 t1
theorem pick16 {th ties n s} (h : Two16 th ties n s) {a : Int} (ha : a = 0 ∨ a = 1) : ∃ m t p q, atP (s.1, fun y : List O_Loom => y) a = .ok (m, p) ∧ atP (s.2, fun y : List St16 => y) a = .ok (t, q) ∧ Inv16 th ties n m t ∧ ∀ m' t' n', n ≤ n' → Inv16 th ties n' m' t' → Two16 th ties n' (p m', q t') := by
  obtain ⟨m0, m1, t0, t1, rfl, h0, h1⟩ := h
  rcases ha with rfl | rfl
  · exact ⟨m0, t0, _, _, atP_nat' (i := 0) rfl, atP_nat' (i := 0) rfl, h0, fun m' t' n' hn hi => ⟨m', m1, t', t1, rfl, hi, h1.mono hn⟩⟩
  · exact ⟨m1, t1, _, _, atP_nat' (i := 1) rfl, atP_nat' (i := 1) rfl, h1, fun m' t' n' hn hi => ⟨m0, m', t0, t', rfl, h0.mono hn, hi⟩⟩
theorem law_math : ∀ ns : List Int, ns.length ≤ 63 → c_law (ns, ()) = .ok true := by
  intro script hl
  refine oke ?_
  show Okm (f_law script) _
  unfold f_law
  refine okb (okb (cell_ok (by omega)) fun c _ => size_ok (by omega) (by omega)) fun ends ⟨e1, e2⟩ => ?_
  refine okb (okb (cell_ok (by omega)) fun c _ => size_ok (by omega) (by omega)) fun treadles ⟨d1, d2⟩ => ?_
  refine okb (P := fun high => 1 ≤ high ∧ high ≤ 40) (okb (P := fun c => 0 ≤ c ∧ c < 3) (okb (cell_ok (by omega)) fun c _ => okv ⟨Int.emod_nonneg _ (by decide), Int.emod_lt_of_pos _ (by decide)⟩) fun c hc => okmono (ok_get hc.1 (by show c < (3 : Int); omega)) fun v hv => ?_) fun high ⟨g1, g2⟩ => ?_
  · have := List.mem_of_getElem? hv
    simp at this
    omega
  refine okb (P := fun z => ∃ th ties, z = (th, ties, ()) ∧ (th.length = ends.toNat ∧ (∀ s ∈ th, 0 ≤ s ∧ s < 40)) ∧ (ties.length = treadles.toNat ∧ ∀ t ∈ ties, riB (-1) t = true ∧ t.length ≤ 40)) (okb (threading_ok hl e1 e2 g1 g2) fun th ⟨h1, h2⟩ => okb (law_ties_ok hl d1 d2 g1 g2) fun ties ⟨t1, t2⟩ => okv ⟨th, ties, rfl, ⟨by omega, h2⟩, ⟨by omega, t2⟩⟩) fun z ⟨th, ties, ez, ⟨h1, h2⟩, t1, t2⟩ => ?_
  subst ez
  have hf : fitB th ties [0] = true := fit_true (by omega) (by omega) (by omega) (by omega) (by decide) (by decide) h2 (fun t ht => (t2 t ht).1) (fun t ht => by rw [List.mem_singleton.mp ht]; omega)
  have G : Set16 th ties := ⟨by omega, by omega, by omega, t2⟩
  dsimp only
  rw [id_comp (by omega), M.bok, M.bok]
  dsimp only
  rw [loom_ok, if_pos hf]
  simp only [M.bok]
  rw [show rangeM 0 (2 : Int) = .ok [0, 1] from by rw [range_eq]; rfl, M.bok]
  have ec : compM (fun _ : List Int => M.ok (some false)) ties = .ok (List.replicate ties.length false) := by rw [comp_map (g := fun _ => false) (by omega) fun x _ => rfl, List.map_const']
  have e0 : forM (f_law_l1 (th, ties, ())) [] [0, 1] = .ok [(List.replicate ties.length false, [], [], [], ()), (List.replicate ties.length false, [], [], [], ())] := by
    refine oke ?_
    refine okb (P := fun s => s = [(List.replicate ties.length false, [], [], [], ())]) ?_ fun s e => ?_
    · unfold f_law_l1
      dsimp only
      rw [ec, M.bok, M.bok]
      exact okb (ok_push (by decide)) fun s e => okv e
    · subst e
      refine okb (P := fun s => s = [(List.replicate ties.length false, [], [], [], ()), (List.replicate ties.length false, [], [], [], ())]) ?_ fun s e => okv e
      unfold f_law_l1
      dsimp only
      rw [ec, M.bok, M.bok]
      exact okb (ok_push (by simp)) fun s e => okv e
  rw [e0, M.bok]
  have i0 : Inv16 th ties 0 (th, ties, List.replicate ties.length false, [], [], ()) (List.replicate ties.length false, [], [], [], ()) := ⟨_, _, _, _, _, rfl, rfl, ⟨List.length_replicate, by decide, fun p hp => nomatch hp⟩, .nil, Nat.le_refl _, fun x hx => (nomatch hx), Nat.le_refl _⟩
  refine okb (P := fun xs => ∃ c : Int, 0 ≤ c ∧ c < 42 ∧ xs = upFrom 0 c.toNat) (okb (P := fun c => 0 ≤ c ∧ c < 42) (okb (P := fun _ => True) (okb (cell_ok (by omega)) fun c _ => okv trivial) fun c _ => okv ⟨Int.emod_nonneg _ (by decide), Int.emod_lt_of_pos _ (by decide)⟩) fun c hc => by rw [range_eq, Int.sub_zero]; exact okv ⟨c, hc.1, hc.2, rfl⟩) fun xs ⟨many, m1, m2, ex⟩ => ?_
  subst ex
  refine okel (ok_forFR (fun i (s : List O_Loom × List St16) => Two16 th ties (2 * i) s) (fun _ => False) ⟨_, _, _, _, rfl, i0, i0⟩ fun i s hi hs => ?_) (fun s hs => ?_) fun r h => h.elim
  · unfold f_law_l2
    obtain ⟨m, t, p, q, a1, a2, a3, a4⟩ := pick16 hs (.inl rfl)
    rw [a1, M.bok, a2, M.bok]
    refine okb (done16 a3 G (by omega) _) fun r ⟨r1, r2⟩ => ?_
    dsimp only
    rw [r1, if_neg (by simp)]
    exact okv (a4 _ _ _ (by omega) r2)
  refine okb ok_range fun xs e => ?_
  subst e
  refine okel (ok_forFR (fun i (s : List O_Loom × List St16) => Two16 th ties (100 + 2 * i) s) (fun _ => False) ?_ fun i s hi hs => ?_) (fun s hs => ?_) fun r h => h.elim
  · obtain ⟨m0, m1, t0, t1, e, b0, b1⟩ := hs
    exact ⟨m0, m1, t0, t1, e, b0.mono (by omega), b1.mono (by omega)⟩
  · unfold f_law_l3
    refine okb (cell_ok (by omega)) fun cell hc => ?_
    have q0 := Int.emod_nonneg (cell * 16807 % 2147483629) (show (2 : Int) ≠ 0 by decide)
    have q1 := Int.emod_lt_of_pos (cell * 16807 % 2147483629) (show (0 : Int) < 2 by decide)
    obtain ⟨m, t, p, q, a1, a2, a3, a4⟩ := pick16 hs (a := cell * 16807 % 2147483629 % 2) (by omega)
    dsimp only
    rw [a1, M.bok, a2, M.bok]
    refine okb (done16 a3 G (by omega) _) fun r ⟨r1, r2⟩ => ?_
    rw [r1, if_neg (by simp)]
    exact okv (a4 _ _ _ (by omega) r2)
  rw [range_eq, M.bok]
  refine okel (ok_forFR (fun i (s : List O_Loom × List St16) => Two16 th ties (300 + i) s) (fun _ => False) ?_ fun i s hi hs => ?_) (fun s hs => ?_) fun r h => h.elim
  · obtain ⟨m0, m1, t0, t1, e, b0, b1⟩ := hs
    exact ⟨m0, m1, t0, t1, e, b0.mono (by omega), b1.mono (by omega)⟩
  · unfold f_law_l4
    obtain ⟨m, t, p, q, a1, a2, a3, a4⟩ := pick16 hs (a := (0 + (i : Int)) % 2) (by omega)
    rw [a1, M.bok, a2, M.bok]
    refine okb (answered16 a3 G (by omega) _) fun r ⟨r1, r2⟩ => ?_
    dsimp only
    rw [r1, if_neg (by simp)]
    exact okv (a4 _ _ _ (by omega) r2)
  obtain ⟨m0, m1, t0, t1, e, b0, b1⟩ := hs
  obtain ⟨_, _, _, _, held0, _, e0, _, _, _, hh0, hn0⟩ := b0.ex
  obtain ⟨_, _, _, _, held1, _, e1, _, _, _, hh1, hn1⟩ := b1.ex
  subst e e0 e1
  rw [show getM _ (0 : Int) = _ from getM_nat (i := 0) rfl, M.bok, M.bok, show getM _ (1 : Int) = _ from getM_nat (i := 1) rfl, M.bok, M.bok]
  have ecat : catL held0 held1 = .ok (held0 ++ held1) := by
    unfold catL
    rw [if_pos (Nat.le_trans (show _ ≤ 1000 by omega) (by decide))]
  show Okm (M.bind (catL held0 held1) _) _
  rw [ecat, M.bok]
  have e3 : forF f_law_l5 () (held0 ++ held1) = .ok (if (held0 ++ held1).all (fun _ => true) = true then Fl.nx () else Fl.rt false) := forF_all fun x hx => by
    have hx : (∃ a, x = .inl (a, a, ())) ∨ ∃ a, x = .inr (a, a, ()) := (List.mem_append.mp hx).elim (hh0 x) (hh1 x)
    unfold f_law_l5
    rcases hx with ⟨a, rfl⟩ | ⟨a, rfl⟩ <;> simp [selm, neqS, M.bok]
  rw [e3, if_pos (by simp), M.bok]
  exact okv rfl
theorem facts_of {K : PySem.W.Frag} {h : Heap} {mg : Str → Option Value} {P : Program} {w : World} {base : Heap} (X : K.In h) (G : h.Ns mainGlobals mg) (kx : (knB kn_) K = true) (c : He.SaysD fas dds K) : Facts ⟨P, w, K, mg, base, fun c => He.ga K (ecName c), none⟩ where
  g_bool := He.free_ok X G (c.fact 46 (f := .free "bool") rfl)
  g_enumerate := He.free_ok X G (c.fact 47 (f := .free "enumerate") rfl)
  g_int := He.free_ok X G (c.fact 48 (f := .free "int") rfl)
  g_isinstance := He.free_ok X G (c.fact 49 (f := .free "isinstance") rfl)
  g_len := He.free_ok X G (c.fact 50 (f := .free "len") rfl)
  g_list := He.free_ok X G (c.fact 51 (f := .free "list") rfl)
  g_range := He.free_ok X G (c.fact 52 (f := .free "range") rfl)
  g_str := He.free_ok X G (c.fact 53 (f := .free "str") rfl)
  g_tuple := He.free_ok X G (c.fact 54 (f := .free "tuple") rfl)
  c_MOST_IN_DRAFT := He.int_ok X G (c.fact 55 (f := .int "MOST_IN_DRAFT" 40) rfl)
  c_PICKS_OF_A_LOOM := He.int_ok X G (c.fact 56 (f := .int "PICKS_OF_A_LOOM" 40) rfl)
  c_SHAFTS_OF_A_LOOM := He.int_ok X G (c.fact 57 (f := .int "SHAFTS_OF_A_LOOM" 40) rfl)
  x_NoDeed := exF X G rfl (c.fact 58 (f := .glo "NoDeed") rfl) (c.fact 59 (f := .exc "NoDeed") rfl)
  x_NoDraft := exF X G rfl (c.fact 60 (f := .glo "NoDraft") rfl) (c.fact 61 (f := .exc "NoDraft") rfl)
  x_TooLarge := exF X G rfl (c.fact 62 (f := .glo "TooLarge") rfl) (c.fact 63 (f := .exc "TooLarge") rfl)
  x_WeaveError := exF X G rfl (c.fact 64 (f := .glo "WeaveError") rfl) (c.fact 65 (f := .exc "WeaveError") rfl)
  kn := kn_ok kx
  a_Draft := He.cls_ok (c.fact 21 (f := .cls "Draft") rfl)
  a_Loom := He.cls_ok (c.fact 24 (f := .cls "Loom") rfl)
  n_Draft_threading := He.noat_ok (c.fact 26 (f := .noat "Draft" "threading") rfl)
  n_Draft_ties := He.noat_ok (c.fact 27 (f := .noat "Draft" "ties") rfl)
  n_Draft_treading := He.noat_ok (c.fact 28 (f := .noat "Draft" "treading") rfl)
  n_Loom_done_deeds := He.noat_ok (c.fact 29 (f := .noat "Loom" "done_deeds") rfl)
  n_Loom_pressed := He.noat_ok (c.fact 30 (f := .noat "Loom" "pressed") rfl)
  n_Loom_threading := He.noat_ok (c.fact 31 (f := .noat "Loom" "threading") rfl)
  n_Loom_thrown := He.noat_ok (c.fact 32 (f := .noat "Loom" "thrown") rfl)
  n_Loom_ties := He.noat_ok (c.fact 33 (f := .noat "Loom" "ties") rfl)
  d__law_cell_at := by
    obtain ⟨fd, F⟩ := c.def_ 0 (d := ⟨("_law_cell_at", none), "_law_cell_at", "_law_cell_at", defArgs (topS 17), defBody (topS 17), defScope (topS 17), [], []⟩) rfl
    exact ⟨_, fd, F, He.glo_ok X G (c.fact 0 (f := .glo "_law_cell_at") rfl)⟩
  d__law_size := by
    obtain ⟨fd, F⟩ := c.def_ 1 (d := ⟨("_law_size", none), "_law_size", "_law_size", defArgs (topS 19), defBody (topS 19), defScope (topS 19), [], []⟩) rfl
    exact ⟨_, fd, F, He.glo_ok X G (c.fact 1 (f := .glo "_law_size") rfl)⟩
  d__law_sums := by
    obtain ⟨fd, F⟩ := c.def_ 2 (d := ⟨("_law_sums", none), "_law_sums", "_law_sums", defArgs (topS 18), defBody (topS 18), defScope (topS 18), [], []⟩) rfl
    exact ⟨_, fd, F, He.glo_ok X G (c.fact 2 (f := .glo "_law_sums") rfl)⟩
  d__law_threading := by
    obtain ⟨fd, F⟩ := c.def_ 3 (d := ⟨("_law_threading", none), "_law_threading", "_law_threading", defArgs (topS 20), defBody (topS 20), defScope (topS 20), [], []⟩) rfl
    exact ⟨_, fd, F, He.glo_ok X G (c.fact 3 (f := .glo "_law_threading") rfl)⟩
  d__law_tie := by
    obtain ⟨fd, F⟩ := c.def_ 4 (d := ⟨("_law_tie", none), "_law_tie", "_law_tie", defArgs (topS 21), defBody (topS 21), defScope (topS 21), [], []⟩) rfl
    exact ⟨_, fd, F, He.glo_ok X G (c.fact 4 (f := .glo "_law_tie") rfl)⟩
  d__law_ties := by
    obtain ⟨fd, F⟩ := c.def_ 5 (d := ⟨("_law_ties", none), "_law_ties", "_law_ties", defArgs (topS 22), defBody (topS 22), defScope (topS 22), [], []⟩) rfl
    exact ⟨_, fd, F, He.glo_ok X G (c.fact 5 (f := .glo "_law_ties") rfl)⟩
  d_tie_rises := by
    obtain ⟨fd, F⟩ := c.def_ 6 (d := ⟨("tie_rises", none), "tie_rises", "tie_rises", defArgs (topS 8), defBody (topS 8), defScope (topS 8), [], []⟩) rfl
    exact ⟨_, fd, F, He.glo_ok X G (c.fact 6 (f := .glo "tie_rises") rfl)⟩
  d_lists_fit := by
    obtain ⟨fd, F⟩ := c.def_ 7 (d := ⟨("lists_fit", none), "lists_fit", "lists_fit", defArgs (topS 9), defBody (topS 9), defScope (topS 9), [], []⟩) rfl
    exact ⟨_, fd, F, He.glo_ok X G (c.fact 7 (f := .glo "lists_fit") rfl)⟩
  k_Draft_init := by
    obtain ⟨fd, F⟩ := c.def_ 8 (d := ⟨("Draft", some "__init__"), "__init__", "Draft.__init__", defArgs ((clsBody (topS 10)).getD 0 (.Pass ⟨0, 0, 0, 0⟩)), defBody ((clsBody (topS 10)).getD 0 (.Pass ⟨0, 0, 0, 0⟩)), defScope ((clsBody (topS 10)).getD 0 (.Pass ⟨0, 0, 0, 0⟩)), [], []⟩) rfl
    exact ⟨_, fd, F, He.mkr_ok (c.fact 22 (f := .mkr "Draft") rfl), He.glo_ok X G (c.fact 20 (f := .glo "Draft") rfl)⟩
  k_Loom_init := by
    obtain ⟨fd, F⟩ := c.def_ 9 (d := ⟨("Loom", some "__init__"), "__init__", "Loom.__init__", defArgs ((clsBody (topS 15)).getD 0 (.Pass ⟨0, 0, 0, 0⟩)), defBody ((clsBody (topS 15)).getD 0 (.Pass ⟨0, 0, 0, 0⟩)), defScope ((clsBody (topS 15)).getD 0 (.Pass ⟨0, 0, 0, 0⟩)), [], []⟩) rfl
    exact ⟨_, fd, F, He.mkr_ok (c.fact 25 (f := .mkr "Loom") rfl), He.glo_ok X G (c.fact 23 (f := .glo "Loom") rfl)⟩
  d__law_treadle := by
    obtain ⟨fd, F⟩ := c.def_ 10 (d := ⟨("_law_treadle", none), "_law_treadle", "_law_treadle", defArgs (topS 31), defBody (topS 31), defScope (topS 31), [], []⟩) rfl
    exact ⟨_, fd, F, He.glo_ok X G (c.fact 8 (f := .glo "_law_treadle") rfl)⟩
  d__law_cannot := by
    obtain ⟨fd, F⟩ := c.def_ 11 (d := ⟨("_law_cannot", none), "_law_cannot", "_law_cannot", defArgs (topS 26), defBody (topS 26), defScope (topS 26), [], []⟩) rfl
    exact ⟨_, fd, F, He.glo_ok X G (c.fact 9 (f := .glo "_law_cannot") rfl)⟩
  d__law_lifted := by
    obtain ⟨fd, F⟩ := c.def_ 12 (d := ⟨("_law_lifted", none), "_law_lifted", "_law_lifted", defArgs (topS 23), defBody (topS 23), defScope (topS 23), [], []⟩) rfl
    exact ⟨_, fd, F, He.glo_ok X G (c.fact 10 (f := .glo "_law_lifted") rfl)⟩
  d__law_shed := by
    obtain ⟨fd, F⟩ := c.def_ 13 (d := ⟨("_law_shed", none), "_law_shed", "_law_shed", defArgs (topS 24), defBody (topS 24), defScope (topS 24), [], []⟩) rfl
    exact ⟨_, fd, F, He.glo_ok X G (c.fact 11 (f := .glo "_law_shed") rfl)⟩
  d__law_moved_on := by
    obtain ⟨fd, F⟩ := c.def_ 14 (d := ⟨("_law_moved_on", none), "_law_moved_on", "_law_moved_on", defArgs (topS 27), defBody (topS 27), defScope (topS 27), [], []⟩) rfl
    exact ⟨_, fd, F, He.glo_ok X G (c.fact 12 (f := .glo "_law_moved_on") rfl)⟩
  m_Loom_has_treadle := by
    obtain ⟨fd, F⟩ := c.def_ 15 (d := ⟨("Loom", some "has_treadle"), "has_treadle", "Loom.has_treadle", defArgs ((clsBody (topS 15)).getD 1 (.Pass ⟨0, 0, 0, 0⟩)), defBody ((clsBody (topS 15)).getD 1 (.Pass ⟨0, 0, 0, 0⟩)), defScope ((clsBody (topS 15)).getD 1 (.Pass ⟨0, 0, 0, 0⟩)), [], []⟩) rfl
    exact ⟨_, fd, F, He.cls_ok (c.fact 24 (f := .cls "Loom") rfl), He.meth_ok (c.fact 34 (f := .meth "Loom" "has_treadle") rfl)⟩
  m_Loom_press := by
    obtain ⟨fd, F⟩ := c.def_ 16 (d := ⟨("Loom", some "press"), "press", "Loom.press", defArgs ((clsBody (topS 15)).getD 2 (.Pass ⟨0, 0, 0, 0⟩)), defBody ((clsBody (topS 15)).getD 2 (.Pass ⟨0, 0, 0, 0⟩)), defScope ((clsBody (topS 15)).getD 2 (.Pass ⟨0, 0, 0, 0⟩)), [], []⟩) rfl
    exact ⟨_, fd, F, He.cls_ok (c.fact 24 (f := .cls "Loom") rfl), He.meth_ok (c.fact 35 (f := .meth "Loom" "press") rfl)⟩
  m_Loom_lift := by
    obtain ⟨fd, F⟩ := c.def_ 17 (d := ⟨("Loom", some "lift"), "lift", "Loom.lift", defArgs ((clsBody (topS 15)).getD 3 (.Pass ⟨0, 0, 0, 0⟩)), defBody ((clsBody (topS 15)).getD 3 (.Pass ⟨0, 0, 0, 0⟩)), defScope ((clsBody (topS 15)).getD 3 (.Pass ⟨0, 0, 0, 0⟩)), [], []⟩) rfl
    exact ⟨_, fd, F, He.cls_ok (c.fact 24 (f := .cls "Loom") rfl), He.meth_ok (c.fact 36 (f := .meth "Loom" "lift") rfl)⟩
  m_Loom_lifted_shafts := by
    obtain ⟨fd, F⟩ := c.def_ 18 (d := ⟨("Loom", some "lifted_shafts"), "lifted_shafts", "Loom.lifted_shafts", defArgs ((clsBody (topS 15)).getD 4 (.Pass ⟨0, 0, 0, 0⟩)), defBody ((clsBody (topS 15)).getD 4 (.Pass ⟨0, 0, 0, 0⟩)), defScope ((clsBody (topS 15)).getD 4 (.Pass ⟨0, 0, 0, 0⟩)), [], []⟩) rfl
    exact ⟨_, fd, F, He.cls_ok (c.fact 24 (f := .cls "Loom") rfl), He.meth_ok (c.fact 37 (f := .meth "Loom" "lifted_shafts") rfl)⟩
  d_shed_over := by
    obtain ⟨fd, F⟩ := c.def_ 19 (d := ⟨("shed_over", none), "shed_over", "shed_over", defArgs (topS 14), defBody (topS 14), defScope (topS 14), [], []⟩) rfl
    exact ⟨_, fd, F, He.glo_ok X G (c.fact 13 (f := .glo "shed_over") rfl)⟩
  m_Loom_throw := by
    obtain ⟨fd, F⟩ := c.def_ 20 (d := ⟨("Loom", some "throw"), "throw", "Loom.throw", defArgs ((clsBody (topS 15)).getD 6 (.Pass ⟨0, 0, 0, 0⟩)), defBody ((clsBody (topS 15)).getD 6 (.Pass ⟨0, 0, 0, 0⟩)), defScope ((clsBody (topS 15)).getD 6 (.Pass ⟨0, 0, 0, 0⟩)), [], []⟩) rfl
    exact ⟨_, fd, F, He.cls_ok (c.fact 24 (f := .cls "Loom") rfl), He.meth_ok (c.fact 38 (f := .meth "Loom" "throw") rfl)⟩
  m_Loom_unthrow := by
    obtain ⟨fd, F⟩ := c.def_ 21 (d := ⟨("Loom", some "unthrow"), "unthrow", "Loom.unthrow", defArgs ((clsBody (topS 15)).getD 7 (.Pass ⟨0, 0, 0, 0⟩)), defBody ((clsBody (topS 15)).getD 7 (.Pass ⟨0, 0, 0, 0⟩)), defScope ((clsBody (topS 15)).getD 7 (.Pass ⟨0, 0, 0, 0⟩)), [], []⟩) rfl
    exact ⟨_, fd, F, He.cls_ok (c.fact 24 (f := .cls "Loom") rfl), He.meth_ok (c.fact 39 (f := .meth "Loom" "unthrow") rfl)⟩
  m_Loom_undo := by
    obtain ⟨fd, F⟩ := c.def_ 22 (d := ⟨("Loom", some "undo"), "undo", "Loom.undo", defArgs ((clsBody (topS 15)).getD 8 (.Pass ⟨0, 0, 0, 0⟩)), defBody ((clsBody (topS 15)).getD 8 (.Pass ⟨0, 0, 0, 0⟩)), defScope ((clsBody (topS 15)).getD 8 (.Pass ⟨0, 0, 0, 0⟩)), [], []⟩) rfl
    exact ⟨_, fd, F, He.cls_ok (c.fact 24 (f := .cls "Loom") rfl), He.meth_ok (c.fact 40 (f := .meth "Loom" "undo") rfl)⟩
  d__law_try := by
    obtain ⟨fd, F⟩ := c.def_ 23 (d := ⟨("_law_try", none), "_law_try", "_law_try", defArgs (topS 25), defBody (topS 25), defScope (topS 25), [], []⟩) rfl
    exact ⟨_, fd, F, He.glo_ok X G (c.fact 14 (f := .glo "_law_try") rfl)⟩
  d__law_same := by
    obtain ⟨fd, F⟩ := c.def_ 24 (d := ⟨("_law_same", none), "_law_same", "_law_same", defArgs (topS 28), defBody (topS 28), defScope (topS 28), [], []⟩) rfl
    exact ⟨_, fd, F, He.glo_ok X G (c.fact 15 (f := .glo "_law_same") rfl)⟩
  m_Loom_deeds_done := by
    obtain ⟨fd, F⟩ := c.def_ 25 (d := ⟨("Loom", some "deeds_done"), "deeds_done", "Loom.deeds_done", defArgs ((clsBody (topS 15)).getD 9 (.Pass ⟨0, 0, 0, 0⟩)), defBody ((clsBody (topS 15)).getD 9 (.Pass ⟨0, 0, 0, 0⟩)), defScope ((clsBody (topS 15)).getD 9 (.Pass ⟨0, 0, 0, 0⟩)), [], []⟩) rfl
    exact ⟨_, fd, F, He.cls_ok (c.fact 24 (f := .cls "Loom") rfl), He.meth_ok (c.fact 41 (f := .meth "Loom" "deeds_done") rfl)⟩
  m_Loom_treadles_down := by
    obtain ⟨fd, F⟩ := c.def_ 26 (d := ⟨("Loom", some "treadles_down"), "treadles_down", "Loom.treadles_down", defArgs ((clsBody (topS 15)).getD 10 (.Pass ⟨0, 0, 0, 0⟩)), defBody ((clsBody (topS 15)).getD 10 (.Pass ⟨0, 0, 0, 0⟩)), defScope ((clsBody (topS 15)).getD 10 (.Pass ⟨0, 0, 0, 0⟩)), [], []⟩) rfl
    exact ⟨_, fd, F, He.cls_ok (c.fact 24 (f := .cls "Loom") rfl), He.meth_ok (c.fact 42 (f := .meth "Loom" "treadles_down") rfl)⟩
  d__law_list := by
    obtain ⟨fd, F⟩ := c.def_ 27 (d := ⟨("_law_list", none), "_law_list", "_law_list", defArgs (topS 29), defBody (topS 29), defScope (topS 29), [], []⟩) rfl
    exact ⟨_, fd, F, He.glo_ok X G (c.fact 16 (f := .glo "_law_list") rfl)⟩
  m_Loom_shed := by
    obtain ⟨fd, F⟩ := c.def_ 28 (d := ⟨("Loom", some "shed"), "shed", "Loom.shed", defArgs ((clsBody (topS 15)).getD 5 (.Pass ⟨0, 0, 0, 0⟩)), defBody ((clsBody (topS 15)).getD 5 (.Pass ⟨0, 0, 0, 0⟩)), defScope ((clsBody (topS 15)).getD 5 (.Pass ⟨0, 0, 0, 0⟩)), [], []⟩) rfl
    exact ⟨_, fd, F, He.cls_ok (c.fact 24 (f := .cls "Loom") rfl), He.meth_ok (c.fact 43 (f := .meth "Loom" "shed") rfl)⟩
  m_Loom_cloth := by
    obtain ⟨fd, F⟩ := c.def_ 29 (d := ⟨("Loom", some "cloth"), "cloth", "Loom.cloth", defArgs ((clsBody (topS 15)).getD 11 (.Pass ⟨0, 0, 0, 0⟩)), defBody ((clsBody (topS 15)).getD 11 (.Pass ⟨0, 0, 0, 0⟩)), defScope ((clsBody (topS 15)).getD 11 (.Pass ⟨0, 0, 0, 0⟩)), [], []⟩) rfl
    exact ⟨_, fd, F, He.cls_ok (c.fact 24 (f := .cls "Loom") rfl), He.meth_ok (c.fact 44 (f := .meth "Loom" "cloth") rfl)⟩
  d__law_list__k2 := by
    obtain ⟨fd, F⟩ := c.def_ 30 (d := ⟨("_law_list", none), "_law_list", "_law_list", defArgs (topS 29), defBody (topS 29), defScope (topS 29), [], []⟩) rfl
    exact ⟨_, fd, F, He.glo_ok X G (c.fact 16 (f := .glo "_law_list") rfl)⟩
  m_Loom_colours := by
    obtain ⟨fd, F⟩ := c.def_ 31 (d := ⟨("Loom", some "colours"), "colours", "Loom.colours", defArgs ((clsBody (topS 15)).getD 12 (.Pass ⟨0, 0, 0, 0⟩)), defBody ((clsBody (topS 15)).getD 12 (.Pass ⟨0, 0, 0, 0⟩)), defScope ((clsBody (topS 15)).getD 12 (.Pass ⟨0, 0, 0, 0⟩)), [], []⟩) rfl
    exact ⟨_, fd, F, He.cls_ok (c.fact 24 (f := .cls "Loom") rfl), He.meth_ok (c.fact 45 (f := .meth "Loom" "colours") rfl)⟩
  d__law_answered := by
    obtain ⟨fd, F⟩ := c.def_ 32 (d := ⟨("_law_answered", none), "_law_answered", "_law_answered", defArgs (topS 30), defBody (topS 30), defScope (topS 30), [], []⟩) rfl
    exact ⟨_, fd, F, He.glo_ok X G (c.fact 17 (f := .glo "_law_answered") rfl)⟩
  d__law_done := by
    obtain ⟨fd, F⟩ := c.def_ 33 (d := ⟨("_law_done", none), "_law_done", "_law_done", defArgs (topS 32), defBody (topS 32), defScope (topS 32), [], []⟩) rfl
    exact ⟨_, fd, F, He.glo_ok X G (c.fact 18 (f := .glo "_law_done") rfl)⟩
  d_law := by
    obtain ⟨fd, F⟩ := c.def_ 34 (d := ⟨("law", none), "law", "law", defArgs (topS 33), defBody (topS 33), defScope (topS 33), [], []⟩) rfl
    exact ⟨_, fd, F, He.glo_ok X G (c.fact 19 (f := .glo "law") rfl)⟩
end Hd
open PySem PySem.W PySem.Calls PyProof.Rows
set_option maxHeartbeats 0
theorem PySem.Challenge.cw_heddle_k16_whole_loom_holds : PySem.Challenge.rw_heddle_k16_whole_loom.Holds := by
  w_on; o_law
  refine HandSHeadRun.head_any (r := OpenLaw.row PySem.Challenge.rw_heddle_k16_whole_loom) (q := view (OpenLaw.row PySem.Challenge.rw_heddle_k16_whole_loom).prog [33]) (H := Hd.hk) (ob := Hd.ob) (M := 9000) (loose := Hd.loose) (d := HandSHeadRun.topDef (OpenLaw.row PySem.Challenge.rw_heddle_k16_whole_loom).prog 33) (kwd := []) Hd.ob_eq
    (by kernel_rfl) (fun s => by kernel_rfl) Hd.run (by kernel_rfl) (by kernel_rfl) (by kernel_rfl) (by rfl) (by first | assumption | decide +kernel) (by decide +kernel) ⟨rfl, rfl, rfl, rfl, rfl, by decide +kernel⟩ ?hw ?hc
  case hw => w_witness2
  case hc =>
    refine Hd.law_end (l := PySem.Challenge.rw_heddle_k16_whole_loom) (k := 7) (cl := Hd.c_law) rfl (by kernel_rfl) ⟨rfl, by decide, by decide⟩ ?F Hd.law_math
    intro w mg fa h Y G hmg0
    obtain ⟨K, KX, kx, c⟩ := Y
    have hmg : mg ("law" : PySem.Str) = some (.ref fa) := by
      have e : (HandSHeadRun.topDef (OpenLaw.row PySem.Challenge.rw_heddle_k16_whole_loom).prog 33).name = ("law" : PySem.Str) := by kernel_rfl
      rw [← e]
      exact hmg0
    obtain ⟨f, fd, hF, hm⟩ := (Hd.facts_of (P := (PySem.Challenge.rw_heddle_k16_whole_loom).prog) (w := w) (base := h) KX G kx c ).d_law
    have e := hm.symm.trans hmg
    cases e
    exact ⟨K, fd, fun c => He.ga K (Hd.ecName c), KX, fun s v => Hd.L2_bindsA hF s v, fun base => Hd.fnok_law (Hd.facts_of KX G kx c ) hF⟩
