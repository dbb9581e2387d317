import PyProof.Rows.All
import Wide.All
import OpenK.AllK
import Wide.FinOn
import HandS.Base
import HandS.Call
import HandS.List
import HandS.Comp
import HandS.Ends
import HandS.Dict
import HandS.Iter
import HandS.Text
import HandS.Words
import HandS.WordsList
import HandS.Exc
import HandS.TryOnly
import HandS.ExcOwn
import HandS.Defaults
import HandS.Lambda
import HandS.Flow
import HandS.RaiseOp
import HandS.TryElse
import HandS.Wide
import HandS.StrMore
import HandS.StrSplit
import HandS.WordsExc
import HandS.Strs
import HandS.IsInst
import HandS.SetFor
import KE.KStateDown
import HandS.Head0
import HandS.Head1
import HandS.Head2
import HandS.HeadEnd
import HandS.HeadHook1
import HandS.HeadHook2
import PyProof.Rows.RegReprOcc
import PyProof.StrOps2
import HandS.ExcIs
import HandS.TryMany
import KE.KExcMore
import HandS.Deep
import PyProof.Draws
import PyProof.EnumMake
import PyProof.LongRange
import KE.GoesZip
import KE.GoesMore
import HandS.RevTup
import HandS.Small
import HandS.Conv
import HandS.Rev
import KE.SortKeyHeap
import HandS.Nested
import HandS.Sort
import HandS.HeadWalk
import HandS.HeadHook4
import HandS.More
import HandS.WideBits
import PyProof.ListIndexNeg
import KE.DataCmp
import KE.SortData
import HandS.Codes
import KE.KDictDisplayH
import HandS.ClsMeth
import HandS.NoneIn
import KE.KWords
import HandS.HotCalls
import HandS.TupSets
import PySem.Challenge.RW_heddle_k39_whole_seams_and_sheets
set_option Elab.async false
set_option linter.all false
set_option maxRecDepth 100000
set_option maxHeartbeats 0
set_option exponentiation.threshold 20000
set_option synthInstance.maxSize 100000
set_option synthInstance.maxHeartbeats 0
noncomputable section
namespace Hd
open PySem PySem.Spec L2
/-- the classes of refusals -/
inductive Ec where
  | weave | noRow | tooLarge | noCloth | noDraft | noStrand | noDeed | noLaying | noShuttle | noColour | noBlock | noPattern | unknown | twice
  deriving DecidableEq, Repr
/-- what a piece of the program comes to: a value, a refusal, or nothing that is promised here -/
inductive M (α : Type) where
  | ok (a : α)
  | ex (c : Ec)
  | no
def M.bind {α β : Type} : M α → (α → M β) → M β
  | .ok a, f => f a
  | .ex c, _ => .ex c
  | .no, _ => .no
/-- where nothing can be let out -/
def M.nox {α : Type} : M α → M α
  | .ok a => .ok a
  | _ => .no
@[simp] theorem M.bind_ok {α β : Type} (a : α) (f : α → M β) : M.bind (.ok a) f = f a := rfl
@[simp] theorem M.bind_ex {α β : Type} (c : Ec) (f : α → M β) : M.bind (.ex c) f = .ex c := rfl
@[simp] theorem M.bind_no {α β : Type} (f : α → M β) : M.bind .no f = .no := rfl
@[simp] theorem M.nox_ok {α : Type} (a : α) : M.nox (.ok a) = .ok a := rfl
/-- all but the tables of code objects -/
def nt : HO → Bool
  | .tbl _ => false
  | _ => true
def cl (H : Hp) : Hp := fun a => match H a with
  | some (.tbl _) => none
  | x => x
theorem cl_of {H : Hp} {a : Addr} {o : HO} (h : H a = some o) (n : nt o = true := by rfl) : cl H a = some o := by
  unfold cl; rw [h]; cases o <;> first | rfl | cases n
theorem cl_raw {H : Hp} {a : Addr} {o : HO} (h : cl H a = some o) : H a = some o := by
  unfold cl at h; split at h <;> first | exact h | cases h
theorem cl_nt {H : Hp} {a : Addr} {o : HO} (h : cl H a = some o) : nt o = true := by
  unfold cl at h
  split at h
  · cases h
  · rename_i x hx
    cases o <;> first | rfl | exact absurd h (hx _)
theorem cl_none {H : Hp} {a : Addr} (h : H a = none) : cl H a = none := by unfold cl; rw [h]
theorem cl_upd_ne {H : Hp} {a q : Addr} {o : HO} (h : a ≠ q) : cl (upd H q o) a = cl H a := by unfold cl; rw [upd_ne h]
/-- the one lambda of the program: its name -/
def lamQ : Str := "by_count.<locals>.<lambda>"
/-- a later heap: tables may have grown -/
structure Same (H H' : Hp) : Prop where
  keep : ∀ a o, H a = some o → nt o = true → H' a = some o
  fr : ∀ a, H' a = none → H a = none
  tab : ∀ P, LamX.TabS H P lamQ → LamX.TabS H' P lamQ
theorem Same.of {H H' : Hp} (h : L2.Same H H') : Same H H' := ⟨fun a o e _ => h a o e, fun a e => h.free e, fun P t => t.ext h⟩
theorem Same.refl (H : Hp) : Same H H := .of (L2.Same.refl H)
theorem Same.trans {H H1 H2 : Hp} (a : Same H H1) (b : Same H1 H2) : Same H H2 := ⟨fun x o e n => b.keep x o (a.keep x o e n) n, fun x e => a.fr x (b.fr x e), fun P t => b.tab P (a.tab P t)⟩
theorem Same.free {H H' : Hp} (s : Same H H') {l : Addr} (h : H' l = none) : H l = none := s.fr l h
theorem Same.cl {H H' : Hp} (s : Same H H') : L2.Same (cl H) (cl H') := fun a o e => cl_of (s.keep a o (cl_raw e) (cl_nt e)) (cl_nt e)
/-- a thing of one's own is written -/
theorem Same.wr {H0 H : Hp} {q : Addr} {o u : HO} (s : Same H0 H) (n0 : H0 q = none) (hq : H q = some u) (hu : ∀ φ, u ≠ .ext φ) (hn : nt u = true) : Same H0 (upd H q o) := by
  refine ⟨fun a o' e n => ?_, fun a e => ?_, fun P t => ?_⟩
  · rw [upd_ne (ne_of_none e n0)]; exact s.keep a o' e n
  · by_cases z : a = q
    · rw [z, upd_same] at e; cases e
    · rw [upd_ne z] at e; exact s.fr a e
  · obtain ⟨ps, h1, h2, h3⟩ := s.tab P t
    have np : P ≠ q := fun z => by rw [z, hq] at h1; cases h1; cases hn
    refine ⟨ps, by rw [upd_ne np]; exact h1, h2, fun pos cv hc => ?_⟩
    obtain ⟨c, e1, e2⟩ := h3 pos cv hc
    have nc : c ≠ q := fun z => by rw [z, hq] at e2; exact hu _ (Option.some.inj e2)
    exact ⟨c, e1, by rw [upd_ne nc]; exact e2⟩
/-- what may be read -/
abbrev RdR := Addr → HO → Prop
/-- data of a kind, and how a value of the program stands for it -/
structure Ty (α : Type) where
  rep : α → V → RdR → Prop
  mono : ∀ {d v} {R R' : RdR}, rep d v R → (∀ a o, R a o → R' a o) → rep d v R'
inductive Reps {α : Type} (T : Ty α) (R : RdR) : List α → List V → Prop where
  | nil : Reps T R [] []
  | cons {d ds v vs} : T.rep d v R → Reps T R ds vs → Reps T R (d :: ds) (v :: vs)
section
variable {α : Type} {T : Ty α} {R R' : RdR} {ds es : List α} {vs ws : List V}
theorem Reps.mono (h : Reps T R ds vs) (s : ∀ a o, R a o → R' a o) : Reps T R' ds vs := by
  induction h with
  | nil => exact .nil
  | cons r _ ih => exact .cons (T.mono r s) ih
theorem Reps.length (h : Reps T R ds vs) : ds.length = vs.length := by
  induction h with
  | nil => rfl
  | cons _ _ ih => simp [ih]
theorem Reps.append (h : Reps T R ds vs) (k : Reps T R es ws) : Reps T R (ds ++ es) (vs ++ ws) := by
  induction h with
  | nil => exact k
  | cons r _ ih => exact .cons r ih
theorem Reps.get (h : Reps T R ds vs) : ∀ {i : Nat} {d : α}, ds[i]? = some d → ∃ v, vs[i]? = some v ∧ T.rep d v R := by
  induction h with
  | nil => intro i d e; simp at e
  | cons r _ ih =>
    intro i d e
    cases i with
    | zero => simp at e; subst e; exact ⟨_, rfl, r⟩
    | succ i => obtain ⟨v, e1, r1⟩ := ih (i := i) (d := d) (by simpa using e); exact ⟨v, by simpa using e1, r1⟩
theorem Reps.set {d : α} {v : V} (h : Reps T R ds vs) (r : T.rep d v R) : ∀ (i : Nat), Reps T R (ds.set i d) (vs.set i v) := by
  induction h with
  | nil => intro i; exact .nil
  | cons q t ih =>
    intro i
    cases i with
    | zero => exact .cons r t
    | succ i => exact .cons q (ih i)
theorem Reps.take (h : Reps T R ds vs) : ∀ n, Reps T R (ds.take n) (vs.take n) := by
  induction h with
  | nil => intro n; simp; exact .nil
  | cons r _ ih => intro n; cases n with
    | zero => exact .nil
    | succ n => exact .cons r (ih n)
theorem Reps.drop (h : Reps T R ds vs) : ∀ n, Reps T R (ds.drop n) (vs.drop n) := by
  induction h with
  | nil => intro n; simp; exact .nil
  | cons r t ih => intro n; cases n with
    | zero => exact .cons r t
    | succ n => exact ih n
theorem Reps.reverse (h : Reps T R ds vs) : Reps T R ds.reverse vs.reverse := by
  induction h with
  | nil => exact .nil
  | cons r _ ih => rw [List.reverse_cons, List.reverse_cons]; exact ih.append (.cons r .nil)
end
def tInt : Ty Int := ⟨fun n v _ => v = .int n, fun h _ => h⟩
def tBool : Ty Bool := ⟨fun b v _ => v = .bl b, fun h _ => h⟩
/-- a text, as its signs -/
abbrev Tx := List Nat
def toS (x : Tx) : Str := ⟨x.toArray⟩
/-- short enough, of signs -/
def OkTx (x : Tx) : Prop := x.length ≤ sizeLine ∧ ∀ c ∈ x, c < 0x110000
def tStr : Ty Tx := ⟨fun x v _ => v = .str (toS x) ∧ OkTx x, fun h _ => h⟩
def tNone : Ty Unit := ⟨fun _ v _ => v = .non, fun h _ => h⟩
def tList {α : Type} (T : Ty α) : Ty (List α) := ⟨fun ds v R => ∃ a vs, v = .ref a ∧ R a (.lst vs) ∧ Reps T R ds vs, fun ⟨a, vs, e, r, h⟩ s => ⟨a, vs, e, s _ _ r, h.mono s⟩⟩
/-- the written items of a list, an argument list, a tuple -/
structure Ar (δ : Type) where
  rep : δ → List V → RdR → Prop
  mono : ∀ {d vs} {R R' : RdR}, rep d vs R → (∀ a o, R a o → R' a o) → rep d vs R'
def aNil : Ar Unit := ⟨fun _ vs _ => vs = [], fun h _ => h⟩
def aCons {α β : Type} (T : Ty α) (A : Ar β) : Ar (α × β) := ⟨fun d vs R => ∃ v r, vs = v :: r ∧ T.rep d.1 v R ∧ A.rep d.2 r R, fun ⟨v, r, e, h1, h2⟩ s => ⟨v, r, e, T.mono h1 s, A.mono h2 s⟩⟩
/-- a tuple of written items -/
def tTup {δ : Type} (A : Ar δ) : Ty δ := ⟨fun d v R => ∃ a vs, v = .ref a ∧ R a (.tup vs) ∧ A.rep d vs R, fun ⟨a, vs, e, r, h⟩ s => ⟨a, vs, e, s _ _ r, A.mono h s⟩⟩
/-- all items of one kind -/
def aAll {α : Type} (T : Ty α) : Ar (List α) := ⟨fun ds vs R => Reps T R ds vs, fun h s => h.mono s⟩
/-- a tuple of the written part -/
def KObj (K : PySem.W.Frag) (a : Addr) : HO → Prop
  | .tup xs => ∃ (o : Obj) (its : Array Value) (n : Nat), K.lookup a = some o ∧ o.cls = .type "tuple" ∧ o.data = .seq its n ∧ its.size ≤ sizeLine ∧ Vals xs its.toList
  | _ => False
/-- a def's frame: the heap it began with; the callers' own things, which its arguments don't reach -/
structure Fm where
  K : PySem.W.Frag
  H0 : Hp
  z : Addr → Prop
/-- how new a thing is: sh: it may be shared; f0: made since the def began; fx: made since the expression began -/
inductive Md where | sh | f0 | fx
/-- a value of the table of a code object, as a value of the program (used for marks only) -/
def decV : Value → V
  | .int i _ => .int i
  | .str x _ => .str x
  | _ => .non
/-- how else a thing may be there that is read as o: frozen; a tuple of ints and texts that is no written one is read by a mark too -/
def Alt (o u : HO) : Prop := (nt o = true ∧ ∃ f, u = .frz f o) ∨ ∃ ps : Array Value, o = .tbl ps ∧ u = .tup (ps.toList.map decV)
def Rd (H : Hp) (a : Addr) (o : HO) : Prop := H a = some o ∨ ∃ f : {u : HO // Alt o u}, H a = some f.1
def RD (fm : Fm) (own : List Addr) (H : Hp) : RdR := fun a o => (Rd (cl H) a o ∧ a ∉ own ∧ ¬ fm.z a) ∨ KObj fm.K a o
/-- .. at H' behind an expression that began at H -/
def RX (fm : Fm) (own : List Addr) (H H' : Hp) : Md → RdR
  | .sh => RD fm own H'
  | .f0 => fun a o => cl H' a = some o ∧ a ∉ own ∧ ¬ fm.z a ∧ fm.H0 a = none
  | .fx => fun a o => cl H' a = some o ∧ a ∉ own ∧ ¬ fm.z a ∧ fm.H0 a = none ∧ H a = none
theorem Rd.clo {H : Hp} {a : Addr} {o : HO} (r : L2.Rd H a o) (n : nt o = true := by rfl) : Rd (cl H) a o := r.imp (fun h => cl_of h n) fun ⟨f, h⟩ => ⟨⟨.frz f o, .inl ⟨n, f, rfl⟩⟩, cl_of h⟩
theorem Rd.raw {H : Hp} {a : Addr} {o : HO} (r : Rd (cl H) a o) (n : nt o = true := by rfl) : L2.Rd H a o := by
  rcases r with r | ⟨⟨u, x⟩, r⟩
  · exact .inl (cl_raw r)
  · rcases x with ⟨_, f, e⟩ | ⟨ps, e, _⟩
    · exact .inr ⟨f, by rw [← e]; exact cl_raw r⟩
    · rw [e] at n; cases n
theorem Rd.same {H H' : Hp} {a : Addr} {o : HO} (s : Same H H') (r : Rd (cl H) a o) : Rd (cl H') a o := by
  rcases r with r | ⟨f, r⟩
  · exact .inl (s.cl _ _ r)
  · exact .inr ⟨f, s.cl _ _ r⟩
theorem Rd.some {H : Hp} {a : Addr} {o : HO} (r : Rd H a o) : H a ≠ none := by
  rcases r with r | ⟨f, r⟩ <;> rw [r] <;> exact fun e => by cases e
theorem Rd.there {H : Hp} {a : Addr} {o : HO} (r : Rd (cl H) a o) : H a ≠ none := fun e => Rd.some r (cl_none e)
theorem RD.same {fm : Fm} {own : List Addr} {H H' : Hp} (s : Same H H') : ∀ a o, RD fm own H a o → RD fm own H' a o := fun _ _ r => r.imp (fun ⟨r, h⟩ => ⟨Rd.same s r, h⟩) id
theorem RX.same {fm : Fm} {own : List Addr} {H H1 H2 : Hp} {md : Md} (s : Same H1 H2) : ∀ a o, RX fm own H H1 md a o → RX fm own H H2 md a o := fun a o r => by
  cases md with
  | sh => exact RD.same s a o r
  | f0 => exact ⟨s.cl _ _ r.1, r.2⟩
  | fx => exact ⟨s.cl _ _ r.1, r.2⟩
/-- from a later beginning -/
theorem RX.later {fm : Fm} {own : List Addr} {H H1 H2 : Hp} {md : Md} (s : Same H H1) : ∀ a o, RX fm own H1 H2 md a o → RX fm own H H2 md a o := fun a o r => by
  cases md with
  | sh => exact r
  | f0 => exact r
  | fx => exact ⟨r.1, r.2.1, r.2.2.1, r.2.2.2.1, s.free r.2.2.2.2⟩
theorem RX.sh {fm : Fm} {own : List Addr} {H H' : Hp} {md : Md} : ∀ a o, RX fm own H H' md a o → RX fm own H H' .sh a o := fun a o r => by
  cases md with
  | sh => exact r
  | f0 => exact .inl ⟨.inl r.1, r.2.1, r.2.2.1⟩
  | fx => exact .inl ⟨.inl r.1, r.2.1, r.2.2.1⟩
theorem RX.f0 {fm : Fm} {own : List Addr} {H H' : Hp} : ∀ a o, RX fm own H H' .fx a o → RX fm own H H' .f0 a o := fun a o r => ⟨r.1, r.2.1, r.2.2.1, r.2.2.2.1⟩
theorem RX.fx {fm : Fm} {own : List Addr} {H H' : Hp} (md : Md) : ∀ a o, RX fm own H H' .fx a o → RX fm own H H' md a o := fun a o r => by
  cases md with
  | sh => exact RX.sh a o r
  | f0 => exact RX.f0 a o r
  | fx => exact r
/-- what can be read is there -/
theorem RX.list {fm : Fm} {own : List Addr} {H H' : Hp} {md : Md} {a : Addr} {vs : List V} (r : RX fm own H H' md a (.lst vs)) : SqL fm.K H' a vs := by
  rcases RX.sh a _ r with r | r
  · exact .inl (Rd.raw r.1)
  · exact r.elim
theorem RX.tup {fm : Fm} {own : List Addr} {H H' : Hp} {md : Md} {a : Addr} {vs : List V} (r : RX fm own H H' md a (.tup vs)) : SqT fm.K H' a vs := by
  rcases RX.sh a _ r with r | r
  · exact .inl (Rd.raw r.1)
  · exact .inr r
structure Slot where
  ok : Option V → Hp → (Bool → RdR) → List Addr → Prop
  st : ∀ {v H H' F} {R R' : Bool → RdR}, ok v H R F → (∀ b a o, R b a o → R' b a o) → (∀ p ∈ F, H' p = H p) → ok v H' R' F
  tb : ∀ {v H F} {R : Bool → RdR}, ok v H R F → ∀ p ∈ F, cl H p ≠ none
/-- nothing is known of it -/
def sAny : Slot := ⟨fun _ _ _ F => F = [], fun h _ _ => h, fun h p hp => by subst h; exact nomatch hp⟩
/-- a value (b: made since the def began) -/
def sV {α : Type} (b : Bool) (T : Ty α) (d : α) : Slot := ⟨fun v _ R F => F = [] ∧ ∃ x, v = some x ∧ T.rep d x (R b), fun ⟨e, x, h, r⟩ s _ => ⟨e, x, h, T.mono r (s b)⟩, fun ⟨e, _⟩ p hp => by subst e; exact nomatch hp⟩
/-- a list of one's own, which may be changed -/
def sOwn {α : Type} (b : Bool) (T : Ty α) (ds : List α) : Slot := ⟨fun v H R F => ∃ p xs, v = some (.ref p) ∧ F = [p] ∧ H p = some (.lst xs) ∧ Reps T (R b) ds xs,
  fun ⟨p, xs, e, f, h, r⟩ s k => ⟨p, xs, e, f, by rw [k p (by simp [f])]; exact h, r.mono (s b)⟩, fun ⟨p, xs, e, f, h, r⟩ q hq => by subst f; rw [List.mem_singleton.mp hq, cl_of h]; exact fun z => nomatch z⟩
inductive AllS (H : Hp) (R : Bool → RdR) : List Slot → L2.St → List (List Addr) → Prop where
  | nil : AllS H R [] [] []
  | cons {s L v σ F Fs} : s.ok v H R F → AllS H R L σ Fs → AllS H R (s :: L) (v :: σ) (F :: Fs)
def RB (fm : Fm) (own : List Addr) (H : Hp) (b : Bool) : RdR := RX fm own H H (if b then .f0 else .sh)
section
variable {H H' : Hp} {R R' : Bool → RdR} {L : List Slot} {σ : L2.St} {Fs : List (List Addr)}
theorem AllS.st (h : AllS H R L σ Fs) (s : ∀ b a o, R b a o → R' b a o) (k : ∀ p ∈ Fs.flatten, H' p = H p) : AllS H' R' L σ Fs := by
  induction h with
  | nil => exact .nil
  | @cons sl L v σ F Fs r t ih =>
    exact .cons (sl.st r s fun p hp => k p (by simp [hp])) (ih fun p hp => k p (by simp only [List.flatten_cons, List.mem_append]; exact .inr hp))
theorem AllS.tb (h : AllS H R L σ Fs) : ∀ p ∈ Fs.flatten, cl H p ≠ none := by
  induction h with
  | nil => intro p hp; simp at hp
  | @cons s L v σ F Fs r _ ih =>
    intro p hp
    rw [List.flatten_cons, List.mem_append] at hp
    exact hp.elim (s.tb r p) (ih p)
theorem AllS.len (h : AllS H R L σ Fs) : σ.length = L.length := by
  induction h with
  | nil => rfl
  | cons _ _ ih => simp [ih]
theorem AllS.get (h : AllS H R L σ Fs) : ∀ {i : Nat} {s : Slot}, L[i]? = some s → ∃ v F, σ[i]? = some v ∧ Fs[i]? = some F ∧ s.ok v H R F := by
  induction h with
  | nil => intro i s e; simp at e
  | cons r _ ih =>
    intro i s e
    cases i with
    | zero => simp at e; subst e; exact ⟨_, _, rfl, rfl, r⟩
    | succ i => obtain ⟨v, F, e1, e2, r1⟩ := ih (i := i) (s := s) (by simpa using e); exact ⟨v, F, by simpa using e1, by simpa using e2, r1⟩
theorem AllS.set (h : AllS H R L σ Fs) {s : Slot} {v : Option V} {F : List Addr} (r : s.ok v H R F) : ∀ (i : Nat), AllS H R (L.set i s) (σ.set i v) (Fs.set i F) := by
  induction h with
  | nil => intro i; exact .nil
  | cons q t ih =>
    intro i
    cases i with
    | zero => exact .cons r t
    | succ i => exact .cons q (ih i)
end
/-- where a def's body stands: its frame, its slots, what it owns, what is kept readable -/
structure At (fm : Fm) (kp : RdR) (L : List Slot) (σ : L2.St) (H : Hp) (own : List Addr) : Prop where
  same : Same fm.H0 H
  zin : ∀ a, fm.z a → H a ≠ none
  sl : ∃ Fs, AllS H (RB fm own H) L σ Fs ∧ own = Fs.flatten
  nd : own.Nodup
  new : ∀ p ∈ own, H p ≠ none ∧ fm.H0 p = none ∧ ¬ fm.z p
  kept : ∀ a o, kp a o → RD fm own H a o
theorem RB.same {fm : Fm} {own : List Addr} {H H' : Hp} (s : Same H H') : ∀ b a o, RB fm own H b a o → RB fm own H' b a o := fun b a o r => by
  unfold RB at r ⊢
  cases b <;> exact RX.same s a o r
section
variable {fm : Fm} {kp : RdR} {L : List Slot} {σ : L2.St} {H H' : Hp} {own : List Addr}
theorem At.ext (h : At fm kp L σ H own) (s : Same H H') : At fm kp L σ H' own := by
  obtain ⟨h1, h2, ⟨Fs, h3, e⟩, h4, h5, h6⟩ := h
  refine ⟨h1.trans s, fun a z n => h2 a z (s.free n), ⟨Fs, h3.st (RB.same s) fun p hp => ?_, e⟩, h4, fun p hp => ?_, fun a o k => RD.same s a o (h6 a o k)⟩
  · obtain ⟨q, _⟩ := h5 p (by rw [e]; exact hp)
    cases r : cl H p with
    | none => exact absurd r (h3.tb p hp)
    | some o => rw [cl_raw r]; exact s.keep _ _ (cl_raw r) (cl_nt r)
  · obtain ⟨q, q2⟩ := h5 p hp
    refine ⟨fun z => q (s.free z), q2⟩
end
/-- some slots forgotten -/
inductive Wk : List Slot → List Slot → Prop where
  | n : Wk [] []
  | s {s L L'} : Wk L L' → Wk (s :: L) (s :: L')
  | a {s L L'} : Wk L L' → Wk (s :: L) (sAny :: L')
theorem Wk.refl : ∀ L, Wk L L
  | [] => .n
  | _ :: L => .s (Wk.refl L)
theorem Wk.anys : ∀ {L : List Slot} {n : Nat}, L.length = n → Wk L (List.replicate n sAny)
  | [], _, e => by subst e; exact .n
  | _ :: L, _, e => by subst e; exact Wk.a (Wk.anys (L := L) rfl)
theorem RX.own {fm : Fm} {own own' : List Addr} {H H' : Hp} {md : Md} (k : ∀ p ∈ own', p ∈ own) : ∀ a o, RX fm own H H' md a o → RX fm own' H H' md a o := fun a o r => by
  cases md with
  | sh => exact r.imp (fun ⟨h1, h2, h3⟩ => ⟨h1, fun q => h2 (k a q), h3⟩) id
  | f0 => exact ⟨r.1, fun q => r.2.1 (k a q), r.2.2⟩
  | fx => exact ⟨r.1, fun q => r.2.1 (k a q), r.2.2⟩
theorem RB.own {fm : Fm} {own own' : List Addr} {H : Hp} (k : ∀ p ∈ own', p ∈ own) : ∀ b a o, RB fm own H b a o → RB fm own' H b a o := fun _ a o r => RX.own k a o r
theorem wk_fs {H : Hp} {R : Bool → RdR} {L L' : List Slot} (w : Wk L L') : ∀ {σ : L2.St} {Fs : List (List Addr)}, AllS H R L σ Fs → ∃ Fs', AllS H R L' σ Fs' ∧ List.Sublist Fs'.flatten Fs.flatten := by
  induction w with
  | n => intro σ Fs h; exact ⟨Fs, h, List.Sublist.refl _⟩
  | s _ ih =>
    intro σ Fs h
    cases h with
    | @cons _ _ _ _ F _ r t =>
      obtain ⟨Fs', h', k⟩ := ih t
      exact ⟨F :: Fs', .cons r h', by simpa using List.Sublist.append (List.Sublist.refl F) k⟩
  | a _ ih =>
    intro σ Fs h
    cases h with
    | @cons _ _ _ _ F _ r t =>
      obtain ⟨Fs', h', k⟩ := ih t
      exact ⟨[] :: Fs', .cons rfl h', by simpa using List.Sublist.trans k (List.sublist_append_right F _)⟩
section
variable {fm : Fm} {kp kp' : RdR} {L L' : List Slot} {σ : L2.St} {H H' : Hp} {own : List Addr}
theorem At.weak (h : At fm kp L σ H own) (w : Wk L L') : ∃ own', At fm kp L' σ H own' ∧ ∀ p ∈ own', p ∈ own := by
  obtain ⟨h1, h2, ⟨Fs, h3, rfl⟩, h4, h5, h6⟩ := h
  obtain ⟨Fs', h7, k⟩ := wk_fs w h3
  have kk : ∀ p ∈ Fs'.flatten, p ∈ Fs.flatten := fun p hp => k.subset hp
  exact ⟨_, ⟨h1, h2, ⟨Fs', h7.st (RB.own kk) fun _ _ => rfl, rfl⟩, h4.sublist k, fun p hp => h5 p (kk p hp), fun a o q => RX.own (md := .sh) (H := H) kk a o (h6 a o q)⟩, kk⟩
theorem At.keep (h : At fm kp L σ H own) (k : ∀ a o, kp' a o → kp a o) : At fm kp' L σ H own := ⟨h.same, h.zin, h.sl, h.nd, h.new, fun a o q => h.kept a o (k a o q)⟩
/-- the slots' count -/
theorem At.len (h : At fm kp L σ H own) : σ.length = L.length := by
  obtain ⟨_, h3, _⟩ := h.sl
  exact h3.len
/-- a slot that owns nothing is set to a thing that owns nothing -/
theorem set_same_nil {Fs : List (List Addr)} : ∀ {i : Nat}, Fs[i]? = some [] → (Fs.set i []).flatten = Fs.flatten := by
  induction Fs with
  | nil => intro i _; rfl
  | cons F Fs ih =>
    intro i e
    cases i with
    | zero => simp at e; subst e; rfl
    | succ i => simp only [List.set_cons_succ, List.flatten_cons]; rw [ih (by simpa using e)]
theorem set_sub {Fs : List (List Addr)} : ∀ {i : Nat}, List.Sublist (Fs.set i []).flatten Fs.flatten := by
  induction Fs with
  | nil => intro i; exact List.Sublist.refl _
  | cons F Fs ih =>
    intro i
    cases i with
    | zero => simpa using List.sublist_append_right F _
    | succ i => simpa using List.Sublist.append (List.Sublist.refl F) (ih (i := i))
theorem At.setV {i : Nat} {b : Bool} {α : Type} {T : Ty α} {d : α} {v : V} (h : At fm kp L σ H own) (r : T.rep d v (RB fm own H b)) : ∃ own', At fm kp (L.set i (sV b T d)) (σ.set i (some v)) H own' := by
  obtain ⟨h1, h2, ⟨Fs, h3, rfl⟩, h4, h5, h6⟩ := h
  have kk : ∀ p ∈ (Fs.set i []).flatten, p ∈ Fs.flatten := fun p hp => (set_sub (i := i)).subset hp
  refine ⟨_, h1, h2, ⟨Fs.set i [], (h3.st (RB.own kk) fun _ _ => rfl).set (s := sV b T d) ⟨rfl, v, rfl, T.mono r (RB.own kk b)⟩ i, rfl⟩, h4.sublist set_sub, fun p hp => h5 p (kk p hp), fun a o q => RX.own (md := .sh) (H := H) kk a o (h6 a o q)⟩
end
/-- what is wanted of a refusal -/
abbrev Wx := Ec → L2.St → Hp → Prop
structure G where
  X : Cx
  fm : Fm
  W : Wx
  LX : List Slot
/-- an expression that is worth m, told as T; md: how new it is -/
def tE (fm : Fm) (W : Wx) (L : List Slot) (md : Md) {α : Type} (T : Ty α) (m : M α) : TE := fun σ H Q => ∃ kp own, At fm kp L σ H own ∧
  match m with
  | .ok d => ∀ v H', Same H H' → T.rep d v (RX fm own H H' md) → Q v H'
  | .ex c => ∀ H', Same H H' → W c σ H'
  | .no => False
def tT (fm : Fm) (W : Wx) (L : List Slot) (m : M Bool) : TT := fun σ H Q => ∃ kp own, At fm kp L σ H own ∧
  match m with
  | .ok d => ∀ H', Same H H' → Q d H'
  | .ex c => ∀ H', Same H H' → W c σ H'
  | .no => False
def tA (fm : Fm) (W : Wx) (L : List Slot) (md : Md) {δ : Type} (A : Ar δ) (m : M δ) : TA := fun σ H Q => ∃ kp own, At fm kp L σ H own ∧
  match m with
  | .ok d => ∀ vs H', Same H H' → A.rep d vs (RX fm own H H' md) → Q vs H'
  | .ex c => ∀ H', Same H H' → W c σ H'
  | .no => False
/-- a list that the expression makes -/
def tL (fm : Fm) (W : Wx) (L : List Slot) (md : Md) {α : Type} (S : Ty α) (m : M (List α)) : TE := fun σ H Q => ∃ kp own, At fm kp L σ H own ∧
  match m with
  | .ok ds => ∀ p vs H', Same H H' → H p = none → H' p = some (.lst vs) → Reps S (RX fm (p :: own) H H' md) ds vs → Q (.ref p) H'
  | .ex c => ∀ H', Same H H' → W c σ H'
  | .no => False
def EvL (g : G) (L : List Slot) (e : Expr) (md : Md) {α : Type} (S : Ty α) (m : M (List α)) : Prop := PE g.X e (tL g.fm g.W L md S m)
def EvE (g : G) (L : List Slot) (e : Expr) (md : Md) {α : Type} (T : Ty α) (m : M α) : Prop := PE g.X e (tE g.fm g.W L md T m)
def EvT (g : G) (L : List Slot) (e : Expr) (m : M Bool) : Prop := PT g.X e (tT g.fm g.W L m)
def EvA (g : G) (L : List Slot) (es : List Expr) (md : Md) {δ : Type} (A : Ar δ) (m : M δ) : Prop := PA g.X es (tA g.fm g.W L md A m)
/-- how a block ends -/
inductive Out where
  | nx (L : List Slot)
  | ct (L : List Slot)
  | go (L : List Slot)
  | rt {ρ : Type} (md : Bool) (T : Ty ρ) (r : ρ)
  | rtL {ρ : Type} (md : Bool) (T : Ty ρ) (r : List ρ)
  /-- any other way of handing back -/
  | gen (f : Fm → VK → Prop)
  | bad
def Out.cut : Out → Out
  | .go L => .ct L
  | .nx _ => .bad
  | o => o
/-- .. of what is handed back; q: not by this one -/
def RT (fm : Fm) (H' : Hp) (b : Bool) (q : Option Addr := none) : RdR := RX fm q.toList H' H' (if b then .f0 else .sh)
def OutOk (fm : Fm) (kp : RdR) (E : Ends) : Out → Prop
  | .nx L => ∀ σ H own, At fm kp L σ H own → E.nx σ H
  | .ct L => ∀ σ H own, At fm kp L σ H own → E.ct σ H
  | .go L => ∀ σ H own, At fm kp L σ H own → E.nx σ H ∧ E.ct σ H
  | .rt md T r => ∀ v H', Same fm.H0 H' → T.rep r v (RT fm H' md) → E.rt v H'
  | .rtL md T r => ∀ p vs H', Same fm.H0 H' → ¬ fm.z p → fm.H0 p = none → H' p = some (.lst vs) → Reps T (RT fm H' md (some p)) r vs → E.rt (.ref p) H'
  | .gen f => f fm E.rt
  | .bad => False
def BOk (g : G) (kp : RdR) (E : Ends) {δ : Type} (D : δ → Out) : M δ → Prop
  | .ok d => OutOk g.fm kp E (D d)
  | .ex c => ∀ σ H own, At g.fm kp g.LX σ H own → g.W c σ H
  | .no => False
def tB (g : G) (L : List Slot) {δ : Type} (D : δ → Out) (m : M δ) : TS := fun E σ H => ∃ kp own, At g.fm kp L σ H own ∧ BOk g kp E D m
def EvB (g : G) (L : List Slot) (st : List Stmt) {δ : Type} (D : δ → Out) (m : M δ) : Prop := PSs g.X st (tB g L D m)
theorem PE.imp {X : Cx} {e : Expr} {t t' : TE} (h : PE X e t) (k : ∀ σ H Q, t' σ H Q → t σ H Q) : PE X e t' := ⟨fun pins s σ H Q I q => h.run pins s σ H Q I (k _ _ _ q)⟩
theorem PT.imp {X : Cx} {e : Expr} {t t' : TT} (h : PT X e t) (k : ∀ σ H Q, t' σ H Q → t σ H Q) : PT X e t' := ⟨fun pins s σ H Q I q => h.run pins s σ H Q I (k _ _ _ q)⟩
theorem PW.imp {X : Cx} {e : Expr} {t t' : TT} (h : PW X e t) (k : ∀ σ H Q, t' σ H Q → t σ H Q) : PW X e t' := ⟨fun wh pins s σ H Q I q => h.run wh pins s σ H Q I (k _ _ _ q)⟩
theorem PA.imp {X : Cx} {e : List Expr} {t t' : TA} (h : PA X e t) (k : ∀ σ H Q, t' σ H Q → t σ H Q) : PA X e t' := ⟨fun pos pins s σ H Q I q => h.run pos pins s σ H Q I (k _ _ _ q)⟩
theorem PSs.imp {X : Cx} {e : List Stmt} {t t' : TS} (h : PSs X e t) (k : ∀ E σ H, t' E σ H → t E σ H) : PSs X e t' := ⟨fun pins s σ H D I q => h.run pins s σ H D I (k _ _ _ q)⟩
section
variable {g : G} {L : List Slot} {e e' : Expr} {es : List Expr} {md : Md} {α β γ δ : Type} {S : Ty α} {T : Ty β} {U : Ty γ} {A : Ar δ}
/-- the end of an expression, as a wish about its worth -/
def FinE (fm : Fm) (W : Wx) (own : List Addr) (σ : L2.St) (H : Hp) (md : Md) (T : Ty β) (Q : VK) : M β → Prop
  | .ok d => ∀ v H', Same H H' → T.rep d v (RX fm own H H' md) → Q v H'
  | .ex c => ∀ H', Same H H' → W c σ H'
  | .no => False
def FinL (fm : Fm) (W : Wx) (own : List Addr) (σ : L2.St) (H : Hp) (md : Md) (T : Ty β) (Q : VK) : M (List β) → Prop
  | .ok ds => ∀ p vs H', Same H H' → H p = none → H' p = some (.lst vs) → Reps T (RX fm (p :: own) H H' md) ds vs → Q (.ref p) H'
  | .ex c => ∀ H', Same H H' → W c σ H'
  | .no => False
theorem tL_iff {fm : Fm} {W : Wx} {m : M (List β)} {σ : L2.St} {H : Hp} {Q : VK} : tL fm W L md T m σ H Q ↔ ∃ kp own, At fm kp L σ H own ∧ FinL fm W own σ H md T Q m := by
  cases m <;> exact Iff.rfl
def FinT (W : Wx) (σ : L2.St) (H : Hp) (Q : Bool → Hp → Prop) : M Bool → Prop
  | .ok d => ∀ H', Same H H' → Q d H'
  | .ex c => ∀ H', Same H H' → W c σ H'
  | .no => False
def FinA (fm : Fm) (W : Wx) (own : List Addr) (σ : L2.St) (H : Hp) (md : Md) (A : Ar δ) (Q : List V → Hp → Prop) : M δ → Prop
  | .ok d => ∀ vs H', Same H H' → A.rep d vs (RX fm own H H' md) → Q vs H'
  | .ex c => ∀ H', Same H H' → W c σ H'
  | .no => False
theorem tE_iff {fm : Fm} {W : Wx} {m : M β} {σ : L2.St} {H : Hp} {Q : VK} : tE fm W L md T m σ H Q ↔ ∃ kp own, At fm kp L σ H own ∧ FinE fm W own σ H md T Q m := by
  cases m <;> exact Iff.rfl
theorem tT_iff {fm : Fm} {W : Wx} {m : M Bool} {σ : L2.St} {H : Hp} {Q : Bool → Hp → Prop} : tT fm W L m σ H Q ↔ ∃ kp own, At fm kp L σ H own ∧ FinT W σ H Q m := by
  cases m <;> exact Iff.rfl
theorem tA_iff {fm : Fm} {W : Wx} {m : M δ} {σ : L2.St} {H : Hp} {Q : List V → Hp → Prop} : tA fm W L md A m σ H Q ↔ ∃ kp own, At fm kp L σ H own ∧ FinA fm W own σ H md A Q m := by
  cases m <;> exact Iff.rfl
/-- ends that let refusals pass -/
structure Fin (W : Wx) (σ : L2.St) (H0 : Hp) (F : M β → Prop) : Prop where
  ex : ∀ {c}, F (.ex c) → ∀ H', Same H0 H' → W c σ H'
  no : ¬ F .no
theorem finE {fm : Fm} {W : Wx} {own : List Addr} {σ : L2.St} {H : Hp} {Q : VK} : Fin W σ H (FinE fm W own σ H md T Q) := ⟨fun h => h, fun h => h⟩
theorem finL {fm : Fm} {W : Wx} {own : List Addr} {σ : L2.St} {H : Hp} {Q : VK} : Fin (β := List β) W σ H (FinL fm W own σ H md T Q) := ⟨fun h => h, fun h => h⟩
theorem finT {W : Wx} {σ : L2.St} {H : Hp} {Q : Bool → Hp → Prop} : Fin W σ H (FinT W σ H Q) := ⟨fun h => h, fun h => h⟩
theorem finA {fm : Fm} {W : Wx} {own : List Addr} {σ : L2.St} {H : Hp} {Q : List V → Hp → Prop} : Fin W σ H (FinA fm W own σ H md A Q) := ⟨fun h => h, fun h => h⟩
section
variable {fm : Fm} {W : Wx} {kp : RdR} {own : List Addr} {σ : L2.St} {H0 H : Hp} {F : M β → Prop}
/-- a sub-expression, then what follows -/
theorem sub {m : M α} {f : α → M β} {K : VK} (hF : Fin W σ H0 F) (s0 : Same H0 H) (at_ : At fm kp L σ H own) (q : F (m.bind f))
    (h : ∀ d v H1, Same H H1 → S.rep d v (RX fm own H0 H1 md) → At fm kp L σ H1 own → F (f d) → K v H1) : tE fm W L md S m σ H K := by
  refine tE_iff.mpr ⟨kp, own, at_, ?_⟩
  cases m with
  | ok d => exact fun v H1 s r => h d v H1 s (S.mono r (RX.later s0)) (at_.ext s) q
  | ex c => exact fun H' s => hF.ex q H' (s0.trans s)
  | no => exact hF.no q
theorem subT {m : M Bool} {f : Bool → M β} {K : Bool → Hp → Prop} (hF : Fin W σ H0 F) (s0 : Same H0 H) (at_ : At fm kp L σ H own) (q : F (m.bind f))
    (h : ∀ d H1, Same H H1 → At fm kp L σ H1 own → F (f d) → K d H1) : tT fm W L m σ H K := by
  refine tT_iff.mpr ⟨kp, own, at_, ?_⟩
  cases m with
  | ok d => exact fun H1 s => h d H1 s (at_.ext s) q
  | ex c => exact fun H' s => hF.ex q H' (s0.trans s)
  | no => exact hF.no q
theorem subA {m : M δ} {f : δ → M β} {K : List V → Hp → Prop} (hF : Fin W σ H0 F) (s0 : Same H0 H) (at_ : At fm kp L σ H own) (q : F (m.bind f))
    (h : ∀ d vs H1, Same H H1 → A.rep d vs (RX fm own H0 H1 md) → At fm kp L σ H1 own → F (f d) → K vs H1) : tA fm W L md A m σ H K := by
  refine tA_iff.mpr ⟨kp, own, at_, ?_⟩
  cases m with
  | ok d => exact fun vs H1 s r => h d vs H1 s (A.mono r (RX.later s0)) (at_.ext s) q
  | ex c => exact fun H' s => hF.ex q H' (s0.trans s)
  | no => exact hF.no q
end
structure Rdb (K : PySem.W.Frag) (R : RdR) (H : Hp) : Prop where
  rd : ∀ a o, R a o → nt o = true → L2.Rd H a o ∨ KObj K a o
instance {K : PySem.W.Frag} {R : RdR} {H : Hp} : CoeFun (Rdb K R H) (fun _ => ∀ a o, R a o → (n : nt o = true) → L2.Rd H a o ∨ KObj K a o) := ⟨fun rb a o h n => rb.rd a o h n⟩
/-- what an operation's answer may reach: its operands' things (unless fr), new things -/
def Nw (fr : Bool) (R : RdR) (H H' : Hp) : RdR := fun a o => (fr = false ∧ R a o) ∨ (cl H' a = some o ∧ H a = none)
def OpEnd (U : Ty γ) (fr : Bool) (R : RdR) (H : Hp) (Q : VK) : M γ → Prop
  | .ok u => ∀ v H', Same H H' → U.rep u v (Nw fr R H H') → Q v H'
  | _ => False
structure Op1 (K : PySem.W.Frag) (r : V → Hp → VK → Prop) (S : Ty α) (U : Ty γ) (f : α → M γ) (fr : Bool) : Prop where
  run : ∀ {d x R H Q}, Rdb K R H → S.rep d x R → OpEnd U fr R H Q (f d) → r x H Q
structure Op2 (K : PySem.W.Frag) (r : R2) (S : Ty α) (T : Ty β) (U : Ty γ) (f : α → β → M γ) (fr : Bool) : Prop where
  run : ∀ {d e x y R H Q}, Rdb K R H → S.rep d x R → T.rep e y R → OpEnd U fr R H Q (f d e) → r x y H Q
structure OpC (K : PySem.W.Frag) (r : List V → Hp → VK → Prop) (A : Ar δ) (U : Ty γ) (f : δ → M γ) (fr : Bool) : Prop where
  run : ∀ {d xs R H Q}, Rdb K R H → A.rep d xs R → OpEnd U fr R H Q (f d) → r xs H Q
/-- how new an answer is -/
inductive MdOk : Bool → Md → Md → Prop where
  | same {fr md} : MdOk fr md md
  | fresh {md md'} : MdOk true md md'
theorem RX.rdb {fm : Fm} {own : List Addr} {H H' : Hp} : Rdb fm.K (RX fm own H H' md) H' := ⟨fun a o r n => (RX.sh a o r).imp (fun h => Rd.raw h.1 n) id⟩
theorem Nw.rx {fm : Fm} {kp : RdR} {own : List Addr} {σ : L2.St} {H H1 H2 : Hp} {fr : Bool} {md' : Md} (hm : MdOk fr md md') (s : Same H H1) (at_ : At fm kp L σ H1 own) (s2 : Same H1 H2) :
    ∀ a o, Nw fr (RX fm own H H1 md) H1 H2 a o → RX fm own H H2 md' a o := fun a o r => by
  rcases r with ⟨e, r⟩ | ⟨r, n⟩
  · cases hm with
    | same => exact RX.same s2 a o r
    | fresh => cases e
  · refine RX.fx md' a o ⟨r, fun hp => (at_.new a hp).1 n, fun hz => at_.zin a hz n, at_.same.free n, s.free n⟩
theorem FinE.fin {fm : Fm} {W : Wx} {kp : RdR} {own : List Addr} {σ : L2.St} {H H1 : Hp} {fr : Bool} {md' : Md} {Q : VK} {m : M γ} (hm : MdOk fr md md') (s : Same H H1) (at_ : At fm kp L σ H1 own) (hne : ∀ c, m ≠ .ex c)
    (q : FinE fm W own σ H md' U Q m) : OpEnd U fr (RX fm own H H1 md) H1 Q m := by
  cases m with
  | ok u => exact fun v H' s' r => q v H' (s.trans s') (U.mono r (Nw.rx hm s at_ s'))
  | ex c => exact hne c rfl
  | no => exact q
end
end Hd
namespace Hd
open PySem PySem.Spec L2
/-- the program's fixed things -/
structure Pr where
  P : Program
  w : World
  K : PySem.W.Frag
  mg : Str → Option Value
  base : Heap
  C : Ec → Addr
  /-- where the table of the lambda's code object stands -/
  T : Option Addr
def okName (x : Str) : Bool := !(x == ("__debug__" : Str)) && !(x == ("__classdict__" : Str)) && !(x == ("__name__" : Str))
def seenB (sc : Scope) (x : Str) : Bool := okName x && (match sc.names.lookup x with | some .local => true | some .cell => true | some .free => true | _ => false)
def locB (sc : Scope) (x : Str) : Bool := match sc.names.lookup x with | some .local => true | some .cell => true | _ => false
def glB (sc : Scope) (x : Str) : Bool := okName x && (match sc.names.lookup x with | some .globalImplicit => true | _ => false)
theorem okName_d {x : Str} (h : okName x = true) : (x == ("__debug__" : Str)) = false ∧ (x == ("__classdict__" : Str)) = false ∧ x ≠ "__name__" := by
  simp only [okName, Bool.and_eq_true, Bool.not_eq_true'] at h
  refine ⟨h.1.1, h.1.2, fun e => ?_⟩
  have := h.2
  rw [e, beq_self_eq_true] at this
  cases this
theorem seenB_v {sc : Scope} {x : Str} (h : seenB sc x = true) : okName x = true ∧ Vis sc x := by
  simp only [seenB, Bool.and_eq_true] at h
  refine ⟨h.1, ?_⟩
  have q := h.2
  unfold Vis
  split at q <;> first | exact .inl (by assumption) | exact .inr (.inl (by assumption)) | exact .inr (.inr (by assumption)) | cases q
theorem locB_v {sc : Scope} {x : Str} (h : locB sc x = true) : L2.Loc sc x := by
  unfold locB at h
  unfold L2.Loc
  split at h <;> first | exact .inl (by assumption) | exact .inr (by assumption) | cases h
theorem glB_v {sc : Scope} {x : Str} (h : glB sc x = true) : okName x = true ∧ sc.names.lookup x = some .globalImplicit := by
  simp only [glB, Bool.and_eq_true] at h
  refine ⟨h.1, ?_⟩
  have q := h.2
  split at q <;> first | assumption | cases q
/-- where an expression stands: N the slots, V the names seen, Gs the global names used, k the room -/
structure Ok (p : Pr) (sc : Scope) (NN VV GG : List Str) (k : Nat) (g : G) : Prop where
  prog : g.X.prog = p.P
  w : g.X.w = p.w
  K : g.X.K = p.K
  mg : g.X.mg = p.mg
  base : g.X.base = p.base
  N : g.X.N = NN
  fmK : g.fm.K = p.K
  tab : ∀ P, p.T = some P → LamX.TabS g.fm.H0 P lamQ
  room : Room k g.X.A
  nd : NN.Nodup
  vis : ∀ {j : Nat} {x : Str}, VV[j]? = some x → Vis g.X.env.scope x ∧ okName x = true
  gl : ∀ {j : Nat} {x : Str}, GG[j]? = some x → Gl g.X x ∧ okName x = true
  tk : Takes g.X (fun cls d σ H => ∃ c, cls = .ref (p.C c) ∧ d = none ∧ g.W c σ H)
  calm : g.X.calm = true
  blk : ∀ {scope : Scope} {own : List (Str × Nat)}, blkC NN sc scope own = true → BlkOk NN g.X.env.scope scope own
section
variable {p : Pr} {sc : Scope} {NN VV GG : List Str} {k : Nat} {g : G} {L : List Slot} {a b c e e' : Expr} {es : List Expr} {md md' : Md} {α β γ δ : Type} {S : Ty α} {T : Ty β} {U : Ty γ} {A : Ar δ} {pos : Pos}
theorem RB.rx {fm : Fm} {own : List Addr} {H H' : Hp} {b : Bool} : ∀ a o, RB fm own H' b a o → RX fm own H H' (if b then .f0 else .sh) a o := fun a o r => by cases b <;> exact r
/-- a name whose slot holds d -/
theorem ev_var (ok : Ok p sc NN VV GG k g) {i j : Nat} {x : Str} {b : Bool} {d : α} (hN : NN[i]? = some x) (hV : VV[j]? = some x) (hL : L[i]? = some (sV b S d)) : EvE g L (.Name x pos) (if b then .f0 else .sh) S (.ok d) := by
  obtain ⟨hv, ho⟩ := ok.vis hV
  obtain ⟨h1, h2, _⟩ := okName_d ho
  refine PE.imp (pe_var (i := i) (by rw [ok.N]; exact hN) hv h1 h2) fun σ H Q ⟨kp, own, at_, q⟩ => ?_
  obtain ⟨Fs, hs, _⟩ := at_.sl
  obtain ⟨v, F, e1, _, _, y, rfl, r⟩ := hs.get hL
  exact ⟨y, e1, q y H (Same.refl H) (S.mono r RB.rx)⟩
theorem ev_vsh (ok : Ok p sc NN VV GG k g) {i j : Nat} {x : Str} {b : Bool} {d : α} (hN : NN[i]? = some x) (hV : VV[j]? = some x) (hL : L[i]? = some (sV b S d)) : EvE g L (.Name x pos) .sh S (.ok d) := by
  refine PE.imp (ev_var ok hN hV hL) fun σ H Q ⟨kp, own, at_, q⟩ => ⟨kp, own, at_, fun v H' s r => q v H' s (S.mono r RX.sh)⟩
/-- a kind of data without a heap -/
def Flat (S : Ty α) : Prop := ∀ {d v R R'}, S.rep d v R → S.rep d v R'
theorem Reps.flat {R R' : RdR} {ds : List α} {vs : List V} (hf : Flat S) (r : Reps S R ds vs) : Reps S R' ds vs := by
  induction r with
  | nil => exact .nil
  | cons r _ ih => exact .cons (hf r) ih
theorem flInt : Flat tInt := fun h => h
theorem flBool : Flat tBool := fun h => h
/-- the kind told otherwise -/
theorem ev_as {m : M α} {d2 : α → β} (hr : ∀ d v R, S.rep d v R → T.rep (d2 d) v R) (h : EvE g L e md S m) : EvE g L e md T (m.bind fun d => .ok (d2 d)) :=
  PE.imp h fun σ H Q q => by
    obtain ⟨kp, own, at_, q⟩ := tE_iff.mp q
    refine tE_iff.mpr ⟨kp, own, at_, ?_⟩
    cases m with
    | ok d => exact fun v H' s r => q v H' s (hr _ _ _ r)
    | ex c => exact q
    | no => exact q
theorem ev_asP {d : α} {d2 : β} (hr : ∀ v R, S.rep d v R → T.rep d2 v R) (h : EvE g L e md S (.ok d)) : EvE g L e md T (.ok d2) :=
  PE.imp h fun σ H Q ⟨kp, own, at_, q⟩ => ⟨kp, own, at_, fun v H' s r => q v H' s (hr _ _ r)⟩
theorem ev_int {i : Int} {j} : EvE g L (.Constant (.int i) j pos) md tInt (.ok i) := PE.imp pe_int fun σ H Q ⟨kp, own, at_, q⟩ => q _ H (Same.refl H) rfl
theorem ev_bool {i : Bool} {j} : EvE g L (.Constant (.bool i) j pos) md tBool (.ok i) := PE.imp pe_bl fun σ H Q ⟨kp, own, at_, q⟩ => q _ H (Same.refl H) rfl
/-- a written text's signs -/
def tx (s : String) : Tx := (Str.ofString s).cps.toList
theorem toS_tx (s : String) : toS (tx s) = Str.ofString s := by
  show (⟨((Str.ofString s).cps.toList).toArray⟩ : Str) = Str.ofString s
  rw [Array.toArray_toList]
theorem toS_inj {x y : Tx} (h : toS x = toS y) : x = y := by
  have := congrArg (fun z : Str => z.cps.toList) h
  simpa [toS] using this
theorem toS_len (x : Tx) : (toS x).length = x.length := by
  show x.toArray.size = x.length
  simp
def okTxB (x : Tx) : Bool := decide (x.length ≤ 1000) && x.all fun c => decide (c < 0x110000)
theorem okTx_of {x : Tx} (h : okTxB x = true) : OkTx x := by
  simp only [okTxB, Bool.and_eq_true, decide_eq_true_eq, List.all_eq_true] at h
  exact ⟨Nat.le_trans h.1 (by decide), h.2⟩
theorem ev_str {s : String} {j} (hl : okTxB (tx s) = true) : EvE g L (.Constant (.str (Str.ofString s)) j pos) md tStr (.ok (tx s)) := PE.imp pe_str fun σ H Q ⟨kp, own, at_, q⟩ => q _ H (Same.refl H) ⟨by show _ = V.str _; rw [toS_tx], okTx_of hl⟩
/-- a constant of the module: an int or a text -/
theorem ev_glob (ok : Ok p sc NN VV GG k g) {j : Nat} {x : Str} {v : V} {u : Value} {d : α} (hG : GG[j]? = some x) (hm : p.mg x = some u) (r : RelV v u) (hr : ∀ R, S.rep d v R) : EvE g L (.Name x pos) md S (.ok d) := by
  obtain ⟨hg, ho⟩ := ok.gl hG
  exact PE.imp (pe_glob hg (by rw [ok.mg]; exact hm) r (okName_d ho).1) fun σ H Q ⟨kp, own, at_, q⟩ => q _ H (Same.refl H) (hr _)
/-- .. -/
theorem ev_op2 {op : Operator} {r : R2} {f : α → β → M γ} {fr : Bool} {m1 : M α} {m2 : M β} (ok : Ok p sc NN VV GG k g) (ho : ∀ {X : Cx}, OpR X (binaryOp op) r) (F : Op2 p.K r S T U f fr) (hne : ∀ d e c, f d e ≠ .ex c) (hm : MdOk fr md md')
    (ha : EvE g L a md S m1) (hb : EvE g L b md T m2) : EvE g L (.BinOp a op b pos) md' U (m1.bind fun d => m2.bind fun e => f d e) := by
  refine PE.imp (pe_op ho ha hb) fun σ H Q q => ?_
  obtain ⟨kp, own, at_, q⟩ := tE_iff.mp q
  refine sub finE (Same.refl H) at_ q fun d x H1 s1 r1 at1 q1 => sub finE s1 at1 q1 fun e y H2 s2 r2 at2 q2 => ?_
  rw [← ok.fmK] at F
  exact F.run (R := RX g.fm own H H2 md) RX.rdb (S.mono r1 (RX.same s2)) r2 (q2.fin hm (s1.trans s2) at2 (hne d e))
theorem ev_un {op : UnaryOp} {r : V → Hp → VK → Prop} {f : α → M γ} {fr : Bool} {m1 : M α} (ok : Ok p sc NN VV GG k g) (ho : ∀ {X : Cx}, UnR X (unaryOp op) r) (F : Op1 p.K r S U f fr) (hne : ∀ d c, f d ≠ .ex c) (hm : MdOk fr md md')
    (ha : EvE g L a md S m1) : EvE g L (.UnaryOp op a pos) md' U (m1.bind f) := by
  refine PE.imp (pe_un ho ha) fun σ H Q q => ?_
  obtain ⟨kp, own, at_, q⟩ := tE_iff.mp q
  refine sub finE (Same.refl H) at_ q fun d x H1 s1 r1 at1 q1 => ?_
  rw [← ok.fmK] at F
  exact F.run (R := RX g.fm own H H1 md) RX.rdb r1 (q1.fin hm s1 at1 (hne d))
/-- a comparison's value -/
theorem ev_cmp {op : CmpOp} {r : R2} {f : α → β → M γ} {fr : Bool} {m1 : M α} {m2 : M β} (ok : Ok p sc NN VV GG k g) (ho : OpR g.X (compareOp op) r) (F : Op2 p.K r S T U f fr) (hne : ∀ d e c, f d e ≠ .ex c) (hm : MdOk fr md md')
    (ha : EvE g L a md S m1) (hb : EvE g L b md T m2) (hk : behindInMarks op b = false := by first | exact nomark _ (by decide) (by decide) | rfl) : EvE g L (.Compare a [op] [b] pos) md' U (m1.bind fun d => m2.bind fun e => f d e) := by
  refine PE.imp (pe_cmpR ho ha hb hk) fun σ H Q q => ?_
  obtain ⟨kp, own, at_, q⟩ := tE_iff.mp q
  refine sub finE (Same.refl H) at_ q fun d x H1 s1 r1 at1 q1 => sub finE s1 at1 q1 fun e y H2 s2 r2 at2 q2 => ?_
  rw [← ok.fmK] at F
  exact F.run (R := RX g.fm own H H2 md) RX.rdb (S.mono r1 (RX.same s2)) r2 (q2.fin hm (s1.trans s2) at2 (hne d e))
/-- a comparison as a test -/
theorem evt_cmp {op : CmpOp} {r : R2} {f : α → β → M Bool} {fr : Bool} {m1 : M α} {m2 : M β} (ok : Ok p sc NN VV GG k g) (ho : OpR g.X (compareOp op) r) (F : Op2 p.K r S T tBool f fr) (hne : ∀ d e c, f d e ≠ .ex c)
    (ha : EvE g L a md S m1) (hb : EvE g L b md T m2) (hk : behindInMarks op b = false := by first | exact nomark _ (by decide) (by decide) | rfl) : EvT g L (.Compare a [op] [b] pos) (m1.bind fun d => m2.bind fun e => f d e) := by
  refine PT.imp (pt_cmpR ho ha hb hk) fun σ H Q q => ?_
  obtain ⟨kp, own, at_, q⟩ := tT_iff.mp q
  refine sub finT (Same.refl H) at_ q fun d x H1 s1 r1 at1 q1 => sub finT s1 at1 q1 fun e y H2 s2 r2 at2 q2 => ?_
  rw [← ok.fmK] at F
  refine F.run (R := RX g.fm own H H2 md) RX.rdb (S.mono r1 (RX.same s2)) r2 ?_
  cases hf : f d e with
  | ok c => rw [hf] at q2; exact fun v H' s r => ⟨c, r, q2 H' ((s1.trans s2).trans s)⟩
  | ex c => exact absurd hf (hne d e c)
  | no => rw [hf] at q2; exact q2
/-- a < b < c, as a test -/
theorem evt_chain {op op' : CmpOp} {r r' : R2} {f : α → β → Bool} {f' : β → γ → Bool} {d1 : α} {d2 : β} {d3 : γ} (ok : Ok p sc NN VV GG k g) (ho : OpR g.X (compareOp op) r) (ho' : OpR g.X (compareOp op') r')
    (F : Op2 p.K r S T tBool (fun x y => .ok (f x y)) false) (F' : Op2 p.K r' T U tBool (fun x y => .ok (f' x y)) false)
    (ha : EvE g L a md S (.ok d1)) (hb : EvE g L b md T (.ok d2)) (hc : EvE g L c md U (.ok d3)) (hm : lastMarks [op, op'] [b, c] = false := by with_unfolding_all rfl) : EvT g L (.Compare a [op, op'] [b, c] pos) (.ok (f d1 d2 && f' d2 d3)) := by
  refine PT.imp (pt_chain ho ho' ha hb hc hm) fun σ H Q ⟨kp, own, at_, q⟩ => ?_
  refine ⟨kp, own, at_, fun x H1 s1 r1 => ⟨kp, own, at_.ext s1, fun y H2 s2 r2 => ?_⟩⟩
  rw [← ok.fmK] at F F'
  have at2 := (at_.ext s1).ext s2
  have r2' : T.rep d2 y (RX g.fm own H H2 md) := T.mono r2 (RX.later s1)
  refine F.run (R := RX g.fm own H H2 md) RX.rdb (S.mono r1 (RX.same s2)) r2' fun v H3 s3 r3 => ⟨f d1 d2, r3, ?_⟩
  cases hf : f d1 d2 with
  | true =>
    refine ⟨kp, own, at2.ext s3, fun z H4 s4 r4 => F'.run (R := RX g.fm own H H4 md) RX.rdb (T.mono r2' (RX.same (s3.trans s4))) (U.mono r4 (RX.later ((s1.trans s2).trans s3))) fun v' H5 s5 r5 => ⟨f' d2 d3, r5, ?_⟩⟩
    rw [hf, Bool.true_and] at q
    exact q H5 ((((s1.trans s2).trans s3).trans s4).trans s5)
  | false =>
    rw [hf, Bool.false_and] at q
    exact ⟨false, rfl, q H3 ((s1.trans s2).trans s3)⟩
/-- an expression that is a bool, as a test -/
theorem evt_of {m : M Bool} (h : EvE g L e md tBool m) (he : ∀ whole, isTrue e g.X.env whole = (do let v ← whole; standAt e.pos; holding [v] (truthy v)) := by intro _; rfl) : EvT g L e m := by
  refine PT.imp (pt_val h he) fun σ H Q q => ?_
  obtain ⟨kp, own, at_, q⟩ := tT_iff.mp q
  refine tE_iff.mpr ⟨kp, own, at_, ?_⟩
  cases m with
  | ok d => exact fun v H' s r => ⟨d, r, q H' s⟩
  | ex c => exact q
  | no => exact q
theorem evt_not {m : M Bool} (h : EvT g L a m) : EvT g L (.UnaryOp .Not a pos) (m.bind fun c => .ok (!c)) := by
  refine PT.imp (pt_not h) fun σ H Q q => ?_
  obtain ⟨kp, own, at_, q⟩ := tT_iff.mp q
  exact subT finT (Same.refl H) at_ q fun d H1 s at1 q1 => q1 H1 s
/-- and, or: chains of tests -/
def EvW (g : G) (L : List Slot) (e : Expr) (m : M Bool) : Prop := PW g.X e (tT g.fm g.W L m)
theorem EvW.t {m : M Bool} (h : EvW g L e m) : EvT g L e m := PW.pt h
theorem evw_and1 {m : M Bool} (h : EvT g L a m) : EvW g L (.BoolOp .And [a] pos) m := pw_and1 h
theorem evw_or1 {m : M Bool} (h : EvT g L a m) : EvW g L (.BoolOp .Or [a] pos) m := pw_or1 h
theorem evw_and {m1 m2 : M Bool} (h : EvT g L a m1) (h2 : EvW g L (.BoolOp .And (b :: es) pos) m2) : EvW g L (.BoolOp .And (a :: b :: es) pos) (m1.bind fun c => if c = true then m2 else .ok false) := by
  refine PW.imp (pw_and h h2) fun σ H Q q => ?_
  obtain ⟨kp, own, at_, q⟩ := tT_iff.mp q
  refine subT finT (Same.refl H) at_ q fun d H1 s at1 q1 => ?_
  cases d with
  | true =>
    show tT g.fm g.W L m2 σ H1 Q
    refine tT_iff.mpr ⟨kp, own, at1, ?_⟩
    have q1 : FinT g.W σ H Q m2 := q1
    cases m2 with
    | ok d => exact fun H' s' => q1 H' (s.trans s')
    | ex c => exact fun H' s' => q1 H' (s.trans s')
    | no => exact q1
  | false => exact q1 H1 s
theorem evw_or {m1 m2 : M Bool} (h : EvT g L a m1) (h2 : EvW g L (.BoolOp .Or (b :: es) pos) m2) : EvW g L (.BoolOp .Or (a :: b :: es) pos) (m1.bind fun c => if c = true then .ok true else m2) := by
  refine PW.imp (pw_or h h2) fun σ H Q q => ?_
  obtain ⟨kp, own, at_, q⟩ := tT_iff.mp q
  refine subT finT (Same.refl H) at_ q fun d H1 s at1 q1 => ?_
  cases d with
  | false =>
    show tT g.fm g.W L m2 σ H1 Q
    refine tT_iff.mpr ⟨kp, own, at1, ?_⟩
    have q1 : FinT g.W σ H Q m2 := q1
    cases m2 with
    | ok d => exact fun H' s' => q1 H' (s.trans s')
    | ex c => exact fun H' s' => q1 H' (s.trans s')
    | no => exact q1
  | true => exact q1 H1 s
theorem if_tf {c d : Bool} : (if c = true then (.ok d : M Bool) else .ok false) = .ok (c && d) := by cases c <;> rfl
theorem if_ft {c d : Bool} : (if c = true then (.ok true : M Bool) else .ok d) = .ok (c || d) := by cases c <;> rfl
theorem evw_andP {c d : Bool} (h : EvT g L a (.ok c)) (h2 : EvW g L (.BoolOp .And (b :: es) pos) (.ok d)) : EvW g L (.BoolOp .And (a :: b :: es) pos) (.ok (c && d)) := by
  have q := evw_and h h2
  rwa [M.bind_ok, if_tf] at q
theorem evw_orP {c d : Bool} (h : EvT g L a (.ok c)) (h2 : EvW g L (.BoolOp .Or (b :: es) pos) (.ok d)) : EvW g L (.BoolOp .Or (a :: b :: es) pos) (.ok (c || d)) := by
  have q := evw_or h h2
  rwa [M.bind_ok, if_ft] at q
/-- .. as values -/
theorem ev_one {op} {m : M Bool} (h : EvE g L a md tBool m) : EvE g L (.BoolOp op [a] pos) md tBool m := pe_one h
theorem ev_and {m1 m2 : M Bool} (h : EvE g L a md tBool m1) (h2 : EvE g L (.BoolOp .And (b :: es) pos) md tBool m2) : EvE g L (.BoolOp .And (a :: b :: es) pos) md tBool (m1.bind fun c => if c = true then m2 else .ok false) := by
  refine PE.imp (pe_and h h2) fun σ H Q q => ?_
  obtain ⟨kp, own, at_, q⟩ := tE_iff.mp q
  refine sub finE (Same.refl H) at_ q fun d x H1 s r at1 q1 => ⟨d, r, ?_⟩
  cases d with
  | true =>
    refine tE_iff.mpr ⟨kp, own, at1, ?_⟩
    have q1 : FinE g.fm g.W own σ H md tBool Q m2 := q1
    cases m2 with
    | ok d => exact fun v H' s' r' => q1 v H' (s.trans s') r'
    | ex c => exact fun H' s' => q1 H' (s.trans s')
    | no => exact q1
  | false => exact q1 _ H1 s rfl
theorem ev_andP {c d : Bool} (h : EvE g L a md tBool (.ok c)) (h2 : EvE g L (.BoolOp .And (b :: es) pos) md tBool (.ok d)) : EvE g L (.BoolOp .And (a :: b :: es) pos) md tBool (.ok (c && d)) := by
  have q := ev_and h h2
  rwa [M.bind_ok, if_tf] at q
theorem ev_not {m : M Bool} (h : EvE g L a md tBool m) : EvE g L (.UnaryOp .Not a pos) md' tBool (m.bind fun c => .ok (!c)) := by
  refine PE.imp (pe_not h) fun σ H Q q => ?_
  obtain ⟨kp, own, at_, q⟩ := tE_iff.mp q
  exact sub finE (Same.refl H) at_ q fun d x H1 s r at1 q1 => ⟨d, r, q1 _ H1 s rfl⟩
/-- x if c else y -/
theorem ev_ifx {m1 m2 : M α} {mc : M Bool} (hc : EvT g L c mc) (ha : EvE g L a md S m1) (hb : EvE g L b md S m2) : EvE g L (.IfExp c a b pos) md S (mc.bind fun c => if c = true then m1 else m2) := by
  refine PE.imp (pe_ifExp hc ha hb) fun σ H Q q => ?_
  obtain ⟨kp, own, at_, q⟩ := tE_iff.mp q
  refine subT finE (Same.refl H) at_ q fun d H1 s at1 q1 => ?_
  have key : ∀ {m : M α}, FinE g.fm g.W own σ H md S Q m → tE g.fm g.W L md S m σ H1 Q := fun {m} z => by
    refine tE_iff.mpr ⟨kp, own, at1, ?_⟩
    cases m with
    | ok d => exact fun v H' s' r' => z v H' (s.trans s') (S.mono r' (RX.later s))
    | ex c => exact fun H' s' => z H' (s.trans s')
    | no => exact z
  cases d with
  | true => exact key q1
  | false => exact key q1
theorem eva_nil : EvA g L [] md aNil (.ok ()) := PA.imp pa_nil fun σ H Q ⟨kp, own, at_, q⟩ => q [] H (Same.refl H) rfl
theorem eva_cons {m1 : M α} {m2 : M δ} (ha : EvE g L a md S m1) (hb : EvA g L es md A m2) (hs : starEach (a :: es) g.X.env = (false, eval a g.X.env) :: starEach es g.X.env := by rfl) : EvA g L (a :: es) md (aCons S A) (m1.bind fun d => m2.bind fun e => .ok (d, e)) := by
  refine PA.imp (pa_cons ha hb hs) fun σ H Q q => ?_
  obtain ⟨kp, own, at_, q⟩ := tA_iff.mp q
  exact sub finA (Same.refl H) at_ q fun d x H1 s1 r1 at1 q1 => subA finA s1 at1 q1 fun e xs H2 s2 r2 at2 q2 => q2 _ H2 (s1.trans s2) ⟨x, xs, rfl, S.mono r1 (RX.same s2), r2⟩
/-- items of one kind -/
theorem evs_nil : EvA g L [] md (aAll S) (.ok []) := PA.imp pa_nil fun σ H Q ⟨kp, own, at_, q⟩ => q [] H (Same.refl H) .nil
theorem evs_cons {m1 : M α} {m2 : M (List α)} (ha : EvE g L a md S m1) (hb : EvA g L es md (aAll S) m2) (hs : starEach (a :: es) g.X.env = (false, eval a g.X.env) :: starEach es g.X.env := by rfl) : EvA g L (a :: es) md (aAll S) (m1.bind fun d => m2.bind fun e => .ok (d :: e)) := by
  refine PA.imp (pa_cons ha hb hs) fun σ H Q q => ?_
  obtain ⟨kp, own, at_, q⟩ := tA_iff.mp q
  exact sub finA (Same.refl H) at_ q fun d x H1 s1 r1 at1 q1 => subA finA s1 at1 q1 fun e xs H2 s2 r2 at2 q2 => q2 _ H2 (s1.trans s2) (.cons (S.mono r1 (RX.same s2)) r2)
theorem newSame {H : Hp} {p : Addr} {o : HO} (h : H p = none) : Same H (upd H p o) := .of fun b u e => by rw [upd_ne (ne_of_none e h)]; exact e
theorem newRX {fm : Fm} {kp : RdR} {own : List Addr} {σ : L2.St} {H H1 : Hp} {p : Addr} {o : HO} (at_ : At fm kp L σ H1 own) (s : Same H H1) (h : H1 p = none) (n : nt o = true := by rfl) : RX fm own H (upd H1 p o) md p o :=
  RX.fx md _ _ ⟨cl_of upd_same n, fun hp => (at_.new p hp).1 h, fun hz => at_.zin p hz h, at_.same.free h, s.free h⟩
/-- a tuple of written items (few enough: by rfl) -/
theorem ev_tup {m : M δ} {x1} (hl : ∀ d vs R, A.rep d vs R → vs.length ≤ 1000) (ha : EvA g L es md A m) : EvE g L (.Tuple es x1 pos) md (tTup A) m := by
  refine PE.imp (pe_tup ha) fun σ H Q q => ?_
  obtain ⟨kp, own, at_, q⟩ := tE_iff.mp q
  refine tA_iff.mpr ⟨kp, own, at_, ?_⟩
  cases m with
  | ok d => exact fun vs H1 s1 r1 => ⟨Nat.le_trans (hl _ _ _ r1) (by decide), fun p hp => q _ _ (s1.trans (newSame hp)) ⟨p, vs, rfl, newRX (at_.ext s1) s1 hp, A.mono r1 (RX.same (newSame hp))⟩⟩
  | ex c => exact q
  | no => exact q
theorem tupL_le {ds : List α} {vs : List V} {R : RdR} (h : (aAll S).rep ds vs R) : ds.length = vs.length := Reps.length h
theorem ev_ix {r : R2} {f : α → β → M γ} {fr : Bool} {m1 : M α} {m2 : M β} (ok : Ok p sc NN VV GG k g) (ho : IxR g.X r) (F : Op2 p.K r S T U f fr) (hne : ∀ d e c, f d e ≠ .ex c) (hm : MdOk fr md md')
    (ha : EvE g L a md S m1) (hb : EvE g L b md T m2) (hs : PlainIx b := by exact fun _ _ => rfl) : EvE g L (.Subscript a b pos) md' U (m1.bind fun d => m2.bind fun e => f d e) := by
  refine PE.imp (pe_ix ho ha hb hs) fun σ H Q q => ?_
  obtain ⟨kp, own, at_, q⟩ := tE_iff.mp q
  refine sub finE (Same.refl H) at_ q fun d x H1 s1 r1 at1 q1 => sub finE s1 at1 q1 fun e y H2 s2 r2 at2 q2 => ?_
  rw [← ok.fmK] at F
  exact F.run (R := RX g.fm own H H2 md) RX.rdb (S.mono r1 (RX.same s2)) r2 (q2.fin hm (s1.trans s2) at2 (hne d e))
theorem ev_callB {x : Str} {j : Nat} {id : String} {r : List V → Hp → VK → Prop} {f : δ → M γ} {fr : Bool} {m : M δ} {pp : Pos} (ok : Ok p sc NN VV GG k g) (hc : CallR g.X (.builtin id) r) (F : OpC p.K r A U f fr) (hne : ∀ d c, f d ≠ .ex c) (hm : MdOk fr md md')
    (hG : GG[j]? = some x) (hmg : p.mg x = none) (hv : bootBuiltins x = some (.builtin id)) (ha : EvA g L (e :: es) md A m)
    (he : starEach (e :: es) g.X.env = (false, eval e g.X.env) :: starEach es g.X.env := by rfl) (hpl : (backTo pos (starEach es g.X.env)).any (·.1) = false := by rfl) : EvE g L (.Call (.Name x pp) (e :: es) [] pos) md' U (m.bind f) := by
  obtain ⟨hg, ho⟩ := ok.gl hG
  obtain ⟨h1, _, h3⟩ := okName_d ho
  refine PE.imp (pe_callB hc hg (by rw [ok.mg]; exact hmg) hv ha h3 h1 he hpl) fun σ H Q q => ?_
  obtain ⟨kp, own, at_, q⟩ := tE_iff.mp q
  refine subA finE (Same.refl H) at_ q fun d xs H1 s1 r1 at1 q1 => ?_
  rw [← ok.fmK] at F
  exact F.run (R := RX g.fm own H H1 md) RX.rdb r1 (q1.fin hm s1 at1 (hne d))
theorem ev_callTy {x : Str} {j : Nat} {id : String} {r : List V → Hp → VK → Prop} {f : δ → M γ} {fr : Bool} {m : M δ} {pp : Pos} (ok : Ok p sc NN VV GG k g) (hc : CallR g.X (.type id) r) (F : OpC p.K r A U f fr) (hne : ∀ d c, f d ≠ .ex c) (hm : MdOk fr md md')
    (hG : GG[j]? = some x) (hmg : p.mg x = none) (hv : bootBuiltins x = some (.type id)) (ha : EvA g L (e :: es) md A m)
    (he : starEach (e :: es) g.X.env = (false, eval e g.X.env) :: starEach es g.X.env := by rfl) (hpl : (backTo pos (starEach es g.X.env)).any (·.1) = false := by rfl) : EvE g L (.Call (.Name x pp) (e :: es) [] pos) md' U (m.bind f) := by
  obtain ⟨hg, ho⟩ := ok.gl hG
  obtain ⟨h1, _, h3⟩ := okName_d ho
  refine PE.imp (pe_callTy hc hg (by rw [ok.mg]; exact hmg) hv ha h3 h1 he hpl) fun σ H Q q => ?_
  obtain ⟨kp, own, at_, q⟩ := tE_iff.mp q
  refine subA finE (Same.refl H) at_ q fun d xs H1 s1 r1 at1 q1 => ?_
  rw [← ok.fmK] at F
  exact F.run (R := RX g.fm own H H1 md) RX.rdb r1 (q1.fin hm s1 at1 (hne d))
end
end Hd
namespace Hd
open PySem PySem.Spec L2
section
variable {p : Pr} {sc : Scope} {NN VV GG : List Str} {k : Nat} {g : G} {L L' : List Slot} {a b c e e' : Expr} {es : List Expr} {md md' : Md} {α β γ δ : Type} {S : Ty α} {T : Ty β} {U : Ty γ} {A : Ar δ} {pos : Pos}
theorem RX.add {fm : Fm} {own : List Addr} {H H1 : Hp} {q : Addr} {o' : HO} (hn : H1 q = none) : ∀ a o, RX fm own H H1 md a o → RX fm (q :: own) H (upd H1 q o') md a o := fun a o r => by
  have ne : H1 a ≠ none → a ≠ q := fun h e => h (by rw [e]; exact hn)
  cases md with
  | sh =>
    rcases r with ⟨r, h1, h2⟩ | r
    · have n := ne (Rd.there r)
      refine .inl ⟨?_, fun z => ?_, h2⟩
      · unfold Rd
        rw [cl_upd_ne n]
        exact r
      · rcases List.mem_cons.mp z with z | z
        · exact n z
        · exact h1 z
    · exact .inr r
  | f0 =>
    have n := ne (by rw [cl_raw r.1]; exact fun z => by cases z)
    exact ⟨by rw [cl_upd_ne n]; exact r.1, fun z => (List.mem_cons.mp z).elim n r.2.1, r.2.2⟩
  | fx =>
    have n := ne (by rw [cl_raw r.1]; exact fun z => by cases z)
    exact ⟨by rw [cl_upd_ne n]; exact r.1, fun z => (List.mem_cons.mp z).elim n r.2.1, r.2.2⟩
theorem RX.drop1 {fm : Fm} {own : List Addr} {H H1 : Hp} {q : Addr} : ∀ a o, RX fm (q :: own) H H1 md a o → RX fm own H H1 md a o := RX.own fun p hp => List.mem_cons_of_mem _ hp
theorem newRX' {fm : Fm} {kp : RdR} {own : List Addr} {σ : L2.St} {H H' : Hp} {q : Addr} {o : HO} (at_ : At fm kp L σ H own) (h : H q = none) (h' : H' q = some o) (n : nt o = true := by rfl) : RX fm own H H' md q o :=
  RX.fx md _ _ ⟨cl_of h' n, fun hp => (at_.new q hp).1 h, fun hz => at_.zin q hz h, at_.same.free h, h⟩
/-- as a value -/
theorem ev_ofL {m : M (List α)} (h : EvL g L e md S m) : EvE g L e md (tList S) m :=
  PE.imp h fun σ H Q q => by
    obtain ⟨kp, own, at_, q⟩ := tE_iff.mp q
    refine tL_iff.mpr ⟨kp, own, at_, ?_⟩
    cases m with
    | ok d => exact fun p vs H' s n h' r => q _ H' s ⟨p, vs, rfl, newRX' at_ n h', r.mono RX.drop1⟩
    | ex c => exact q
    | no => exact q
theorem evl_lst {m : M (List α)} (hl : ∀ ds, m = .ok ds → ds.length ≤ 1000) (ha : EvA g L es md (aAll S) m) : EvL g L (.List es pos) md S m := by
  refine PE.imp (pe_lst ha) fun σ H Q q => ?_
  obtain ⟨kp, own, at_, q⟩ := tL_iff.mp q
  refine tA_iff.mpr ⟨kp, own, at_, ?_⟩
  cases m with
  | ok d => exact fun vs H1 s1 r1 => ⟨Nat.le_trans (by rw [← tupL_le r1]; exact hl _ rfl) (by decide), fun p hp => q p vs _ (s1.trans (newSame hp)) (s1.free hp) upd_same (Reps.mono r1 (RX.add hp))⟩
  | ex c => exact q
  | no => exact q
theorem evl_nil : EvL g L (.List [] pos) md S (.ok []) := evl_lst (fun ds h => by cases h; exact Nat.zero_le _) evs_nil
structure OkS (p : Pr) (sc : Scope) (NN VV GG : List Str) (k : Nat) (g : G) : Prop extends Ok p sc NN VV GG k g where
  loc : ∀ {i : Nat} {x : Str}, VV[i]? = some x → L2.Loc g.X.env.scope x
  fnT : ∀ x, g.X.fn x = true
  psO : PassesOwn (model g.X.prog g.X.w) g.X.A g.X.env g.X.xe
  scp : g.X.env.scope = sc
  stk : g.X.stack = g.X.env :: g.X.outer
  frm : g.X.env.frame = some g.X.env.locals
  exn : g.X.ex = []
theorem PSs.ex {X : Cx} {ι : Type} {st : List Stmt} {t : ι → TS} (h : ∀ d, PSs X st (t d)) : PSs X st (fun E σ H => ∃ d, t d E σ H) := ⟨fun pins s σ H D I ⟨d, q⟩ => (h d).run pins s σ H D I q⟩
variable {st : List Stmt} {s0 : Stmt} {D : δ → Out} {d : δ}
theorem evb_nx (h : D d = .nx L') (w : Wk L L') : EvB g L [] D (.ok d) := by
  refine PSs.imp pss_nil fun E σ H ⟨kp, own, at_, q⟩ => ?_
  have q : OutOk g.fm kp E (D d) := q
  rw [h] at q
  obtain ⟨own', a', _⟩ := at_.weak w
  exact q σ H own' a'
theorem evb_go (h : D d = .go L') (w : Wk L L') : EvB g L [] D (.ok d) := by
  refine PSs.imp pss_nil fun E σ H ⟨kp, own, at_, q⟩ => ?_
  have q : OutOk g.fm kp E (D d) := q
  rw [h] at q
  obtain ⟨own', a', _⟩ := at_.weak w
  exact (q σ H own' a').1
theorem PSs.head {X : Cx} {t : TS} (h : PS X s0 t) : PSs X (s0 :: st) (fun E σ H => t { E with nx := fun _ _ => False } σ H) := by
  refine PSs.imp (pss_cons h (pss_never (sts := st))) fun E σ H q => q
theorem evb_cont (h : D d = .go L' ∨ D d = .ct L') (w : Wk L L') : EvB g L (.Continue pos :: st) D (.ok d) := by
  refine PSs.imp (PSs.head ps_continue) fun E σ H ⟨kp, own, at_, q⟩ => ?_
  have q : OutOk g.fm kp E (D d) := q
  obtain ⟨own', a', _⟩ := at_.weak w
  rcases h with h | h <;> rw [h] at q
  · exact (q σ H own' a').2
  · exact q σ H own' a'
theorem BOk.exx {kp : RdR} {E : Ends} {c : Ec} {σ : L2.St} {H : Hp} {own : List Addr} (wk : Wk L g.LX) (at_ : At g.fm kp L σ H own) (q : BOk g kp E D (.ex c)) : ∀ H', Same H H' → g.W c σ H' := fun H' s => by
  obtain ⟨own', a', _⟩ := (at_.ext s).weak wk
  exact q σ H' own' a'
/-- return e -/
inductive RtMd : Md → Bool → Prop where
  | sh {x : Md} : RtMd x false
  | f0 : RtMd .f0 true
  | fx : RtMd .fx true
theorem RtMd.rt {fm : Fm} {own : List Addr} {H H' : Hp} {bm : Bool} (h : RtMd md bm) : ∀ a o, RX fm own H H' md a o → RT fm H' bm none a o := fun a o r => by
  have r' := RX.own (own' := []) (fun _ z => nomatch z) a o r
  cases h with
  | sh =>
    have q := RX.sh a o r'
    exact q
  | f0 => exact r'
  | fx => exact RX.f0 (H := H) a o r'
theorem evb_retF {bm : Bool} {m : M α} {mk : α → δ} (wk : Wk L g.LX) (hm : RtMd md bm) (hD : ∀ d, D (mk d) = .rt bm S d) (he : EvE g L e md S m) : EvB g L (.Return (some e) pos :: st) D (m.bind fun d => .ok (mk d)) := by
  refine PSs.imp (PSs.head (ps_ret he)) fun E σ H ⟨kp, own, at_, q⟩ => ?_
  refine tE_iff.mpr ⟨kp, own, at_, ?_⟩
  cases m with
  | ok d =>
    have q : OutOk g.fm kp E (D (mk d)) := q
    rw [hD] at q
    exact fun v H' s r => q v H' (at_.same.trans s) (S.mono r hm.rt)
  | ex c => exact BOk.exx wk at_ q
  | no => exact q
theorem M.bind_id {α : Type} (m : M α) : m.bind (fun d => .ok d) = m := by cases m <;> rfl
theorem evb_ret {bm : Bool} {m : M α} {D : α → Out} (wk : Wk L g.LX) (hm : RtMd md bm) (hD : ∀ d, D d = .rt bm S d) (he : EvE g L e md S m) : EvB g L (.Return (some e) pos :: st) D m := by
  have h := evb_retF (mk := id) (st := st) (pos := pos) wk hm hD he
  rwa [show (m.bind fun d => .ok (id d)) = m from M.bind_id m] at h
theorem RX.rtL {fm : Fm} {own : List Addr} {H H' : Hp} {bm : Bool} {p : Addr} (h : RtMd md bm) : ∀ a o, RX fm (p :: own) H H' md a o → RT fm H' bm (some p) a o := fun a o r => by
  have r' := RX.own (own' := [p]) (fun x z => by rw [List.mem_singleton.mp z]; exact List.mem_cons_self) a o r
  cases h with
  | sh =>
    have q := RX.sh a o r'
    exact q
  | f0 => exact r'
  | fx => exact RX.f0 (H := H) a o r'
/-- return of a list just made -/
theorem evb_retLF {bm : Bool} {m : M (List α)} {mk : List α → δ} (wk : Wk L g.LX) (hm : RtMd md bm) (hD : ∀ d, D (mk d) = .rtL bm S d) (he : EvL g L e md S m) : EvB g L (.Return (some e) pos :: st) D (m.bind fun d => .ok (mk d)) := by
  refine PSs.imp (PSs.head (ps_ret he)) fun E σ H ⟨kp, own, at_, q⟩ => ?_
  refine tL_iff.mpr ⟨kp, own, at_, ?_⟩
  cases m with
  | ok d =>
    have q : OutOk g.fm kp E (D (mk d)) := q
    rw [hD] at q
    exact fun p vs H' s n h' r => q p vs H' (at_.same.trans s) (fun hz => at_.zin p hz n) (at_.same.free n) h' (r.mono (RX.rtL hm))
  | ex c => exact BOk.exx wk at_ q
  | no => exact q
theorem evb_retL {bm : Bool} {m : M (List α)} {D : List α → Out} (wk : Wk L g.LX) (hm : RtMd md bm) (hD : ∀ d, D d = .rtL bm S d) (he : EvL g L e md S m) : EvB g L (.Return (some e) pos :: st) D m := by
  have h := evb_retLF (mk := id) (st := st) (pos := pos) wk hm hD he
  rwa [show (m.bind fun d => .ok (id d)) = m from M.bind_id m] at h
/-- return of a list that a slot owns -/
theorem evb_retOwn {bm b : Bool} {ds : List α} {i j : Nat} {x : Str} {D : δ → Out} {d' : δ} {npos : Pos} (ok : Ok p sc NN VV GG k g) (hN : NN[i]? = some x) (hV : VV[j]? = some x) (hL : L[i]? = some (sOwn b S ds)) (hb : b = bm ∨ Flat S ∨ bm = false) (hD : D d' = .rtL bm S ds) :
    EvB g L (.Return (some (.Name x npos)) pos :: st) D (.ok d') := by
  obtain ⟨hv, ho⟩ := ok.vis hV
  obtain ⟨h1, h2, _⟩ := okName_d ho
  refine PSs.imp (PSs.head (ps_ret (pe_var (i := i) (by rw [ok.N]; exact hN) hv h1 h2))) fun E σ H ⟨kp, own, at_, q⟩ => ?_
  obtain ⟨Fs, hs, rfl⟩ := at_.sl
  obtain ⟨v, F, e1, e2, p, vs, rfl, rfl, hp, r⟩ := hs.get hL
  have q : OutOk g.fm kp E (D d') := q
  rw [hD] at q
  have pin : p ∈ Fs.flatten := List.mem_flatten.mpr ⟨[p], List.mem_of_getElem? e2, by simp⟩
  obtain ⟨n1, n2, n3⟩ := at_.new p pin
  have rr : Reps S (RX g.fm [p] H H (if b then .f0 else .sh)) ds vs := r.mono (RX.own (own' := [p]) (fun x z => by rw [List.mem_singleton.mp z]; exact pin))
  refine ⟨_, e1, q p vs H at_.same n3 n2 hp ?_⟩
  unfold RT
  rcases hb with rfl | hf | rfl
  · exact rr
  · exact rr.flat hf
  · exact rr.mono RX.sh
inductive SlB : Md → Bool → Prop where
  | sh {x : Md} : SlB x false
  | f0 : SlB .f0 true
  | fx : SlB .fx true
theorem SlB.rb {fm : Fm} {own : List Addr} {H H' : Hp} {b : Bool} (h : SlB md b) : ∀ a o, RX fm own H H' md a o → RB fm own H' b a o := fun a o r => by
  cases h with
  | sh =>
    have q := RX.sh a o r
    exact q
  | f0 => exact r
  | fx => exact RX.f0 (H := H) a o r
variable {i j : Nat} {x : Str} {pos' : Pos}
theorem okS_fn (ok : OkS p sc NN VV GG k g) : g.X.fn x = true ∨ g.X.env.scope.names.lookup x = some .local := .inl (ok.fnT x)
theorem evb_set {b : Bool} {m : M α} {f : α → M δ} (ok : OkS p sc NN VV GG k g) (hN : NN[i]? = some x) (hV : VV[j]? = some x) (wk : Wk L g.LX) (hb : SlB md b) (he : EvE g L e md S m) (hr : ∀ d, EvB g (L.set i (sV b S d)) st D (f d))
    (hs : swapsWith e (some (.Name x pos')) pos.line g.X.env = pure false := by rfl) : EvB g L (.Assign [.Name x pos'] e pos :: st) D (m.bind f) := by
  refine PSs.imp (pss_cons (ps_set (i := i) (by rw [ok.N]; exact ok.nd) (by rw [ok.N]; exact hN) (ok.loc hV) he hs (okS_fn ok)) (PSs.ex hr)) fun E σ H ⟨kp, own, at_, q⟩ => ?_
  refine tE_iff.mpr ⟨kp, own, at_, ?_⟩
  cases m with
  | ok d =>
    intro v H' s r
    obtain ⟨own', a'⟩ := (at_.ext s).setV (i := i) (b := b) (S.mono r hb.rb)
    exact ⟨d, kp, own', a', q⟩
  | ex c => exact BOk.exx wk at_ q
  | no => exact q
theorem set_own {Fs : List (List Addr)} {q : Addr} : ∀ {i : Nat}, ∀ x ∈ (Fs.set i [q]).flatten, x = q ∨ x ∈ Fs.flatten := by
  induction Fs with
  | nil => intro i x h; exact .inr h
  | cons F Fs ih =>
    intro i x h
    cases i with
    | zero =>
      simp only [List.set_cons_zero, List.flatten_cons, List.mem_append, List.mem_singleton] at h
      rcases h with h | h
      · exact .inl h
      · exact .inr (by simp only [List.flatten_cons, List.mem_append]; exact .inr h)
    | succ i =>
      simp only [List.set_cons_succ, List.flatten_cons, List.mem_append] at h
      rcases h with h | h
      · exact .inr (by simp only [List.flatten_cons, List.mem_append]; exact .inl h)
      · rcases ih x h with h | h
        · exact .inl h
        · exact .inr (by simp only [List.flatten_cons, List.mem_append]; exact .inr h)
theorem set_own_nd {Fs : List (List Addr)} {q : Addr} (hq : q ∉ Fs.flatten) (hn : Fs.flatten.Nodup) : ∀ {i : Nat}, (Fs.set i [q]).flatten.Nodup := by
  induction Fs with
  | nil => intro i; exact hn
  | cons F Fs ih =>
    intro i
    simp only [List.flatten_cons, List.mem_append, not_or] at hq
    rw [List.flatten_cons, List.nodup_append] at hn
    cases i with
    | zero =>
      simp only [List.set_cons_zero, List.flatten_cons]
      rw [List.nodup_append]
      refine ⟨by simp, hn.2.1, fun a ha b hb => ?_⟩
      rw [List.mem_singleton.mp ha]
      rintro rfl
      exact hq.2 hb
    | succ i =>
      simp only [List.set_cons_succ, List.flatten_cons]
      rw [List.nodup_append]
      refine ⟨hn.1, ih hq.2 hn.2.1, fun a ha b hb => ?_⟩
      rcases set_own b hb with rfl | hb
      · rintro rfl; exact hq.1 ha
      · exact hn.2.2 a ha b hb
/-- a new list becomes a slot's own -/
theorem At.setOwn {fm : Fm} {kp : RdR} {σ : L2.St} {H H' : Hp} {own : List Addr} {b : Bool} {ds : List α} {vs : List V} {q : Addr} (h : At fm kp L σ H own) (s : Same H H') (hn : H q = none) (h' : H' q = some (.lst vs))
    (r : Reps S (RB fm (q :: own) H' b) ds vs) : ∃ own', At fm kp (L.set i (sOwn b S ds)) (σ.set i (some (.ref q))) H' own' := by
  obtain ⟨h1, h2, ⟨Fs, h3, rfl⟩, h4, h5, h6⟩ := h
  have hq : q ∉ Fs.flatten := fun z => (h5 q z).1 hn
  have sub : ∀ x ∈ (Fs.set i [q]).flatten, x ∈ q :: Fs.flatten := fun x hx => (set_own x hx).elim (fun e => by rw [e]; exact List.mem_cons_self) (List.mem_cons_of_mem _)
  have key : ∀ (md : Md) a o, RX fm Fs.flatten H H md a o → RX fm (Fs.set i [q]).flatten H H' md a o := fun md a o z => by
    refine RX.own sub a o ?_
    have z1 := RX.add (o' := .lst []) hn a o z
    have na : a ≠ q ∨ KObj fm.K a o := by
      rcases RX.sh a o z with z | z
      · exact .inl fun e => Rd.some z.1 (by rw [e]; exact cl_none hn)
      · exact .inr z
    cases md with
    | sh =>
      rcases z1 with z1 | z1
      · rcases z with z | z
        · exact .inl ⟨Rd.same s z.1, z1.2⟩
        · exact .inr z
      · exact .inr z1
    | f0 => exact ⟨s.cl _ _ z.1, z1.2⟩
    | fx => exact ⟨s.cl _ _ z.1, z1.2⟩
  have keyB : ∀ (b : Bool) a o, RB fm Fs.flatten H b a o → RB fm (Fs.set i [q]).flatten H' b a o := fun b a o z => by
    cases b with
    | false => exact key .sh a o z
    | true => exact key .f0 a o z
  refine ⟨_, h1.trans s, fun a z n => h2 a z (s.free n), ⟨Fs.set i [q], (h3.st (H' := H') keyB fun p hp => ?_).set (s := sOwn b S ds) ⟨q, vs, rfl, rfl, h', r.mono fun a o z => ?_⟩ i, rfl⟩, set_own_nd hq h4, fun p hp => ?_, fun a o z => key .sh a o (h6 a o z)⟩
  · cases e : cl H p with
    | none => exact absurd e (h3.tb p hp)
    | some u => rw [cl_raw e]; exact s.keep _ _ (cl_raw e) (cl_nt e)
  · cases b <;> exact RX.own sub a o z
  · rcases set_own p hp with rfl | hp
    · exact ⟨by rw [h']; exact (fun z => by cases z), h1.free hn, fun z => h2 _ z hn⟩
    · exact ⟨fun e => (h5 p hp).1 (s.free e), (h5 p hp).2⟩
theorem evb_own {b : Bool} {m : M (List α)} {f : List α → M δ} (ok : OkS p sc NN VV GG k g) (hN : NN[i]? = some x) (hV : VV[j]? = some x) (wk : Wk L g.LX) (hb : SlB md b) (he : EvL g L e md S m) (hr : ∀ d, EvB g (L.set i (sOwn b S d)) st D (f d))
    (hs : swapsWith e (some (.Name x pos')) pos.line g.X.env = pure false := by rfl) : EvB g L (.Assign [.Name x pos'] e pos :: st) D (m.bind f) := by
  refine PSs.imp (pss_cons (ps_set (i := i) (by rw [ok.N]; exact ok.nd) (by rw [ok.N]; exact hN) (ok.loc hV) he hs (okS_fn ok)) (PSs.ex hr)) fun E σ H ⟨kp, own, at_, q⟩ => ?_
  cases m with
  | ok d =>
    refine ⟨kp, own, at_, fun v vs H' s n h' r => ?_⟩
    obtain ⟨own', a'⟩ := at_.setOwn (i := i) (b := b) s n h' (r.mono hb.rb)
    exact ⟨d, kp, own', a', q⟩
  | ex c => exact ⟨kp, own, at_, BOk.exx wk at_ q⟩
  | no => exact q.elim
/-- an expression whose worth is dropped -/
theorem evb_expr {m : M α} {f : α → M δ} (wk : Wk L g.LX) (he : EvE g L e md S m) (hr : ∀ d, EvB g L st D (f d)) (hs : swapsWith e none pos.line g.X.env = pure false := by rfl) : EvB g L (.Expr e pos :: st) D (m.bind f) := by
  refine PSs.imp (pss_cons (ps_expr he hs) (PSs.ex hr)) fun E σ H ⟨kp, own, at_, q⟩ => ?_
  cases m with
  | ok d => exact ⟨kp, own, at_, fun v H' s r => ⟨d, kp, own, at_.ext s, q⟩⟩
  | ex c => exact ⟨kp, own, at_, BOk.exx wk at_ q⟩
  | no => exact q.elim
/-- a slot's own list may be shared from here on -/
theorem At.freeze {fm : Fm} {kp : RdR} {σ : L2.St} {H : Hp} {own : List Addr} {b : Bool} {ds : List α} (h : At fm kp L σ H own) (hL : L[i]? = some (sOwn b S ds)) : ∃ own', At fm kp (L.set i (sV false (tList S) ds)) σ H own' ∧ ∀ p ∈ own', p ∈ own := by
  obtain ⟨h1, h2, ⟨Fs, h3, rfl⟩, h4, h5, h6⟩ := h
  obtain ⟨v, F, e1, e2, q, vs, rfl, rfl, hp, r⟩ := h3.get hL
  have qin : q ∈ Fs.flatten := List.mem_flatten.mpr ⟨[q], List.mem_of_getElem? e2, by simp⟩
  have kk : ∀ p ∈ (Fs.set i []).flatten, p ∈ Fs.flatten := fun p hp => (set_sub (i := i)).subset hp
  have qn : q ∉ (Fs.set i []).flatten := by
    have nd := h4
    clear h3 h5 h6 qin kk r hp
    induction Fs generalizing i L σ with
    | nil => simp at e2
    | cons F Fs ih =>
      rw [List.flatten_cons, List.nodup_append] at nd
      cases i with
      | zero =>
        simp at e2
        subst e2
        simp only [List.set_cons_zero, List.flatten_cons, List.nil_append]
        exact fun z => nd.2.2 q (by simp) q z rfl
      | succ i =>
        simp only [List.set_cons_succ, List.flatten_cons, List.mem_append, not_or]
        have e2' : Fs[i]? = some [q] := by simpa using e2
        refine ⟨fun z => nd.2.2 q z q (List.mem_flatten.mpr ⟨[q], List.mem_of_getElem? e2', by simp⟩) rfl, ?_⟩
        cases σ with
        | nil => simp at e1
        | cons s σ =>
          cases L with
          | nil => simp at hL
          | cons l L => exact ih (i := i) (L := L) (σ := σ) (hL := by simpa using hL) (e1 := by simpa using e1) (e2 := e2') (h4 := nd.2.1) (nd := nd.2.1)
  have σe : σ.set i (some (V.ref q)) = σ := by
    apply List.ext_getElem?
    intro n
    by_cases hn : n = i
    · subst hn
      rw [e1]
      have := (List.getElem?_eq_some_iff.mp e1).1
      rw [List.getElem?_set_self this]
    · rw [List.getElem?_set_ne (Ne.symm hn)]
  refine ⟨_, ⟨h1, h2, ⟨Fs.set i [], ?_, rfl⟩, h4.sublist set_sub, fun p hp => h5 p (kk p hp), fun a o z => RX.own (md := .sh) (H := H) kk a o (h6 a o z)⟩, kk⟩
  rw [← σe]
  refine (h3.st (RB.own kk) fun _ _ => rfl).set (s := sV false (tList S) ds) ⟨rfl, .ref q, rfl, q, vs, rfl, ?_, ?_⟩ i
  · exact .inl ⟨.inl (cl_of hp), qn, (h5 q qin).2.2⟩
  · exact r.mono fun a o z => RX.sh (H := H) a o (RB.own kk b a o z)
theorem evb_freeze {b : Bool} {ds : List α} {m : M δ} (hL : L[i]? = some (sOwn b S ds)) (hr : EvB g (L.set i (sV false (tList S) ds)) st D m) : EvB g L st D m := PSs.imp hr fun E σ H ⟨kp, own, at_, q⟩ => by
  obtain ⟨own', a', _⟩ := at_.freeze hL
  exact ⟨kp, own', a', q⟩
/-- an expression may read a slot's own list -/
theorem ev_borrow {b : Bool} {ds : List α} {m : M β} (hf : Flat T ∨ md = .fx) (hL : L[i]? = some (sOwn b S ds)) (h : EvE g (L.set i (sV false (tList S) ds)) e md T m) : EvE g L e md T m := PE.imp h fun σ H Q q => by
  obtain ⟨kp, own, at_, q⟩ := tE_iff.mp q
  obtain ⟨own', a', sub⟩ := at_.freeze hL
  refine tE_iff.mpr ⟨kp, own', a', ?_⟩
  cases m with
  | ok d =>
    refine fun v H' s r => q v H' s ?_
    rcases hf with hf | rfl
    · exact hf r
    · exact T.mono r fun a o z => ⟨z.1, fun y => (at_.new a y).1 z.2.2.2.2, z.2.2⟩
  | ex c => exact q
  | no => exact q
theorem evt_borrow {b : Bool} {ds : List α} {m : M Bool} (hL : L[i]? = some (sOwn b S ds)) (h : EvT g (L.set i (sV false (tList S) ds)) e m) : EvT g L e m := PT.imp h fun σ H Q q => by
  obtain ⟨kp, own, at_, q⟩ := tT_iff.mp q
  obtain ⟨own', a', sub⟩ := at_.freeze hL
  refine tT_iff.mpr ⟨kp, own', a', ?_⟩
  cases m <;> exact q
theorem evl_borrow {b : Bool} {ds : List α} {m : M (List β)} (hf : Flat T ∨ md = .fx) (hL : L[i]? = some (sOwn b S ds)) (h : EvL g (L.set i (sV false (tList S) ds)) e md T m) : EvL g L e md T m := PE.imp h fun σ H Q q => by
  obtain ⟨kp, own, at_, q⟩ := tL_iff.mp q
  obtain ⟨own', a', sub⟩ := at_.freeze hL
  refine tL_iff.mpr ⟨kp, own', a', ?_⟩
  cases m with
  | ok d =>
    refine fun p v H' s n h' r => q p v H' s n h' ?_
    rcases hf with hf | rfl
    · exact r.flat hf
    · exact r.mono fun a o z => ⟨z.1, fun y => (List.mem_cons.mp y).elim (fun e => z.2.1 (by rw [e]; exact List.mem_cons_self)) fun y => (at_.new a y).1 z.2.2.2.2, z.2.2⟩
  | ex c => exact q
  | no => exact q
/-- both ways go on to one state -/
theorem evb_if {mc : M Bool} {m1 m2 : M β} {f : β → M δ} {LJ : β → List Slot} {sa sb : List Stmt} (wk : Wk L g.LX) (hc : EvT g L c mc) (ha : EvB g L sa (fun s => .nx (LJ s)) m1) (hb : EvB g L sb (fun s => .nx (LJ s)) m2) (hr : ∀ s, EvB g (LJ s) st D (f s)) :
    EvB g L (.If c sa sb pos :: st) D (mc.bind fun c => (if c = true then m1 else m2).bind f) := by
  refine PSs.imp (pss_cons (ps_if hc ha hb) (PSs.ex hr)) fun E σ H ⟨kp, own, at_, q⟩ => ?_
  have key : ∀ {m : M β} {H1 : Hp}, Same H H1 → BOk g kp E D (m.bind f) → tB g L (fun s => .nx (LJ s)) m { E with nx := fun σ H => ∃ d, tB g (LJ d) D (f d) E σ H } σ H1 := fun {m H1} s q => by
    cases m with
    | ok d => exact ⟨kp, own, at_.ext s, fun σ' H' own' a' => ⟨d, kp, own', a', q⟩⟩
    | ex c => exact ⟨kp, own, at_.ext s, q⟩
    | no => exact q.elim
  cases mc with
  | ok c =>
    refine ⟨kp, own, at_, fun H1 s => ?_⟩
    cases c with
    | true => exact key s q
    | false => exact key s q
  | ex c => exact ⟨kp, own, at_, BOk.exx wk at_ q⟩
  | no => exact q.elim
def Out.isNx : Out → Bool
  | .nx _ => true
  | _ => false
theorem OutOk.cut {fm : Fm} {kp : RdR} {E E' : Ends} (hc : E'.ct = E.ct) (hr : E'.rt = E.rt) : ∀ {o : Out}, o.isNx = false → OutOk fm kp E o → OutOk fm kp E' o.cut := fun {o} hn q => by
  cases o with
  | nx L => cases hn
  | ct L => exact fun σ H own a => by rw [hc]; exact q σ H own a
  | go L => exact fun σ H own a => by rw [hc]; exact (q σ H own a).2
  | rt b T r => exact fun v H' s r => by rw [hr]; exact q v H' s r
  | rtL b T r => exact fun p vs H' s n1 n2 h r => by rw [hr]; exact q p vs H' s n1 n2 h r
  | gen f => show f fm E'.rt; rw [hr]; exact q
  | bad => exact q
/-- one way leaves (return, raise, continue), the other goes on -/
theorem evb_ifx {mc : M Bool} {m1 m2 : M δ} {sa : List Stmt} (wk : Wk L g.LX) (hc : EvT g L c mc) (ha : EvB g L sa (fun d => (D d).cut) m1) (hr : EvB g L st D m2) (hn : ∀ d, (D d).isNx = false := by intro d; first | rfl | (cases d <;> first | rfl | (rename_i z; cases z <;> rfl))) :
    EvB g L (.If c sa [] pos :: st) D (mc.bind fun c => if c = true then m1 else m2) := by
  refine PSs.imp (pss_cons (ps_if hc ha pss_nil) hr) fun E σ H ⟨kp, own, at_, q⟩ => ?_
  cases mc with
  | ok c =>
    refine ⟨kp, own, at_, fun H1 s => ?_⟩
    cases c with
    | true =>
      have q : BOk g kp E D m1 := q
      refine ⟨kp, own, at_.ext s, ?_⟩
      cases m1 with
      | ok d => exact OutOk.cut (E := E) (E' := { E with nx := tB g L D m2 E }) rfl rfl (hn d) q
      | ex c => exact q
      | no => exact q
    | false => exact ⟨kp, own, at_.ext s, q⟩
  | ex c => exact ⟨kp, own, at_, BOk.exx wk at_ q⟩
  | no => exact q.elim
/-- the last statement of a block: both ways end as the block does -/
theorem evb_ifl {mc : M Bool} {m1 m2 : M δ} {sa sb : List Stmt} (wk : Wk L g.LX) (hc : EvT g L c mc) (ha : EvB g L sa D m1) (hb : EvB g L sb D m2) : EvB g L [.If c sa sb pos] D (mc.bind fun c => if c = true then m1 else m2) := by
  refine PSs.imp (pss_one (ps_if hc ha hb)) fun E σ H ⟨kp, own, at_, q⟩ => ?_
  cases mc with
  | ok c =>
    refine ⟨kp, own, at_, fun H1 s => ?_⟩
    cases c with
    | true => exact ⟨kp, own, at_.ext s, q⟩
    | false => exact ⟨kp, own, at_.ext s, q⟩
  | ex c => exact ⟨kp, own, at_, BOk.exx wk at_ q⟩
  | no => exact q.elim
def forM {α β : Type} (f : β → α → M β) : β → List α → M β
  | s, [] => .ok s
  | s, x :: r => (f s x).bind fun s' => forM f s' r
/-- a turn's end: on, or out of the def -/
inductive Fl (β ρ : Type) where
  | nx (s : β)
  | rt (r : ρ)
universe u in
def Fl.el {β ρ : Type} {γ : Type u} (f : β → γ) (h : ρ → γ) : Fl β ρ → γ
  | .nx s => f s
  | .rt r => h r
def forF {α β ρ : Type} (f : β → α → M (Fl β ρ)) : β → List α → M (Fl β ρ)
  | s, [] => .ok (.nx s)
  | s, x :: r => (f s x).bind (Fl.el (fun s' => forF f s' r) fun r => .ok (.rt r))
def ItOk (K : PySem.W.Frag) (kp : RdR) (J : It) (T : Ty α) (xs : List α) : Prop :=
  ∀ H, Rdb K kp H → ∀ i, (∀ d, xs[i]? = some d → J.go i H ∧ ∀ x H', J.yld i H x H' → Same H H' ∧ T.rep d x (Nw false kp H H')) ∧ (xs[i]? = none → J.stop i H)
/-- what a for walks -/
def tI (fm : Fm) (W : Wx) (L : List Slot) (T : Ty α) (m : M (List α)) : TI := fun σ H R => ∃ kp own, At fm kp L σ H own ∧
  match m with
  | .ok xs => ∀ J H', Same H H' → ItOk fm.K (RD fm own H') J T xs → R J H'
  | .ex c => ∀ H', Same H H' → W c σ H'
  | .no => False
def EvI (g : G) (L : List Slot) (tg e : Expr) (T : Ty α) (m : M (List α)) : Prop := PI g.X tg e (tI g.fm g.W L T m)
theorem PI.imp {X : Cx} {tg e : Expr} {t t' : TI} (h : PI X tg e t) (k : ∀ σ H Q, t' σ H Q → t σ H Q) : PI X tg e t' := ⟨fun pins s σ H Q I q => h.run pins s σ H Q I (k _ _ _ q)⟩
/-- a target that is one name: its slot afterwards -/
def tG (fm : Fm) (T : Ty α) (L : List Slot) (Lt : α → List Slot) : TG := fun v σ H Q => ∃ kp own d, At fm kp L σ H own ∧ T.rep d v (RD fm own H) ∧ ∀ σ' own', At fm kp (Lt d) σ' H own' → (∀ p ∈ own', p ∈ own) → Q σ' H
def EvG (g : G) (tg : Expr) (T : Ty α) (L : List Slot) (Lt : α → List Slot) : Prop := PG g.X tg (tG g.fm T L Lt)
theorem PG.imp {X : Cx} {e : Expr} {t t' : TG} (h : PG X e t) (k : ∀ v σ H Q, t' v σ H Q → t v σ H Q) : PG X e t' := ⟨fun pins s σ H v u Q I r q => h.run pins s σ H v u Q I r (k _ _ _ _ q)⟩
theorem PG.ex {X : Cx} {ι : Type} {e : Expr} {t : ι → TG} (h : ∀ d, PG X e (t d)) : PG X e (fun v σ H Q => ∃ d, t d v σ H Q) := ⟨fun pins s σ H v u Q I r ⟨d, q⟩ => (h d).run pins s σ H v u Q I r q⟩
theorem evg_name (ok : OkS p sc NN VV GG k g) (hN : NN[i]? = some x) (hV : VV[j]? = some x) : EvG g (.Name x pos) T L (fun d => L.set i (sV false T d)) := by
  refine PG.imp (pg_name (i := i) (by rw [ok.N]; exact ok.nd) (by rw [ok.N]; exact hN) (ok.loc hV) (okS_fn ok)) fun v σ H Q ⟨kp, own, d, at_, r, q⟩ => ?_
  obtain ⟨h1, h2, ⟨Fs, h3, rfl⟩, h4, h5, h6⟩ := at_
  have kk : ∀ p ∈ (Fs.set i []).flatten, p ∈ Fs.flatten := fun p hp => (set_sub (i := i)).subset hp
  exact q _ _ ⟨h1, h2, ⟨Fs.set i [], (h3.st (RB.own kk) fun _ _ => rfl).set (s := sV false T d) ⟨rfl, v, rfl, T.mono r (RX.own (md := .sh) (H := H) kk)⟩ i, rfl⟩, h4.sublist set_sub, fun p hp => h5 p (kk p hp), fun a o q => RX.own (md := .sh) (H := H) kk a o (h6 a o q)⟩ kk
theorem Nw.rd {fm : Fm} {kp kp' : RdR} {own : List Addr} {σ : L2.St} {H H' : Hp} (at_ : At fm kp L σ H own) (k : ∀ a o, kp' a o → RD fm own H a o) (s : Same H H') : ∀ a o, Nw false kp' H H' a o → RD fm own H' a o := fun a o r => by
  rcases r with ⟨_, r⟩ | ⟨r, n⟩
  · exact RD.same s a o (k a o r)
  · exact .inl ⟨.inl r, fun hp => (at_.new a hp).1 n, fun hz => at_.zin a hz n⟩
theorem RD.rdb {fm : Fm} {own : List Addr} {H : Hp} : Rdb fm.K (RD fm own H) H := ⟨fun a o r n => r.imp (fun h => Rd.raw h.1 n) id⟩
theorem evb_for {m : M (List α)} {f : β → α → M β} {h : β → M δ} {LF : β → List Slot} {Lt : β → α → List Slot} {s0 : β} {tg it : Expr} {body : List Stmt} (ok : OkS p sc NN VV GG k g) (wk : Wk L g.LX) (hI : EvI g L tg it S m) (w0 : Wk L (LF s0))
    (hG : ∀ s, EvG g tg S (LF s) (Lt s)) (hb : ∀ s d, EvB g (Lt s d) body (fun s' => .go (LF s')) (f s d)) (hr : ∀ s, EvB g (LF s) st D (h s)) (hs : ∀ x, foldedSetIterable it g.X.env x = pure x := by intro _; rfl) :
    EvB g L (.For tg it body [] pos :: st) D (m.bind fun xs => (forM f s0 xs).bind h) := by
  refine PSs.imp (pss_cons (ps_for ok.psO ok.calm hI (PG.ex hG) (PSs.ex fun s => PSs.ex (hb s)) hs) (PSs.ex hr)) fun E σ H ⟨kp, own, at_, q⟩ => ?_
  cases m with
  | ex c => exact ⟨kp, own, at_, BOk.exx wk at_ q⟩
  | no => exact q.elim
  | ok xs =>
  refine ⟨kp, own, at_, fun J H1 s1 hJ => ?_⟩
  have at1 := at_.ext s1
  obtain ⟨own0, a0, sub0⟩ := at1.weak w0
  have q : BOk g kp E D ((forM f s0 xs).bind h) := q
  have kk : ∀ a o, kp a o → RD g.fm own H1 a o := at1.kept
  have a0' : At g.fm (RD g.fm own H1) (LF s0) σ H1 own0 := ⟨a0.same, a0.zin, a0.sl, a0.nd, a0.new, fun a o z => RX.own (md := .sh) (H := H1) sub0 a o z⟩
  refine ⟨fun i m σ H => m = xs.length - i ∧ i ≤ xs.length ∧ ∃ s own', At g.fm (RD g.fm own H1) (LF s) σ H own' ∧ BOk g kp E D ((forM f s (xs.drop i)).bind h), ⟨_, rfl, Nat.zero_le _, s0, own0, a0', q⟩, ?_⟩
  rintro i m σ H ⟨rfl, hi, s, own', a', q'⟩
  have rb : Rdb g.fm.K (RD g.fm own H1) H := ⟨fun a o z n => (a'.kept a o z).imp (fun h => Rd.raw h.1 n) id⟩
  obtain ⟨hgo, hst⟩ := hJ H rb i
  by_cases hlt : i < xs.length
  · have he : xs[i]? = some xs[i] := by simp [hlt]
    obtain ⟨go, yl⟩ := hgo _ he
    rw [List.drop_eq_getElem_cons hlt] at q'
    refine .inr ⟨go, fun σ' H' => ∃ s own', At g.fm (RD g.fm own H1) (LF s) σ' H' own' ∧ BOk g kp E D ((forM f s (xs.drop (i + 1))).bind h), fun σ' H' ⟨s', own'', a'', q''⟩ => ⟨xs.length - (i + 1), by omega, rfl, hlt, s', own'', a'', q''⟩, fun x H' y => ?_⟩
    obtain ⟨s2, r2⟩ := yl x H' y
    refine ⟨s, _, own', xs[i], a'.ext s2, S.mono r2 (Nw.rd a' a'.kept s2), fun σ' own'' a'' _ => ⟨s, xs[i], _, own'', a'', ?_⟩⟩
    have q2 : BOk g kp E D (((f s xs[i]).bind fun s' => forM f s' (xs.drop (i + 1))).bind h) := q'
    cases hf : f s xs[i] with
    | ok s' =>
      rw [hf] at q2
      exact fun σ3 H3 own3 a3 => ⟨⟨s', own3, a3, q2⟩, ⟨s', own3, a3, q2⟩⟩
    | ex c =>
      rw [hf] at q2
      exact fun σ3 H3 own3 a3 => q2 σ3 H3 own3 (a3.keep kk)
    | no => rw [hf] at q2; exact q2
  · have e : i = xs.length := by omega
    subst e
    rw [List.drop_length] at q'
    exact .inl ⟨hst (by simp), s, kp, own', a'.keep kk, q'⟩
def Out.isRt : Out → Bool
  | .rt _ _ _ => true
  | .rtL _ _ _ => true
  | .gen _ => true
  | _ => false
theorem OutOk.rt {fm : Fm} {kp kp' : RdR} {E E' : Ends} (hr : E'.rt = E.rt) : ∀ {o : Out}, o.isRt = true → OutOk fm kp E o → OutOk fm kp' E' o := fun {o} hn q => by
  cases o with
  | nx L => cases hn
  | ct L => cases hn
  | go L => cases hn
  | rt b T r => exact fun v H' s r => by rw [hr]; exact q v H' s r
  | rtL b T r => exact fun p vs H' s n1 n2 h r => by rw [hr]; exact q p vs H' s n1 n2 h r
  | gen f => show f fm E'.rt; rw [hr]; exact q
  | bad => cases hn
/-- .. that may leave the def -/
theorem evb_forF {ρ : Type} {m : M (List α)} {f : β → α → M (Fl β ρ)} {h : β → M δ} {dr : ρ → δ} {LF : β → List Slot} {Lt : β → α → List Slot} {s0 : β} {tg it : Expr} {body : List Stmt} (ok : OkS p sc NN VV GG k g) (wk : Wk L g.LX) (hI : EvI g L tg it S m) (w0 : Wk L (LF s0))
    (hG : ∀ s, EvG g tg S (LF s) (Lt s)) (hb : ∀ s d, EvB g (Lt s d) body (Fl.el (fun s' => Out.go (LF s')) fun r => D (dr r)) (f s d)) (hr : ∀ s, EvB g (LF s) st D (h s)) (hD : ∀ r, (D (dr r)).isRt = true := by intro d; first | rfl | (cases d <;> rfl)) (hs : ∀ x, foldedSetIterable it g.X.env x = pure x := by intro _; rfl) :
    EvB g L (.For tg it body [] pos :: st) D (m.bind fun xs => (forF f s0 xs).bind (Fl.el h fun r => .ok (dr r))) := by
  refine PSs.imp (pss_cons (ps_for ok.psO ok.calm hI (PG.ex hG) (PSs.ex fun s => PSs.ex (hb s)) hs) (PSs.ex hr)) fun E σ H ⟨kp, own, at_, q⟩ => ?_
  cases m with
  | ex c => exact ⟨kp, own, at_, BOk.exx wk at_ q⟩
  | no => exact q.elim
  | ok xs =>
  refine ⟨kp, own, at_, fun J H1 s1 hJ => ?_⟩
  have at1 := at_.ext s1
  obtain ⟨own0, a0, sub0⟩ := at1.weak w0
  have q : BOk g kp E D ((forF f s0 xs).bind (Fl.el h fun r => .ok (dr r))) := q
  have kk : ∀ a o, kp a o → RD g.fm own H1 a o := at1.kept
  have a0' : At g.fm (RD g.fm own H1) (LF s0) σ H1 own0 := ⟨a0.same, a0.zin, a0.sl, a0.nd, a0.new, fun a o z => RX.own (md := .sh) (H := H1) sub0 a o z⟩
  refine ⟨fun i m σ H => m = xs.length - i ∧ i ≤ xs.length ∧ ∃ s own', At g.fm (RD g.fm own H1) (LF s) σ H own' ∧ BOk g kp E D ((forF f s (xs.drop i)).bind (Fl.el h fun r => .ok (dr r))), ⟨_, rfl, Nat.zero_le _, s0, own0, a0', q⟩, ?_⟩
  rintro i m σ H ⟨rfl, hi, s, own', a', q'⟩
  have rb : Rdb g.fm.K (RD g.fm own H1) H := ⟨fun a o z n => (a'.kept a o z).imp (fun h => Rd.raw h.1 n) id⟩
  obtain ⟨hgo, hst⟩ := hJ H rb i
  by_cases hlt : i < xs.length
  · have he : xs[i]? = some xs[i] := by simp [hlt]
    obtain ⟨go, yl⟩ := hgo _ he
    rw [List.drop_eq_getElem_cons hlt] at q'
    refine .inr ⟨go, fun σ' H' => ∃ s own', At g.fm (RD g.fm own H1) (LF s) σ' H' own' ∧ BOk g kp E D ((forF f s (xs.drop (i + 1))).bind (Fl.el h fun r => .ok (dr r))), fun σ' H' ⟨s', own'', a'', q''⟩ => ⟨xs.length - (i + 1), by omega, rfl, hlt, s', own'', a'', q''⟩, fun x H' y => ?_⟩
    obtain ⟨s2, r2⟩ := yl x H' y
    refine ⟨s, _, own', xs[i], a'.ext s2, S.mono r2 (Nw.rd a' a'.kept s2), fun σ' own'' a'' _ => ⟨s, xs[i], _, own'', a'', ?_⟩⟩
    have q2 : BOk g kp E D (((f s xs[i]).bind (Fl.el (fun s' => forF f s' (xs.drop (i + 1))) fun r => .ok (.rt r))).bind (Fl.el h fun r => .ok (dr r))) := q'
    cases hf : f s xs[i] with
    | ok s' =>
      rw [hf] at q2
      cases s' with
      | nx s' => exact fun σ3 H3 own3 a3 => ⟨⟨s', own3, a3, q2⟩, ⟨s', own3, a3, q2⟩⟩
      | rt r =>
        have q2 : OutOk g.fm kp E (D (dr r)) := q2
        show OutOk g.fm _ _ (D (dr r))
        refine OutOk.rt (E := E) ?_ (hD r) q2
        rfl
    | ex c =>
      rw [hf] at q2
      exact fun σ3 H3 own3 a3 => q2 σ3 H3 own3 (a3.keep kk)
    | no => rw [hf] at q2; exact q2
  · have e : i = xs.length := by omega
    subst e
    rw [List.drop_length] at q'
    exact .inl ⟨hst (by simp), s, kp, own', a'.keep kk, q'⟩
theorem PT.ex {X : Cx} {ι : Type} {e : Expr} {t : ι → TT} (h : ∀ d, PT X e (t d)) : PT X e (fun σ H Q => ∃ d, t d σ H Q) := ⟨fun pins s σ H Q I ⟨d, q⟩ => (h d).run pins s σ H Q I q⟩
end
end Hd
namespace Hd
open PySem PySem.Spec L2
def RetOk (fm : Fm) (Q : VK) : Out → Prop
  | .rt md T r => ∀ v H', Same fm.H0 H' → T.rep r v (RT fm H' md) → Q v H'
  | .rtL md T r => ∀ p vs H', Same fm.H0 H' → ¬ fm.z p → fm.H0 p = none → H' p = some (.lst vs) → Reps T (RT fm H' md (some p)) r vs → Q (.ref p) H'
  | .gen f => f fm Q
  | _ => False
/-- what a def promises: it comes to F -/
def spM (p : Pr) {δ ρ : Type} (A : Ar δ) (D : ρ → Out) (F : δ → M ρ) : Sp := fun vs H Q E => ∃ d z, ((∀ a, z a → H a ≠ none) ∧ ∀ P, p.T = some P → LamX.TabS H P lamQ) ∧ A.rep d vs (RD ⟨p.K, H, z⟩ [] H) ∧
  match F d with
  | .ok r => RetOk ⟨p.K, H, z⟩ Q (D r)
  | .ex c => ∀ H', Same H H' → E (.ref (p.C c)) none H'
  | .no => False
/-- the slots of the arguments -/
inductive ArS : {δ : Type} → Ar δ → Nat → (δ → List Slot) → Prop where
  | nil : ArS aNil 0 (fun _ => [])
  | cons {α δ : Type} {T : Ty α} {A : Ar δ} {n : Nat} {f : δ → List Slot} : ArS A n f → ArS (aCons T A) (n + 1) (fun d => sV false T d.1 :: f d.2)
theorem ArS.all {H : Hp} {R : Bool → RdR} {δ : Type} {A : Ar δ} {n : Nat} {f : δ → List Slot} (s : ArS A n f) : ∀ {d : δ} {vs : List V}, A.rep d vs (R false) → vs.length = n ∧ AllS H R (f d) (vs.map some) (List.replicate n []) := by
  induction s with
  | nil => intro d vs h; cases (show vs = [] from h); exact ⟨rfl, .nil⟩
  | cons _ ih =>
    intro d vs h
    obtain ⟨v, r, rfl, h1, h2⟩ := h
    obtain ⟨e, h3⟩ := ih h2
    exact ⟨by simp [e], .cons ⟨rfl, v, rfl, h1⟩ h3⟩
theorem AllS.append {H : Hp} {R : Bool → RdR} {L L' : List Slot} {σ σ' : L2.St} {Fs Fs' : List (List Addr)} (h : AllS H R L σ Fs) (h' : AllS H R L' σ' Fs') : AllS H R (L ++ L') (σ ++ σ') (Fs ++ Fs') := by
  induction h with
  | nil => exact h'
  | cons r _ ih => exact .cons r ih
theorem AllS.anys {H : Hp} {R : Bool → RdR} : ∀ n, AllS H R (List.replicate n sAny) (List.replicate n none) (List.replicate n [])
  | 0 => .nil
  | n + 1 => .cons rfl (AllS.anys n)
theorem flat_rep (n : Nat) : (List.replicate n ([] : List Addr)).flatten = [] := by induction n with
  | zero => rfl
  | succ n ih => simp
structure Sc (st : Stmt) (NN VV ps GG : List Str) : Prop where
  S : FnScope NN ps (defScope st)
  vis : VV.all (seenB (defScope st)) = true
  loc : VV.all (locB (defScope st)) = true
  gl : GG.all (glB (defScope st)) = true
section
variable {p : Pr} {sc : Scope} {NN VV GG : List Str} {k : Nat} {g : G} {L L' : List Slot} {a b c e e' : Expr} {es : List Expr} {md md' : Md} {α β γ δ ρ : Type} {S : Ty α} {T : Ty β} {U : Ty γ} {A : Ar δ} {pos : Pos}
/-- a def's body, as a judgement for all its arguments -/
def Body (p : Pr) (st : Stmt) (NN VV GG : List Str) (k : Nat) (L0 : δ → List Slot) (D : ρ → Out) (F : δ → M ρ) : Prop :=
  ∀ g, OkS p (defScope st) NN VV GG k g → g.LX = List.replicate NN.length sAny → ∀ d, EvB g (L0 d) (defBody st) D (F d)
/-- how Ends take a block's end that the promise tells as D -/
theorem fn_gen {x qual : Str} {st : Stmt} {f : Addr} {fd : FuncData} {ps : List Str} {L0 : δ → List Slot} {n m : Nat} {D D' : ρ → Out} {F : δ → M ρ} (hF : FunD p.K x qual (defArgs st) (defBody st) (defScope st) [] [] f fd) (hS : Sc st NN VV ps GG) (ha : ArS A n L0) (hn : ps.length = n) (hm : n + m = NN.length)
    (hD : ∀ (r : ρ) (fm : Fm) (Q : VK), RetOk fm Q (D r) → OutOk fm (fun _ _ => False) { nx := fun _ H' => Q .non H', rt := Q } (D' r))
    (hb : Body p st NN VV GG k (fun d => L0 d ++ List.replicate m sAny) D' F) :
    FnOk p.P p.w p.K p.mg p.base (L2.CX p.P p.w) (k + 1) f fd ps (spM p A D F) := by
  refine hF.ok hS.S (fun vs H Q E h => ?_) (fun cdv A' outer s H vs Q E hr h => ?_)
  · obtain ⟨d, z, hz, hrep, _⟩ := h
    exact (ha.all (H := H) (R := fun _ => RD ⟨p.K, H, z⟩ [] H) hrep).1.trans hn.symm
  · obtain ⟨d, z, ⟨hz, htab⟩, hrep, q⟩ := h
    have hlen : vs.length = n := (ha.all (H := H) (R := fun _ => RD ⟨p.K, H, z⟩ [] H) hrep).1
    let X : Cx := cxOf (L2.CX p.P p.w) p.P p.w p.K p.mg p.base NN qual (defScope st) f cdv A' outer s H E
    let g : G := ⟨X, ⟨p.K, H, z⟩, fun c _ H' => E (.ref (p.C c)) none H', List.replicate NN.length sAny⟩
    have hN : ∀ {j : Nat} {y : Str}, VV[j]? = some y → y ∈ VV := fun e => List.mem_of_getElem? e
    have ok : OkS p (defScope st) NN VV GG k g :=
      { prog := rfl, w := rfl, K := rfl, mg := rfl, base := rfl, N := rfl, fmK := rfl, tab := htab, room := hr, nd := hS.S.nd
        vis := fun e => let h := seenB_v (List.all_eq_true.mp hS.vis _ (hN e)); ⟨h.2, h.1⟩
        gl := fun e => let h := glB_v (List.all_eq_true.mp hS.gl _ (List.mem_of_getElem? e)); ⟨h.2, h.1⟩
        tk := Takes.imp (takes_of (X := X) rfl rfl rfl (E := E) rfl) (fun cls d σ H ⟨c, e1, e2, h⟩ => by subst e1; subst e2; exact h)
        calm := rfl
        blk := fun h => blkOk_by h
        loc := fun e => locB_v (List.all_eq_true.mp hS.loc _ (hN e))
        fnT := fun _ => rfl
        psO := passes_of (X := X) rfl
        scp := rfl
        stk := rfl
        frm := rfl
        exn := rfl }
    refine ⟨_, hb g ok rfl d, (fun _ _ => False), [], ?_, ?_⟩
    · refine ⟨Same.refl H, hz, ⟨List.replicate n [] ++ List.replicate m [], ?_, by simp [flat_rep]⟩, List.nodup_nil, (fun _ h => nomatch h), fun _ _ h => h.elim⟩
      have h1 := (ha.all (H := H) (R := RB ⟨p.K, H, z⟩ [] H) hrep).2
      have e : L2.start NN vs = vs.map some ++ List.replicate m none := by
        unfold L2.start
        rw [show NN.length - vs.length = m by omega]
      rw [e]
      exact h1.append (AllS.anys m)
    · cases hF' : F d with
      | ok r =>
        rw [hF'] at q
        exact hD r _ _ q
      | ex c =>
        rw [hF'] at q
        exact fun σ' H' own a' => q H' a'.same
      | no => rw [hF'] at q; exact q
theorem fn_rt {x qual : Str} {st : Stmt} {f : Addr} {fd : FuncData} {ps : List Str} {L0 : δ → List Slot} {n m : Nat} {bm : Bool} {T : Ty ρ} {F : δ → M ρ} (hF : FunD p.K x qual (defArgs st) (defBody st) (defScope st) [] [] f fd) (hS : Sc st NN VV ps GG) (ha : ArS A n L0) (hn : ps.length = n) (hm : n + m = NN.length)
    (hb : Body p st NN VV GG k (fun d => L0 d ++ List.replicate m sAny) (fun r => .rt bm T r) F) : FnOk p.P p.w p.K p.mg p.base (L2.CX p.P p.w) (k + 1) f fd ps (spM p A (fun r => .rt bm T r) F) :=
  fn_gen (D' := fun r => .rt bm T r) hF hS ha hn hm (fun r fm Q h => h) hb
theorem fn_rtL {x qual : Str} {st : Stmt} {f : Addr} {fd : FuncData} {ps : List Str} {L0 : δ → List Slot} {n m : Nat} {bm : Bool} {F : δ → M (List α)} (hF : FunD p.K x qual (defArgs st) (defBody st) (defScope st) [] [] f fd) (hS : Sc st NN VV ps GG) (ha : ArS A n L0) (hn : ps.length = n) (hm : n + m = NN.length)
    (hb : Body p st NN VV GG k (fun d => L0 d ++ List.replicate m sAny) (fun r => .rtL bm S r) F) : FnOk p.P p.w p.K p.mg p.base (L2.CX p.P p.w) (k + 1) f fd ps (spM p A (fun r => .rtL bm S r) F) :=
  fn_gen (D' := fun r => .rtL bm S r) hF hS ha hn hm (fun r fm Q h => h) hb
/-- a def that hands back None by coming to its end -/
theorem fn_nx {x qual : Str} {st : Stmt} {f : Addr} {fd : FuncData} {ps : List Str} {L0 : δ → List Slot} {n m : Nat} {LE : List Slot} {F : δ → M Unit} (hF : FunD p.K x qual (defArgs st) (defBody st) (defScope st) [] [] f fd) (hS : Sc st NN VV ps GG) (ha : ArS A n L0) (hn : ps.length = n) (hm : n + m = NN.length)
    (hb : Body p st NN VV GG k (fun d => L0 d ++ List.replicate m sAny) (fun _ => .nx LE) F) : FnOk p.P p.w p.K p.mg p.base (L2.CX p.P p.w) (k + 1) f fd ps (spM p A (fun r => .rt false tNone r) F) :=
  fn_gen (D' := fun _ => .nx LE) hF hS ha hn hm (fun r fm Q h => fun σ H' own at_ => h .non H' at_.same rfl) hb
/-- a def, as its callers know it -/
structure Fn (p : Pr) (k : Nat) (x : Str) (ps : List Str) (sp : Sp) : Prop where
  ex : ∃ (f : Addr) (fd : FuncData), FnOk p.P p.w p.K p.mg p.base (L2.CX p.P p.w) k f fd ps sp ∧ p.mg x = some (.ref f) ∧ PySem.W.keepIn p.K (.ref f) = true ∧ Binds p.K fd ps []
theorem tk_at (ok : Ok p sc NN VV GG k g) (σ : L2.St) : PassesAt (L2.CX g.X.prog g.X.w) g.X σ (fun cls d H => ∃ c, cls = .ref (p.C c) ∧ d = none ∧ g.W c σ H) := passAt ok.tk σ
theorem args_in {own : List Addr} {H H1 : Hp} {d : δ} {vs : List V} {fm : Fm} (r : A.rep d vs (RX fm own H H1 md)) : A.rep d vs (RD ⟨fm.K, H1, fun a => a ∈ own ∨ fm.z a⟩ [] H1) :=
  A.mono r fun a o z => by
    rcases RX.sh a o z with z | z
    · exact .inl ⟨z.1, (fun y => nomatch y), fun y => y.elim z.2.1 z.2.2⟩
    · exact .inr z
/-- how new a call's answer is -/
inductive CaMd : Bool → Md → Prop where
  | sh : CaMd false .sh
  | fx {x : Md} : CaMd true x
theorem CaMd.rx {fm : Fm} {own : List Addr} {H H1 H' : Hp} {bm : Bool} {q : Option Addr} (h : CaMd bm md) (s : Same H H1) (s0 : Same fm.H0 H) : ∀ a o, RT ⟨fm.K, H1, fun a => a ∈ own ∨ fm.z a⟩ H' bm q a o → RX fm (q.toList ++ own) H H' md a o := fun a o r => by
  cases h with
  | sh =>
    have r : RX ⟨fm.K, H1, fun a => a ∈ own ∨ fm.z a⟩ q.toList H' H' .sh a o := r
    rcases r with ⟨r1, r2, r3⟩ | r
    · exact .inl ⟨r1, fun y => (List.mem_append.mp y).elim r2 fun y => r3 (.inl y), fun y => r3 (.inr y)⟩
    · exact .inr r
  | fx =>
    have r : RX ⟨fm.K, H1, fun a => a ∈ own ∨ fm.z a⟩ q.toList H' H' .f0 a o := r
    obtain ⟨r1, r2, r3, r4⟩ := r
    exact RX.fx md a o ⟨r1, fun y => (List.mem_append.mp y).elim r2 fun y => r3 (.inl y), fun y => r3 (.inr y), s0.free (s.free r4), s.free r4⟩
theorem ev_call {x : Str} {j kf : Nat} {ps : List Str} {bm : Bool} {T : Ty ρ} {F : δ → M ρ} {m : M δ} {pp : Pos} (ok : Ok p sc NN VV GG k g) (hf : Fn p kf x ps (spM p A (fun r => .rt bm T r) F)) (hk : kf ≤ k) (hG : GG[j]? = some x) (hc : CaMd bm md')
    (ha : EvA g L (e :: es) md A m) (he : starEach (e :: es) g.X.env = (false, eval e g.X.env) :: starEach es g.X.env := by rfl) (hpl : (backTo pos (starEach es g.X.env)).any (·.1) = false := by rfl) :
    EvE g L (.Call (.Name x pp) (e :: es) [] pos) md' T (m.bind F) := by
  obtain ⟨f, fd, hF, hm, hkp, hbd⟩ := hf.ex
  obtain ⟨hg, ho⟩ := ok.gl hG
  rw [← ok.prog, ← ok.w, ← ok.base] at hF
  have hF' : FnOk g.X.prog g.X.w g.X.K g.X.mg g.X.base (L2.CX g.X.prog g.X.w) kf f fd ps (spM p A (fun r => .rt bm T r) F) := by rw [ok.K, ok.mg]; exact hF
  refine PE.imp (pe_callS hF' (ok.room.mono hk) hg (by rw [ok.mg]; exact hm) (by rw [ok.K]; exact hkp) (by rw [ok.K]; exact hbd) (tk_at ok) ha (okName_d ho).1 he hpl) fun σ H Q q => ?_
  obtain ⟨kp, own, at_, q⟩ := tE_iff.mp q
  refine subA finE (Same.refl H) at_ q fun d vs H1 s1 r1 at1 q1 => ⟨d, fun a => a ∈ own ∨ g.fm.z a, ⟨fun a z => ?_, fun P e => at1.same.tab P (ok.tab P e)⟩, ?_, ?_⟩
  · rcases z with z | z
    · exact (at1.new a z).1
    · exact at1.zin a z
  · rw [← ok.fmK]; exact args_in r1
  · rw [← ok.fmK]
    cases hd : F d with
    | ok r =>
      rw [hd] at q1
      exact fun v H' s r => q1 v H' (s1.trans s) (T.mono r (hc.rx s1 at_.same))
    | ex c =>
      rw [hd] at q1
      exact fun H' s => ⟨c, rfl, rfl, q1 H' (s1.trans s)⟩
    | no => rw [hd] at q1; exact q1
theorem evl_call {x : Str} {j kf : Nat} {ps : List Str} {bm : Bool} {F : δ → M (List α)} {m : M δ} {pp : Pos} (ok : Ok p sc NN VV GG k g) (hf : Fn p kf x ps (spM p A (fun r => .rtL bm S r) F)) (hk : kf ≤ k) (hG : GG[j]? = some x) (hc : CaMd bm md')
    (ha : EvA g L (e :: es) md A m) (he : starEach (e :: es) g.X.env = (false, eval e g.X.env) :: starEach es g.X.env := by rfl) (hpl : (backTo pos (starEach es g.X.env)).any (·.1) = false := by rfl) :
    EvL g L (.Call (.Name x pp) (e :: es) [] pos) md' S (m.bind F) := by
  obtain ⟨f, fd, hF, hm, hkp, hbd⟩ := hf.ex
  obtain ⟨hg, ho⟩ := ok.gl hG
  rw [← ok.prog, ← ok.w, ← ok.base] at hF
  have hF' : FnOk g.X.prog g.X.w g.X.K g.X.mg g.X.base (L2.CX g.X.prog g.X.w) kf f fd ps (spM p A (fun r => .rtL bm S r) F) := by rw [ok.K, ok.mg]; exact hF
  refine PE.imp (pe_callS hF' (ok.room.mono hk) hg (by rw [ok.mg]; exact hm) (by rw [ok.K]; exact hkp) (by rw [ok.K]; exact hbd) (tk_at ok) ha (okName_d ho).1 he hpl) fun σ H Q q => ?_
  obtain ⟨kp, own, at_, q⟩ := tL_iff.mp q
  refine subA finL (Same.refl H) at_ q fun d vs H1 s1 r1 at1 q1 => ⟨d, fun a => a ∈ own ∨ g.fm.z a, ⟨fun a z => ?_, fun P e => at1.same.tab P (ok.tab P e)⟩, ?_, ?_⟩
  · rcases z with z | z
    · exact (at1.new a z).1
    · exact at1.zin a z
  · rw [← ok.fmK]; exact args_in r1
  · rw [← ok.fmK]
    cases hd : F d with
    | ok r =>
      rw [hd] at q1
      exact fun p' vs' H' s n1 n2 h' r => q1 p' vs' H' (s1.trans s) (s1.free n2) h' (r.mono (hc.rx (q := some p') s1 at_.same))
    | ex c =>
      rw [hd] at q1
      exact fun H' s => ⟨c, rfl, rfl, q1 H' (s1.trans s)⟩
    | no => rw [hd] at q1; exact q1
/-- an own class of refusals -/
structure ExF (p : Pr) (x : Str) (c : Ec) : Prop where
  xP : PySem.W.excIn p.K (p.C c) [.type "ValueError", .type "Exception", .type "BaseException", .type "object"] "ValueError.__new__" = true
  gP : p.mg x = some (.ref (p.C c))
  kP : PySem.W.keepIn p.K (.ref (p.C c)) = true
  bP : PySem.W.subIn p.K (.ref (p.C c)) (.type "BaseException") = some true
  tP : PySem.W.typeIn p.K (.ref (p.C c)) = some (.type "type")
variable {st : List Stmt} {D : δ → Out} {d : δ}
theorem evb_raise {x : Str} {c : Ec} {j jj : Nat} {msg : Str} {pp p2 p3 : Pos} (ok : OkS p sc NN VV GG k g) (wk : Wk L g.LX) (X : ExF p x c) (hG : GG[j]? = some x) :
    EvB g L (.Raise (some (.Call (.Name x pp) [.Constant (.str msg) jj p2] [] p3)) none pos :: st) D (.ex c) := by
  obtain ⟨hg, ho⟩ := ok.gl hG
  refine PSs.imp (PSs.head (ps_raise ok.calm ok.tk (pmk_own PySem.F.excBase_ValueError (by rw [ok.K]; exact X.xP) (by rw [ok.mg]; exact X.gP) (by rw [ok.K]; exact X.kP) (raises_own (by rw [ok.K]; exact X.bP) (by rw [ok.K]; exact X.tP)) hg (okName_d ho).1))) fun E σ H ⟨kp, own, at_, q⟩ => ?_
  exact ⟨c, rfl, rfl, BOk.exx wk at_ q H (Same.refl H)⟩
end
end Hd
namespace Hd
open PySem PySem.Spec L2
section
variable {p : Pr} {sc : Scope} {NN VV GG : List Str} {k : Nat} {g : G} {L L' : List Slot} {a b c e e' : Expr} {es : List Expr} {md md' : Md} {α β γ δ ρ : Type} {S : Ty α} {T : Ty β} {U : Ty γ} {A : Ar δ} {pos : Pos} {K : PySem.W.Frag}
def mulM (x y : Int) : M Int := if x.natAbs < 2 ^ 10000 ∧ y.natAbs < 2 ^ 10000 then .ok (x * y) else .no
def modM (x y : Int) : M Int := if 0 < y then .ok (x % y) else .no
def divM (x y : Int) : M Int := if 0 < y ∧ y.natAbs < 2 ^ 1000 then .ok (x / y) else .no
theorem o_add : Op2 K (rI0 fun i j => .int (i + j)) tInt tInt tInt (fun x y => .ok (x + y)) true := ⟨fun rb rx ry q => ⟨_, _, rx, ry, q _ _ (Same.refl _) rfl⟩⟩
theorem o_sub : Op2 K (rI0 fun i j => .int (i - j)) tInt tInt tInt (fun x y => .ok (x - y)) true := ⟨fun rb rx ry q => ⟨_, _, rx, ry, q _ _ (Same.refl _) rfl⟩⟩
theorem o_mul : Op2 K (rI CMulW fun i j => .int (i * j)) tInt tInt tInt mulM true := ⟨fun {d e x y R H Q} rb rx ry q => by
  unfold mulM at q
  split at q
  · rename_i h
    exact ⟨_, _, rx, ry, wide_mul h.1 h.2 (by decide) (by decide) (by decide), q _ _ (Same.refl _) rfl⟩
  · exact q.elim⟩
theorem o_mod : Op2 K (rI (fun _ j => 0 < j) fun i j => .int (i % j)) tInt tInt tInt modM true := ⟨fun {d e x y R H Q} rb rx ry q => by
  unfold modM at q
  split at q
  · rename_i h
    exact ⟨_, _, rx, ry, h, q _ _ (Same.refl _) rfl⟩
  · exact q.elim⟩
theorem o_div : Op2 K (rI CDivW fun i j => .int (i / j)) tInt tInt tInt divM true := ⟨fun {d e x y R H Q} rb rx ry q => by
  unfold divM at q
  split at q
  · rename_i h
    exact ⟨_, _, rx, ry, wide_div h.1 h.2 (by decide) (by decide), q _ _ (Same.refl _) rfl⟩
  · exact q.elim⟩
theorem mulM_ne {x y : Int} {c : Ec} : mulM x y ≠ .ex c := by unfold mulM; split <;> exact fun h => nomatch h
theorem modM_ne {x y : Int} {c : Ec} : modM x y ≠ .ex c := by unfold modM; split <;> exact fun h => nomatch h
theorem divM_ne {x y : Int} {c : Ec} : divM x y ≠ .ex c := by unfold divM; split <;> exact fun h => nomatch h
variable {m1 m2 : M Int} {x y : Int}
theorem ev_add (ok : Ok p sc NN VV GG k g) (ha : EvE g L a md tInt m1) (hb : EvE g L b md tInt m2) : EvE g L (.BinOp a .Add b pos) md' tInt (m1.bind fun x => m2.bind fun y => .ok (x + y)) := ev_op2 ok op_add o_add (fun _ _ _ h => nomatch h) .fresh ha hb
theorem ev_subt (ok : Ok p sc NN VV GG k g) (ha : EvE g L a md tInt m1) (hb : EvE g L b md tInt m2) : EvE g L (.BinOp a .Sub b pos) md' tInt (m1.bind fun x => m2.bind fun y => .ok (x - y)) := ev_op2 ok op_sub o_sub (fun _ _ _ h => nomatch h) .fresh ha hb
theorem ev_mul (ok : Ok p sc NN VV GG k g) (ha : EvE g L a md tInt m1) (hb : EvE g L b md tInt m2) : EvE g L (.BinOp a .Mult b pos) md' tInt (m1.bind fun x => m2.bind fun y => mulM x y) := ev_op2 ok op_mulW o_mul (fun _ _ _ => mulM_ne) .fresh ha hb
theorem ev_mod (ok : Ok p sc NN VV GG k g) (ha : EvE g L a md tInt m1) (hb : EvE g L b md tInt m2) : EvE g L (.BinOp a .Mod b pos) md' tInt (m1.bind fun x => m2.bind fun y => modM x y) := ev_op2 ok op_mod o_mod (fun _ _ _ => modM_ne) .fresh ha hb
theorem ev_div (ok : Ok p sc NN VV GG k g) (ha : EvE g L a md tInt m1) (hb : EvE g L b md tInt m2) : EvE g L (.BinOp a .FloorDiv b pos) md' tInt (m1.bind fun x => m2.bind fun y => divM x y) := ev_op2 ok op_fdivW o_div (fun _ _ _ => divM_ne) .fresh ha hb
/-- the one number c -/
def tLit (c : Int) : Ty Unit := ⟨fun _ v _ => v = .int c, fun h _ => h⟩
theorem ev_lit (h : EvE g L e md tInt (.ok x)) : EvE g L e md (tLit x) (.ok ()) := ev_asP (fun v R r => r) h
theorem ev_mulC (ok : Ok p sc NN VV GG k g) (hc : y.natAbs < 2 ^ 64) (ha : EvE g L a md tInt m1) (hb : EvE g L b md tInt (.ok y)) : EvE g L (.BinOp a .Mult b pos) md' tInt (m1.bind fun x => .ok (x * y)) :=
  ev_op2 (f := fun x _ => .ok (x * y)) ok op_mul ⟨fun rb rx ry q => ⟨_, _, rx, ry, .inr ⟨by omega, by omega⟩, q _ _ (Same.refl _) rfl⟩⟩ (fun _ _ _ h => nomatch h) (.fresh : MdOk true md md') ha (ev_lit hb)
theorem ev_mulL (ok : Ok p sc NN VV GG k g) (hc : x.natAbs < 2 ^ 64) (ha : EvE g L a md tInt (.ok x)) (hb : EvE g L b md tInt m2) : EvE g L (.BinOp a .Mult b pos) md' tInt (m2.bind fun y => .ok (x * y)) :=
  ev_op2 (f := fun _ y => .ok (x * y)) (m1 := .ok ()) ok op_mul ⟨fun rb rx ry q => ⟨_, _, rx, ry, .inl ⟨by omega, by omega⟩, q _ _ (Same.refl _) rfl⟩⟩ (fun _ _ _ h => nomatch h) (.fresh : MdOk true md md') (ev_lit ha) hb
theorem ev_modC (ok : Ok p sc NN VV GG k g) (hc : 0 < y) (ha : EvE g L a md tInt m1) (hb : EvE g L b md tInt (.ok y)) : EvE g L (.BinOp a .Mod b pos) md' tInt (m1.bind fun x => .ok (x % y)) :=
  ev_op2 (f := fun x _ => .ok (x % y)) ok op_mod ⟨fun rb rx ry q => ⟨_, _, rx, ry, hc, q _ _ (Same.refl _) rfl⟩⟩ (fun _ _ _ h => nomatch h) (.fresh : MdOk true md md') ha (ev_lit hb)
theorem ev_divC (ok : Ok p sc NN VV GG k g) (hc : 0 < y) (hb' : y.natAbs < 2 ^ 1000) (ha : EvE g L a md tInt m1) (hb : EvE g L b md tInt (.ok y)) : EvE g L (.BinOp a .FloorDiv b pos) md' tInt (m1.bind fun x => .ok (x / y)) :=
  ev_op2 (f := fun x _ => .ok (x / y)) ok op_fdivW ⟨fun rb rx ry q => ⟨_, _, rx, ry, wide_div hc hb' (by decide) (by decide), q _ _ (Same.refl _) rfl⟩⟩ (fun _ _ _ h => nomatch h) (.fresh : MdOk true md md') ha (ev_lit hb)
theorem ev_neg (ok : Ok p sc NN VV GG k g) (ha : EvE g L a md tInt m1) : EvE g L (.UnaryOp .USub a pos) md' tInt (m1.bind fun x => .ok (-x)) :=
  ev_un ok un_neg (f := fun x => .ok (-x)) (fr := true) ⟨fun rb rx q => ⟨_, rx, q _ _ (Same.refl _) rfl⟩⟩ (fun _ _ h => nomatch h) .fresh ha
/-- a comparison that always tells -/
structure CmpOk (p : Pr) (X : Cx) (op : CmpOp) (S : Ty α) (T : Ty β) (f : α → β → Bool) : Prop where
  ex : ∃ r, OpR X (compareOp op) r ∧ Op2 p.K r S T tBool (fun x y => .ok (f x y)) true
section
variable {op : CmpOp} {f : α → β → Bool} {ma : M α} {mb : M β} {da : α} {db : β}
theorem ev_c (ok : Ok p sc NN VV GG k g) (F : CmpOk p g.X op S T f) (ha : EvE g L a md S ma) (hb : EvE g L b md T mb) (hk : behindInMarks op b = false := by first | exact nomark _ (by decide) (by decide) | rfl) : EvE g L (.Compare a [op] [b] pos) md' tBool (ma.bind fun x => mb.bind fun y => .ok (f x y)) := by
  obtain ⟨r, h1, h2⟩ := F.ex
  exact ev_cmp ok h1 h2 (fun _ _ _ h => nomatch h) .fresh ha hb hk
theorem evt_c (ok : Ok p sc NN VV GG k g) (F : CmpOk p g.X op S T f) (ha : EvE g L a md S ma) (hb : EvE g L b md T mb) (hk : behindInMarks op b = false := by first | exact nomark _ (by decide) (by decide) | rfl) : EvT g L (.Compare a [op] [b] pos) (ma.bind fun x => mb.bind fun y => .ok (f x y)) := by
  obtain ⟨r, h1, h2⟩ := F.ex
  exact evt_cmp ok h1 h2 (fun _ _ _ h => nomatch h) ha hb hk
end
variable {X : Cx}
theorem c_lt : CmpOk p X .Lt tInt tInt (fun x y => decide (x < y)) := ⟨_, op_lt, ⟨fun rb rx ry q => ⟨_, _, rx, ry, q _ _ (Same.refl _) rfl⟩⟩⟩
theorem c_gt : CmpOk p X .Gt tInt tInt (fun x y => decide (y < x)) := ⟨_, op_gt, ⟨fun rb rx ry q => ⟨_, _, rx, ry, q _ _ (Same.refl _) rfl⟩⟩⟩
/-- kinds that are told apart by value -/
structure Scal (S : Ty α) : Prop where
  sc : ∀ {d e v w R}, S.rep d v R → S.rep e w R → scal v w = true ∧ (v = w ↔ d = e)
theorem s_int : Scal tInt := ⟨fun {d e v w R} h1 h2 => by cases h1; cases h2; exact ⟨rfl, fun h => by injection h, fun h => by rw [h]⟩⟩
theorem s_str : Scal tStr := ⟨fun {d e v w R} h1 h2 => by cases h1.1; cases h2.1; exact ⟨rfl, fun h => toS_inj (by injection h), fun h => by rw [h]⟩⟩
theorem c_eq [DecidableEq α] (h : Scal S) : CmpOk p X .Eq S S (fun x y => decide (x = y)) := ⟨_, op_eq, ⟨fun {d e x y R H Q} rb rx ry q => by
  obtain ⟨h1, h2⟩ := h.sc rx ry
  refine ⟨h1, q _ _ (Same.refl _) ?_⟩
  show _ = V.bl _
  congr 1
  exact decide_eq_decide.mpr h2⟩⟩
theorem c_ne [DecidableEq α] (h : Scal S) : CmpOk p X .NotEq S S (fun x y => !decide (x = y)) := ⟨_, op_ne, ⟨fun {d e x y R H Q} rb rx ry q => by
  obtain ⟨h1, h2⟩ := h.sc rx ry
  refine ⟨h1, q _ _ (Same.refl _) ?_⟩
  show _ = V.bl _
  congr 2
  exact decide_eq_decide.mpr h2⟩⟩
/-- .. with a heap: lists, tuples -/
structure Deep (S : Ty α) where
  pd : α → PyData
  dp : Nat
  rep : ∀ {K d v R H}, Rdb K R H → S.rep d v R → Dp K H v (pd d) ∧ (pd d).canLay0 = true
  dep : ∀ d, (pd d).depth ≤ dp
  eqv : ∀ d e, PyData.eqv (pd d) (pd e) = true ↔ d = e
theorem Deep.sh {D : Deep S} (h : D.dp ≤ 64) {d : α} (hl : (D.pd d).canLay0 = true) : SeqAt.shaped (D.pd d) = true := by
  unfold SeqAt.shaped
  rw [hl, Bool.true_and]
  exact decide_eq_true (Nat.le_trans (D.dep d) h)
theorem Deep.bq [DecidableEq α] (D : Deep S) (d e : α) : PyData.eqv (D.pd d) (D.pd e) = decide (d = e) := by
  cases hh : PyData.eqv (D.pd d) (D.pd e) with
  | true => exact (decide_eq_true ((D.eqv d e).mp hh)).symm
  | false => exact (decide_eq_false fun z => by rw [(D.eqv d e).mpr z] at hh; cases hh).symm
theorem c_eqD [DecidableEq α] (ok : Ok p sc NN VV GG k g) (D : Deep S) (hd : D.dp ≤ 64) : CmpOk p g.X .Eq S S (fun x y => decide (x = y)) := ⟨rEqD p.K, by rw [← ok.K]; exact op_eqD ok.room.units, ⟨fun {d e x y R H Q} rb rx ry q => by
  obtain ⟨a1, a2⟩ := D.rep rb rx
  obtain ⟨b1, b2⟩ := D.rep rb ry
  exact ⟨_, _, a1, b1, D.sh hd a2, D.sh hd b2, q _ _ (Same.refl _) (by show _ = V.bl _; rw [D.bq])⟩⟩⟩
theorem c_neD [DecidableEq α] (ok : Ok p sc NN VV GG k g) (D : Deep S) (hd : D.dp ≤ 64) : CmpOk p g.X .NotEq S S (fun x y => !decide (x = y)) := ⟨rNeD p.K, by rw [← ok.K]; exact op_neD ok.room.units, ⟨fun {d e x y R H Q} rb rx ry q => by
  obtain ⟨a1, a2⟩ := D.rep rb rx
  obtain ⟨b1, b2⟩ := D.rep rb ry
  exact ⟨_, _, a1, b1, D.sh hd a2, D.sh hd b2, q _ _ (Same.refl _) (by show _ = V.bl _; rw [D.bq])⟩⟩⟩
def dInt : Deep tInt := ⟨.int, 0, fun rb h => by cases h; exact ⟨.int _, rfl⟩, fun _ => by simp [PyData.depth], fun d e => by simp [PyData.eqv]⟩
def dStr : Deep tStr := ⟨fun x => .str (toS x), 0, fun {K d v R H} rb h => by
    obtain ⟨rfl, h⟩ := h
    refine ⟨.str _, ?_⟩
    show PyData.strOk (toS d) = true
    simp only [PyData.strOk, toS, List.all_toArray, List.all_eq_true, decide_eq_true_eq]
    exact h.2, fun _ => by simp [PyData.depth], fun d e => by
    simp only [PyData.eqv, beq_iff_eq]
    exact ⟨toS_inj, fun h => by rw [h]⟩⟩
theorem eqvAll_map {pd : α → PyData} (h : ∀ d e, PyData.eqv (pd d) (pd e) = true ↔ d = e) : ∀ ds es : List α, PyData.eqvAll (ds.map pd) (es.map pd) = true ↔ ds = es
  | [], [] => by simp [PyData.eqvAll]
  | [], _ :: _ => by simp [PyData.eqvAll]
  | _ :: _, [] => by simp [PyData.eqvAll]
  | d :: ds, e :: es => by simp [PyData.eqvAll, h d e, eqvAll_map h ds es]
theorem depthAll_map {pd : α → PyData} {n : Nat} (h : ∀ d, (pd d).depth ≤ n) : ∀ ds : List α, PyData.depthAll (ds.map pd) ≤ n
  | [] => by simp [PyData.depthAll]
  | d :: ds => by simp only [List.map_cons, PyData.depthAll]; have := h d; have := depthAll_map h ds; omega
theorem Deep.all (D : Deep S) {R : RdR} {H : Hp} (rb : Rdb K R H) {ds : List α} {vs : List V} (r : Reps S R ds vs) : DpAll K H vs (ds.map D.pd) ∧ PyData.canLayAll0 (ds.map D.pd) = true := by
  induction r with
  | nil => exact ⟨.nil, rfl⟩
  | cons r _ ih =>
    obtain ⟨h1, h2⟩ := D.rep rb r
    exact ⟨.cons h1 ih.1, by simp only [List.map_cons, PyData.canLayAll0, h2, ih.2, Bool.and_self]⟩
def dList (D : Deep S) : Deep (tList S) := ⟨fun ds => .list (ds.map D.pd), D.dp + 1, fun {K ds v R H} rb ⟨a, vs, e, h, r⟩ => by
    subst e
    obtain ⟨h1, h2⟩ := D.all rb r
    exact ⟨.lst (.inl ((rb _ _ h rfl).resolve_right fun z => z)) h1, h2⟩, fun ds => by simp only [PyData.depth]; have := depthAll_map D.dep ds; omega, fun d e => by
    simp only [PyData.eqv]
    exact eqvAll_map D.eqv d e⟩
def getM {α : Type} (xs : List α) (i : Int) : M α := match L2.atI xs i with | some d => .ok d | none => .no
def getS (x : Tx) (i : Int) : M Tx := match L2.atI x i with | some c => .ok [c] | none => .no
theorem getM_ne {xs : List α} {i : Int} {c : Ec} : getM xs i ≠ .ex c := by unfold getM; split <;> exact fun h => nomatch h
theorem getS_ne {x : Tx} {i : Int} {c : Ec} : getS x i ≠ .ex c := by unfold getS; split <;> exact fun h => nomatch h
theorem Reps.at {R : RdR} {ds : List α} {vs : List V} (r : Reps S R ds vs) {i : Int} {d : α} (h : L2.atI ds i = some d) : ∃ v, L2.atI vs i = some v ∧ S.rep d v R := by
  unfold L2.atI at h ⊢
  rw [r.length] at h
  cases hj : L2.ixN vs.length i with
  | none => rw [hj] at h; cases h
  | some j => rw [hj] at h; exact r.get h
theorem sq_of {R : RdR} {H : Hp} {a : Addr} {vs : List V} (rb : Rdb K R H) (h : R a (.lst vs)) : SqL K H a vs := .inl ((rb _ _ h rfl).resolve_right fun z => z)
theorem rd_of {R : RdR} {H : Hp} {a : Addr} {vs : List V} (rb : Rdb K R H) (h : R a (.lst vs)) : L2.Rd H a (.lst vs) := (rb _ _ h rfl).resolve_right fun z => z
theorem st_of {R : RdR} {H : Hp} {a : Addr} {vs : List V} (rb : Rdb K R H) (h : R a (.tup vs)) : SqT K H a vs := (rb _ _ h rfl).imp id id
theorem Nw.old {fr : Bool} {R : RdR} {H : Hp} (h : fr = false) : ∀ a o, R a o → Nw fr R H H a o := fun _ _ r => .inl ⟨h, r⟩
theorem atI_mem {xs : List α} {i : Int} {d : α} (h : L2.atI xs i = some d) : d ∈ xs := by
  unfold L2.atI at h
  cases hj : L2.ixN xs.length i with
  | none => rw [hj] at h; cases h
  | some j => rw [hj] at h; exact List.mem_of_getElem? h
theorem o_ixS : Op2 K rIxS tStr tInt tStr getS true := ⟨fun {d e x y R H Q} rb rx ry q => by
  unfold getS at q
  cases hj : L2.atI d e with
  | none => rw [hj] at q; exact q.elim
  | some u =>
    rw [hj] at q
    refine ⟨toS d, e, u, rx.1, ry, by rw [toS_len]; exact rx.2.1, by rw [show (toS d).cps.toList = d from by simp [toS]]; exact hj, q _ _ (Same.refl _) ⟨rfl, (by show 1 ≤ sizeLine; decide), fun c hc => by rw [List.mem_singleton.mp hc]; exact rx.2.2 _ (atI_mem hj)⟩⟩⟩
section
variable {mx : M (List α)} {mi : M Int} {xs : List α} {i : Int} {mt : M Tx} {t : Tx}
theorem ev_ixS (ok : Ok p sc NN VV GG k g) (ha : EvE g L a md tStr mt) (hb : EvE g L b md tInt mi) (hs : PlainIx b := by exact fun _ _ => rfl) : EvE g L (.Subscript a b pos) md' tStr (mt.bind fun xs => mi.bind fun i => getS xs i) := ev_ix (r := rIxS) ok ix_str o_ixS (fun _ _ _ => getS_ne) .fresh ha hb hs
end
theorem ev_lenS {j : Nat} {mx : M Tx} {pp : Pos} (ok : Ok p sc NN VV GG k g) (hG : GG[j]? = some "len") (hmg : p.mg "len" = none) (ha : EvE g L e md tStr mx) (hs : starEach [e] g.X.env = (false, eval e g.X.env) :: starEach [] g.X.env := by rfl) : EvE g L (.Call (.Name "len" pp) [e] [] pos) md' tInt (mx.bind fun xs => .ok (xs.length : Int)) := by
  have h := ev_callB (md' := md') (U := tInt) (A := aCons tStr aNil) (f := fun d => .ok (d.1.length : Int)) (fr := true) (pos := pos) (pp := pp) ok call_len_str ⟨fun {d xs R H Q} rb ⟨v, r, e1, e2, e3⟩ q => by
    subst e1; cases (show r = [] from e3)
    exact ⟨toS d.1, by rw [e2.1], by rw [toS_len]; exact e2.2.1, q _ _ (Same.refl _) (by show _ = V.int _; rw [toS_len])⟩⟩ (fun _ _ h => nomatch h) .fresh hG hmg PySem.boot_len (eva_cons ha eva_nil hs) hs rfl
  have e : (mx.bind fun d => (M.ok ()).bind fun e => M.ok (d, e)).bind (fun d => M.ok (d.1.length : Int)) = mx.bind fun xs => .ok (xs.length : Int) := by cases mx <;> rfl
  rwa [e] at h
def catS (x y : Tx) : M Tx := if x.length + y.length ≤ sizeLine then .ok (x ++ y) else .no
theorem catS_ne {x y : Tx} {c : Ec} : catS x y ≠ .ex c := by unfold catS; split <;> exact fun h => nomatch h
theorem toS_app (x y : Tx) : toS (x ++ y) = toS x ++ toS y := by
  show (⟨(x ++ y).toArray⟩ : Str) = _
  rw [← List.append_toArray]
  rfl
theorem ev_catS {ma mb : M Tx} (ok : Ok p sc NN VV GG k g) (ha : EvE g L a md tStr ma) (hb : EvE g L b md tStr mb) : EvE g L (.BinOp a .Add b pos) md' tStr (ma.bind fun x => mb.bind fun y => catS x y) :=
  ev_op2 (fr := true) ok op_add_str ⟨fun {d e x y R H Q} rb rx ry q => by
    unfold catS at q
    split at q
    · rename_i h
      exact ⟨_, _, rx.1, ry.1, by rw [toS_len, toS_len]; exact h, q _ _ (Same.refl _) ⟨by rw [toS_app], by rw [List.length_append]; exact h, fun c hc => (List.mem_append.mp hc).elim (rx.2.2 c) (ry.2.2 c)⟩⟩
    · exact q.elim⟩ (fun _ _ _ => catS_ne) .fresh ha hb
structure IsT (S : Ty α) (ty : String) : Prop where
  t : ∀ {K d v R H}, Rdb K R H → S.rep d v R → TyX K H v (.type ty)
end
end Hd
namespace Hd
open PySem PySem.Spec L2
section
variable {p : Pr} {sc : Scope} {NN VV GG : List Str} {k : Nat} {g : G} {L L' : List Slot} {a b c e e' : Expr} {es : List Expr} {md md' : Md} {α β γ δ ρ : Type} {S : Ty α} {T : Ty β} {U : Ty γ} {A : Ar δ} {pos : Pos} {K : PySem.W.Frag} {tg : Expr}
theorem RX.tyx {R : RdR} {H : Hp} {a : Addr} {vs : List V} (rb : Rdb K R H) (h : R a (.lst vs)) : TyX K H (.ref a) (.type "list") := by
  rcases rb _ _ h rfl with (h | ⟨o, h⟩) | h
  · exact .base (.lst h)
  · exact .base (.frz h)
  · exact h.elim
theorem RX.tyt {R : RdR} {H : Hp} {a : Addr} {vs : List V} (rb : Rdb K R H) (h : R a (.tup vs)) : TyX K H (.ref a) (.type "tuple") := by
  rcases rb _ _ h rfl with (h | ⟨o, h⟩) | h
  · exact .base (.tup h)
  · exact .fTuple h
  · obtain ⟨o, its, n, h1, h2, _⟩ := (show ∃ (o : Obj) (its : Array Value) (n : Nat), K.lookup a = some o ∧ o.cls = .type "tuple" ∧ o.data = .seq its n ∧ its.size ≤ sizeLine ∧ Vals vs its.toList from h)
    exact .kTuple h1 h2
theorem i_int : IsT tInt "int" := ⟨fun rb h => by cases h; exact .base (.int _)⟩
theorem i_str : IsT tStr "str" := ⟨fun rb h => by cases h.1; exact .base (.str _)⟩
theorem i_list : IsT (tList S) "list" := ⟨fun rb ⟨a, vs, e, h, _⟩ => by subst e; exact RX.tyx rb h⟩
theorem i_tup : IsT (tTup A) "tuple" := ⟨fun rb ⟨a, vs, e, h, _⟩ => by subst e; exact RX.tyt rb h⟩
/-- a built-in class by its name -/
def tTy (n : String) : Ty Unit := ⟨fun _ v _ => v = .ty n, fun h _ => h⟩
theorem ev_ty {j : Nat} {x : Str} {n : String} (ok : Ok p sc NN VV GG k g) (hG : GG[j]? = some x) (hmg : p.mg x = none) (hv : bootBuiltins x = some (.type n)) : EvE g L (.Name x pos) md (tTy n) (.ok ()) := by
  obtain ⟨hg, ho⟩ := ok.gl hG
  obtain ⟨h1, _, h3⟩ := okName_d ho
  exact PE.imp (pe_bltn (v := .ty n) hg (by rw [ok.mg]; exact hmg) hv rfl h3 h1) fun σ H Q ⟨kp, own, at_, q⟩ => q _ H (Same.refl H) rfl
theorem ev_isi {j : Nat} {ty n : String} {r : Bool} {m : M α} {pp : Pos} (ok : Ok p sc NN VV GG k g) (hG : GG[j]? = some "isinstance") (hmg : p.mg "isinstance" = none) (hT : IsT S ty) (hr : kitB ty n = some r) (ha : EvE g L a md S m) (hb : EvE g L b md (tTy n) (.ok ()))
    (hs1 : starEach (a :: [b]) g.X.env = (false, eval a g.X.env) :: starEach [b] g.X.env := by rfl) (hs2 : starEach [b] g.X.env = (false, eval b g.X.env) :: starEach [] g.X.env := by rfl) (hpl : (backTo pos (starEach [b] g.X.env)).any (·.1) = false := by rfl) :
    EvE g L (.Call (.Name "isinstance" pp) [a, b] [] pos) md' tBool (m.bind fun _ => .ok r) := by
  have h := ev_callB (md' := md') (U := tBool) (A := aCons S (aCons (tTy n) aNil)) (f := fun _ => .ok r) (fr := true) (pos := pos) (pp := pp) ok (id := "isinstance") call_isi ⟨fun {d xs R H Q} rb ⟨v, w, e1, h1, v2, w2, e2, h2, e3⟩ q => by
    subst e1; subst e2; cases (show w2 = [] from e3); cases h2
    exact ⟨v, .ty n, .type ty, .type n, r, rfl, .ty n, hT.t (by rw [ok.K]; exact rb) h1, kit_ty hr, q _ _ (Same.refl _) rfl⟩⟩ (fun _ _ h => nomatch h) .fresh hG hmg (by decide +kernel) (eva_cons ha (eva_cons hb eva_nil hs2) hs1) hs1 hpl
  have e : (m.bind fun d => ((M.ok ()).bind fun d => (M.ok ()).bind fun e => M.ok (d, e)).bind fun e => M.ok (d, e)).bind (fun d => M.ok r) = m.bind fun _ => .ok r := by cases m <;> rfl
  rwa [e] at h
theorem evi_str {m : M Tx} (he : EvE g L e md tStr m) : EvI g L tg e tStr (m.bind fun x => .ok (x.map fun c => [c])) := by
  refine PI.imp (pi_str he) fun σ H R ⟨kp, own, at_, q⟩ => ?_
  refine tE_iff.mpr ⟨kp, own, at_, ?_⟩
  cases m with
  | ok xs =>
    rintro v H' s ⟨rfl, hok⟩
    refine ⟨toS xs, rfl, q (Its (toS xs)) H' s fun H2 rb i => ?_⟩
    refine ⟨fun d hd => ?_, fun hn => ?_⟩
    · rw [List.getElem?_map] at hd
      cases hi : xs[i]? with
      | none => rw [hi] at hd; cases hd
      | some c =>
        rw [hi] at hd
        cases hd
        have hlt := (List.getElem?_eq_some_iff.mp hi).1
        refine ⟨by show i < xs.toArray.size; simpa using hlt, fun x H3 ⟨e, c', h1, h2⟩ => ?_⟩
        subst e
        have : c' = c := by
          have h1' : xs.toArray[i]? = some c' := h1
          rw [List.getElem?_toArray, hi] at h1'
          exact (Option.some.inj h1').symm
        subst this
        exact ⟨Same.refl _, h2, by show 1 ≤ sizeLine; decide, fun c2 hc2 => by rw [List.mem_singleton.mp hc2]; exact hok.2 _ (List.mem_of_getElem? hi)⟩
    · rw [List.getElem?_eq_none_iff, List.length_map] at hn
      show xs.toArray.size ≤ i
      simpa using hn
  | ex c => exact q
  | no => exact q
/-- the whole numbers from lo on, n many -/
def upFrom (lo : Int) : Nat → List Int
  | 0 => []
  | n + 1 => lo :: upFrom (lo + 1) n
theorem upFrom_get (n : Nat) : ∀ (lo : Int) (i : Nat), (upFrom lo n)[i]? = if i < n then some (lo + i) else none := by
  induction n with
  | zero => intro lo i; simp [upFrom]
  | succ n ih =>
    intro lo i
    cases i with
    | zero => simp [upFrom]
    | succ i =>
      rw [upFrom, List.getElem?_cons_succ, ih]
      by_cases h : i < n
      · rw [if_pos h, if_pos (by omega)]
        congr 1
        push_cast
        omega
      · rw [if_neg h, if_neg (by omega)]
theorem upFrom_len (n : Nat) : ∀ lo : Int, (upFrom lo n).length = n := by
  induction n with
  | zero => intro lo; rfl
  | succ n ih => intro lo; simp [upFrom, ih]
/-- range(lo, hi) -/
def rangeM (lo hi : Int) : M (List Int) := if -(2 ^ 62) ≤ lo ∧ lo < 2 ^ 62 ∧ -(2 ^ 62) ≤ hi ∧ hi < 2 ^ 62 then .ok (upFrom lo (hi - lo).toNat) else .no
theorem itr_ok {kp : RdR} {lo : Int} {n : Nat} : ItOk K kp (Itr lo n) tInt (upFrom lo n) := fun H rb i => by
  rw [upFrom_get]
  refine ⟨fun d hd => ?_, fun hn => ?_⟩
  · by_cases h : i < n
    · rw [if_pos h] at hd
      cases hd
      exact ⟨h, fun x H' ⟨e, hx⟩ => by subst e; exact ⟨Same.refl _, hx⟩⟩
    · rw [if_neg h] at hd; cases hd
  · by_cases h : i < n
    · rw [if_pos h] at hn; cases hn
    · exact Nat.le_of_not_lt h
theorem evi_range1 {j : Nat} {m : M Int} {pp : Pos} (ok : Ok p sc NN VV GG k g) (hG : GG[j]? = some "range") (hmg : p.mg "range" = none) (ha : EvE g L a md tInt m) (hs : starEach [a] g.X.env = (false, eval a g.X.env) :: starEach [] g.X.env := by rfl) :
    EvI g L tg (.Call (.Name "range" pp) [a] [] pos) tInt (m.bind fun n => rangeM 0 n) := by
  obtain ⟨hg, ho⟩ := ok.gl hG
  refine PI.imp (pi_range1 hg (by rw [ok.mg]; exact hmg) (eva_cons ha eva_nil hs) hs) fun σ H R ⟨kp, own, at_, q⟩ => ?_
  refine tA_iff.mpr ⟨kp, own, at_, ?_⟩
  cases m with
  | ok n =>
    rintro vs H' s ⟨v, r, rfl, rfl, e3⟩
    cases (show r = [] from e3)
    simp only [M.bind_ok] at q
    unfold rangeM at q
    split at q
    · rename_i xs h1
      split at h1
      · rename_i h
        cases h1
        refine ⟨n, rfl, h.2.2.1, h.2.2.2, q _ H' s ?_⟩
        rw [Int.sub_zero]
        exact itr_ok
      · cases h1
    · rename_i h1; split at h1 <;> cases h1
    · exact q.elim
  | ex c => exact q
  | no => exact q
theorem At.mut {fm : Fm} {kp : RdR} {σ : L2.St} {H : Hp} {own : List Addr} {b : Bool} {ds : List α} {i : Nat} (h : At fm kp L σ H own) (hL : L[i]? = some (sOwn b S ds)) :
    ∃ p vs, σ[i]? = some (some (.ref p)) ∧ H p = some (.lst vs) ∧ Reps S (RB fm own H b) ds vs ∧ ∀ ds' vs', Reps S (RB fm own H b) ds' vs' → At fm kp (L.set i (sOwn b S ds')) σ (upd H p (.lst vs')) own := by
  obtain ⟨h1, h2, ⟨Fs, h3, rfl⟩, h4, h5, h6⟩ := h
  obtain ⟨v, F, e1, e2, q, vs, rfl, rfl, hp, r⟩ := h3.get hL
  have qin : q ∈ Fs.flatten := List.mem_flatten.mpr ⟨[q], List.mem_of_getElem? e2, by simp⟩
  refine ⟨q, vs, e1, hp, r, fun ds' vs' r' => ?_⟩
  have key : ∀ (md : Md) a o, RX fm Fs.flatten H H md a o → RX fm Fs.flatten (upd H q (.lst vs')) (upd H q (.lst vs')) md a o ∨ md = .fx := fun md a o z => by
    cases md with
    | sh =>
      rcases z with z | z
      · have n : a ≠ q := fun e => z.2.1 (by rw [e]; exact qin)
        refine .inl (.inl ⟨?_, z.2⟩)
        unfold Rd
        rw [cl_upd_ne n]
        exact z.1
      · exact .inl (.inr z)
    | f0 =>
      have n : a ≠ q := fun e => z.2.1 (by rw [e]; exact qin)
      exact .inl ⟨by rw [cl_upd_ne n]; exact z.1, z.2⟩
    | fx => exact .inr rfl
  have keyB : ∀ (b : Bool) a o, RB fm Fs.flatten H b a o → RB fm Fs.flatten (upd H q (.lst vs')) b a o := fun b a o z => by
    cases b with
    | false => exact (key .sh a o z).resolve_right (fun e => nomatch e)
    | true => exact (key .f0 a o z).resolve_right (fun e => nomatch e)
  have up : ∀ a, H a ≠ none → upd H q (.lst vs') a ≠ none := fun a n => by
    by_cases e : a = q
    · rw [e, upd_same]; exact fun z => by cases z
    · rw [upd_ne e]; exact n
  refine ⟨h1.wr (h5 q qin).2.1 hp (fun _ z => nomatch z) rfl, fun a z => up a (h2 a z), ⟨Fs, ?_, rfl⟩, h4, fun x hx => ⟨up x (h5 x hx).1, (h5 x hx).2⟩, fun a o z => (key .sh a o (h6 a o z)).resolve_right (fun e => nomatch e)⟩
  · -- the slots
    have gen : ∀ {L : List Slot} {σ : L2.St} {Fs' : List (List Addr)}, AllS H (RB fm Fs.flatten H) L σ Fs' → Fs'.flatten.Nodup → ∀ {i : Nat}, Fs'[i]? = some [q] → L[i]? = some (sOwn b S ds) → σ[i]? = some (some (V.ref q)) →
        AllS (upd H q (.lst vs')) (RB fm Fs.flatten (upd H q (.lst vs'))) (L.set i (sOwn b S ds')) σ Fs' := by
      intro L σ Fs' hA
      induction hA with
      | nil => intro _ i e _ _; simp at e
      | @cons sl L v σ F Fs' r t ih =>
        intro nd i e eL eσ
        rw [List.flatten_cons, List.nodup_append] at nd
        cases i with
        | zero =>
          simp at e eL eσ
          subst e; subst eL; subst eσ
          refine .cons ⟨q, vs', rfl, rfl, upd_same, r'.mono (keyB b)⟩ (t.st keyB fun x hx => ?_)
          exact upd_ne fun z => nd.2.2 q (by simp) x hx z.symm
        | succ i =>
          have e' : Fs'[i]? = some [q] := by simpa using e
          refine .cons (sl.st r keyB fun x hx => upd_ne fun z => nd.2.2 x hx q (List.mem_flatten.mpr ⟨[q], List.mem_of_getElem? e', by simp⟩) z) (ih nd.2.1 e' (by simpa using eL) (by simpa using eσ))
    exact gen h3 h4 e2 hL e1
def lim : Nat := sizeLine
def pushM {α : Type} (xs : List α) (d : α) : M (List α) := if xs.length < sizeLine then .ok (xs ++ [d]) else .no
def setM {α : Type} (xs : List α) (i : Int) (d : α) : M (List α) := match L2.ixN xs.length i with | some j => .ok (xs.set j d) | none => .no
variable {st : List Stmt} {D : δ → Out} {i j : Nat} {x : Str}
theorem evb_append {bb : Bool} {ds : List α} {m : M α} {f : List α → M δ} {p1 ap cp : Pos} (ok : OkS p sc NN VV GG k g) (wk : Wk L g.LX) (hN : NN[i]? = some x) (hV : VV[j]? = some x) (hL : L[i]? = some (sOwn bb S ds)) (hb : SlB md bb)
    (he : EvE g L e md S m) (hr : ∀ ds', EvB g (L.set i (sOwn bb S ds')) st D (f ds'))
    (hs : swapsWith (.Call (.Attribute (.Name x p1) "append" ap) [e] [] cp) none pos.line g.X.env = pure false := by rfl)
    (hbase : attributeBase (.Name x p1) "append" g.X.env (eval (.Name x p1) g.X.env) = eval (.Name x p1) g.X.env := by rfl)
    (hfew : ((backTo cp (starEach [e] g.X.env)).all (fun x => !x.1) && (backToKw cp (keywordEach [] g.X.env)).all (fun x => x.1.isSome)
      && decide (([e] : List Expr).length + ([] : List Keyword).length + (if ([] : List Keyword).isEmpty then 0 else 1) < 30)) = true := by rfl)
    (hline : (ap.endLine == cp.line) = true := by rfl) (hst : starEach [e] g.X.env = (false, eval e g.X.env) :: starEach [] g.X.env := by rfl) (hpl : (backTo cp (starEach [] g.X.env)).any (·.1) = false := by rfl) :
    EvB g L (.Expr (.Call (.Attribute (.Name x p1) "append" ap) [e] [] cp) pos :: st) D (m.bind fun d => (pushM ds d).bind f) := by
  obtain ⟨hv, ho⟩ := ok.vis hV
  obtain ⟨h1, h2, _⟩ := okName_d ho
  refine PSs.imp (pss_cons (ps_expr (pe_bm PySem.F.plainAttrs_list PySem.F.slot_list_append PySem.F.type_list_append mt_append (pe_var (i := i) (by rw [ok.N]; exact hN) hv h1 h2) (pa_cons he pa_nil hst) (hbase := hbase) (hfew := hfew) (hline := hline) (hs := hst) (hplain := hpl)) hs) (PSs.ex hr)) fun E σ H ⟨kp, own, at_, q⟩ => ?_
  obtain ⟨p', vs, e1, hp, r, mu⟩ := at_.mut hL
  refine ⟨_, e1, Or.inl ⟨rfl, _, SqL.of hp⟩, tE_iff.mpr ⟨kp, own, at_, ?_⟩⟩
  cases m with
  | ok d =>
    intro v H1 s1 r1
    have a1 := at_.ext s1
    obtain ⟨p2, vs2, e12, hp2, rr2, mu2⟩ := a1.mut hL
    rw [e1] at e12
    cases e12
    have q : BOk g kp E D ((pushM ds d).bind f) := q
    unfold pushM at q
    split at q
    · rename_i hlt
      refine ⟨_, vs2, v, rfl, rfl, hp2, by rw [← rr2.length]; exact hlt, ds ++ [d], kp, own, mu2 _ _ (rr2.append (.cons (S.mono r1 hb.rb) .nil)), q⟩
    · exact q.elim
  | ex c => exact BOk.exx wk at_ q
  | no => exact q
theorem evb_setitem {bb : Bool} {ds : List α} {m : M α} {mi : M Int} {f : List α → M δ} {ix : Expr} {p1 p2 : Pos} (ok : OkS p sc NN VV GG k g) (wk : Wk L g.LX) (hN : NN[i]? = some x) (hV : VV[j]? = some x) (hL : L[i]? = some (sOwn bb S ds)) (hb : SlB md bb)
    (he : EvE g L e md S m) (hi : EvE g L ix md' tInt mi) (hr : ∀ ds', EvB g (L.set i (sOwn bb S ds')) st D (f ds'))
    (hs : swapsWith e (some (.Subscript (.Name x p1) ix p2)) pos.line g.X.env = pure false := by rfl)
    (hsub : ∀ v, assign (.Subscript (.Name x p1) ix p2) g.X.env v = (do
      let ov ← holding [v] (eval (.Name x p1) g.X.env)
      let iv ← holding [v, ov] (eval ix g.X.env)
      standAt p2
      holding [v, ov, iv] (setItem ov iv v)
      release [v, ov, iv] []) := by intro _; rfl)
    (hs' : swapsWithSole [.Subscript (.Name x p1) ix p2] e pos.line g.X.env = pure false := by rfl) (hw : swappedStores [.Subscript (.Name x p1) ix p2] e g.X.env = pure none := by rfl) (ha1 : (assignEach [.Subscript (.Name x p1) ix p2] g.X.env).map (·.2) = [assign (.Subscript (.Name x p1) ix p2) g.X.env] := by rfl) :
    EvB g L (.Assign [.Subscript (.Name x p1) ix p2] e pos :: st) D (m.bind fun d => mi.bind fun i => (setM ds i d).bind f) := by
  obtain ⟨hv, ho⟩ := ok.vis hV
  obtain ⟨h1, h2, _⟩ := okName_d ho
  refine PSs.imp (pss_cons (ps_asg he (pg_sub (pe_var (i := i) (by rw [ok.N]; exact hN) hv h1 h2) hi set_list hsub) hs' hw ha1) (PSs.ex hr)) fun E σ H ⟨kp, own, at_, q⟩ => ?_
  refine tE_iff.mpr ⟨kp, own, at_, ?_⟩
  cases m with
  | ok d =>
    intro v H1 s1 r1
    have a1 := at_.ext s1
    obtain ⟨p', vs, e1, hp, r, mu⟩ := a1.mut hL
    refine ⟨_, e1, tE_iff.mpr ⟨kp, own, a1, ?_⟩⟩
    cases mi with
    | ok n =>
      intro v2 H2 s2 r2
      have a2 := a1.ext s2
      obtain ⟨p2, vs2, e12, hp2, rr2, mu2⟩ := a2.mut hL
      rw [e1] at e12
      cases e12
      have q : BOk g kp E D ((setM ds n d).bind f) := q
      unfold setM at q
      split at q
      · rename_i jj hj
        refine ⟨_, vs2, n, jj, rfl, r2, hp2, by rw [← rr2.length]; exact hj, ds.set jj d, kp, own, mu2 _ _ (rr2.set (S.mono r1 fun a o z => RB.same s2 bb a o (hb.rb a o z)) jj), q⟩
      · exact q.elim
    | ex c => exact BOk.exx wk a1 q
    | no => exact q
  | ex c => exact BOk.exx wk at_ q
  | no => exact q
end
end Hd
namespace Hd
open PySem PySem.Spec L2
section
variable {p : Pr} {sc : Scope} {NN VV GG VV' GG' : List Str} {k : Nat} {g : G} {L L' : List Slot} {a b c e e' : Expr} {es : List Expr} {md md' : Md} {α β γ δ ρ : Type} {S : Ty α} {T : Ty β} {U : Ty γ} {A : Ar δ} {pos : Pos} {K : PySem.W.Frag} {tg : Expr}
def tGs (fm : Fm) (A : Ar δ) (L : List Slot) (Lt : δ → List Slot) : TGs := fun vs σ H Q => ∃ kp own d, At fm kp L σ H own ∧ A.rep d vs (RD fm own H) ∧ ∀ σ' own', At fm kp (Lt d) σ' H own' → (∀ p ∈ own', p ∈ own) → Q σ' H
def EvGs (g : G) (es : List Expr) (A : Ar δ) (L : List Slot) (Lt : δ → List Slot) : Prop := PGs g.X es (tGs g.fm A L Lt)
theorem PGs.imp {X : Cx} {es : List Expr} {t t' : TGs} (h : PGs X es t) (k : ∀ v σ H Q, t' v σ H Q → t v σ H Q) : PGs X es t' := ⟨fun pins s σ H v u Q I r q => h.run pins s σ H v u Q I r (k _ _ _ _ q)⟩
theorem PGs.ex {X : Cx} {ι : Type} {es : List Expr} {t : ι → TGs} (h : ∀ d, PGs X es (t d)) : PGs X es (fun v σ H Q => ∃ d, t d v σ H Q) := ⟨fun pins s σ H v u Q I r ⟨d, q⟩ => (h d).run pins s σ H v u Q I r q⟩
theorem evgs_nil : EvGs g [] aNil L (fun _ => L) := by
  refine PGs.imp pgs_nil fun v σ H Q ⟨kp, own, d, at_, r, q⟩ => ⟨r, q σ own at_ fun _ h => h⟩
theorem evgs_cons {Lt1 : α → List Slot} {Lt2 : α → δ → List Slot} (h1 : EvG g e S L Lt1) (h2 : ∀ d, EvGs g es A (Lt1 d) (Lt2 d)) (hs : (assignEach (e :: es) g.X.env).map (·.2) = assign e g.X.env :: (assignEach es g.X.env).map (·.2) := by rfl) :
    EvGs g (e :: es) (aCons S A) L (fun d => Lt2 d.1 d.2) := by
  refine PGs.imp (pgs_cons h1 (PGs.ex h2) hs) fun vs σ H Q ⟨kp, own, d, at_, ⟨v, r, e1, r1, r2⟩, q⟩ => ?_
  refine ⟨v, r, e1, kp, own, d.1, at_, r1, fun σ' own' a' sub => ⟨d.1, kp, own', d.2, a', A.mono r2 (RX.own (md := .sh) (H := H) sub), fun σ2 own2 a2 sub2 => q σ2 own2 a2 fun p hp => sub p (sub2 p hp)⟩⟩
theorem evg_tup {Lt : δ → List Slot} {n k' : Nat} (ok : Ok p sc NN VV GG k g) (hl : ∀ {d vs R}, A.rep d vs R → vs.length = n) (h : EvGs g es A L Lt)
    (hn : (assignEach es g.X.env).length = n := by rfl) (hst : (assignEach es g.X.env).findIdx? (·.1) = none := by rfl) : EvG g (.Tuple es k' pos) (tTup A) L Lt := by
  refine PG.imp (pg_tup ok.calm h hn hst) fun v σ H Q ⟨kp, own, d, at_, ⟨a, vs, e, hr, rr⟩, q⟩ => ?_
  subst e
  exact ⟨a, vs, rfl, (ok.fmK.trans ok.K.symm) ▸ RX.tup (md := .sh) (H := H) hr, hl rr, kp, own, d, at_, rr, q⟩
theorem len0 {d : Unit} {vs : List V} {R : RdR} (h : aNil.rep d vs R) : vs.length = 0 := by cases (show vs = [] from h); rfl
theorem lenS {n : Nat} (h : ∀ {d vs R}, A.rep d vs R → vs.length = n) {d : α × δ} {vs : List V} {R : RdR} (q : (aCons S A).rep d vs R) : vs.length = n + 1 := by
  obtain ⟨v, r, e, _, h2⟩ := q
  rw [e, List.length_cons, h h2]
variable {st : List Stmt} {D : δ → Out} {i j : Nat} {x : Str}
/-- a, b = e -/
theorem evb_asg {m : M α} {Lt : α → List Slot} {f : α → M δ} (ok : OkS p sc NN VV GG k g) (wk : Wk L g.LX) (he : EvE g L e md S m) (hG : EvG g tg S L Lt) (hr : ∀ d, EvB g (Lt d) st D (f d))
    (hs : swapsWithSole [tg] e pos.line g.X.env = pure false := by rfl) (hw : swappedStores [tg] e g.X.env = pure none := by rfl) (h1 : (assignEach [tg] g.X.env).map (·.2) = [assign tg g.X.env] := by rfl) :
    EvB g L (.Assign [tg] e pos :: st) D (m.bind f) := by
  refine PSs.imp (pss_cons (ps_asg he hG hs hw h1) (PSs.ex hr)) fun E σ H ⟨kp, own, at_, q⟩ => ?_
  refine tE_iff.mpr ⟨kp, own, at_, ?_⟩
  cases m with
  | ok d => exact fun v H' s r => ⟨kp, own, d, at_.ext s, S.mono r RX.sh, fun σ' own' a' _ => ⟨d, kp, own', a', q⟩⟩
  | ex c => exact BOk.exx wk at_ q
  | no => exact q
def compG {α β : Type} (h : α → M (Option β)) : List α → M (List β)
  | [] => .ok []
  | x :: r => (h x).nox.bind fun o => (compG h r).bind fun l => .ok (o.toList ++ l)
def compM {α β : Type} (h : α → M (Option β)) (xs : List α) : M (List β) := if xs.length ≤ sizeLine then compG h xs else .no
theorem lookup_rl {env : Env} {x : Str} : ∀ {names : List (Str × NameKind)} {kd : NameKind}, names.lookup x = some kd →
    (names.map fun (n, k) => if (k == NameKind.free && env.scope.kind == .function && env.kindOf n == some .cell) then (n, NameKind.cell) else (n, k)).lookup x = some kd ∨
      (kd = .free ∧ (names.map fun (n, k) => if (k == NameKind.free && env.scope.kind == .function && env.kindOf n == some .cell) then (n, NameKind.cell) else (n, k)).lookup x = some .cell)
  | [], _, h => by simp at h
  | (n, k') :: r, kd, h => by
    rw [List.lookup_cons] at h
    rw [List.map_cons]
    by_cases e : x == n
    · rw [e] at h
      cases h
      dsimp only
      split
      · rename_i hh
        refine .inr ⟨?_, by rw [List.lookup_cons, e]⟩
        simp only [Bool.and_eq_true, beq_iff_eq] at hh
        exact hh.1.1
      · exact .inl (by rw [List.lookup_cons, e])
    · have e : (x == n) = false := by simpa using e
      rw [e] at h
      dsimp only
      have ih := lookup_rl (env := env) (x := x) (names := r) h
      split <;> (rw [List.lookup_cons, e]; exact ih)
theorem vis_rl {scope : Scope} {env : Env} {x : Str} (h : Vis scope x) : Vis (relabel scope env) x := by
  rcases h with h | h | h <;> rcases lookup_rl (env := env) h with q | ⟨q, q2⟩
  · exact .inl q
  · cases q
  · exact .inr (.inl q)
  · cases q
  · exact .inr (.inr q)
  · exact .inr (.inl q2)
theorem gl_rl {scope : Scope} {env : Env} {x : Str} (h : scope.names.lookup x = some .globalImplicit) : (relabel scope env).names.lookup x = some .globalImplicit := by
  rcases lookup_rl (env := env) h with q | ⟨q, q2⟩
  · exact q
  · cases q
theorem _root_.L2.BlkOk.relab {N : List Str} {sc scope : Scope} {env : Env} {own : List (Str × Nat)} (h : BlkOk N sc scope own) : BlkOk N (relabel sc env) scope own :=
  ⟨h.kind, h.uniq, h.ix, fun y hy e => by
    rcases h.free y hy e with q | q <;> rcases lookup_rl (env := env) q with z | ⟨z, z2⟩
    · exact .inl z
    · cases z
    · exact .inr z
    · exact .inl z2, h.own⟩
/-- where the inner part of a comprehension stands -/
theorem blk_ok (ok : Ok p sc NN VV GG k g) {scope : Scope} {s : Shared} {H : Hp} {C : Addr} {cl : List (Str × Addr)} {fp : List Addr} {fm : Fm} (hK : fm.K = p.K ∧ ∀ P, p.T = some P → LamX.TabS fm.H0 P lamQ) (hv : VV'.all (seenB scope) = true) (hg : GG'.all (glB scope) = true) :
    Ok p scope NN VV' GG' k ⟨g.X.blk s H scope (compEnvC scope cl C g.X.env) fp, fm, fun _ _ _ => False, []⟩ :=
  { prog := ok.prog, w := ok.w, K := ok.K, mg := ok.mg, base := ok.base, N := ok.N, fmK := hK.1, tab := hK.2, room := ok.room, nd := ok.nd
    vis := fun e => let h := seenB_v (List.all_eq_true.mp hv _ (List.mem_of_getElem? e)); ⟨vis_rl h.2, h.1⟩
    gl := fun e => let h := glB_v (List.all_eq_true.mp hg _ (List.mem_of_getElem? e)); ⟨gl_rl h.2, h.1⟩
    tk := Takes.imp takes0 (fun cls d σ H ⟨c, e1, e2, h⟩ => h)
    calm := ok.calm
    blk := fun h => (blkOk_by h).relab }
theorem wipe1 {σ : L2.St} {v : V} : wipe ((wipe σ [i]).set i (some v)) [i] = wipe σ [i] := by
  show ((σ.set i none).set i (some v)).set i none = σ.set i none
  rw [List.set_set, List.set_set]
def NoOwn (s : Slot) : Prop := ∀ {v H R F}, s.ok v H R F → F = []
theorem no_any : NoOwn sAny := fun h => h
theorem At.setN {fm : Fm} {kp : RdR} {σ : L2.St} {H : Hp} {own : List Addr} {s s' : Slot} {v : Option V} (h : At fm kp L σ H own) (hL : L[i]? = some s) (hs : NoOwn s) (r : s'.ok v H (RB fm own H) []) : At fm kp (L.set i s') (σ.set i v) H own := by
  obtain ⟨h1, h2, ⟨Fs, h3, rfl⟩, h4, h5, h6⟩ := h
  obtain ⟨v0, F, e1, e2, r0⟩ := h3.get hL
  have e : (Fs.set i []).flatten = Fs.flatten := set_same_nil (by rw [e2, hs r0])
  exact ⟨h1, h2, ⟨Fs.set i [], h3.set r i, e.symm⟩, h4, h5, h6⟩
theorem PTs.ex {X : Cx} {ι : Type} {ifs : List Expr} {t : ι → TT} (h : ∀ d, PTs X ifs (t d)) : PTs X ifs (fun σ H Q => ∃ d, t d σ H Q) := ⟨fun pins s σ H Q I ⟨d, q⟩ => (h d).run pins s σ H Q I q⟩
theorem PE.ex {X : Cx} {ι : Type} {e : Expr} {t : ι → TE} (h : ∀ d, PE X e (t d)) : PE X e (fun σ H Q => ∃ d, t d σ H Q) := ⟨fun pins s σ H Q I ⟨d, q⟩ => (h d).run pins s σ H Q I q⟩
theorem M.bind_assoc {α β γ : Type} (m : M α) (f : α → M β) (h : β → M γ) : (m.bind f).bind h = m.bind fun x => (f x).bind h := by cases m <;> rfl
theorem PS.imp {X : Cx} {e : Stmt} {t t' : TS} (h : PS X e t) (k : ∀ E σ H, t' E σ H → t E σ H) : PS X e t' := ⟨fun pins s σ H D I q => h.run pins s σ H D I (k _ _ _ q)⟩
/-- [elt for x in it if c] -/
theorem evl_lc2 {scope : Scope} {it elt : Expr} {m : M (List α)} {cm : α → M Bool} {f : α → M β} {tp : Pos} {ifs : List Expr} {s₀ : Slot} (ok : Ok p sc NN VV GG k g) (hI : EvI g L (.Name x tp) it S m) (hN : NN[i]? = some x) (hLi : L[i]? = some s₀) (hs₀ : NoOwn s₀) (hb : blkC NN sc scope [(x, i)] = true)
    (hv : VV'.all (seenB scope) = true) (hg : GG'.all (glB scope) = true) (hx : locB scope x = true)
    (hc : ∀ g', Ok p scope NN VV' GG' k g' → ∀ d, PTs g'.X ifs (tT g'.fm g'.W (L.set i (sV false S d)) (cm d)))
    (he : ∀ g', Ok p scope NN VV' GG' k g' → ∀ d, EvE g' (L.set i (sV false S d)) elt md T (f d)) (hs : ∀ x, foldedSetIterable it g.X.env x = pure x := by intro _; rfl) :
    (EvL g L (.ListComp elt [⟨.Name x tp, it, ifs, 0⟩] scope pos) md T (m.bind fun xs => compM (fun d => (cm d).bind fun c => if c = true then (f d).bind fun y => .ok (some y) else .ok none) xs)) ∧
    (∀ {y : Str} {i2 : Nat} {py spos : Pos}, NN[i2]? = some y → g.X.env.scope.names.lookup y = some .local → swapsWith (.ListComp elt [⟨.Name x tp, it, ifs, 0⟩] scope pos) (some (.Name y py)) spos.line g.X.env = pure true →
      PS g.X (.Assign [.Name y py] (.ListComp elt [⟨.Name x tp, it, ifs, 0⟩] scope pos) spos) (tAsg (tL g.fm g.W L md T (m.bind fun xs => compM (fun d => (cm d).bind fun c => if c = true then (f d).bind fun y => .ok (some y) else .ok none) xs)) (gName i2))) := by
  have loc : ∀ (s : Shared) (H : Hp) (C : Addr) (cl : List (Str × Addr)) (fp : List Addr), L2.Loc (g.X.blk s H scope (compEnvC scope cl C g.X.env) fp).env.scope x ∧ ((g.X.blk s H scope (compEnvC scope cl C g.X.env) fp).fn x = true ∨ (g.X.blk s H scope (compEnvC scope cl C g.X.env) fp).env.scope.names.lookup x = some .local) := by
    intro s H C cl fp
    rcases locB_v hx with h | h
    · have q : (relabel scope g.X.env).names.lookup x = some .local := by
        rcases lookup_rl (env := g.X.env) h with q | ⟨q, _⟩
        · exact q
        · cases q
      exact ⟨.inl q, .inr q⟩
    · have q : (relabel scope g.X.env).names.lookup x = some .cell := by
        rcases lookup_rl (env := g.X.env) h with q | ⟨q, _⟩
        · exact q
        · cases q
      refine ⟨.inr q, .inl ?_⟩
      show (scope.names.lookup x == some .cell) = true
      rw [h]; rfl
  have BODY : ∀ σ H Q, tL g.fm g.W L md T (m.bind fun xs => compM (fun d => (cm d).bind fun c => if c = true then (f d).bind fun y => .ok (some y) else .ok none) xs) σ H Q →
      tLc (tI g.fm g.W L S m) (gName i) (fun σ H Q => ∃ z : {fm' : Fm // fm'.K = p.K ∧ ∀ P, p.T = some P → LamX.TabS fm'.H0 P lamQ} × α, tT z.1.1 (fun _ _ _ => False) (L.set i (sV false S z.2)) (cm z.2) σ H Q)
        (fun σ H Q => ∃ z : {fm' : Fm // fm'.K = p.K ∧ ∀ P, p.T = some P → LamX.TabS fm'.H0 P lamQ} × α, tE z.1.1 (fun _ _ _ => False) (L.set i (sV false S z.2)) md T (f z.2) σ H Q) ([(x, i)].map (·.2)) σ H Q := by
    intro σ H Q q
    obtain ⟨kp, own, at_, q⟩ := tL_iff.mp q
    cases m with
    | ex c => exact ⟨kp, own, at_, q⟩
    | no => exact q.elim
    | ok xs =>
    refine ⟨kp, own, at_, fun J H1 s1 hJ D hD => ?_⟩
    have at1 := at_.ext s1
    have hHD : H D = none := s1.free hD
    -- the inner frame
    let fm' : Fm := ⟨g.fm.K, g.fm.H0, fun a => a = D ∨ g.fm.z a⟩
    let hh : α → M (Option β) := fun d => (cm d).bind fun c => if c = true then (f d).bind fun y => .ok (some y) else .ok none
    have q : FinL g.fm g.W own σ H md T Q (compM hh xs) := q
    unfold compM at q
    split at q
    case isFalse => exact q.elim
    rename_i hlen
    have aw : At g.fm kp (L.set i sAny) (σ.set i none) H1 own := at1.setN hLi hs₀ rfl
    have rdD : ∀ (md : Md) (H0 : Hp) a o, RX g.fm own H0 H1 md a o → RX fm' own H0 (upd H1 D (.lst [])) md a o := fun md H0 a o z => by
      have z2 := RX.add (o' := .lst []) hD a o z
      cases md with
      | sh => exact z2.imp (fun ⟨a1, a2, a3⟩ => ⟨a1, fun y => a2 (List.mem_cons_of_mem _ y), fun y => y.elim (fun e => a2 (by rw [e]; exact List.mem_cons_self)) a3⟩) id
      | f0 => exact ⟨z2.1, fun y => z2.2.1 (List.mem_cons_of_mem _ y), fun y => y.elim (fun e => z2.2.1 (by rw [e]; exact List.mem_cons_self)) z2.2.2.1, z2.2.2.2⟩
      | fx => exact ⟨z2.1, fun y => z2.2.1 (List.mem_cons_of_mem _ y), fun y => y.elim (fun e => z2.2.1 (by rw [e]; exact List.mem_cons_self)) z2.2.2.1, z2.2.2.2⟩
    have a0 : At fm' (RD g.fm own H1) (L.set i sAny) (wipe σ [i]) (upd H1 D (.lst [])) own := by
      obtain ⟨h1, h2, ⟨Fs, h3, e⟩, h4, h5, h6⟩ := aw
      refine ⟨h1.trans (newSame hD), fun a z => ?_, ⟨Fs, h3.st (fun b a o z => ?_) fun y hy => ?_, e⟩, h4, fun y hy => ⟨fun n => (h5 y hy).1 ((newSame hD).free n), (h5 y hy).2.1, fun z => z.elim (fun e => (h5 y hy).1 (by rw [e]; exact hD)) (h5 y hy).2.2⟩, fun a o z => rdD .sh H1 a o z⟩
      · rcases z with z | z
        · rw [z, upd_same]; exact fun n => by cases n
        · exact fun n => h2 a z ((newSame hD).free n)
      · cases b with
        | false => exact rdD .sh H1 a o z
        | true => exact rdD .f0 H1 a o z
      · exact upd_ne fun e' => (h5 y (by rw [e]; exact hy)).1 (by rw [e']; exact hD)
    have upR : ∀ (md : Md) {H5 : Hp} {vs' : List V}, ∀ a o, RX g.fm (D :: own) H H5 md a o → RX g.fm (D :: own) H (upd H5 D (.lst vs')) md a o := fun md {H5 vs'} a o z => by
      have ne : a ∉ D :: own → a ≠ D := fun h e => h (by rw [e]; exact List.mem_cons_self)
      cases md with
      | sh =>
        refine z.imp (fun ⟨a1, a2, a3⟩ => ⟨?_, a2, a3⟩) id
        unfold Rd
        rw [cl_upd_ne (ne a2)]
        exact a1
      | f0 => exact ⟨by rw [cl_upd_ne (ne z.2.1)]; exact z.1, z.2⟩
      | fx => exact ⟨by rw [cl_upd_ne (ne z.2.1)]; exact z.1, z.2⟩
    refine ⟨fun n mm H' => mm = xs.length - n ∧ n ≤ xs.length ∧ ∃ vs ds, H' D = some (.lst vs) ∧ vs.length ≤ n ∧ Same H H' ∧ Reps T (RX g.fm (D :: own) H H' md) ds vs ∧ At fm' (RD g.fm own H1) (L.set i sAny) (wipe σ [i]) H' own ∧
      FinL g.fm g.W own σ H md T Q ((compG hh (xs.drop n)).bind fun l => .ok (ds ++ l)), ⟨_, rfl, Nat.zero_le _, [], [], upd_same, Nat.zero_le _, s1.trans (newSame hD), .nil, a0, ?_⟩, ?_⟩
    · rw [List.drop_zero]
      have e : ((compG hh xs).bind fun l => M.ok ([] ++ l)) = compG hh xs := by cases compG hh xs <;> rfl
      rw [e]; exact q
    rintro n mm H' ⟨rfl, hn, vs, ds, hDv, hvl, sH, rr, a', q'⟩
    have rb : Rdb g.fm.K (RD g.fm own H1) H' := ⟨fun a o z n => (a'.kept a o z).imp (fun h => Rd.raw h.1 n) id⟩
    obtain ⟨hgo, hst⟩ := hJ H' rb n
    by_cases hlt : n < xs.length
    · have hx' : xs[n]? = some xs[n] := by simp [hlt]
      obtain ⟨go, yl⟩ := hgo _ hx'
      refine .inr ⟨go, fun H6 => ∃ vs ds, H6 D = some (.lst vs) ∧ vs.length ≤ n + 1 ∧ Same H H6 ∧ Reps T (RX g.fm (D :: own) H H6 md) ds vs ∧ At fm' (RD g.fm own H1) (L.set i sAny) (wipe σ [i]) H6 own ∧
        FinL g.fm g.W own σ H md T Q ((compG hh (xs.drop (n + 1))).bind fun l => .ok (ds ++ l)), fun H6 z => ⟨xs.length - (n + 1), by omega, rfl, hlt, z⟩, fun y H3 hy => ?_⟩
      obtain ⟨s3, r3⟩ := yl y H3 hy
      have a3 := a'.ext s3
      have ry : S.rep xs[n] y (RD fm' own H3) := S.mono r3 (Nw.rd a' a'.kept s3)
      have hLw : (L.set i sAny)[i]? = some sAny := by
        have hlt' := (List.getElem?_eq_some_iff.mp hLi).1
        rw [List.getElem?_set_self hlt']
      have a4 : At fm' (RD g.fm own H1) (L.set i (sV false S xs[n])) ((wipe σ [i]).set i (some y)) H3 own := by
        have := a3.setN (s' := sV false S xs[n]) (v := some y) hLw no_any ⟨rfl, y, rfl, ry⟩
        rwa [List.set_set] at this
      rw [List.drop_eq_getElem_cons hlt] at q'
      refine ⟨wipe1, ⟨⟨fm', ok.fmK, ok.tab⟩, xs[n]⟩, _, own, a4, ?_⟩
      have q2 : FinL g.fm g.W own σ H md T Q (((hh xs[n]).nox.bind fun o => (compG hh (xs.drop (n + 1))).bind fun l => .ok (o.toList ++ l)).bind fun l => .ok (ds ++ l)) := q'
      cases hcm : cm xs[n] with
      | ex c => rw [show hh xs[n] = .ex c from by show (cm xs[n]).bind _ = _; rw [hcm]; rfl] at q2; exact q2.elim
      | no => rw [show hh xs[n] = .no from by show (cm xs[n]).bind _ = _; rw [hcm]; rfl] at q2; exact q2.elim
      | ok c =>
        intro H4 s4
        cases c with
        | false =>
          rw [show hh xs[n] = .ok none from by show (cm xs[n]).bind _ = _; rw [hcm]; rfl] at q2
          refine (if_neg (by decide)).mpr ?_
          have a5 : At fm' (RD g.fm own H1) (L.set i sAny) (wipe σ [i]) H4 own := a3.ext s4
          refine ⟨vs, ds, s4.keep _ _ (s3.keep _ _ hDv rfl) rfl, Nat.le_succ_of_le hvl, (sH.trans s3).trans s4, rr.mono (RX.same (s3.trans s4)), a5, ?_⟩
          have e : (((M.ok (none : Option β)).nox.bind fun o => (compG hh (xs.drop (n + 1))).bind fun l => M.ok (o.toList ++ l)).bind fun l => M.ok (ds ++ l)) = (compG hh (xs.drop (n + 1))).bind fun l => M.ok (ds ++ l) := by
            cases compG hh (xs.drop (n + 1)) <;> rfl
          rw [e] at q2; exact q2
        | true =>
          refine (if_pos rfl).mpr ⟨⟨⟨fm', ok.fmK, ok.tab⟩, xs[n]⟩, _, own, a4.ext s4, ?_⟩
          cases hf : f xs[n] with
          | ex c => rw [show hh xs[n] = .ex c from by show (cm xs[n]).bind _ = _; rw [hcm]; show (f xs[n]).bind _ = _; rw [hf]; rfl] at q2; exact q2.elim
          | no => rw [show hh xs[n] = .no from by show (cm xs[n]).bind _ = _; rw [hcm]; show (f xs[n]).bind _ = _; rw [hf]; rfl] at q2; exact q2.elim
          | ok w =>
            rw [show hh xs[n] = .ok (some w) from by show (cm xs[n]).bind _ = _; rw [hcm]; show (f xs[n]).bind _ = _; rw [hf]; rfl] at q2
            intro v H5 s5 r5
            have s35 : Same H' H5 := (s3.trans s4).trans s5
            have sHH5 : Same H H5 := sH.trans s35
            have nw : ∀ a o, RX fm' own H4 H5 md a o → RX g.fm (D :: own) H H5 md a o := fun a o z => by
              have nd : ¬ fm'.z a → a ≠ D ∧ ¬ g.fm.z a := fun h => ⟨fun e => h (.inl e), fun e => h (.inr e)⟩
              cases md with
              | sh => exact z.imp (fun ⟨a1, a2, a3⟩ => ⟨a1, fun y => (List.mem_cons.mp y).elim (nd a3).1 a2, (nd a3).2⟩) id
              | f0 => exact ⟨z.1, fun y => (List.mem_cons.mp y).elim (nd z.2.2.1).1 z.2.1, (nd z.2.2.1).2, z.2.2.2⟩
              | fx => exact ⟨z.1, fun y => (List.mem_cons.mp y).elim (nd z.2.2.1).1 z.2.1, (nd z.2.2.1).2, z.2.2.2.1, ((sH.trans s3).trans s4).free z.2.2.2.2⟩
            refine ⟨vs, s35.keep _ _ hDv rfl, by omega, vs ++ [v], ds ++ [w], upd_same, by rw [List.length_append, List.length_singleton]; omega, sHH5.wr hHD (s35.keep _ _ hDv rfl) (fun _ z => nomatch z) rfl, ?_, ?_, ?_⟩
            · exact ((rr.mono (RX.same s35)).append (.cons (T.mono r5 nw) .nil)).mono (upR md)
            · -- the slots at the changed heap
              have a5 : At fm' (RD g.fm own H1) (L.set i sAny) (wipe σ [i]) H5 own := a'.ext s35
              obtain ⟨h1, h2, ⟨Fs, h3, e⟩, h4, h5, h6⟩ := a5
              have ne : ∀ {a : Addr}, ¬ fm'.z a → a ≠ D := fun h e => h (.inl e)
              have k0 : ∀ (md : Md) a o, RX fm' own H5 H5 md a o → md = .fx ∨ RX fm' own (upd H5 D (.lst (vs ++ [v]))) (upd H5 D (.lst (vs ++ [v]))) md a o := fun md a o z => by
                cases md with
                | sh =>
                  refine .inr (z.imp (fun ⟨a1, a2, a3⟩ => ⟨?_, a2, a3⟩) id)
                  unfold Rd
                  rw [cl_upd_ne (ne a3)]
                  exact a1
                | f0 => exact .inr ⟨by rw [cl_upd_ne (ne z.2.2.1)]; exact z.1, z.2⟩
                | fx => exact .inl rfl
              have up : ∀ a, H5 a ≠ none → upd H5 D (.lst (vs ++ [v])) a ≠ none := fun a hne => by
                by_cases e : a = D
                · rw [e, upd_same]; exact fun z => by cases z
                · rw [upd_ne e]; exact hne
              refine ⟨h1.wr (at_.same.free hHD) (s35.keep _ _ hDv rfl) (fun _ z => nomatch z) rfl, fun a z => up a (h2 a z), ⟨Fs, h3.st (fun b a o z => ?_) fun y hy => ?_, e⟩, h4, fun y hy => ⟨up y (h5 y hy).1, (h5 y hy).2⟩, fun a o z => (k0 .sh a o (h6 a o z)).resolve_left fun e => nomatch e⟩
              · cases b with
                | false => exact (k0 .sh a o z).resolve_left fun e => nomatch e
                | true => exact (k0 .f0 a o z).resolve_left fun e => nomatch e
              · exact upd_ne (ne (h5 y (by rw [e]; exact hy)).2.2)
            · have e : (((M.ok (some w)).nox.bind fun o => (compG hh (xs.drop (n + 1))).bind fun l => M.ok (o.toList ++ l)).bind fun l => M.ok (ds ++ l)) = (compG hh (xs.drop (n + 1))).bind fun l => M.ok ((ds ++ [w]) ++ l) := by
                cases compG hh (xs.drop (n + 1)) <;> simp [M.nox, M.bind]
              rw [e] at q2; exact q2
    · have e : n = xs.length := by omega
      subst e
      rw [List.drop_length] at q'
      refine .inl ⟨hst (by simp), ?_⟩
      have q2 : FinL g.fm g.W own σ H md T Q (.ok (ds ++ [])) := q'
      rw [List.append_nil] at q2
      exact q2 D vs H' sH hHD hDv rr
  refine ⟨PE.imp (pe_lc (own := [(x, i)]) ok.calm (by rw [ok.N]; exact ok.nd) hI (by rw [ok.N]; exact ok.blk hb) (fun s H C cl fp => pg_name (i := i) (by show g.X.N.Nodup; rw [ok.N]; exact ok.nd) (by show g.X.N[i]? = _; rw [ok.N]; exact hN) (loc s H C cl fp).1 (loc s H C cl fp).2)
    (fun s H C cl fp => PTs.ex (t := fun (z : {fm' : Fm // fm'.K = p.K ∧ ∀ P, p.T = some P → LamX.TabS fm'.H0 P lamQ} × α) => tT z.1.1 (fun _ _ _ => False) (L.set i (sV false S z.2)) (cm z.2)) fun z => hc ⟨g.X.blk s H scope (compEnvC scope cl C g.X.env) fp, z.1.1, fun _ _ _ => False, []⟩ (blk_ok ok z.1.2 hv hg) z.2) (fun s H C cl fp => PE.ex (t := fun (z : {fm' : Fm // fm'.K = p.K ∧ ∀ P, p.T = some P → LamX.TabS fm'.H0 P lamQ} × α) => tE z.1.1 (fun _ _ _ => False) (L.set i (sV false S z.2)) md T (f z.2)) fun z => he ⟨g.X.blk s H scope (compEnvC scope cl C g.X.env) fp, z.1.1, fun _ _ _ => False, []⟩ (blk_ok ok z.1.2 hv hg) z.2) hs) BODY, fun {y i2 py spos} hy hyl hsw => ?_⟩
  exact PS.imp (ps_setLc (own := [(x, i)]) ok.calm (by rw [ok.N]; exact ok.nd) (by rw [ok.N]; exact hy) hyl hsw hI (by rw [ok.N]; exact ok.blk hb) (fun s H C cl fp => pg_name (i := i) (by show g.X.N.Nodup; rw [ok.N]; exact ok.nd) (by show g.X.N[i]? = _; rw [ok.N]; exact hN) (loc s H C cl fp).1 (loc s H C cl fp).2)
    (fun s H C cl fp => PTs.ex (t := fun (z : {fm' : Fm // fm'.K = p.K ∧ ∀ P, p.T = some P → LamX.TabS fm'.H0 P lamQ} × α) => tT z.1.1 (fun _ _ _ => False) (L.set i (sV false S z.2)) (cm z.2)) fun z => hc ⟨g.X.blk s H scope (compEnvC scope cl C g.X.env) fp, z.1.1, fun _ _ _ => False, []⟩ (blk_ok ok z.1.2 hv hg) z.2) (fun s H C cl fp => PE.ex (t := fun (z : {fm' : Fm // fm'.K = p.K ∧ ∀ P, p.T = some P → LamX.TabS fm'.H0 P lamQ} × α) => tE z.1.1 (fun _ _ _ => False) (L.set i (sV false S z.2)) md T (f z.2)) fun z => he ⟨g.X.blk s H scope (compEnvC scope cl C g.X.env) fp, z.1.1, fun _ _ _ => False, []⟩ (blk_ok ok z.1.2 hv hg) z.2) hs) fun E σ H q => BODY σ H _ q
/-- [elt for x in it if c] -/
theorem evl_lc {scope : Scope} {it elt : Expr} {m : M (List α)} {cm : α → M Bool} {f : α → M β} {tp : Pos} {ifs : List Expr} {s₀ : Slot} (ok : Ok p sc NN VV GG k g) (hI : EvI g L (.Name x tp) it S m) (hN : NN[i]? = some x) (hLi : L[i]? = some s₀) (hs₀ : NoOwn s₀) (hb : blkC NN sc scope [(x, i)] = true)
    (hv : VV'.all (seenB scope) = true) (hg : GG'.all (glB scope) = true) (hx : locB scope x = true)
    (hc : ∀ g', Ok p scope NN VV' GG' k g' → ∀ d, PTs g'.X ifs (tT g'.fm g'.W (L.set i (sV false S d)) (cm d)))
    (he : ∀ g', Ok p scope NN VV' GG' k g' → ∀ d, EvE g' (L.set i (sV false S d)) elt md T (f d)) (hs : ∀ x, foldedSetIterable it g.X.env x = pure x := by intro _; rfl) :
    EvL g L (.ListComp elt [⟨.Name x tp, it, ifs, 0⟩] scope pos) md T (m.bind fun xs => compM (fun d => (cm d).bind fun c => if c = true then (f d).bind fun y => .ok (some y) else .ok none) xs) := (evl_lc2 ok hI hN hLi hs₀ hb hv hg hx hc he hs).1
end
end Hd
namespace Hd
open PySem PySem.Spec L2
section
variable {p : Pr} {sc : Scope} {NN VV GG VV' GG' : List Str} {k : Nat} {g : G} {L L' : List Slot} {a b c e e' : Expr} {es : List Expr} {md md' : Md} {α β γ δ ρ : Type} {S : Ty α} {T : Ty β} {U : Ty γ} {A : Ar δ} {pos : Pos} {K : PySem.W.Frag} {tg : Expr} {i j : Nat} {x : Str}
/-- all slots forgotten -/
theorem wkX {n : Nat} (h : g.LX = List.replicate n sAny) (e : L.length = n) : Wk L g.LX := h ▸ Wk.anys e
theorem ev_gint {i : Int} (ok : Ok p sc NN VV GG k g) (hG : GG[j]? = some x) (h : ∃ t, p.mg x = some (.int i t)) : EvE g L (.Name x pos) md tInt (.ok i) := by
  obtain ⟨t, h⟩ := h
  exact ev_glob (v := .int i) ok hG h ⟨t, rfl⟩ (fun _ => rfl)
theorem ev_b1 {id : String} {r : List V → Hp → VK → Prop} {f : α → M γ} {fr : Bool} {m : M α} {pp : Pos} (ok : Ok p sc NN VV GG k g) (hc : CallR g.X (.builtin id) r)
    (F : ∀ {d v R H Q}, Rdb p.K R H → S.rep d v R → OpEnd U fr R H Q (f d) → r [v] H Q) (hne : ∀ d c, f d ≠ .ex c) (hm : MdOk fr md md')
    (hG : GG[j]? = some x) (hmg : p.mg x = none) (hv : bootBuiltins x = some (.builtin id)) (ha : EvE g L e md S m) (hs : starEach [e] g.X.env = (false, eval e g.X.env) :: starEach [] g.X.env := by rfl) : EvE g L (.Call (.Name x pp) [e] [] pos) md' U (m.bind f) := by
  have h := ev_callB (md' := md') (U := U) (A := aCons S aNil) (f := fun d => f d.1) (fr := fr) (pos := pos) (pp := pp) ok hc ⟨fun {d xs R H Q} rb ⟨v, r, e1, h1, e3⟩ q => by
    subst e1; cases (show r = [] from e3); exact F rb h1 q⟩ (fun d c => hne d.1 c) hm hG hmg hv (eva_cons ha eva_nil hs) hs rfl
  have e : (m.bind fun d => (M.ok ()).bind fun e => M.ok (d, e)).bind (fun d => f d.1) = m.bind f := by cases m <;> rfl
  rwa [e] at h
theorem ev_t1 {id : String} {r : List V → Hp → VK → Prop} {f : α → M γ} {fr : Bool} {m : M α} {pp : Pos} (ok : Ok p sc NN VV GG k g) (hc : CallR g.X (.type id) r)
    (F : ∀ {d v R H Q}, Rdb p.K R H → S.rep d v R → OpEnd U fr R H Q (f d) → r [v] H Q) (hne : ∀ d c, f d ≠ .ex c) (hm : MdOk fr md md')
    (hG : GG[j]? = some x) (hmg : p.mg x = none) (hv : bootBuiltins x = some (.type id)) (ha : EvE g L e md S m) (hs : starEach [e] g.X.env = (false, eval e g.X.env) :: starEach [] g.X.env := by rfl) : EvE g L (.Call (.Name x pp) [e] [] pos) md' U (m.bind f) := by
  have h := ev_callTy (md' := md') (U := U) (A := aCons S aNil) (f := fun d => f d.1) (fr := fr) (pos := pos) (pp := pp) ok hc ⟨fun {d xs R H Q} rb ⟨v, r, e1, h1, e3⟩ q => by
    subst e1; cases (show r = [] from e3); exact F rb h1 q⟩ (fun d c => hne d.1 c) hm hG hmg hv (eva_cons ha eva_nil hs) hs rfl
  have e : (m.bind fun d => (M.ok ()).bind fun e => M.ok (d, e)).bind (fun d => f d.1) = m.bind f := by cases m <;> rfl
  rwa [e] at h
theorem ev_b2 {id : String} {r : List V → Hp → VK → Prop} {f : α → β → M γ} {fr : Bool} {m1 : M α} {m2 : M β} {pp : Pos} (ok : Ok p sc NN VV GG k g) (hc : CallR g.X (.builtin id) r)
    (F : ∀ {d e v w R H Q}, Rdb p.K R H → S.rep d v R → T.rep e w R → OpEnd U fr R H Q (f d e) → r [v, w] H Q) (hne : ∀ d e c, f d e ≠ .ex c) (hm : MdOk fr md md')
    (hG : GG[j]? = some x) (hmg : p.mg x = none) (hv : bootBuiltins x = some (.builtin id)) (ha : EvE g L a md S m1) (hb : EvE g L b md T m2)
    (hs1 : starEach [a, b] g.X.env = (false, eval a g.X.env) :: starEach [b] g.X.env := by rfl) (hs2 : starEach [b] g.X.env = (false, eval b g.X.env) :: starEach [] g.X.env := by rfl)
    (hpl : (backTo pos (starEach [b] g.X.env)).any (·.1) = false := by rfl) : EvE g L (.Call (.Name x pp) [a, b] [] pos) md' U (m1.bind fun d => m2.bind fun e => f d e) := by
  have h := ev_callB (md' := md') (U := U) (A := aCons S (aCons T aNil)) (f := fun d => f d.1 d.2.1) (fr := fr) (pos := pos) (pp := pp) ok hc ⟨fun {d xs R H Q} rb ⟨v, r, e1, h1, w, r2, e2, h2, e3⟩ q => by
    subst e1; subst e2; cases (show r2 = [] from e3); exact F rb h1 h2 q⟩ (fun d c => hne d.1 d.2.1 c) hm hG hmg hv (eva_cons ha (eva_cons hb eva_nil hs2) hs1) hs1 hpl
  have e : (m1.bind fun d => (m2.bind fun d => (M.ok ()).bind fun e => M.ok (d, e)).bind fun e => M.ok (d, e)).bind (fun d => f d.1 d.2.1) = m1.bind fun d => m2.bind fun e => f d e := by cases m1 <;> cases m2 <;> rfl
  rwa [e] at h
variable {m1 m2 : M Int} {pp : Pos}
theorem ev_max2 (ok : Ok p sc NN VV GG k g) (hG : GG[j]? = some "max") (hmg : p.mg "max" = none) (ha : EvE g L a md tInt m1) (hb : EvE g L b md tInt m2)
    (hs1 : starEach [a, b] g.X.env = (false, eval a g.X.env) :: starEach [b] g.X.env := by rfl) (hs2 : starEach [b] g.X.env = (false, eval b g.X.env) :: starEach [] g.X.env := by rfl)
    (hpl : (backTo pos (starEach [b] g.X.env)).any (·.1) = false := by rfl) : EvE g L (.Call (.Name "max" pp) [a, b] [] pos) md' tInt (m1.bind fun x => m2.bind fun y => .ok (max x y)) :=
  ev_b2 (fr := true) (f := fun x y => .ok (max x y)) ok (call_max2 ok.calm) (fun {d e v w R H Q} rb h1 h2 q => by
    refine ⟨d, e, by rw [h1, h2], q _ _ (Same.refl _) ?_⟩
    show V.int _ = V.int _
    congr 1
    split <;> omega) (fun _ _ _ h => nomatch h) .fresh hG hmg (by decide +kernel) ha hb hs1 hs2 hpl
theorem ev_min2 (ok : Ok p sc NN VV GG k g) (hG : GG[j]? = some "min") (hmg : p.mg "min" = none) (ha : EvE g L a md tInt m1) (hb : EvE g L b md tInt m2)
    (hs1 : starEach [a, b] g.X.env = (false, eval a g.X.env) :: starEach [b] g.X.env := by rfl) (hs2 : starEach [b] g.X.env = (false, eval b g.X.env) :: starEach [] g.X.env := by rfl)
    (hpl : (backTo pos (starEach [b] g.X.env)).any (·.1) = false := by rfl) : EvE g L (.Call (.Name "min" pp) [a, b] [] pos) md' tInt (m1.bind fun x => m2.bind fun y => .ok (min x y)) :=
  ev_b2 (fr := true) (f := fun x y => .ok (min x y)) ok (call_min2 ok.calm) (fun {d e v w R H Q} rb h1 h2 q => by
    refine ⟨d, e, by rw [h1, h2], q _ _ (Same.refl _) ?_⟩
    show V.int _ = V.int _
    congr 1
    split <;> omega) (fun _ _ _ h => nomatch h) .fresh hG hmg (by decide +kernel) ha hb hs1 hs2 hpl
def bInt (b : Bool) : Int := if b then 1 else 0
theorem ev_intB {m : M Bool} (ok : Ok p sc NN VV GG k g) (hG : GG[j]? = some "int") (hmg : p.mg "int" = none) (ha : EvE g L a md tBool m) (hs : starEach [a] g.X.env = (false, eval a g.X.env) :: starEach [] g.X.env := by rfl) : EvE g L (.Call (.Name "int" pp) [a] [] pos) md' tInt (m.bind fun x => .ok (bInt x)) :=
  ev_t1 (fr := true) ok call_int1 (fun {d v R H Q} rb h q => .inr ⟨d, by rw [h], q _ _ (Same.refl _) rfl⟩) (fun _ _ h => nomatch h) .fresh hG hmg (by decide +kernel) ha hs
theorem Reps.ints {R : RdR} {ds : List Int} {vs : List V} (r : Reps tInt R ds vs) : vs = ds.map V.int := by
  induction r with
  | nil => rfl
  | cons h _ ih => cases h; rw [ih]; rfl
theorem Reps.bools {R : RdR} {ds : List Bool} {vs : List V} (r : Reps tBool R ds vs) : vs = ds.map V.bl := by
  induction r with
  | nil => rfl
  | cons h _ ih => cases h; rw [ih]; rfl
theorem ev_all {m : M (List Bool)} (ok : Ok p sc NN VV GG k g) (hG : GG[j]? = some "all") (hmg : p.mg "all" = none) (ha : EvE g L a md (tList tBool) m) (hs : starEach [a] g.X.env = (false, eval a g.X.env) :: starEach [] g.X.env := by rfl) : EvE g L (.Call (.Name "all" pp) [a] [] pos) md' tBool (m.bind fun x => .ok (x.all id)) :=
  ev_b1 (S := tList tBool) (fr := true) ok (cr_all ok.calm) (fun {d v R H Q} rb ⟨a, vs, e, h, r⟩ q => ⟨a, d, by rw [e], by rw [← r.bools, ok.K]; exact sq_of rb h, q _ _ (Same.refl _) rfl⟩) (fun _ _ h => nomatch h) .fresh hG hmg (by decide +kernel) ha hs
def maxM : List Int → M Int
  | [] => .no
  | x :: r => .ok (r.foldl max x)
theorem foldl_max_le : ∀ (r : List Int) (x : Int), x ≤ r.foldl max x ∧ (∀ y ∈ r, y ≤ r.foldl max x) ∧ (r.foldl max x = x ∨ r.foldl max x ∈ r)
  | [], x => ⟨Int.le_refl _, (fun _ h => nomatch h), .inl rfl⟩
  | y :: r, x => by
    obtain ⟨h1, h2, h3⟩ := foldl_max_le r (max x y)
    rw [List.foldl_cons]
    refine ⟨by omega, fun z hz => ?_, ?_⟩
    · rcases List.mem_cons.mp hz with e | hz
      · subst e; omega
      · exact h2 z hz
    · rcases h3 with h | h
      · rw [h]
        by_cases q : x ≤ y
        · exact .inr (by rw [show max x y = y by omega]; exact List.mem_cons_self)
        · exact .inl (by omega)
      · exact .inr (List.mem_cons_of_mem _ h)
theorem ev_max1 {m : M (List Int)} (ok : Ok p sc NN VV GG k g) (hG : GG[j]? = some "max") (hmg : p.mg "max" = none) (ha : EvE g L a md (tList tInt) m) (hs : starEach [a] g.X.env = (false, eval a g.X.env) :: starEach [] g.X.env := by rfl) : EvE g L (.Call (.Name "max" pp) [a] [] pos) md' tInt (m.bind maxM) :=
  ev_b1 (S := tList tInt) (fr := true) ok (cr_max ok.calm) (fun {d v R H Q} rb ⟨a, vs, e, h, rp⟩ q => by
    refine ⟨a, d, by rw [e], by rw [← rp.ints, ok.K]; exact sq_of rb h, ?_⟩
    cases d with
    | nil => exact q.elim
    | cons x r =>
      refine ⟨by simp, fun m hm hle => ?_⟩
      obtain ⟨h1, h2, h3⟩ := foldl_max_le r x
      have e : m = r.foldl max x := by
        have a1 : r.foldl max x ≤ m := hle _ (by rcases h3 with h | h; rw [h]; exact List.mem_cons_self; exact List.mem_cons_of_mem _ h)
        have a2 : m ≤ r.foldl max x := by rcases List.mem_cons.mp hm with e | hm; rw [e]; exact h1; exact h2 m hm
        omega
      rw [e]
      exact q _ _ (Same.refl _) rfl) (fun d c h => by cases d <;> cases h) .fresh hG hmg (by decide +kernel) ha hs
end
end Hd
namespace Hd
open PySem PySem.Spec L2
theorem lstR {X : Cx} {pins : List (Addr × Obj)} {σ : L2.St} {H : Hp} {s : Shared} {l : Addr} {xs : List V} (I : Inv X pins σ H s) (h : L2.Rd H l (.lst xs)) : xs.length ≤ sizeLine ∧ ∃ (its : List Value) (n : Nat), Vals xs its ∧ xs.length = its.length ∧ s.heap.get? l = some { cls := .type "list", data := .seq its.toArray n } := by
  obtain ⟨z, its, n, r, e⟩ := h.ok I.hok
  exact ⟨z, its, n, r, r.length, e⟩
def rCatR : R2 := fun x y H Q => ∃ l b xs zs, x = .ref l ∧ y = .ref b ∧ L2.Rd H l (.lst xs) ∧ L2.Rd H b (.lst zs) ∧ xs.length + zs.length ≤ sizeLine ∧ ∀ p, H p = none → Q (.ref p) (upd H p (.lst (xs ++ zs)))
theorem op_catR {X : Cx} : OpR X (binaryOp .Add) rCatR := by
  intro pins s σ H x y v u Q I rx ry h
  obtain ⟨l, b, xs, zs, rfl, rfl, hH, hB, hz, q⟩ := h
  cases rx
  cases ry
  obtain ⟨z, its, n, r, hl, e⟩ := lstR I hH
  obtain ⟨z2, its2, n2, r2, hl2, e2⟩ := lstR I hB
  refine PySem.P.add_list e e2 ?_ (by rw [List.size_toArray, List.size_toArray]; omega)
  have ea : its.toArray ++ its2.toArray = (its ++ its2).toArray := by simp
  rw [ea]
  exact ⟨.ref _, _, I.lnew (t' := s.toks) (r.append r2) (by rw [List.length_append]; omega), rfl, q _ I.fresh⟩
section
variable {p : Pr} {sc : Scope} {NN VV GG VV' GG' : List Str} {k : Nat} {g : G} {L L' : List Slot} {a b c e e' : Expr} {es : List Expr} {md md' : Md} {α β γ δ ρ : Type} {S : Ty α} {T : Ty β} {U : Ty γ} {A : Ar δ} {pos : Pos} {K : PySem.W.Frag} {tg : Expr} {i j : Nat} {x : Str}
theorem ev_sm1 {id : String} {name : Str} {r : V → List V → Hp → VK → Prop} {f : Tx → β → M γ} {m1 : M Tx} {m2 : M β} {apos : Pos} (ok : Ok p sc NN VV GG k g) (slot : PySem.Slot "str" name id) (hty : typeOf (.builtin id) = pure (.type "method_descriptor")) (hmt : MtR g.X id r)
    (F : ∀ {d e y R H Q}, Rdb p.K R H → OkTx d → T.rep e y R → OpEnd U true R H Q (f d e) → r (.str (toS d)) [y] H Q) (hne : ∀ d e c, f d e ≠ .ex c) (ha : EvE g L a md tStr m1) (hb : EvE g L b md T m2)
    (hs : starEach [b] g.X.env = [(false, eval b g.X.env)] := by rfl) (hbase : attributeBase a name g.X.env (eval a g.X.env) = eval a g.X.env := by rfl) (hline : (apos.endLine == pos.line) = true := by rfl) :
    EvE g L (.Call (.Attribute a name apos) [b] [] pos) md' U (m1.bind fun d => m2.bind fun e => f d e) := by
  refine PE.imp (pe_m1 slot hty hmt ha hb hs hbase hline) fun σ H Q q => ?_
  obtain ⟨kp, own, at_, q⟩ := tE_iff.mp q
  refine sub finE (Same.refl H) at_ q fun d x H1 s1 r1 at1 q1 => ⟨⟨_, r1.1⟩, sub finE s1 at1 q1 fun e y H2 s2 r2 at2 q2 => ?_⟩
  rw [r1.1]
  rw [← ok.fmK] at F
  exact F (R := RX g.fm own H H2 md) RX.rdb r1.2 r2 (q2.fin (MdOk.fresh : MdOk true md md') (s1.trans s2) at2 (hne d e))
theorem tl_toS (x : Tx) : TL.tl (toS x) = x := by simp [TL.tl, toS]
def tO (fm : Fm) (W : Wx) (L : List Slot) (m : M (Option Int)) : TO := fun σ H Q => ∃ kp own, At fm kp L σ H own ∧
  match m with
  | .ok d => ∀ H', Same H H' → Q d H'
  | .ex c => ∀ H', Same H H' → W c σ H'
  | .no => False
def EvO (g : G) (L : List Slot) (e : Option Expr) (m : M (Option Int)) : Prop := PO g.X e (tO g.fm g.W L m)
theorem PO.imp {X : Cx} {e : Option Expr} {t t' : TO} (h : PO X e t) (k : ∀ σ H Q, t' σ H Q → t σ H Q) : PO X e t' := ⟨fun pins s σ H Q I q => h.run pins s σ H Q I (k _ _ _ q)⟩
theorem evo_none : EvO g L none (.ok none) := PO.imp po_none fun σ H Q ⟨kp, own, at_, q⟩ => q H (Same.refl H)
theorem evo_some {m : M Int} (h : EvE g L e md tInt m) : EvO g L (some e) (m.bind fun i => .ok (some i)) := PO.imp (po_some h) fun σ H Q q => by
  cases m with
  | ok d => obtain ⟨kp, own, at_, q⟩ := q; exact ⟨kp, own, at_, fun v H' s r => ⟨d, r, q H' s⟩⟩
  | ex c => exact q
  | no => exact q
def FinO (W : Wx) (σ : L2.St) (H : Hp) (Q : Option Int → Hp → Prop) : M (Option Int) → Prop
  | .ok d => ∀ H', Same H H' → Q d H'
  | .ex c => ∀ H', Same H H' → W c σ H'
  | .no => False
theorem tO_iff {fm : Fm} {W : Wx} {m : M (Option Int)} {σ : L2.St} {H : Hp} {Q : Option Int → Hp → Prop} : tO fm W L m σ H Q ↔ ∃ kp own, At fm kp L σ H own ∧ FinO W σ H Q m := by
  cases m <;> exact Iff.rfl
theorem subO {fm : Fm} {W : Wx} {kp : RdR} {own : List Addr} {σ : L2.St} {H0 H : Hp} {F : M β → Prop} {m : M (Option Int)} {f : Option Int → M β} {K : Option Int → Hp → Prop} (hF : Fin W σ H0 F) (s0 : Same H0 H) (at_ : At fm kp L σ H own) (q : F (m.bind f))
    (h : ∀ d H1, Same H H1 → At fm kp L σ H1 own → F (f d) → K d H1) : tO fm W L m σ H K := by
  refine tO_iff.mpr ⟨kp, own, at_, ?_⟩
  cases m with
  | ok d => exact fun H1 s => h d H1 s (at_.ext s) q
  | ex c => exact fun H' s => hF.ex q H' (s0.trans s)
  | no => exact hF.no q
def cutL {α : Type} (xs : List α) (lo hi : Option Int) : List α := (xs.drop (HT.sIx xs.length 0 lo)).take (HT.sIx xs.length xs.length hi - HT.sIx xs.length 0 lo)
theorem Reps.cut {R : RdR} {ds : List α} {vs : List V} (h : Reps S R ds vs) (lo hi : Option Int) : Reps S R (cutL ds lo hi) (L2.cutV vs lo hi) := by
  unfold cutL L2.cutV
  rw [h.length]
  exact (h.drop _).take _
variable {lo hi : Option Expr} {ml mh : M (Option Int)} {p2 : Pos}
def repM {α : Type} (xs : List α) (n : Int) : M (List α) := if -(2 ^ 63) ≤ n ∧ n < 2 ^ 63 ∧ xs.length * n.toNat ≤ sizeLine then .ok (List.replicate n.toNat xs).flatten else .no
theorem Reps.rep {R : RdR} {ds : List α} {vs : List V} (h : Reps S R ds vs) : ∀ n : Nat, Reps S R (List.replicate n ds).flatten (List.replicate n vs).flatten
  | 0 => .nil
  | n + 1 => by rw [List.replicate_succ, List.flatten_cons, List.replicate_succ, List.flatten_cons]; exact h.append (Reps.rep h n)
/-- xs * n: xs just made -/
theorem evl_rep {m : M (List α)} {mn : M Int} (ok : Ok p sc NN VV GG k g) (ha : EvL g L a md S m) (hb : EvE g L b md tInt mn) : EvL g L (.BinOp a .Mult b pos) md S (m.bind fun x => mn.bind fun n => repM x n) := by
  refine PE.imp (pe_op op_rep ha hb) fun σ H Q q => ?_
  obtain ⟨kp, own, at_, q⟩ := tL_iff.mp q
  refine tL_iff.mpr ⟨kp, own, at_, ?_⟩
  cases m with
  | ex c => exact q
  | no => exact q.elim
  | ok xs =>
  intro q1 vs H1 s1 n1 h1 r1
  have at1 := at_.ext s1
  have q' : FinL g.fm g.W own σ H md S Q (mn.bind fun n => repM xs n) := q
  refine sub finL s1 at1 q' fun n y H2 s2 r2 at2 q2 => ?_
  have q2 : FinL g.fm g.W own σ H md S Q (repM xs n) := q2
  unfold repM at q2
  split at q2
  · rename_i hz
    refine ⟨q1, n, vs, rfl, r2, s2.keep _ _ h1 rfl, hz.1, hz.2.1, by rw [← r1.length]; exact hz.2.2, fun z hz => q2 z _ _ ((s1.trans s2).trans (newSame hz)) ((s1.trans s2).free hz) upd_same ?_⟩
    exact ((r1.mono fun a o w => RX.same s2 a o (RX.drop1 a o w)).rep _).mono (RX.add hz)
  · exact q2.elim
/-- xs + ys -/
def catL {α : Type} (xs ys : List α) : M (List α) := if xs.length + ys.length ≤ sizeLine then .ok (xs ++ ys) else .no
theorem evl_cat {m1 m2 : M (List α)} (ok : Ok p sc NN VV GG k g) (ha : EvE g L a md (tList S) m1) (hb : EvE g L b md (tList S) m2) : EvL g L (.BinOp a .Add b pos) md S (m1.bind fun x => m2.bind fun y => catL x y) := by
  refine PE.imp (pe_op op_catR ha hb) fun σ H Q q => ?_
  obtain ⟨kp, own, at_, q⟩ := tL_iff.mp q
  refine sub finL (Same.refl H) at_ q fun d x H1 s1 r1 at1 q1 => sub finL s1 at1 q1 fun e y H2 s2 r2 at2 q2 => ?_
  obtain ⟨a1, vs1, rfl, h1, rr1⟩ := r1
  obtain ⟨a2, vs2, rfl, h2, rr2⟩ := r2
  unfold catL at q2
  split at q2
  · rename_i hz
    have rb : Rdb g.fm.K (RX g.fm own H H2 md) H2 := RX.rdb
    refine ⟨a1, a2, vs1, vs2, rfl, rfl, rd_of rb (RX.same s2 _ _ h1), rd_of rb h2, by rw [← rr1.length, ← rr2.length]; exact hz, fun z hz => q2 z _ _ ((s1.trans s2).trans (newSame hz)) ((s1.trans s2).free hz) upd_same ?_⟩
    exact ((rr1.mono (RX.same s2)).append rr2).mono (RX.add hz)
  · exact q2.elim
structure FlatV (S : Ty α) : Prop where
  fl : ∀ {d v R}, S.rep d v R → flatV v = true
  eq : ∀ {d e v w R R'}, S.rep d v R → S.rep e w R' → (eqV v w = true ↔ d = e)
theorem f_int : FlatV tInt := ⟨fun h => by cases h; rfl, fun h1 h2 => by cases h1; cases h2; exact beq_iff_eq⟩
theorem Reps.allFlat {R : RdR} {ds : List α} {vs : List V} (hf : FlatV S) (h : Reps S R ds vs) : vs.all flatV = true := by
  induction h with
  | nil => rfl
  | cons r _ ih => rw [List.all_cons, hf.fl r, ih]; rfl
theorem Reps.inV [DecidableEq α] {R R' : RdR} {ds : List α} {vs : List V} (hf : FlatV S) (h : Reps S R ds vs) {d : α} {v : V} (r : S.rep d v R') : L2.inV v vs = decide (d ∈ ds) := by
  induction h with
  | nil => simp [L2.inV]
  | @cons d' ds v' vs r' _ ih =>
    unfold L2.inV at ih ⊢
    rw [List.any_cons, ih]
    by_cases e : d = d'
    · have : eqV v' v = true := (hf.eq r' r).mpr e.symm
      rw [this]; simp [e]
    · have : eqV v' v = false := by
        cases q : eqV v' v with
        | true => exact absurd ((hf.eq r' r).mp q).symm e
        | false => rfl
      rw [this]; simp [e]
theorem c_in [DecidableEq α] {X : Cx} (hX : X.K = p.K) (hf : FlatV S) : CmpOk p X .In S (tList S) (fun x xs => decide (x ∈ xs)) := ⟨rIn p.K false, by rw [← hX]; exact op_in_seq, ⟨fun {d e x y R H Q} rb rx ⟨a, vs, ey, h, r⟩ q => by
  subst ey
  exact ⟨a, vs, rfl, .inl (sq_of rb h), hf.fl rx, r.allFlat hf, q _ _ (Same.refl _) (by show _ = V.bl _; rw [r.inV hf rx]; rfl)⟩⟩⟩
inductive ArAt : {δ α : Type} → Ar δ → Int → Ty α → (δ → α) → Prop where
  | z {α δ : Type} {T : Ty α} {A : Ar δ} : ArAt (aCons T A) 0 T (fun d => d.1)
  | s {α β δ : Type} {T : Ty α} {S : Ty β} {A : Ar δ} {n : Int} {f : δ → α} : ArAt A n T f → ArAt (aCons S A) (n + 1) T (fun d => f d.2)
theorem ArAt.nat {n : Int} {f : δ → α} (h : ArAt A n S f) : 0 ≤ n := by
  induction h with
  | z => omega
  | s _ ih => omega
theorem ArAt.get {n : Int} {f : δ → α} (h : ArAt A n S f) : ∀ {d : δ} {vs : List V} {R : RdR}, A.rep d vs R → ∃ v, vs[n.toNat]? = some v ∧ S.rep (f d) v R := by
  induction h with
  | z => intro d vs R ⟨v, r, e, h1, h2⟩; subst e; exact ⟨v, rfl, h1⟩
  | s h ih =>
    intro d vs R ⟨v, r, e, h1, h2⟩
    subst e
    obtain ⟨w, h3, h4⟩ := ih h2
    have := h.nat
    refine ⟨w, ?_, h4⟩
    rename_i n _
    rw [show (n + 1).toNat = n.toNat + 1 by omega, List.getElem?_cons_succ]
    exact h3
theorem ev_ixA {n : Int} {f : δ → α} {m : M δ} (ok : Ok p sc NN VV GG k g) (hA : ArAt A n S f) (ha : EvE g L a md (tTup A) m) (hb : EvE g L b md tInt (.ok n)) (hs : PlainIx b := by exact fun _ _ => rfl) : EvE g L (.Subscript a b pos) md S (m.bind fun t => .ok (f t)) :=
  ev_ix (S := tTup A) (r := rIxT p.K) (m2 := .ok ()) (f := fun t _ => .ok (f t)) (T := tLit n) (fr := false) ok (by rw [← ok.K]; exact ix_tup) ⟨fun {d e x y R H Q} rb ⟨a, vs, ex, h, r⟩ ry q => by
    obtain ⟨v, h1, h2⟩ := hA.get r
    refine ⟨a, vs, n, v, ex, ry, st_of rb h, ?_, q _ _ (Same.refl _) (S.mono h2 (Nw.old rfl))⟩
    have := atI_nat (xs := vs) (j := n.toNat) h1
    rwa [Int.toNat_of_nonneg hA.nat] at this⟩ (fun _ _ _ h => nomatch h) .same ha (ev_lit hb) hs
variable {st : List Stmt} {D : δ → Out} {d : δ}
/-- if c: raise X("..") -/
theorem evb_ifr {mc : M Bool} {m2 : M δ} {y : Str} {ec : Ec} {jj : Nat} {msg : Str} {q1 q2 q3 q4 : Pos} (ok : OkS p sc NN VV GG k g) (wk : Wk L g.LX) (X : ExF p y ec) (hG : GG[j]? = some y) (hc : EvT g L c mc) (hr : EvB g L st D m2) :
    EvB g L (.If c [.Raise (some (.Call (.Name y q1) [.Constant (.str msg) jj q2] [] q3)) none q4] [] pos :: st) D (mc.bind fun c => if c = true then .ex ec else m2) := by
  refine PSs.imp (pss_cons (ps_if hc (evb_raise (D := fun _ : Unit => Out.bad) (st := []) (pos := q4) (msg := msg) (jj := jj) (pp := q1) (p2 := q2) (p3 := q3) ok wk X hG) pss_nil) hr) fun E σ H ⟨kp, own, at_, q⟩ => ?_
  cases mc with
  | ok c =>
    refine ⟨kp, own, at_, fun H1 s => ?_⟩
    cases c with
    | true => exact ⟨kp, own, at_.ext s, q⟩
    | false => exact ⟨kp, own, at_.ext s, q⟩
  | ex c => exact ⟨kp, own, at_, BOk.exx wk at_ q⟩
  | no => exact q.elim
end
end Hd
namespace Hd
open PySem PySem.Spec L2
section
variable {p : Pr} {sc : Scope} {NN VV GG VV' GG' : List Str} {k : Nat} {g : G} {L L' : List Slot} {a b c e e' : Expr} {es : List Expr} {md md' : Md} {α β γ δ ρ : Type} {S : Ty α} {T : Ty β} {U : Ty γ} {A : Ar δ} {pos : Pos} {K : PySem.W.Frag} {tg : Expr} {i j : Nat} {x : Str}
/-- a list of the written part -/
def KList (K : PySem.W.Frag) (a : Addr) (xs : List V) : Prop := ∃ (o : Obj) (its : Array Value) (n : Nat), K.lookup a = some o ∧ o.cls = .type "list" ∧ o.dict = none ∧ o.data = .seq its n ∧ its.size ≤ sizeLine ∧ Vals xs its.toList
/-- a list that is but read -/
def tListK {α : Type} (K : PySem.W.Frag) (T : Ty α) : Ty (List α) := ⟨fun ds v R => ∃ a vs, v = .ref a ∧ (R a (.lst vs) ∨ KList K a vs) ∧ Reps T R ds vs, fun ⟨a, vs, e, r, h⟩ s => ⟨a, vs, e, r.imp (s _ _) id, h.mono s⟩⟩
structure IsSq (K : PySem.W.Frag) (Q : Ty (List α)) (S : Ty α) : Prop where
  sq : ∀ {d v R H}, Rdb K R H → Q.rep d v R → ∃ a vs, v = .ref a ∧ SqL K H a vs ∧ Reps S R d vs
theorem sq_l : IsSq K (tList S) S := ⟨fun rb ⟨a, vs, e, h, r⟩ => ⟨a, vs, e, sq_of rb h, r⟩⟩
theorem sq_k : IsSq K (tListK K S) S := ⟨fun rb ⟨a, vs, e, h, r⟩ => ⟨a, vs, e, h.elim (sq_of rb) .inr, r⟩⟩
variable {Q : Ty (List α)}
theorem ev_ixQ {mx : M (List α)} {mi : M Int} (ok : Ok p sc NN VV GG k g) (hq : IsSq p.K Q S) (ha : EvE g L a md Q mx) (hb : EvE g L b md tInt mi) (hs : PlainIx b := by exact fun _ _ => rfl) : EvE g L (.Subscript a b pos) md S (mx.bind fun xs => mi.bind fun i => getM xs i) :=
  ev_ix (S := Q) (r := rIxL p.K) (fr := false) ok (by rw [← ok.K]; exact ix_list) ⟨fun {d e x y R H W} rb rx ry q => by
    obtain ⟨a, vs, ex, h, r⟩ := hq.sq rb rx
    unfold getM at q
    cases hj : L2.atI d e with
    | none => rw [hj] at q; exact q.elim
    | some u =>
      rw [hj] at q
      obtain ⟨v, h1, h2⟩ := r.at hj
      exact ⟨a, vs, e, v, ex, ry, h, h1, q _ _ (Same.refl _) (S.mono h2 (Nw.old rfl))⟩⟩ (fun _ _ _ => getM_ne) .same ha hb hs
theorem ev_lenQ {mx : M (List α)} {pp : Pos} (ok : Ok p sc NN VV GG k g) (hq : IsSq p.K Q S) (hG : GG[j]? = some "len") (hmg : p.mg "len" = none) (ha : EvE g L e md Q mx) (hs : starEach [e] g.X.env = (false, eval e g.X.env) :: starEach [] g.X.env := by rfl) : EvE g L (.Call (.Name "len" pp) [e] [] pos) md' tInt (mx.bind fun xs => .ok (xs.length : Int)) :=
  ev_b1 (S := Q) (fr := true) ok call_len_seq (fun {d v R H W} rb h q => by
    obtain ⟨a, vs, e, hs, r⟩ := hq.sq rb h
    exact ⟨a, vs, by rw [e], .inl (by rw [ok.K]; exact hs), q _ _ (Same.refl _) (by show _ = V.int _; rw [r.length])⟩) (fun _ _ h => nomatch h) .fresh hG hmg PySem.boot_len ha hs
theorem evi_seq {m : M (List α)} (ok : Ok p sc NN VV GG k g) (hq : IsSq p.K Q S) (he : EvE g L e md Q m) : EvI g L tg e S m := by
  refine PI.imp (pi_list he) fun σ H R ⟨kp, own, at_, q⟩ => ?_
  refine tE_iff.mpr ⟨kp, own, at_, ?_⟩
  cases m with
  | ok xs =>
    intro v H' s rx
    have rx' : Q.rep xs v (RD g.fm own H') := Q.mono rx RX.sh
    have rb0 : Rdb p.K (RD g.fm own H') H' := by rw [← ok.fmK]; exact RD.rdb
    obtain ⟨a, vs, rfl, h, r⟩ := hq.sq rb0 rx'
    refine ⟨a, rfl, ⟨vs, by rw [ok.K]; exact h⟩, ?_⟩
    rw [show Itl g.X.K a = Itl g.fm.K a from by rw [ok.K, ok.fmK]]
    refine q (Itl g.fm.K a) H' s fun H2 rb i => ?_
    obtain ⟨a', vs', e', hs, r2⟩ := hq.sq (by rw [← ok.fmK]; exact rb) rx'
    cases e'
    rw [← ok.fmK] at hs
    refine ⟨fun d hd => ?_, fun hn => ⟨vs', hs, ?_⟩⟩
    · obtain ⟨v, h1, h2⟩ := r2.get hd
      refine ⟨⟨vs', v, hs, h1⟩, fun x H3 ⟨e, hx⟩ => ?_⟩
      subst e
      have := hx vs' hs
      rw [h1] at this
      cases this
      exact ⟨Same.refl _, S.mono h2 fun a o z => .inl ⟨rfl, z⟩⟩
    · rw [List.getElem?_eq_none_iff, r2.length] at hn
      exact hn
  | ex c => exact q
  | no => exact q
variable {lo hi : Option Expr} {ml mh : M (Option Int)} {p2 : Pos}
theorem evl_slQ {m : M (List α)} (ok : Ok p sc NN VV GG k g) (hq : IsSq p.K Q S) (ha : EvE g L a md Q m) (hl : EvO g L lo ml) (hh : EvO g L hi mh) : EvL g L (.Subscript a (.Slice lo hi none p2) pos) md S (m.bind fun x => ml.bind fun l => mh.bind fun h => .ok (cutL x l h)) := by
  refine PE.imp (pe_slice sl_list ha hl hh) fun σ H W q => ?_
  obtain ⟨kp, own, at_, q⟩ := tL_iff.mp q
  refine sub finL (Same.refl H) at_ q fun d x H1 s1 r1 at1 q1 => subO finL s1 at1 q1 fun l H2 s2 at2 q2 => subO finL (s1.trans s2) at2 q2 fun h H3 s3 at3 q3 => ?_
  have r3 : Q.rep d x (RX g.fm own H H3 md) := Q.mono r1 (RX.same (s2.trans s3))
  obtain ⟨ad, vs, e, h3, rr⟩ := hq.sq (by rw [← ok.fmK]; exact RX.rdb) r3
  refine ⟨ad, vs, e, by rw [ok.K]; exact h3, fun z hz => q3 z (L2.cutV vs l h) _ (((s1.trans s2).trans s3).trans (newSame hz)) (((s1.trans s2).trans s3).free hz) upd_same ?_⟩
  exact (rr.cut l h).mono (RX.add hz)
theorem evl_copyQ {mx : M (List α)} {pp : Pos} (ok : Ok p sc NN VV GG k g) (hq : IsSq p.K Q S) (hG : GG[j]? = some "list") (hmg : p.mg "list" = none) (ha : EvE g L e md Q mx) (hs : starEach [e] g.X.env = (false, eval e g.X.env) :: starEach [] g.X.env := by rfl) : EvL g L (.Call (.Name "list" pp) [e] [] pos) md S mx := by
  obtain ⟨hg, ho⟩ := ok.gl hG
  obtain ⟨h1, _, h3⟩ := okName_d ho
  refine PE.imp (pe_callTy call_list_of hg (by rw [ok.mg]; exact hmg) (by decide +kernel) (eva_cons ha eva_nil hs) h3 h1 hs rfl) fun σ H W q => ?_
  obtain ⟨kp, own, at_, q⟩ := tL_iff.mp q
  refine tA_iff.mpr ⟨kp, own, at_, ?_⟩
  cases mx with
  | ok d =>
    rintro vs H1 s1 ⟨v, r, rfl, rx, e3⟩
    cases (show r = [] from e3)
    obtain ⟨a, ws, rfl, h, rr⟩ := hq.sq (by rw [← ok.fmK]; exact RX.rdb) rx
    exact ⟨a, ws, rfl, .inl (by rw [ok.K]; exact h), fun l hl => q l ws _ (s1.trans (newSame hl)) (s1.free hl) upd_same (rr.mono (RX.add hl))⟩
  | ex c => exact q
  | no => exact q
theorem evpts_nil : PTs g.X [] (tT g.fm g.W L (.ok true)) := ⟨fun pins s σ H Q I ⟨kp, own, at_, q⟩ => pts_nil.run pins s σ H Q I (q H (Same.refl H))⟩
theorem evpts_one {m : M Bool} (h : EvT g L c m) : PTs g.X [c] (tT g.fm g.W L m) := pts_one h
variable {st : List Stmt} {D : δ → Out} {d : δ}
end
end Hd
namespace Hd
open PySem PySem.Spec L2
theorem M.bok {α β : Type} (a : α) (f : α → M β) : M.bind (.ok a) f = f a := by
  have h : ∀ m : M α, m = .ok a → M.bind m f = f a := fun m e => by rw [e]; rfl
  exact h _ rfl
section
variable {p : Pr} {sc : Scope} {NN VV GG VV' GG' : List Str} {k : Nat} {g : G} {L L' : List Slot} {a b c e e' : Expr} {es : List Expr} {md md' : Md} {α β γ δ ρ : Type} {S : Ty α} {T : Ty β} {U : Ty γ} {A : Ar δ} {pos : Pos} {K : PySem.W.Frag} {tg : Expr} {i j : Nat} {x : Str}
/-- how many items -/
def LenM (n : Nat) (m : M (List α)) : Prop := ∀ ds, m = .ok ds → ds.length = n
theorem ln0 : LenM 0 (.ok ([] : List α)) := fun ds h => by cases h; rfl
theorem lnS {n : Nat} {m1 : M α} {m2 : M (List α)} (h : LenM n m2) : LenM (n + 1) (m1.bind fun d => m2.bind fun e => .ok (d :: e)) := fun ds q => by
  cases m1 with
  | ok d =>
    cases m2 with
    | ok e => cases q; rw [List.length_cons, h e rfl]
    | ex c => cases q
    | no => cases q
  | ex c => cases q
  | no => cases q
theorem evl_lstN {n : Nat} {m : M (List α)} (h : LenM n m) (hn : n ≤ 1000) (ha : EvA g L es md (aAll S) m) : EvL g L (.List es pos) md S m := evl_lst (fun ds q => by rw [h ds q]; exact hn) ha
def isLoc (sc : Scope) (y : Str) : Bool := (match sc.kind with | .function => true | _ => false) && match sc.names.lookup y with | some .local => true | _ => false
def isCell (sc : Scope) (y : Str) : Bool := match sc.names.lookup y with | some .cell => true | _ => false
theorem isLoc_k {sc : Scope} {y : Str} (h : isLoc sc y = true) : sc.kind = .function ∧ sc.names.lookup y = some .local := by
  unfold isLoc at h
  rw [Bool.and_eq_true] at h
  obtain ⟨h1, h2⟩ := h
  constructor
  · split at h1
    · assumption
    · cases h1
  · split at h2
    · assumption
    · cases h2
theorem isCell_k {sc : Scope} {y : Str} (h : isCell sc y = true) : sc.names.lookup y = some .cell := by
  unfold isCell at h
  split at h
  · assumption
  · cases h
theorem sw_cell {elt : Expr} {gs : List Comprehension} {scope : Scope} {pos py : Pos} {y : Str} {l : Nat} {env : Env} (hy : env.scope.names.lookup y = some .cell) : swapsWith (.ListComp elt gs scope pos) (some (.Name y py)) l env = pure false := by
  have ky : env.kindOf y = some .cell := hy
  unfold swapsWith
  simp only [ky]
  have e : (some NameKind.cell == some NameKind.local) = false := rfl
  simp only [e, Bool.and_false, Bool.false_and]
variable {st : List Stmt} {D : δ → Out} {y : Str} {py spos cpos : Pos} {elt it : Expr} {ifs : List Expr} {scope : Scope} {tp : Pos} {s₀ : Slot}
theorem sw_loc (ok : OkS p sc NN VV GG k g) {gs : List Comprehension} (hy : isLoc sc y = true) (hl : (py.line == cpos.line) = true) (ha : (scope.names.any fun (n, k) => n == y && (k == .local || k == .cell)) = false) :
    g.X.env.scope.names.lookup y = some .local ∧ swapsWith (.ListComp elt gs scope cpos) (some (.Name y py)) spos.line g.X.env = pure true := by
  obtain ⟨h1, h2⟩ := isLoc_k hy
  have e1 : g.X.env.scope.kind = .function := by rw [ok.scp]; exact h1
  have e2 : g.X.env.scope.names.lookup y = some .local := by rw [ok.scp]; exact h2
  exact ⟨e2, sw_true e1 e2 hl ha⟩
/-- y = [elt for x in it if c], y its owner -/
theorem evb_ownC {m : M (List α)} {cm : α → M Bool} {f : α → M β} {h : List β → M δ} {b : Bool} {i2 : Nat} (ok : OkS p sc NN VV GG k g) (hN2 : NN[i2]? = some y) (wk : Wk L g.LX) (hbb : SlB md b) (hy : isLoc sc y = true) (hl : (py.line == cpos.line) = true) (ha : (scope.names.any fun (n, k) => n == y && (k == .local || k == .cell)) = false)
    (hI : EvI g L (.Name x tp) it S m) (hN : NN[i]? = some x) (hLi : L[i]? = some s₀) (hs₀ : NoOwn s₀) (hb : blkC NN sc scope [(x, i)] = true) (hv : VV'.all (seenB scope) = true) (hg : GG'.all (glB scope) = true) (hx : locB scope x = true)
    (hc : ∀ g', Ok p scope NN VV' GG' k g' → ∀ d, PTs g'.X ifs (tT g'.fm g'.W (L.set i (sV false S d)) (cm d))) (he : ∀ g', Ok p scope NN VV' GG' k g' → ∀ d, EvE g' (L.set i (sV false S d)) elt md T (f d))
    (hr : ∀ d, EvB g (L.set i2 (sOwn b T d)) st D (h d)) (hs : ∀ x, foldedSetIterable it g.X.env x = pure x := by intro _; rfl) :
    EvB g L (.Assign [.Name y py] (.ListComp elt [⟨.Name x tp, it, ifs, 0⟩] scope cpos) spos :: st) D ((m.bind fun xs => compM (fun d => (cm d).bind fun c => if c = true then (f d).bind fun y => .ok (some y) else .ok none) xs).bind h) := by
  obtain ⟨e1, e2⟩ := sw_loc (elt := elt) (spos := spos) (gs := [⟨.Name x tp, it, ifs, 0⟩]) ok hy hl ha
  refine PSs.imp (pss_cons ((evl_lc2 ok.toOk hI hN hLi hs₀ hb hv hg hx hc he hs).2 hN2 e1 e2) (PSs.ex hr)) fun E σ H ⟨kp, own, at_, q⟩ => ?_
  unfold tSeq tAsg
  refine tL_iff.mpr ⟨kp, own, at_, ?_⟩
  generalize (m.bind fun xs => compM (fun d => (cm d).bind fun c => if c = true then (f d).bind fun y => .ok (some y) else .ok none) xs) = mm at q ⊢
  cases mm with
  | ok d =>
    intro v vs H' s n h' r
    obtain ⟨own', a'⟩ := at_.setOwn (i := i2) (b := b) s n h' (r.mono hbb.rb)
    exact ⟨d, kp, own', a', q⟩
  | ex c => exact BOk.exx wk at_ q
  | no => exact q
theorem evb_setC {m : M (List α)} {cm : α → M Bool} {f : α → M β} {h : List β → M δ} {i2 : Nat} (ok : OkS p sc NN VV GG k g) (hN2 : NN[i2]? = some y) (wk : Wk L g.LX) (hy : isLoc sc y = true) (hl : (py.line == cpos.line) = true) (ha : (scope.names.any fun (n, k) => n == y && (k == .local || k == .cell)) = false)
    (hI : EvI g L (.Name x tp) it S m) (hN : NN[i]? = some x) (hLi : L[i]? = some s₀) (hs₀ : NoOwn s₀) (hb : blkC NN sc scope [(x, i)] = true) (hv : VV'.all (seenB scope) = true) (hg : GG'.all (glB scope) = true) (hx : locB scope x = true)
    (hc : ∀ g', Ok p scope NN VV' GG' k g' → ∀ d, PTs g'.X ifs (tT g'.fm g'.W (L.set i (sV false S d)) (cm d))) (he : ∀ g', Ok p scope NN VV' GG' k g' → ∀ d, EvE g' (L.set i (sV false S d)) elt md T (f d))
    (hr : ∀ d, EvB g (L.set i2 (sV false (tList T) d)) st D (h d)) (hs : ∀ x, foldedSetIterable it g.X.env x = pure x := by intro _; rfl) :
    EvB g L (.Assign [.Name y py] (.ListComp elt [⟨.Name x tp, it, ifs, 0⟩] scope cpos) spos :: st) D ((m.bind fun xs => compM (fun d => (cm d).bind fun c => if c = true then (f d).bind fun y => .ok (some y) else .ok none) xs).bind h) := by
  obtain ⟨e1, e2⟩ := sw_loc (elt := elt) (spos := spos) (gs := [⟨.Name x tp, it, ifs, 0⟩]) ok hy hl ha
  refine PSs.imp (pss_cons ((evl_lc2 ok.toOk hI hN hLi hs₀ hb hv hg hx hc he hs).2 hN2 e1 e2) (PSs.ex hr)) fun E σ H ⟨kp, own, at_, q⟩ => ?_
  unfold tSeq tAsg
  refine tL_iff.mpr ⟨kp, own, at_, ?_⟩
  generalize (m.bind fun xs => compM (fun d => (cm d).bind fun c => if c = true then (f d).bind fun y => .ok (some y) else .ok none) xs) = mm at q ⊢
  cases mm with
  | ok d =>
    intro v vs H' s n h' r
    obtain ⟨own', a'⟩ := (at_.ext s).setV (i := i2) (b := false) (T := tList T) (d := d) (v := .ref v) ⟨v, vs, rfl, RX.sh (H := H) _ _ (newRX' (md := .sh) at_ n h'), r.mono fun a o z => RX.sh (H := H) a o (RX.drop1 a o z)⟩
    exact ⟨d, kp, own', a', q⟩
  | ex c => exact BOk.exx wk at_ q
  | no => exact q
theorem pureT {m : M Bool} {v : Bool} (h : EvT g L e m) (q : m = .ok v) : EvT g L e (.ok v) := q ▸ h
theorem pureW {m : M Bool} {v : Bool} (h : EvW g L e m) (q : m = .ok v) : EvW g L e (.ok v) := q ▸ h
theorem pureE {m : M α} {v : α} (h : EvE g L e md S m) (q : m = .ok v) : EvE g L e md S (.ok v) := q ▸ h
end
end Hd
namespace Hd
open PySem PySem.Spec L2
def ecName : Ec → Str
  | .weave => "WeaveError"
  | .noRow => "NoRow"
  | .tooLarge => "TooLarge"
  | .noCloth => "NoCloth"
  | .noDraft => "NoDraft"
  | .noStrand => "NoStrand"
  | .noDeed => "NoDeed"
  | .noLaying => "NoLaying"
  | .noShuttle => "NoShuttle"
  | .noColour => "NoColour"
  | .noBlock => "NoBlock"
  | .noPattern => "NoPattern"
  | .unknown => "Unknown"
  | .twice => "Twice"
theorem reps_ints {R : RdR} : ∀ ns : List Int, Reps tInt R ns (ns.map V.int)
  | [] => .nil
  | n :: r => .cons rfl (reps_ints r)
theorem exF {K : PySem.W.Frag} {h : Heap} {mg : Str → Option Value} {P : Program} {w : World} {base : Heap} {T : Option Addr} (X : K.In h) (G : h.Ns mainGlobals mg) {x : Str} {c : Ec} (e : ecName c = x) (c1 : (He.Fa.glo x).ok K = true) (c2 : (He.Fa.exc x).ok K = true) : ExF ⟨P, w, K, mg, base, fun c => He.ga K (ecName c), T⟩ x c := by
  subst e
  obtain ⟨h1, h2, h3, h4⟩ := He.exc_ok c2
  exact ⟨h1, He.glo_ok X G c1, h2, h3, h4⟩
theorem L2_bindsA {K : PySem.W.Frag} {x qual : Str} {params : Arguments} {body : List Stmt} {scope : Scope} {f : Addr} {fd : FuncData} (F : FunD K x qual params body scope [] [] f fd) (s : Shared) (v : Value)
    (h : ∀ (kV doc pm : Value) (an : Option Addr) (cdv ct : Value) (us : List Value), us.length = (["script"] : List Str).length → bindArgs (PySem.W.fnOf x qual params body scope .none kV doc pm an cdv ct) ⟨us, []⟩ = pure ((["script"] : List Str).zip us) := by
      exact fun _ _ _ _ _ _ us hl => match us, hl with | [_], _ => rfl) : BindsTo s fd ⟨[v], []⟩ [("script", v)] := F.bindsA (ps := ["script"]) h s [v] rfl
end Hd
namespace Hd
open PySem PySem.Spec L2
section
variable {p : Pr} {sc : Scope} {NN VV GG VV' GG' : List Str} {k : Nat} {g : G} {L L' : List Slot} {a b c e e' : Expr} {es : List Expr} {md md' : Md} {α β γ δ ρ : Type} {S : Ty α} {T : Ty β} {U : Ty γ} {A : Ar δ} {pos : Pos} {K : PySem.W.Frag} {tg : Expr} {i j : Nat} {x : Str} {pp : Pos}
theorem cnt_count (c : Nat) : ∀ l : List Nat, PyProof.Rows.cnt c l = (l.count c : Int)
  | [] => rfl
  | n :: r => by
    rw [PyProof.Rows.cnt_cons, cnt_count c r, List.count_cons]
    by_cases h : n = c
    · subst h; simp; omega
    · simp [h]
def countS (x y : Tx) : M Int := match y with
  | [c] => .ok (x.count c : Int)
  | _ => .no
theorem countS_ne {x y : Tx} {c : Ec} : countS x y ≠ .ex c := by unfold countS; split <;> exact fun h => nomatch h
theorem ev_countS {m1 m2 : M Tx} {apos : Pos} (ok : Ok p sc NN VV GG k g) (ha : EvE g L a md tStr m1) (hb : EvE g L b md tStr m2)
    (hs : starEach [b] g.X.env = [(false, eval b g.X.env)] := by rfl) (hbase : attributeBase a "count" g.X.env (eval a g.X.env) = eval a g.X.env := by rfl) (hline : (apos.endLine == pos.line) = true := by rfl) :
    EvE g L (.Call (.Attribute a "count" apos) [b] [] pos) md' tInt (m1.bind fun s => m2.bind fun y => countS s y) :=
  ev_sm1 (T := tStr) ok PySem.F.slot_str_count PySem.F.type_str_count mt_count (fun {d e y R H Q} rb hd hy q => by
    unfold countS at q
    split at q
    · rename_i c
      refine ⟨toS d, toS [c], rfl, by rw [hy.1], q _ _ (Same.refl _) ?_⟩
      show V.int _ = V.int _
      congr 1
      rw [show toS [c] = (⟨#[c]⟩ : Str) from rfl, PyProof.Rows.count_cnt, cnt_count]
      rw [show (toS d).cps.toList = d from tl_toS d]
    · exact q.elim) (fun _ _ _ => countS_ne) ha hb hs hbase hline
variable {Q : Ty (List α)}
def enumL {α : Type} (xs : List α) : List (Int × α × Unit) := xs.mapIdx fun i d => ((i : Int), d, ())
theorem evi_enum {m : M (List α)} {elts : List Expr} {kk : Nat} {tpos : Pos} (ok : Ok p sc NN VV GG k g) (hq : IsSq p.K Q S) (hG : GG[j]? = some "enumerate") (hmg : p.mg "enumerate" = none) (ha : EvE g L a md Q m) (hs : starEach [a] g.X.env = (false, eval a g.X.env) :: starEach [] g.X.env := by rfl) :
    EvI g L (.Tuple elts kk tpos) (.Call (.Name "enumerate" pp) [a] [] pos) (tTup (aCons tInt (aCons S aNil))) (m.bind fun xs => .ok (enumL xs)) := by
  obtain ⟨hg, ho⟩ := ok.gl hG
  refine PI.imp (pi_enum hg (by rw [ok.mg]; exact hmg) (eva_cons ha eva_nil hs) hs) fun σ H R ⟨kp, own, at_, q⟩ => ?_
  refine tA_iff.mpr ⟨kp, own, at_, ?_⟩
  cases m with
  | ok xs =>
    rintro vs H' s ⟨v, r, rfl, rx, e3⟩
    cases (show r = [] from e3)
    have rx' : Q.rep xs v (RD g.fm own H') := Q.mono rx RX.sh
    have rb0 : Rdb p.K (RD g.fm own H') H' := by rw [← ok.fmK]; exact RD.rdb
    obtain ⟨ad, vs, rfl, h, r⟩ := hq.sq rb0 rx'
    refine ⟨ad, vs, rfl, by rw [ok.K]; exact h, ?_⟩
    rw [show Ite g.X.K ad = Ite g.fm.K ad from by rw [ok.K, ok.fmK]]
    refine q _ H' s fun H2 rb i => ?_
    obtain ⟨a', vs', e', hs', r2⟩ := hq.sq (by rw [← ok.fmK]; exact rb) rx'
    cases e'
    rw [← ok.fmK] at hs'
    unfold enumL
    rw [List.getElem?_mapIdx]
    refine ⟨fun d hd => ?_, fun hn => ⟨vs', hs', ?_⟩⟩
    · cases hx : xs[i]? with
      | none => rw [hx] at hd; cases hd
      | some d0 =>
        rw [hx] at hd
        cases hd
        obtain ⟨v, h1, h2⟩ := r2.get hx
        refine ⟨⟨vs', v, hs', h1⟩, fun x H3 ⟨T, y, e1, e2, e3, hy⟩ => ?_⟩
        subst e1; subst e3
        have := hy vs' hs'
        rw [h1] at this
        cases this
        refine ⟨newSame e2, T, _, rfl, .inr ⟨cl_of upd_same, e2⟩, .int (i : Nat), _, rfl, rfl, _, [], rfl, S.mono h2 fun a o z => .inl ⟨rfl, z⟩, rfl⟩
    · cases hx : xs[i]? with
      | none => rw [List.getElem?_eq_none_iff] at hx; rw [← r2.length]; exact hx
      | some d0 => rw [hx] at hn; cases hn
  | ex c => exact q
  | no => exact q
variable {Q2 : Ty (List β)}
structure DeepA (A : Ar δ) where
  pd : δ → List PyData
  dp : Nat
  rep : ∀ {K d vs R H}, Rdb K R H → A.rep d vs R → DpAll K H vs (pd d) ∧ PyData.canLayAll0 (pd d) = true
  dep : ∀ d, PyData.depthAll (pd d) ≤ dp
  eqv : ∀ d e, PyData.eqvAll (pd d) (pd e) = true ↔ d = e
def dNil : DeepA aNil := ⟨fun _ => [], 0, fun rb h => by cases (show _ = [] from h); exact ⟨.nil, rfl⟩, fun _ => by simp [PyData.depthAll], fun d e => by simp [PyData.eqvAll]⟩
def dCons (D : Deep S) (E : DeepA A) : DeepA (aCons S A) := ⟨fun d => D.pd d.1 :: E.pd d.2, max D.dp E.dp, fun {K d vs R H} rb ⟨v, r, e, h1, h2⟩ => by
    subst e
    obtain ⟨a1, a2⟩ := D.rep rb h1
    obtain ⟨b1, b2⟩ := E.rep rb h2
    exact ⟨.cons a1 b1, by simp only [PyData.canLayAll0, a2, b2, Bool.and_self]⟩, fun d => by
    have h1 := D.dep d.1
    have h2 := E.dep d.2
    simp only [PyData.depthAll]
    omega, fun d e => by
    simp only [PyData.eqvAll, Bool.and_eq_true, D.eqv, E.eqv]
    exact ⟨fun h => Prod.ext h.1 h.2, fun h => by rw [h]; exact ⟨rfl, rfl⟩⟩⟩
def dTup (E : DeepA A) : Deep (tTup A) := ⟨fun d => .tuple (E.pd d), E.dp + 1, fun {K ds v R H} rb ⟨a, vs, e, h, r⟩ => by
    subst e
    obtain ⟨h1, h2⟩ := E.rep rb r
    exact ⟨.tup ((rb _ _ h rfl).imp id id) h1, h2⟩, fun ds => by simp only [PyData.depth]; have := E.dep ds; omega, fun d e => by
    simp only [PyData.eqv]
    exact E.eqv d e⟩
structure ChI (op : CmpOp) (f : Int → Int → Bool) : Prop where
  ex : ∀ {K : PySem.W.Frag} {X : Cx}, ∃ r, OpR X (compareOp op) r ∧ Op2 K r tInt tInt tBool (fun x y => .ok (f x y)) false
theorem ch_lt : ChI .Lt (fun x y => decide (x < y)) := ⟨⟨_, op_lt, ⟨fun rb rx ry q => ⟨_, _, rx, ry, q _ _ (Same.refl _) rfl⟩⟩⟩⟩
theorem ch_le : ChI .LtE (fun x y => decide (x ≤ y)) := ⟨⟨_, op_le, ⟨fun rb rx ry q => ⟨_, _, rx, ry, q _ _ (Same.refl _) rfl⟩⟩⟩⟩
theorem evt_chainI {op op' : CmpOp} {f f' : Int → Int → Bool} {m1 m2 m3 : M Int} {d1 d2 d3 : Int} (ok : Ok p sc NN VV GG k g) (F : ChI op f) (F' : ChI op' f') (ha : EvE g L a md tInt m1) (hb : EvE g L b md tInt m2) (hc : EvE g L c md tInt m3) (e1 : m1 = .ok d1) (e2 : m2 = .ok d2) (e3 : m3 = .ok d3)
    (hm : lastMarks [op, op'] [b, c] = false := by with_unfolding_all rfl) : EvT g L (.Compare a [op, op'] [b, c] pos) (.ok (f d1 d2 && f' d2 d3)) := by
  subst e1; subst e2; subst e3
  obtain ⟨r, h1, h2⟩ := F.ex (K := p.K) (X := g.X)
  obtain ⟨r', h1', h2'⟩ := F'.ex (K := p.K) (X := g.X)
  exact evt_chain ok h1 h1' h2 h2' ha hb hc hm
variable {st : List Stmt} {D : δ → Out} {d : δ}
end
end Hd
namespace Hd
open PySem PySem.Spec L2
section
end
section
end
end Hd
namespace Hd
open PySem PySem.Spec L2
section
end
end Hd
namespace Hd
open PySem PySem.Spec L2
section
variable {p : Pr} {sc : Scope} {NN VV GG VV' GG' : List Str} {k : Nat} {g : G} {L L' : List Slot} {a b c e e' : Expr} {es : List Expr} {md md' : Md} {α β γ δ ρ : Type} {S : Ty α} {T : Ty β} {U : Ty γ} {A : Ar δ} {pos : Pos} {K : PySem.W.Frag} {tg : Expr} {i j : Nat} {x : Str} {pp : Pos}
variable {st : List Stmt} {D : δ → Out} {d : δ}
def tAny : Ty Unit := ⟨fun _ _ _ => True, fun h _ => h⟩
end
end Hd
namespace Hd
open PySem PySem.Spec L2
end Hd
namespace Hd
open PySem PySem.Spec L2
section
variable {p : Pr} {sc : Scope} {NN VV GG : List Str} {k : Nat} {g : G} {α : Type} {S : Ty α}
def memD {α : Type} [DecidableEq α] (x : α) (xs : List α) : Bool := decide (x ∈ xs)
theorem any_eqv [DecidableEq α] (D : Deep S) (d : α) : ∀ ds : List α, ((ds.map D.pd).any fun z => PyData.eqv z (D.pd d)) = memD d ds
  | [] => by simp [memD]
  | e :: ds => by
    rw [List.map_cons, List.any_cons, any_eqv D d ds, D.bq]
    unfold memD
    by_cases h : e = d
    · subst h; simp
    · have : ¬ d = e := fun z => h z.symm
      simp [h, this]
theorem c_inD [DecidableEq α] (ok : Ok p sc NN VV GG k g) (D : Deep S) (hd : D.dp + 1 ≤ 64) : CmpOk p g.X .In S (tList S) (fun x xs => memD x xs) := ⟨rInD p.K, by rw [← ok.K]; exact op_inD (by have := ok.room.un; omega), ⟨fun {d e x y R H Q} rb rx ry q => by
  obtain ⟨a1, a2⟩ := D.rep rb rx
  obtain ⟨b1, b2⟩ := (dList D).rep rb ry
  exact ⟨_, _, a1, b1, D.sh (Nat.le_trans (Nat.le_succ _) hd) a2, (dList D).sh hd b2, q _ _ (Same.refl _) (by show _ = V.bl _; rw [any_eqv])⟩⟩⟩
theorem c_notinD [DecidableEq α] (ok : Ok p sc NN VV GG k g) (D : Deep S) (hd : D.dp + 1 ≤ 64) : CmpOk p g.X .NotIn S (tList S) (fun x xs => !memD x xs) := ⟨rNotInD p.K, by rw [← ok.K]; exact op_notInD (by have := ok.room.un; omega), ⟨fun {d e x y R H Q} rb rx ry q => by
  obtain ⟨a1, a2⟩ := D.rep rb rx
  obtain ⟨b1, b2⟩ := (dList D).rep rb ry
  exact ⟨_, _, a1, b1, D.sh (Nat.le_trans (Nat.le_succ _) hd) a2, (dList D).sh hd b2, q _ _ (Same.refl _) (by show _ = V.bl _; rw [any_eqv])⟩⟩⟩
variable {L : List Slot} {a b : Expr} {md md' : Md} {pos : Pos}
end
end Hd
namespace Hd
open PySem PySem.Spec L2
section
end
end Hd
namespace Hd
open PySem PySem.Spec PyProof.Rows L2
section
variable {p : Pr} {sc : Scope} {NN VV GG : List Str} {k : Nat} {g : G} {L : List Slot} {a b e tg : Expr} {md md' : Md} {pos pp : Pos} {j : Nat} {α β δ : Type} {S : Ty α} {T : Ty β} {A : Ar δ}
theorem ev_lenT {n : Nat} {m : M δ} (ok : Ok p sc NN VV GG k g) (hA : ∀ {d vs R}, A.rep d vs R → vs.length = n) (hG : GG[j]? = some "len") (hmg : p.mg "len" = none) (ha : EvE g L e md (tTup A) m) (hs : starEach [e] g.X.env = (false, eval e g.X.env) :: starEach [] g.X.env := by rfl) : EvE g L (.Call (.Name "len" pp) [e] [] pos) md' tInt (m.bind fun _ => .ok (n : Int)) :=
  ev_b1 (S := tTup A) (fr := true) ok call_len_seq (fun {d v R H W} rb ⟨a, vs, e, h, r⟩ q => by
    exact ⟨a, vs, by rw [e], .inr (by rw [ok.K]; exact st_of rb h), q _ _ (Same.refl _) (by show _ = V.int _; rw [hA r])⟩) (fun _ _ h => nomatch h) .fresh hG hmg PySem.boot_len ha hs
end
end Hd
namespace Hd
open PySem PySem.Spec PyProof.Rows L2
section
end
end Hd
namespace Hd
open PySem PySem.Spec PyProof.Rows L2
section
end
end Hd
namespace Hd
open PySem PySem.Spec PyProof.Rows L2
section
end
end Hd
set_option maxHeartbeats 1000000
namespace Hd
open PySem PySem.Spec PyProof.Rows L2 RT
def IsRs (h : Heap) (a : Addr) (x : Str) (u : Tok) (i : Int) : Prop := ∃ o, h.get? a = some o ∧ o.cls = .type "reversed" ∧ o.data = .fields #[.str x u, rawInt i]
theorem IsRs.at {h h' : Heap} {a : Addr} {x : Str} {u : Tok} {i : Int} (y : IsRs h a x u i) (e : ∀ o, h.get? a = some o → h'.get? a = some o) : IsRs h' a x u i := let ⟨o, ho, r⟩ := y; ⟨o, e _ ho, r⟩
section
end
section
end
end Hd
namespace Hd
open PySem PySem.Spec PyProof.Rows L2
section
end
end Hd
namespace Hd
open PySem PySem.Spec PyProof.Rows L2
section
variable {p : Pr} {sc : Scope} {NN VV GG : List Str} {k : Nat} {g : G} {L : List Slot} {α β δ : Type} {S : Ty α} {T : Ty β} {md md' : Md} {pos : Pos} {st : List Stmt} {D : δ → Out} {i j : Nat} {x : Str} {a b c e : Expr}
inductive KReps {α : Type} (T : Ty α) (R : RdR) : List (Key × α) → List (Key × V) → Prop where
  | nil : KReps T R [] []
  | cons {k d v ds vs} : T.rep d v R → KReps T R ds vs → KReps T R ((k, d) :: ds) ((k, v) :: vs)
theorem KReps.mono {R R' : RdR} {ds : List (Key × α)} {vs : List (Key × V)} (h : KReps S R ds vs) (s : ∀ a o, R a o → R' a o) : KReps S R' ds vs := by
  induction h with
  | nil => exact .nil
  | cons r _ ih => exact .cons (S.mono r s) ih
theorem KReps.length {R : RdR} {ds : List (Key × α)} {vs : List (Key × V)} (h : KReps S R ds vs) : ds.length = vs.length := by
  induction h with
  | nil => rfl
  | cons r _ ih => simp [ih]
/-- what stands at a key -/
def dgetL {α : Type} (ds : List (Key × α)) (k : Key) : Option α := (ds.find? fun kv => decide (kv.1 = k)).map (·.2)
def dputL {α : Type} (ds : List (Key × α)) (k : Key) (d : α) : List (Key × α) := if (ds.any fun kv => decide (kv.1 = k)) = true then ds.map (fun kv => if kv.1 = k then (kv.1, d) else kv) else ds ++ [(k, d)]
theorem KReps.get {R : RdR} {ds : List (Key × α)} {vs : List (Key × V)} (h : KReps S R ds vs) (k : Key) : (dgetL ds k = none ∧ valV vs k = none) ∨ ∃ d v, dgetL ds k = some d ∧ valV vs k = some v ∧ S.rep d v R := by
  induction h with
  | nil => exact .inl ⟨rfl, rfl⟩
  | @cons k' d v ds vs r _ ih =>
    by_cases e : k' = k
    · exact .inr ⟨d, v, by simp [dgetL, List.find?_cons, e], valV_pos e, r⟩
    · have e1 : dgetL ((k', d) :: ds) k = dgetL ds k := by simp [dgetL, List.find?_cons, e]
      rw [e1, valV_neg e]
      exact ih
theorem KReps.map {R : RdR} {ds : List (Key × α)} {vs : List (Key × V)} (h : KReps S R ds vs) (k : Key) {d : α} {v : V} (r : S.rep d v R) : KReps S R (ds.map (fun kv => if kv.1 = k then (kv.1, d) else kv)) (vs.map (fun kv => if kv.1 = k then (kv.1, v) else kv)) := by
  induction h with
  | nil => exact .nil
  | @cons k' d' v' ds vs r' _ ih =>
    rw [List.map_cons, List.map_cons]
    by_cases e : k' = k
    · simp only [if_pos e]; exact .cons r ih
    · simp only [if_neg e]; exact .cons r' ih
theorem KReps.any {R : RdR} {ds : List (Key × α)} {vs : List (Key × V)} (h : KReps S R ds vs) (k : Key) : (ds.any fun kv => decide (kv.1 = k)) = (vs.any fun kv => decide (kv.1 = k)) := by
  induction h with
  | nil => rfl
  | cons r _ ih => rw [List.any_cons, List.any_cons, ih]
theorem KReps.snoc {R : RdR} {ds : List (Key × α)} {vs : List (Key × V)} (h : KReps S R ds vs) (k : Key) {d : α} {v : V} (r : S.rep d v R) : KReps S R (ds ++ [(k, d)]) (vs ++ [(k, v)]) := by
  induction h with
  | nil => exact .cons r .nil
  | cons r' _ ih => exact .cons r' ih
theorem KReps.put {R : RdR} {ds : List (Key × α)} {vs : List (Key × V)} (h : KReps S R ds vs) (k : Key) {d : α} {v : V} (r : S.rep d v R) : KReps S R (dputL ds k d) (putK vs k v) := by
  unfold dputL putK
  rw [h.any k]
  split
  · exact h.map k r
  · exact h.snoc k r
def sDict {α : Type} (b : Bool) (T : Ty α) (ds : List (Key × α)) : Slot := ⟨fun v H R F => ∃ p xs, v = some (.ref p) ∧ F = [p] ∧ H p = some (.dK xs) ∧ KReps T (R b) ds xs,
  fun ⟨p, xs, e, f, h, r⟩ s k => ⟨p, xs, e, f, by rw [k p (by simp [f])]; exact h, r.mono (s b)⟩, fun ⟨p, xs, e, f, h, r⟩ q hq => by subst f; rw [List.mem_singleton.mp hq, cl_of h]; exact fun z => nomatch z⟩
theorem At.mutD {fm : Fm} {kp : RdR} {σ : L2.St} {H : Hp} {own : List Addr} {b : Bool} {ds : List (Key × α)} {i : Nat} (h : At fm kp L σ H own) (hL : L[i]? = some (sDict b S ds)) :
    ∃ p vs, σ[i]? = some (some (.ref p)) ∧ H p = some (.dK vs) ∧ KReps S (RB fm own H b) ds vs ∧ ∀ ds' vs', KReps S (RB fm own H b) ds' vs' → At fm kp (L.set i (sDict b S ds')) σ (upd H p (.dK vs')) own := by
  obtain ⟨h1, h2, ⟨Fs, h3, rfl⟩, h4, h5, h6⟩ := h
  obtain ⟨v, F, e1, e2, q, vs, rfl, rfl, hp, r⟩ := h3.get hL
  have qin : q ∈ Fs.flatten := List.mem_flatten.mpr ⟨[q], List.mem_of_getElem? e2, by simp⟩
  refine ⟨q, vs, e1, hp, r, fun ds' vs' r' => ?_⟩
  have key : ∀ (md : Md) a o, RX fm Fs.flatten H H md a o → RX fm Fs.flatten (upd H q (.dK vs')) (upd H q (.dK vs')) md a o ∨ md = .fx := fun md a o z => by
    cases md with
    | sh =>
      rcases z with z | z
      · have n : a ≠ q := fun e => z.2.1 (by rw [e]; exact qin)
        refine .inl (.inl ⟨?_, z.2⟩)
        unfold Rd
        rw [cl_upd_ne n]
        exact z.1
      · exact .inl (.inr z)
    | f0 =>
      have n : a ≠ q := fun e => z.2.1 (by rw [e]; exact qin)
      exact .inl ⟨by rw [cl_upd_ne n]; exact z.1, z.2⟩
    | fx => exact .inr rfl
  have keyB : ∀ (b : Bool) a o, RB fm Fs.flatten H b a o → RB fm Fs.flatten (upd H q (.dK vs')) b a o := fun b a o z => by
    cases b with
    | false => exact (key .sh a o z).resolve_right (fun e => nomatch e)
    | true => exact (key .f0 a o z).resolve_right (fun e => nomatch e)
  have up : ∀ a, H a ≠ none → upd H q (.dK vs') a ≠ none := fun a n => by
    by_cases e : a = q
    · rw [e, upd_same]; exact fun z => by cases z
    · rw [upd_ne e]; exact n
  refine ⟨h1.wr (h5 q qin).2.1 hp (fun _ z => nomatch z) rfl, fun a z => up a (h2 a z), ⟨Fs, ?_, rfl⟩, h4, fun x hx => ⟨up x (h5 x hx).1, (h5 x hx).2⟩, fun a o z => (key .sh a o (h6 a o z)).resolve_right (fun e => nomatch e)⟩
  · -- the slots
    have gen : ∀ {L : List Slot} {σ : L2.St} {Fs' : List (List Addr)}, AllS H (RB fm Fs.flatten H) L σ Fs' → Fs'.flatten.Nodup → ∀ {i : Nat}, Fs'[i]? = some [q] → L[i]? = some (sDict b S ds) → σ[i]? = some (some (V.ref q)) →
        AllS (upd H q (.dK vs')) (RB fm Fs.flatten (upd H q (.dK vs'))) (L.set i (sDict b S ds')) σ Fs' := by
      intro L σ Fs' hA
      induction hA with
      | nil => intro _ i e _ _; simp at e
      | @cons sl L v σ F Fs' r t ih =>
        intro nd i e eL eσ
        rw [List.flatten_cons, List.nodup_append] at nd
        cases i with
        | zero =>
          simp at e eL eσ
          subst e; subst eL; subst eσ
          refine .cons ⟨q, vs', rfl, rfl, upd_same, r'.mono (keyB b)⟩ (t.st keyB fun x hx => ?_)
          exact upd_ne fun z => nd.2.2 q (by simp) x hx z.symm
        | succ i =>
          have e' : Fs'[i]? = some [q] := by simpa using e
          refine .cons (sl.st r keyB fun x hx => upd_ne fun z => nd.2.2 x hx q (List.mem_flatten.mpr ⟨[q], List.mem_of_getElem? e', by simp⟩) z) (ih nd.2.1 e' (by simpa using eL) (by simpa using eσ))
    exact gen h3 h4 e2 hL e1
theorem At.setOwnD {fm : Fm} {kp : RdR} {σ : L2.St} {H H' : Hp} {own : List Addr} {b : Bool} {ds : List (Key × α)} {vs : List (Key × V)} {q : Addr} (h : At fm kp L σ H own) (s : Same H H') (hn : H q = none) (h' : H' q = some (.dK vs))
    (r : KReps S (RB fm (q :: own) H' b) ds vs) : ∃ own', At fm kp (L.set i (sDict b S ds)) (σ.set i (some (.ref q))) H' own' := by
  obtain ⟨h1, h2, ⟨Fs, h3, rfl⟩, h4, h5, h6⟩ := h
  have hq : q ∉ Fs.flatten := fun z => (h5 q z).1 hn
  have sub : ∀ x ∈ (Fs.set i [q]).flatten, x ∈ q :: Fs.flatten := fun x hx => (set_own x hx).elim (fun e => by rw [e]; exact List.mem_cons_self) (List.mem_cons_of_mem _)
  have key : ∀ (md : Md) a o, RX fm Fs.flatten H H md a o → RX fm (Fs.set i [q]).flatten H H' md a o := fun md a o z => by
    refine RX.own sub a o ?_
    have z1 := RX.add (o' := .lst []) hn a o z
    have na : a ≠ q ∨ KObj fm.K a o := by
      rcases RX.sh a o z with z | z
      · exact .inl fun e => Rd.some z.1 (by rw [e]; exact cl_none hn)
      · exact .inr z
    cases md with
    | sh =>
      rcases z1 with z1 | z1
      · rcases z with z | z
        · exact .inl ⟨Rd.same s z.1, z1.2⟩
        · exact .inr z
      · exact .inr z1
    | f0 => exact ⟨s.cl _ _ z.1, z1.2⟩
    | fx => exact ⟨s.cl _ _ z.1, z1.2⟩
  have keyB : ∀ (b : Bool) a o, RB fm Fs.flatten H b a o → RB fm (Fs.set i [q]).flatten H' b a o := fun b a o z => by
    cases b with
    | false => exact key .sh a o z
    | true => exact key .f0 a o z
  refine ⟨_, h1.trans s, fun a z n => h2 a z (s.free n), ⟨Fs.set i [q], (h3.st (H' := H') keyB fun p hp => ?_).set (s := sDict b S ds) ⟨q, vs, rfl, rfl, h', r.mono fun a o z => ?_⟩ i, rfl⟩, set_own_nd hq h4, fun p hp => ?_, fun a o z => key .sh a o (h6 a o z)⟩
  · cases e : cl H p with
    | none => exact absurd e (h3.tb p hp)
    | some u => rw [cl_raw e]; exact s.keep _ _ (cl_raw e) (cl_nt e)
  · cases b <;> exact RX.own sub a o z
  · rcases set_own p hp with rfl | hp
    · exact ⟨by rw [h']; exact (fun z => by cases z), h1.free hn, fun z => h2 _ z hn⟩
    · exact ⟨fun e => (h5 p hp).1 (s.free e), (h5 p hp).2⟩
theorem evb_newD {f : List (Key × α) → M δ} {pos' pd : Pos} (ok : OkS p sc NN VV GG k g) (hN : NN[i]? = some x) (hV : VV[j]? = some x) (hr : ∀ ds, EvB g (L.set i (sDict false S ds)) st D (f ds))
    (hs : ∀ Y : Cx, swapsWith (.Dict [] [] pd) (some (.Name x pos')) pos.line Y.env = pure false := by intro _; rfl) : EvB g L (.Assign [.Name x pos'] (.Dict [] [] pd) pos :: st) D ((M.ok ([] : List (Key × α))).bind f) := by
  refine PSs.imp (pss_cons (ps_set (i := i) (by rw [ok.N]; exact ok.nd) (by rw [ok.N]; exact hN) (ok.loc hV) pe_dnewK (hs _) (okS_fn ok)) (PSs.ex hr)) fun E σ H ⟨kp, own, at_, q⟩ => ?_
  intro q' hq'
  obtain ⟨own', a'⟩ := at_.setOwnD (S := S) (i := i) (b := false) (ds := []) (vs := []) (newSame hq') hq' upd_same .nil
  exact ⟨[], kp, own', a', q⟩
def dputM {α : Type} (ds : List (Key × α)) (k : Key) (d : α) : M (List (Key × α)) := if ds.length < sizeLine then .ok (dputL ds k d) else .no
theorem evb_putD {bb : Bool} {ds : List (Key × α)} {m : M α} {mi : M Int} {f : List (Key × α) → M δ} {ix : Expr} {p1 p2 : Pos} (ok : OkS p sc NN VV GG k g) (wk : Wk L g.LX) (hN : NN[i]? = some x) (hV : VV[j]? = some x) (hL : L[i]? = some (sDict bb S ds)) (hb : SlB md bb)
    (he : EvE g L e md S m) (hi : EvE g L ix md' tInt mi) (hr : ∀ ds', EvB g (L.set i (sDict bb S ds')) st D (f ds'))
    (hs : swapsWith e (some (.Subscript (.Name x p1) ix p2)) pos.line g.X.env = pure false := by rfl) :
    EvB g L (.Assign [.Subscript (.Name x p1) ix p2] e pos :: st) D (m.bind fun d => mi.bind fun n => (dputM ds (.inl n) d).bind f) := by
  obtain ⟨hv, ho⟩ := ok.vis hV
  obtain ⟨h1, h2, _⟩ := okName_d ho
  refine PSs.imp (pss_cons (ps_dput (by have := ok.toOk.room.un; omega) (pe_var (i := i) (by rw [ok.N]; exact hN) hv h1 h2) hi he hs) (PSs.ex hr)) fun E σ H ⟨kp, own, at_, q⟩ => ?_
  refine tE_iff.mpr ⟨kp, own, at_, ?_⟩
  cases m with
  | ok d =>
    intro v H1 s1 r1
    have a1 := at_.ext s1
    obtain ⟨p', vs, e1, hp, r, mu⟩ := a1.mutD hL
    refine ⟨_, e1, tE_iff.mpr ⟨kp, own, a1, ?_⟩⟩
    cases mi with
    | ok n =>
      intro y H2 s2 r2
      cases (show y = .int n from r2)
      have a2 := a1.ext s2
      obtain ⟨p2', vs2, e12, hp2, rr2, mu2⟩ := a2.mutD hL
      rw [e1] at e12
      cases e12
      have q : BOk g kp E D ((dputM ds (.inl n) d).bind f) := q
      unfold dputM at q
      split at q
      · rename_i hlt
        exact ⟨p', _, rfl, DPut.k (k := .inl n) hp2 (by rw [← rr2.length]; exact hlt), dputL ds (.inl n) d, kp, own, mu2 _ _ (rr2.put (.inl n) (S.mono r1 fun a o z => RB.same s2 bb a o (hb.rb a o z))), q⟩
      · exact q.elim
    | ex c => exact BOk.exx wk a1 q
    | no => exact q
  | ex c => exact BOk.exx wk at_ q
  | no => exact q
end
end Hd
namespace Hd
open PySem PySem.Spec PyProof.Rows L2
section
variable {p : Pr} {sc : Scope} {NN VV GG : List Str} {k : Nat} {g : G} {L : List Slot} {α β δ : Type} {S : Ty α} {T : Ty β} {md md' : Md} {pos : Pos} {st : List Stmt} {D : δ → Out} {i j : Nat} {x : Str} {a b c e : Expr}
theorem KReps.some {R : RdR} {ds : List (Key × α)} {vs : List (Key × V)} (h : KReps S R ds vs) (k : Key) : (valV vs k).isSome = (dgetL ds k).isSome := by
  rcases h.get k with ⟨g1, g2⟩ | ⟨d, v, g1, g2, _⟩ <;> rw [g1, g2] <;> rfl
def getDM {α : Type} (ds : List (Key × α)) (k : Key) : M α := match dgetL ds k with
  | some d => .ok d
  | none => .no
/-- d[n], a dict of one's own -/
theorem ev_subOwn {bb : Bool} {ds : List (Key × α)} {m1 : M Int} {npos : Pos} (ok : Ok p sc NN VV GG k g) (hN : NN[i]? = some x) (hV : VV[j]? = some x) (hL : L[i]? = some (sDict bb S ds)) (ha : EvE g L a .sh tInt m1)
    (hs : NoSl a := by intro _ _; rfl) : EvE g L (.Subscript (.Name x npos) a pos) .sh S (m1.bind fun n => getDM ds (.inl n)) := by
  obtain ⟨hv, ho⟩ := ok.vis hV
  obtain ⟨h1, h2, _⟩ := okName_d ho
  refine PE.imp (pe_dget (by have := ok.room.un; omega) (pe_var (i := i) (by rw [ok.N]; exact hN) hv h1 h2) ha hs) fun σ H Q q => ?_
  obtain ⟨kp, own, at_, q⟩ := tE_iff.mp q
  obtain ⟨Fs, hA, rfl⟩ := at_.sl
  obtain ⟨v, F, e1, e2, pp, vs, rfl, rfl, hp, r⟩ := hA.get hL
  refine ⟨_, e1, sub finE (Same.refl H) at_ q fun n y H2 s2 r2 at2 q2 => ?_⟩
  cases (show y = .int n from r2)
  unfold getDM at q2
  rcases r.get (.inl n) with ⟨g1, g2⟩ | ⟨d', v', g1, g2, g3⟩
  · rw [g1] at q2
    exact q2.elim
  · rw [g1] at q2
    refine ⟨pp, v', rfl, by rw [← g2]; exact DGet.k (k := .inl n) (s2.keep _ _ hp rfl), q2 v' H2 s2 (S.mono g3 fun a o z => ?_)⟩
    have z1 : RX g.fm Fs.flatten H H (if bb then .f0 else .sh) a o := z
    exact RX.same s2 a o (RX.sh a o z1)
end
end Hd
namespace Hd
open PySem PySem.Spec PyProof.Rows L2
section
end
end Hd
namespace Hd
open PySem PySem.Spec PyProof.Rows L2
section
end
end Hd
namespace Hd
open PySem PySem.Spec PyProof.Rows L2
section
end
section
variable {p : Pr} {sc : Scope} {NN VV GG : List Str} {k : Nat} {g : G} {L : List Slot} {α β δ : Type} {S : Ty α} {T : Ty β} {Q : Ty (List α)} {md md' : Md} {pos pp p2 pos2 : Pos} {st : List Stmt} {D : δ → Out} {i j j2 : Nat} {x : Str} {a b c e : Expr}
def rangeL (lo hi : Int) : M (List Int) := if -(2 ^ 62) ≤ lo ∧ lo < 2 ^ 62 ∧ -(2 ^ 62) ≤ hi ∧ hi < 2 ^ 62 ∧ (hi - lo).toNat ≤ 2 ^ 24 then .ok (upFrom lo (hi - lo).toNat) else .no
theorem rgV_up (lo hi : Int) : rgV lo hi = (upFrom lo (hi - lo).toNat).map V.int := by
  apply List.ext_getElem?
  intro i
  unfold rgV
  rw [List.getElem?_map, List.getElem?_map, upFrom_get]
  by_cases h : i < (hi - lo).toNat
  · rw [if_pos h, List.getElem?_range h]; rfl
  · rw [if_neg h, List.getElem?_eq_none (by simp; omega)]; rfl
theorem rangeL_ok {lo hi : Int} {F : M (List Int) → Prop} (no : ¬ F .no) (q : F (rangeL lo hi)) : RgOk lo hi ∧ F (.ok (upFrom lo (hi - lo).toNat)) := by
  unfold rangeL at q
  split at q
  · rename_i h; exact ⟨h, q⟩
  · exact absurd q no
theorem evl_listRg1 {m : M Int} (ok : Ok p sc NN VV GG k g) (hG : GG[j]? = some "list") (hmg : p.mg "list" = none) (hG2 : GG[j2]? = some "range") (hmg2 : p.mg "range" = none) (ha : EvE g L a md tInt m)
    (hs : starEach [a] g.X.env = (false, eval a g.X.env) :: starEach [] g.X.env := by rfl) (hs2 : starEach [.Call (.Name "range" p2) [a] [] pos2] g.X.env = (false, eval (.Call (.Name "range" p2) [a] [] pos2) g.X.env) :: starEach [] g.X.env := by rfl) :
    EvL g L (.Call (.Name "list" pp) [.Call (.Name "range" p2) [a] [] pos2] [] pos) md' tInt (m.bind fun n => rangeL 0 n) := by
  obtain ⟨hg, ho⟩ := ok.gl hG
  obtain ⟨hg2, ho2⟩ := ok.gl hG2
  refine PE.imp (pe_listRg ok.calm hg (by rw [ok.mg]; exact hmg) (prg_1 hg2 (by rw [ok.mg]; exact hmg2) ha hs) hs2) fun σ H W q => ?_
  obtain ⟨kp, own, at_, q⟩ := tL_iff.mp q
  refine tE_iff.mpr ⟨kp, own, at_, ?_⟩
  cases m with
  | ok n =>
    intro v H1 s1 rx
    cases (show v = .int n from rx)
    obtain ⟨h1, q⟩ := rangeL_ok (F := FinL g.fm g.W own σ H md' tInt W) (fun z => z) q
    exact ⟨n, rfl, h1, fun l hl => q l _ _ (s1.trans (newSame hl)) (s1.free hl) upd_same (by rw [rgV_up]; exact reps_ints _)⟩
  | ex c => exact q
  | no => exact q
end
end Hd
namespace Hd
open PySem PySem.Spec PyProof.Rows L2
theorem eachIs_get {α β : Type} {R : α → β → Prop} : ∀ (as : List α) (bs : List β), as.length = bs.length → (∀ (i : Nat) a b, as[i]? = some a → bs[i]? = some b → R a b) → PySem.W.EachIs R as bs
  | [], [], _, _ => .nil
  | [], _ :: _, h, _ => by simp at h
  | _ :: _, [], h, _ => by simp at h
  | a :: as, b :: bs, h, f => .cons (f 0 a b rfl rfl) (eachIs_get as bs (by simpa using h) fun i x y e1 e2 => f (i + 1) x y (by simpa using e1) (by simpa using e2))
section
variable {prog : Program} {w : World} {A : Around} {E : Value → Shared → Prop} {s : Shared}
theorem sorted_key_range {r q : Addr} {lo hi : Int} {t u v : Tok} {Q : Value → Shared → Prop} (k : Int → PyData) (hh : A.handled = none) (hr : IsRange s.heap r lo hi 1 t u v) (ok : RgOk lo hi)
    (hal : PySem.W.AllAlike ((upFrom lo (hi - lo).toNat).map k)) (hk : PySem.W.Sortable ((upFrom lo (hi - lo).toNat).map k)) (hu : ∀ x, x ∈ upFrom lo (hi - lo).toNat → A.units + 2 + (k x).depth < cLine)
    (turn : ∀ (x : Int) (tx : Tok), x ∈ upFrom lo (hi - lo).toNat → ∀ (h : Heap) (tk : Nat), (∀ b o, s.heap.get? b = some o → h.get? b = some o) →
      wpAny (model prog w) A.in1.in1 (call (.ref q) [.int x tx]) (PySem.W.KeyPure (k x) { s with heap := h, toks := tk }) (fun _ _ => False) { s with heap := h, toks := tk })
    (h : ∀ (h1 : Heap) (tk1 : Nat), (∀ b o, s.heap.get? b = some o → h1.get? b = some o) → ∀ (out : List Value) (c : Nat) (h' : Heap) (tk : Nat), (∀ b o, h1.get? b = some o → h'.get? b = some o) → h'.get? h1.objs.size = some { cls := .type "list", data := .seq out.toArray c } → PySem.W.EachIs (fun v x => ∃ t, v = Value.int x t) out ((upFrom lo (hi - lo).toNat).mergeSort (PySem.W.dataLe false k)) →
      Q (.ref h1.objs.size) { s with heap := h', toks := tk }) :
    wpAny (model prog w) A (call (.builtin "sorted") [.ref r] [(Str.ofString "key", .ref q)]) Q E s := by
  obtain ⟨b1, b2, b3, b4, b5⟩ := ok
  have hline : (2 : Nat) ^ 24 ≤ sizeLine := by rw [sizeLine_eq]; decide
  refine PyProof.Rows.call_function_entry_kw kind_sorted plain_sorted entry_sorted (ksk_s1 _ _) ?_
  unfold Builtin.«sorted»
  refine wpAny_bind (m := checkCount "sorted" 1 1 _) (wpAny_pure ?_)
  refine wpAny_bind (collect_range (A := A.in1) hh hr (small_one b1 b2 b3 b4) (rangeSize_nat lo hi) b5 fun h1 tk1 acc hk1 hi1 => ?_)
  have hL : acc.toList.length ≤ sizeLine := by rw [Array.length_toList, hi1.1]; exact Nat.le_trans b5 hline
  refine wpAny_bind (wpAny_newList ?_ hL)
  have each : PySem.W.EachIs (fun v x => ∃ t, v = Value.int x t) acc.toList (upFrom lo (hi - lo).toNat) := by
    refine eachIs_get _ _ (by rw [Array.length_toList, hi1.1, upFrom_len]) fun i a b e1 e2 => ?_
    obtain ⟨t, e⟩ := hi1.2 i a (by rw [← Array.getElem?_toList]; exact e1)
    rw [upFrom_get] at e2
    split at e2
    · cases e2; exact ⟨t, by rw [e, Int.mul_one]⟩
    · cases e2
  have at1 : (h1.push { cls := .type "list", data := .seq acc.toList.toArray }).get? h1.objs.size = some { cls := .type "list", data := .seq acc.toList.toArray } := Heap.get?_push_size _ rfl
  have up1 : ∀ b o, h1.get? b = some o → b ≠ h1.objs.size ∧ (h1.push { cls := .type "list", data := .seq acc.toList.toArray }).get? b = some o := fun b o e =>
    ⟨Nat.ne_of_lt (Heap.lt_size e), Heap.get?_push_of_some _ e⟩
  refine wpAny_bind (wpAny_holding (PySem.W.list_sort_key_data (s := { s with heap := h1.push { cls := .type "list", data := .seq acc.toList.toArray }, toks := tk1 }) (R := fun v x => ∃ t, v = Value.int x t) (f := .ref q) (b := false) (n := 0) k at1 each hal hk (by rw [← each.length]; exact hL) (fun x hx => by have := hu x hx; simp only [Around.in1] at *; omega) (ksk_l1 _ _) (ksk_t1 _ _) (fun v x hR hx h tk kp => ?_) fun out c h' tk kp hD _ hE => ?_))
  · obtain ⟨tx, rfl⟩ := hR
    exact turn x tx hx h tk fun b o e => kp b o (up1 b o (hk1 b o e)).1 (up1 b o (hk1 b o e)).2
  · exact wpAny_pure ⟨_, rfl, h h1 tk1 hk1 out c h' tk (fun b o e => kp b o (up1 b o e).1 (up1 b o e).2) hD hE⟩
end
section
open LamX
variable {X : Cx} {pins : List (Addr × Obj)} {σ : L2.St} {H : Hp} {s : Shared}
/-- a table that has one more code object -/
theorem same_tab {P c' : Addr} {ps : Array Value} {pos : Pos} (hP : H P = some (.tbl ps)) (nC : H c' = none) : Same H (upd (upd H P (.tbl (ps ++ #[rawInt pos.line, rawInt pos.col, .ref c']))) c' (CodeO c' lamQ)) := by
  have nPc : P ≠ c' := ne_of_none hP nC
  refine ⟨fun a o e n => ?_, fun a e => ?_, fun P' ⟨ps', t1, t2, t3⟩ => ?_⟩
  · have n1 : a ≠ c' := ne_of_none e nC
    have n2 : a ≠ P := fun z => by rw [z, hP] at e; cases e; cases n
    rw [upd_ne n1, upd_ne n2]; exact e
  · by_cases z : a = c'
    · rw [z, upd_same] at e; cases e
    · rw [upd_ne z] at e
      by_cases z2 : a = P
      · rw [z2, upd_same] at e; cases e
      · rw [upd_ne z2] at e; exact e
  · have old : ∀ c2, H c2 = some (CodeO c2 lamQ) → upd (upd H P (.tbl (ps ++ #[rawInt pos.line, rawInt pos.col, .ref c']))) c' (CodeO c' lamQ) c2 = some (CodeO c2 lamQ) := fun c2 e => by
      have n1 : c2 ≠ c' := ne_of_none e nC
      have n2 : c2 ≠ P := fun z => by rw [z, hP] at e; exact codeO_ne ps (Option.some.inj e).symm
      rw [upd_ne n1, upd_ne n2]; exact e
    by_cases hb : P' = P
    · subst hb
      rw [hP] at t1
      cases t1
      have eL : (ps ++ #[rawInt pos.line, rawInt pos.col, .ref c']).toList = ps.toList ++ [rawInt pos.line, rawInt pos.col, .ref c'] := by simp
      refine ⟨_, by rw [upd_ne nPc, upd_same], by rw [eL]; exact PySem.TriplesOk_snoc _ _ _ _ t2, fun p' cv hcv => ?_⟩
      rw [eL] at hcv
      rcases among_app _ t2 hcv with z | z
      · obtain ⟨c0, e1, e2⟩ := t3 p' cv z
        exact ⟨c0, e1, old c0 e2⟩
      · exact ⟨c', z, upd_same⟩
    · refine ⟨ps', by rw [upd_ne (ne_of_none t1 nC), upd_ne hb]; exact t1, t2, fun p' cv hcv => ?_⟩
      obtain ⟨c0, e1, e2⟩ := t3 p' cv hcv
      exact ⟨c0, e1, old c0 e2⟩
theorem lam_mk {c P : Addr} {params : Arguments} {body : Expr} {scope : Scope} {pos : Pos} {E : Value → Shared → Prop} {Q : Value → Shared → Prop} (I : Inv X pins σ H s) (TB : TabB X.base X.mg c P) (hcode : X.env.code = .ref c)
    (hq : X.env.qual ++ "<lambda>" = lamQ) (hT : TabS H P lamQ) (hdef : defaultsOf params X.env = ([], [])) (hfree : ∀ y ∈ scope.names, y.2 = .free → ∃ c, X.env.cells.lookup y.1 = some c)
    (h : ∀ (f c' : Addr) (pm ctv : Value) (H1 : Hp) (s' : Shared), Inv X pins σ H1 s' → Same H H1 →
      s'.heap.get? f = some (PySem.W.kla_obj "<lambda>" lamQ params body scope (cloFrom X.env.cells scope.names []) pm c' ctv) → H1 c' = some (CodeO c' lamQ) → Q (.ref f) s') :
    wpAny (model X.prog X.w) X.A (eval (.Lambda params body scope pos) X.env) Q E s := by
  obtain ⟨ps, hP, ht, ha⟩ := hT
  have hP' : s.heap.get? P = some { cls := .none, data := .fields ps } := I.hok P _ hP
  have bP : s.heap.BuiltinsAt X.mg P := TB.bm.keeps I.bk
  rw [← hq] at ha h
  refine PySem.W.kla_eval hdef ?_
  cases hc : codeAmong pos ps.toList with
  | some cv =>
    obtain ⟨c', rfl, hco⟩ := ha pos cv hc
    refine PySem.W.kla_makeFunctionHit (c := c) (P := P) (ps := ps) (mg := X.mg) (closure_ok hfree) I.ok.glob (I.mod.glob.keeps I.bk) hcode (TB.code.keeps I.bk) hP' ht hc bP fun ctv h' tk hx hsz => ?_
    refine h h'.objs.size c' ((X.mg "__name__").getD .none) ctv H _ (I.kept (t' := tk) fun b o e => Heap.get?_push_of_some _ (hx b o e)) (Same.refl H) (Heap.get?_push_size _ rfl) hco
  | none =>
    refine PySem.W.kla_makeFunction (c := c) (P := P) (ps := ps) (mg := X.mg) (closure_ok hfree) I.ok.glob (I.mod.glob.keeps I.bk) hcode (TB.code.keeps I.bk) hP' ht hc TB.gP bP fun c' ctv h' tk hx hge hlt hrec htb => ?_
    obtain ⟨c2, oc, vs, t, e2, hoc, hd, hv⟩ := hrec
    cases e2
    have nC : H c' = none := I.hok.fresh hge
    refine h h'.objs.size c' ((X.mg "__name__").getD .none) ctv _ _ (inv_table (t' := tk) (more := #[rawInt pos.line, rawInt pos.col, .ref c']) (h' := h'.push _) I hP (fun b o hb e => Heap.get?_push_of_some _ (hx b o hb e)) (Heap.get?_push_of_some _ htb) hge ⟨oc, vs, t, Heap.get?_push_of_some _ hoc, hd, hv⟩) ?_ (Heap.get?_push_size _ rfl) upd_same
    rw [hq]
    exact same_tab hP nC
end
section
variable {prog : Program} {w : World} {A : Around} {s : Shared}
/-- the lambda's body -/
abbrev lamBody (y z : Str) (q1 q2 q3 q4 q5 q6 : Pos) (x1 : Nat) : Expr := .Tuple [.UnaryOp .USub (.Subscript (.Name y q1) (.Name z q2) q3) q4, .Name z q5] x1 q6
/-- .. at a number -/
theorem lam_key {f c' ca cc : Addr} {y z : Str} {q1 q2 q3 q4 q5 q6 : Pos} {x1 : Nat} {params : Arguments} {scope : Scope} {cl : List (Str × Addr)} {pm ctv : Value} {its : Array Value} {x n : Int} {tx tn : Tok} (room : A.depth < recursionLimit)
    (hf : s.heap.get? f = some (PySem.W.kla_obj "<lambda>" lamQ params (lamBody y z q1 q2 q3 q4 q5 q6 x1) scope cl pm c' ctv)) (hcr : s.heap.CodeRec (.ref c') lamQ) (lim : s.heap.NoLimit)
    (hcl : cl.lookup y = some cc) (hcell : s.heap.IsCell cc (some (.ref ca))) (hl : s.heap.IsList ca its) (hx0 : 0 ≤ x) (hx1 : x < 2 ^ 62) (hit : its[x.toNat]? = some (.int n tn))
    (kd : scope.kind = .function) (co : scope.isCoroutine = false) (gen : scope.isGenerator = false) (nc : ∀ a ∈ scope.names, a.2 ≠ .cell) (sy : scope.names.lookup y = some .free) (sz : scope.names.lookup z = some .local)
    (hy : (y == ("__debug__" : Str)) = false) (hy2 : (y == ("__classdict__" : Str)) = false) (hz : (z == ("__debug__" : Str)) = false)
    (hbind : bindArgs (PySem.W.kla_fn "<lambda>" lamQ params (lamBody y z q1 q2 q3 q4 q5 q6 x1) scope cl pm (.ref c') ctv) ⟨[.int x tx], []⟩ = pure [(z, .int x tx)])
    (hs1 : ∀ env, starEach [Expr.UnaryOp .USub (.Subscript (.Name y q1) (.Name z q2) q3) q4, .Name z q5] env = (false, eval (.UnaryOp .USub (.Subscript (.Name y q1) (.Name z q2) q3) q4) env) :: starEach [Expr.Name z q5] env := by intro _; rfl)
    (hs2 : ∀ env, starEach [Expr.Name z q5] env = (false, eval (.Name z q5) env) :: starEach [] env := by intro _; rfl) :
    wpAny (model prog w) A (call (.ref f) [.int x tx]) (PySem.W.KeyPure (.tuple [.int (-n), .int x]) s) (fun _ _ => False) s := by
  refine wpAny_call (PySem.W.kla_callFunE room hf rfl co gen rfl hcr ?_)
  rw [hbind]
  refine wpAny_pure (wpAny_newFunctionEnv nc (fun a ha => by rw [List.mem_singleton.mp ha]; exact sz) (fun h₁ hns hsb => ⟨lim.fresh _ hsb, ?_⟩) kd)
  have kp : ∀ b o, s.heap.get? b = some o → h₁.get? b = some o := fun b o e => hsb.extBut b o (Nat.ne_of_lt (Heap.lt_size e)) (Heap.get?_push_of_some _ e)
  show codeAny _ _ (.expr (lamBody y z q1 q2 q3 q4 q5 q6 x1) (PySem.W.envX lamQ scope s.heap.objs.size f (.ref c') cl)) _ _
  have cell1 : h₁.IsCell cc (some (.ref ca)) := by obtain ⟨o, ho, hd⟩ := hcell; exact ⟨o, kp _ _ ho, hd⟩
  have list1 : h₁.IsList ca its := by obtain ⟨o, ho, r⟩ := hl; exact ⟨o, kp _ _ ho, r⟩
  have lz : ([(z, Value.int x tx)] : List (Str × Value)).reverse.lookup z = some (.int x tx) := by simp [List.lookup]
  refine PySem.W.kla_codeExpr ?_
  refine wpAny_Tuple_spliced ?_
  rw [hs1]
  show wpAny _ _ (spliced ((false, _) :: backTo q6 (starEach [Expr.Name z q5] _))) _ _ _
  refine Calls.spliced_cons (UnaryOp_ (Subscript_ (wpAny_Name (wpAny_loadName_free kd sy hcl cell1 ?_ hy2) hy)))
  refine wpAny_Name (wpAny_loadName_local kd sz hns lz ?_) hz
  refine item_listR list1 hx0 (by omega) hit ?_
  refine neg_int ?_
  rw [hs2]
  show wpAny _ _ (spliced ((false, _) :: backTo q6 (starEach [] _))) _ _ _
  refine Calls.spliced_cons (wpAny_Name (wpAny_loadName_local kd sz hns lz ?_) hz)
  refine Calls.spliced_nil ⟨by show 2 ≤ sizeLine; rw [sizeLine_eq]; decide, ?_⟩
  show PySem.W.KeyPure _ _ _ _
  refine ⟨_, _, rfl, fun b o e => Heap.get?_push_of_some _ (kp b o e), ?_⟩
  exact .tuple (Heap.get?_push_size _ rfl) rfl rfl (.cons (.int _ _) (.cons (.int _ _) .nil))
end
def keyC (cs : List Int) (x : Int) : Int := -(cs[x.toNat]?.getD 0)
def sortKey (cs : List Int) (lo hi : Int) : List Int := (upFrom lo (hi - lo).toNat).mergeSort fun p q => decide (keyC cs p < keyC cs q ∨ (keyC cs p = keyC cs q ∧ p ≤ q))
def sortKeyM (cs : List Int) (lo hi : Int) : M (List Int) := if 0 ≤ lo ∧ lo ≤ 1000000 ∧ 0 ≤ hi ∧ hi ≤ 1000000 ∧ hi ≤ (cs.length : Int) then .ok (sortKey cs lo hi) else .no
/-- what is asked of the lambda's text -/
structure LamF (params : Arguments) (body : Expr) (scope : Scope) (y z : Str) : Prop where
  kd : scope.kind = .function
  co : scope.isCoroutine = false
  gen : scope.isGenerator = false
  nc : ∀ a ∈ scope.names, a.2 ≠ .cell
  sy : scope.names.lookup y = some .free
  sz : scope.names.lookup z = some .local
  fr : ∀ a ∈ scope.names, a.2 = .free → a.1 = y
  hy : (y == ("__debug__" : Str)) = false
  hy2 : (y == ("__classdict__" : Str)) = false
  hz : (z == ("__debug__" : Str)) = false
  bind : ∀ (cl : List (Str × Addr)) (pm cv ctv v : Value), bindArgs (PySem.W.kla_fn "<lambda>" lamQ params body scope cl pm cv ctv) ⟨[v], []⟩ = pure [(z, v)]
theorem upFrom_bd {lo x : Int} {n : Nat} (h : x ∈ upFrom lo n) : lo ≤ x ∧ x < lo + n := by
  induction n generalizing lo with
  | zero => simp [upFrom] at h
  | succ n ih =>
    rw [upFrom, List.mem_cons] at h
    rcases h with rfl | h
    · omega
    · have := ih h; omega
/-- behind the range -/
def SortRest (K : PySem.W.Frag) (P : Addr) (i : Nat) (σ : L2.St) (Q : VK) (vs : List V) (H1 : Hp) : Prop := ∃ r lo hi ca cs H2, vs = [V.ref r] ∧ H2 r = none ∧ H1 = upd H2 r (.rng lo hi) ∧ (0 ≤ lo ∧ lo ≤ 1000000 ∧ 0 ≤ hi ∧ hi ≤ 1000000 ∧ hi ≤ ((cs : List Int).length : Int)) ∧ σ[i]? = some (some (V.ref ca)) ∧ SqL K H2 ca (cs.map V.int) ∧ LamX.TabS H2 P lamQ ∧
  ∀ H3 D, Same H2 H3 → H2 D = none → H3 D = some (.lst ((sortKey cs lo hi).map V.int)) → Q (.ref D) H3
def tSortLam (K : PySem.W.Frag) (P : Addr) (i : Nat) (ta tb : TE) : TE := fun σ H Q => ta σ H fun va H1 => tb σ H1 fun vb H2 => ∃ lo hi, [va, vb] = [V.int lo, V.int hi] ∧ ∀ r, H2 r = none → SortRest K P i σ Q [V.ref r] (upd H2 r (.rng lo hi))
theorem vals_each : ∀ {out : List Value} {L : List Int}, PySem.W.EachIs (fun v x => ∃ t, v = Value.int x t) out L → Vals (L.map V.int) out
  | _, _, .nil => .nil
  | _, _, .cons ⟨t, e⟩ h => .cons ⟨t, e⟩ (vals_each h)
theorem sqL_same {K : PySem.W.Frag} {H H' : Hp} {a : Addr} {xs : List V} (s : Same H H') (h : SqL K H a xs) : SqL K H' a xs := h.imp (fun r => Rd.raw (Rd.same s (Rd.clo r))) id
section
open LamX
variable {X : Cx} {k i : Nat} {a b : Expr} {ta tb : TE} {c P : Addr} {params : Arguments} {scope : Scope} {y z : Str} {p1 p2 p3 p4 lpos kpos q1 q2 q3 q4 q5 q6 : Pos} {x1 : Nat}
theorem pe_sortLam (hroom : Room k X.A) (hc : X.calm = true) (hg : Gl X "sorted") (hm : X.mg "sorted" = none) (hg2 : Gl X "range") (hm2 : X.mg "range" = none) (ha : PE X a ta) (hb : PE X b tb) (TB : TabB X.base X.mg c P) (hcode : X.env.code = .ref c)
    (hq : X.env.qual ++ "<lambda>" = lamQ) (hdef : defaultsOf params X.env = ([], [])) (F : LamF params (lamBody y z q1 q2 q3 q4 q5 q6 x1) scope y z) (hcell : X.env.scope.names.lookup y = some .cell) (hN : X.N[i]? = some y)
    (na : starEach [a, b] X.env = (false, eval a X.env) :: starEach [b] X.env) (nb : starEach [b] X.env = (false, eval b X.env) :: starEach [] X.env)
    (nr : starEach [.Call (.Name "range" p2) [a, b] [] p3] X.env = (false, eval (.Call (.Name "range" p2) [a, b] [] p3) X.env) :: starEach [] X.env := by rfl) :
    PE X (.Call (.Name "sorted" p1) [.Call (.Name "range" p2) [a, b] [] p3] [⟨some "key", .Lambda params (lamBody y z q1 q2 q3 q4 q5 q6 x1) scope lpos, kpos⟩] p4) (tSortLam X.K P i ta tb) := by
  refine ⟨fun pins s σ H Q I h => ?_⟩
  have hfree : ∀ n ∈ scope.names, n.2 = .free → ∃ c, X.env.cells.lookup n.1 = some c := fun n hn e => by
    rw [F.fr n hn e]; exact I.ok.has y (.inl hcell)
  have pr : PE X (.Call (.Name "range" p2) [a, b] [] p3) _ := pe_callTy cr_range2 hg2 hm2 (by decide +kernel) (pa_cons ha (pa_cons hb pa_nil nb) na) (by decide) (by decide) na (by rw [nb]; rfl)
  refine wpAny_Call_Name_kw (ld_blt I hg hm (u := .builtin "sorted") (by decide +kernel) ?_ (by decide) (by decide))
  refine PyProof.Rows.callWith_kw (thn ((pa_cons pr pa_nil nr).run p4 pins s σ H (SortRest X.K P i σ Q) I h) fun us s1 ⟨vs, H1, I1, r1, q1⟩ => ?_) (by rw [nr]; rfl) (by rw [nr]; rfl) (by rfl) (by rfl)
  obtain ⟨r, lo, hi, ca, cs, H2, rfl, nr0, rfl, ⟨b1, b2, b3, b4, b5⟩, hσ, hS, hT, q⟩ := q1
  obtain ⟨u1, rfl, ru1⟩ := vals1 r1
  obtain rfl : u1 = Value.ref r := ru1
  have s0 : Same H2 (upd H2 r (.rng lo hi)) := newSame nr0
  show wpAny _ _ (evalAll ((do let v ← eval (.Lambda params (lamBody y z q1 q2 q3 q4 q5 q6 x1) scope lpos) X.env; standAt p4; pure v) :: [])) _ _ s1
  refine wpAny_evalAll_cons (wpAny_bind (lam_mk I1 TB hcode hq (s0.tab P hT) hdef hfree fun f c' pm ctv H3 s2 I2 sm hf hco => wpAny_bind (wpAny_standAt (wpAny_pure (wpAny_evalAll_nil ?_)))))
  show wpAny _ _ (call (.builtin "sorted") [.ref r] [(Str.ofString "key", .ref f)]) _ _ s2
  have hrng : H3 r = some (.rng lo hi) := sm.keep r _ upd_same rfl
  obtain ⟨t, u, v, hrg⟩ := (show ObjOk X.prog X.w H3 s2.heap r (.rng lo hi) from I2.hok r _ hrng)
  obtain ⟨its, rv, pl, hz⟩ := I2.list (sqL_same (s0.trans sm) hS)
  obtain ⟨oc, vs', tq, hoc, hdc, hvc⟩ := (show ObjOk X.prog X.w H3 s2.heap c' (CodeO c' lamQ) from I2.hok c' _ hco).1
  obtain ⟨cc, hcc⟩ := I2.ok.has y (.inl hcell)
  obtain ⟨m, hns, hlook⟩ := I2.loc
  obtain ⟨u', ru', lk⟩ := hlook i y (.ref ca) hN hσ (.inr (.inl hcell))
  obtain rfl : u' = Value.ref ca := ru'
  have hcl : s2.heap.IsCell cc (some (.ref ca)) := by
    rcases lk with ⟨z', _⟩ | ⟨_, c2, hc2, hcell2⟩
    · have z2 : X.env.scope.names.lookup y = some .local := z'
      rw [hcell] at z2; cases z2
    · rw [hcc] at hc2; cases hc2; exact hcell2
  have hmem : (y, NameKind.free) ∈ scope.names := PySem.mem_of_lookup F.sy
  have hclo := NdefX.clo_has hfree hmem hcc
  have hl : its.length = cs.length := by rw [← rv.length, List.length_map]
  refine sorted_key_range (fun x => .tuple [.int (keyC cs x), .int x]) (I2.ok.hd hc) hrg ⟨by omega, by omega, by omega, by omega, by omega⟩ (PySem.W.AllAlike.of fun _ _ => rfl) (PySem.W.Sortable.tuples fun _ => ⟨_, _, rfl⟩) (fun x _ => by have := hroom.un; show X.A.units + 2 + 1 < cLine; omega) (fun x tx hx h tk kp => ?_) fun h1 tk1 hk1 out c2 h' tk hk hD hE => ?_
  · have hx := upFrom_bd hx
    obtain ⟨w, ew, rw'⟩ := rv.get (i := x.toNat) (x := V.int (cs[x.toNat]?.getD 0)) (by
      rw [List.getElem?_map]
      have : x.toNat < cs.length := by omega
      rw [List.getElem?_eq_getElem this]; rfl)
    obtain ⟨tn, rfl⟩ := rw'
    refine lam_key (ca := ca) (s := { s2 with heap := h, toks := tk }) (its := its.toArray) (tn := tn) hroom.depth (kp _ _ hf) ⟨c', oc, vs', tq, rfl, kp _ _ hoc, hdc, hvc⟩ (I2.nolimit.keeps kp) hclo ?_ ?_ (by omega) (by omega) (by simpa using ew) F.kd F.co F.gen F.nc F.sy F.sz F.hy F.hy2 F.hz (F.bind _ _ _ _ _)
    · obtain ⟨o, ho, hd⟩ := hcl; exact ⟨o, kp _ _ ho, hd⟩
    · obtain ⟨o, ho, hr2⟩ := pl.isList; exact ⟨o, kp _ _ ho, hr2⟩
  · have I3 : Inv X pins σ H3 { s2 with heap := h1, toks := tk1 } := I2.kept (t' := tk1) hk1
    have nD : H3 h1.objs.size = none := I3.hok.fresh (Nat.le_refl _)
    rw [PySem.W.dataLe_ii] at hE
    have ev : Vals ((sortKey cs lo hi).map V.int) out := vals_each hE
    have hsz : ((sortKey cs lo hi).map V.int).length ≤ sizeLine := by
      rw [List.length_map, sortKey, List.length_mergeSort, upFrom_len, sizeLine_eq]
      omega
    refine ⟨.ref h1.objs.size, upd H3 h1.objs.size (.lst ((sortKey cs lo hi).map V.int)), I3.laid (t' := tk) hk (Nat.le_refl _) (show ObjOk X.prog X.w _ _ _ (.lst ((sortKey cs lo hi).map V.int)) from ⟨hsz, out, c2, ev, hD⟩), rfl, ?_⟩
    exact q _ _ ((s0.trans sm).trans (newSame nD)) ((s0.trans sm).free nD) upd_same
end
section
open LamX
variable {p : Pr} {sc : Scope} {NN VV GG : List Str} {k i j j2 : Nat} {g : G} {L : List Slot} {a b : Expr} {md md' : Md} {c P : Addr} {params : Arguments} {scope : Scope} {y z : Str} {p1 p2 p3 p4 lpos kpos q1 q2 q3 q4 q5 q6 : Pos} {x1 : Nat}
theorem evl_sortLam {bb : Bool} {m1 m2 : M Int} {cs : List Int} (ok : OkS p sc NN VV GG k g) (hG : GG[j]? = some "sorted") (hmg : p.mg "sorted" = none) (hG2 : GG[j2]? = some "range") (hmg2 : p.mg "range" = none) (hN : NN[i]? = some y) (hL : L[i]? = some (sV bb (tList tInt) cs)) (ha : EvE g L a md tInt m1) (hb : EvE g L b md tInt m2)
    (hT : p.T = some P) (TB : TabB p.base p.mg c P) (hcode : g.X.env.code = .ref c) (hq : g.X.env.qual ++ "<lambda>" = lamQ) (hdef : defaultsOf params g.X.env = ([], [])) (F : LamF params (lamBody y z q1 q2 q3 q4 q5 q6 x1) scope y z) (hcell : sc.names.lookup y = some .cell)
    (na : starEach [a, b] g.X.env = (false, eval a g.X.env) :: starEach [b] g.X.env := by rfl) (nb : starEach [b] g.X.env = (false, eval b g.X.env) :: starEach [] g.X.env := by rfl)
    (nr : starEach [.Call (.Name "range" p2) [a, b] [] p3] g.X.env = (false, eval (.Call (.Name "range" p2) [a, b] [] p3) g.X.env) :: starEach [] g.X.env := by rfl) :
    EvL g L (.Call (.Name "sorted" p1) [.Call (.Name "range" p2) [a, b] [] p3] [⟨some "key", .Lambda params (lamBody y z q1 q2 q3 q4 q5 q6 x1) scope lpos, kpos⟩] p4) md' tInt (m1.bind fun lo => m2.bind fun hi => sortKeyM cs lo hi) := by
  obtain ⟨hg, ho⟩ := ok.gl hG
  obtain ⟨hg2, ho2⟩ := ok.gl hG2
  refine PE.imp (pe_sortLam ok.room ok.calm hg (by rw [ok.mg]; exact hmg) hg2 (by rw [ok.mg]; exact hmg2) ha hb (by rw [ok.base, ok.mg]; exact TB) hcode hq hdef F (by rw [ok.scp]; exact hcell) (by rw [ok.N]; exact hN) na nb nr) fun σ H W q => ?_
  obtain ⟨kp, own, at_, q⟩ := tL_iff.mp q
  refine tE_iff.mpr ⟨kp, own, at_, ?_⟩
  cases m1 with
  | ok lo =>
    intro v H1 s1 rx
    cases (show v = .int lo from rx)
    refine tE_iff.mpr ⟨kp, own, at_.ext s1, ?_⟩
    cases m2 with
    | ok hi =>
      intro v H2 s2 rx
      cases (show v = .int hi from rx)
      have at2 := (at_.ext s1).ext s2
      obtain ⟨Fs, hA, rfl⟩ := at2.sl
      obtain ⟨v, F', e1, e2, rfl, x, rfl, ca, vs, rfl, hR, hr⟩ := hA.get hL
      have q : FinL g.fm g.W Fs.flatten σ H md' tInt W (sortKeyM cs lo hi) := q
      unfold sortKeyM at q
      split at q
      · rename_i hb'
        refine ⟨lo, hi, rfl, fun r hr0 => ⟨r, lo, hi, ca, cs, H2, rfl, hr0, rfl, hb', e1, ?_, ?_, fun H3 D s3 nD hD => ?_⟩⟩
        · rw [← hr.ints, ok.K, ← ok.fmK]
          have hR : RB g.fm Fs.flatten H2 bb ca (.lst vs) := hR
          exact RX.list (md := if bb then .f0 else .sh) (H := H2) (by unfold RB at hR; exact hR)
        · exact at2.same.tab P (ok.tab P hT)
        · exact q D _ H3 ((s1.trans s2).trans s3) ((s1.trans s2).free nD) hD (reps_ints _)
      · exact q.elim
    | ex c => exact fun H' s => q H' (s1.trans s)
    | no => exact q
  | ex c => exact q
  | no => exact q
/-- a def by its body, the code object known -/
theorem fn_genC {α δ : Type} {S : Ty α} {A : Ar δ} {x qual : Str} {st : Stmt} {f : Addr} {fd : FuncData} {ps : List Str} {L0 : δ → List Slot} {n m : Nat} {bm : Bool} {F : δ → M (List α)} (hF : FunD p.K x qual (defArgs st) (defBody st) (defScope st) [] [] f fd) (hS : Sc st NN VV ps GG) (ha : ArS A n L0) (hn : ps.length = n) (hm : n + m = NN.length)
    (hb : ∀ g, OkS p (defScope st) NN VV GG k g → g.LX = List.replicate NN.length sAny → g.X.env.code = fd.code → g.X.env.qual = qual ++ ".<locals>." → ∀ d, EvB g (L0 d ++ List.replicate m sAny) (defBody st) (fun r => .rtL bm S r) (F d)) :
    FnOk p.P p.w p.K p.mg p.base (L2.CX p.P p.w) (k + 1) f fd ps (spM p A (fun r => .rtL bm S r) F) := by
  obtain ⟨oc, od, dV, kV, doc, pm, an, cdv, ct, osl, rfl, lk, hcd, _, _⟩ := hF.ex
  refine fn_of lk hcd hS.S (fun vs H Q E h => ?_) (fun A' outer s H vs Q E hr h => ?_)
  · obtain ⟨d, z, hz, hrep, _⟩ := h
    exact (ha.all (H := H) (R := fun _ => RD ⟨p.K, H, z⟩ [] H) hrep).1.trans hn.symm
  · obtain ⟨d, z, ⟨hz, htab⟩, hrep, q⟩ := h
    have hlen : vs.length = n := (ha.all (H := H) (R := fun _ => RD ⟨p.K, H, z⟩ [] H) hrep).1
    let X : Cx := cxOf (L2.CX p.P p.w) p.P p.w p.K p.mg p.base NN qual (defScope st) f cdv A' outer s H E
    let g : G := ⟨X, ⟨p.K, H, z⟩, fun c _ H' => E (.ref (p.C c)) none H', List.replicate NN.length sAny⟩
    have hN : ∀ {j : Nat} {y : Str}, VV[j]? = some y → y ∈ VV := fun e => List.mem_of_getElem? e
    have ok : OkS p (defScope st) NN VV GG k g :=
      { prog := rfl, w := rfl, K := rfl, mg := rfl, base := rfl, N := rfl, fmK := rfl, tab := htab, room := hr, nd := hS.S.nd
        vis := fun e => let h := seenB_v (List.all_eq_true.mp hS.vis _ (hN e)); ⟨h.2, h.1⟩
        gl := fun e => let h := glB_v (List.all_eq_true.mp hS.gl _ (List.mem_of_getElem? e)); ⟨h.2, h.1⟩
        tk := Takes.imp (takes_of (X := X) rfl rfl rfl (E := E) rfl) (fun cls d σ H ⟨c, e1, e2, h⟩ => by subst e1; subst e2; exact h)
        calm := rfl
        blk := fun h => blkOk_by h
        loc := fun e => locB_v (List.all_eq_true.mp hS.loc _ (hN e))
        fnT := fun _ => rfl
        psO := passes_of (X := X) rfl
        scp := rfl
        stk := rfl
        frm := rfl
        exn := rfl }
    refine ⟨_, hb g ok rfl rfl rfl d, (fun _ _ => False), [], ?_, ?_⟩
    · refine ⟨Same.refl H, hz, ⟨List.replicate n [] ++ List.replicate m [], ?_, by simp [flat_rep]⟩, List.nodup_nil, (fun _ h => nomatch h), fun _ _ h => h.elim⟩
      have h1 := (ha.all (H := H) (R := RB ⟨p.K, H, z⟩ [] H) hrep).2
      have e : L2.start NN vs = vs.map some ++ List.replicate m none := by
        unfold L2.start
        rw [show NN.length - vs.length = m by omega]
      rw [e]
      exact h1.append (AllS.anys m)
    · cases hF' : F d with
      | ok r =>
        rw [hF'] at q
        exact q
      | ex c =>
        rw [hF'] at q
        exact fun σ' H' own a' => q H' a'.same
      | no => rw [hF'] at q; exact q
end
end Hd
namespace Hd
open PySem PySem.Spec L2
theorem code_of {K : PySem.W.Frag} {x qual : Str} {params : Arguments} {body : List Stmt} {scope : Scope} {fd : FuncData} {q : He.Defn} (F : FunD K x qual params body scope [] [] (He.fAd K q) fd) : fd.code = .ref (He.codeOf K q) := by
  obtain ⟨oc, od, dV, kV, doc, pm, an, cdv, ct, osl, rfl, lk, hcd, _, _⟩ := F.ex
  unfold He.codeOf
  rw [lk]
  show cdv = _
  unfold PySem.W.codeIn at hcd
  cases cdv with
  | ref c => rfl
  | _ => simp at hcd
theorem law_endT {l : PySem.W.OpenLaw} {k : Nat} {q : Program} {loose : List Str} {XP : (Str → Option Value) → Heap → Prop} {YP : World → Heap → Prop} {d : DefRec} {cl : List Int × Unit → M Bool}
    (hn : l.most = some 63) (hdf : d.params.defaults = []) (hr : Room k callerA)
    (F : ∀ (w : World) (mg : Str → Option Value) (fa : Addr) (h : Heap), YP w h → h.Ns mainGlobals mg → mg d.name = some (.ref fa) →
      ∃ (K : PySem.W.Frag) (fd : FuncData) (C : Ec → Addr) (c P : Addr), K.In h ∧ h.get? P = some { cls := .none, data := .fields #[] } ∧ K.lookup P = none ∧ PySem.W.CodeHd h c P ∧ (∀ (s : Shared) (u : Value), BindsTo s fd ⟨[u], []⟩ [("script", u)]) ∧
        ∀ base : Heap, LamX.TabB base mg c P → FnOk l.prog w K mg base (L2.CX l.prog w) k fa fd ["script"] (spM ⟨l.prog, w, K, mg, base, C, some P⟩ (aCons (tListK K tInt) aNil) (fun r => .rt false tBool r) cl))
    (math : ∀ ns : List Int, ns.length ≤ 63 → cl (ns, ()) = .ok true) : PySem.W.WalkO q loose XP YP l.row.toRowW d [] (fun f vs => PySem.call f vs) := by
  refine LamX.walk_ofTsE (CX := fun w => L2.CX l.prog w) (x := "script") (k := k) hn (by decide) hdf hr (fun w mg fa h Y G hm => ?_) (fun w H s e s' z => ?_)
  · obtain ⟨K, fd, C, c, P, KX, hP, nP, hC, hb, hF⟩ := F w mg fa h Y G hm
    refine ⟨K, KX, fd, [(c, P)], spM ⟨l.prog, w, K, mg, h, C, some P⟩ (aCons (tListK K tInt) aNil) (fun r => .rt false tBool r) cl, fun p hp => by rw [List.mem_singleton.mp hp]; exact hP, fun p hp => by rw [List.mem_singleton.mp hp]; exact nP, fun p hp => by rw [List.mem_singleton.mp hp]; exact hC, hb, fun H a ns hl _ hT hS => ?_, fun base _ _ hB => hF base (hB (c, P) (List.mem_singleton_self _))⟩
    refine ⟨(ns, ()), fun _ => False, ⟨fun _ z => z.elim, fun P' e => by cases e; exact LamX.TabS.nil (hT (c, P) (List.mem_singleton_self _))⟩, ⟨.ref a, [], rfl, ⟨a, ns.map V.int, rfl, hS.imp (fun r => .inl ⟨Rd.clo r, (fun z => nomatch z), fun z => z⟩) id, reps_ints ns⟩, rfl⟩, ?_⟩
    rw [math ns hl]
    exact fun v H' s r => r
  · obtain ⟨a, B, H', cls, d, _, _, _, _, _, _, _, z⟩ := z
    exact z
end Hd
namespace Hd
open PySem PySem.Spec PyProof.Rows L2
def sortI (xs : List Int) : List Int := xs.mergeSort fun a b => decide (a ≤ b)
def rSortI (K : PySem.W.Frag) : List V → Hp → VK → Prop := fun vs H Q => ∃ (a : Addr) (ns : List Int), vs = [V.ref a] ∧ SqL K H a (ns.map V.int) ∧ ∀ p, H p = none → Q (.ref p) (upd H p (.lst ((sortI ns).map V.int)))
theorem ints_each : ∀ {its : List Value} {ns : List Int}, IntsAre its ns → PySem.W.EachIs (fun v x => ∃ t, v = Value.int x t) its ns
  | _, _, .nil => .nil
  | _, _, .cons n t h => .cons ⟨t, rfl⟩ (ints_each h)
theorem cr_sortI {X : Cx} {k : Nat} (hr : Room k X.A) : CallR X (.builtin "sorted") (rSortI X.K) := by
  intro pins s σ H vs us Q I r h
  obtain ⟨a, ns, rfl, hs, q⟩ := h
  obtain ⟨its, rv, hl, hz⟩ := I.list hs
  obtain ⟨u, rfl, ru⟩ := vals1 r
  obtain rfl : u = Value.ref a := ru
  have hi := rv.ints
  have hlen := hi.length
  rw [List.length_map] at hz
  have e := ints_each hi
  have e' := (PySem.W.dataLe_int (β := Int) (fun x => x)).symm
  refine PySem.W.sorted_data (R := fun v x => ∃ t, v = Value.int x t) (enc := fun x => .int x) hl.isList e (e.mono fun v x ⟨t, ev⟩ => ⟨[], by rw [ev]; exact .int x t⟩) (PySem.W.AllAlike.of fun _ _ => rfl) (PySem.W.Sortable.others fun _ => ⟨(fun z => nomatch z), fun _ z => nomatch z⟩) (by rw [← e.length, hlen]; exact hz) (fun x _ => by have := hr.un; show X.A.units + 2 + 0 < cLine; omega) fun out ho hE => ?_
  obtain ⟨ep, he'⟩ := PyProof.Rows.sortedAll_at s.heap its out.toArray
  have hE : PySem.W.EachIs (fun v x => ∃ t, v = Value.int x t) out (sortI ns) := by
    have : (PySem.W.dataLe false fun x : Int => PyData.int x) = fun a b => decide (a ≤ b) := PySem.W.dataLe_int (fun x => x)
    rw [this] at hE; exact hE
  have hz2 : ((sortI ns).map V.int).length ≤ sizeLine := by rw [List.length_map, sortI, List.length_mergeSort]; exact hz
  exact ⟨.ref _, upd H (s.heap.objs.size + 1) (.lst ((sortI ns).map V.int)), I.laid (t' := s.toks) (fun _ _ => PyProof.Rows.sortedAll_old) (Nat.le_succ _) ⟨hz2, out, ep, vals_each hE, by simpa using he'⟩, rfl, q _ (I.hok.fresh (Nat.le_succ _))⟩
section
variable {p : Pr} {sc : Scope} {NN VV GG : List Str} {k : Nat} {g : G} {L : List Slot} {α β δ : Type} {S : Ty α} {md md' : Md} {pos pp : Pos} {st : List Stmt} {D : δ → Out} {i j : Nat} {x : Str} {a e : Expr}
theorem evl_sortI {m : M (List Int)} (ok : Ok p sc NN VV GG k g) (hG : GG[j]? = some "sorted") (hmg : p.mg "sorted" = none) (ha : EvE g L a md (tList tInt) m) (hs : starEach [a] g.X.env = (false, eval a g.X.env) :: starEach [] g.X.env := by rfl) :
    EvL g L (.Call (.Name "sorted" pp) [a] [] pos) md' tInt (m.bind fun xs => .ok (sortI xs)) := by
  obtain ⟨hg, ho⟩ := ok.gl hG
  obtain ⟨h1, _, h3⟩ := okName_d ho
  refine PE.imp (pe_callB (cr_sortI ok.room) hg (by rw [ok.mg]; exact hmg) (by decide +kernel) (eva_cons ha eva_nil hs) h3 h1 hs rfl) fun σ H W q => ?_
  obtain ⟨kp, own, at_, q⟩ := tL_iff.mp q
  refine tA_iff.mpr ⟨kp, own, at_, ?_⟩
  cases m with
  | ok d =>
    rintro vs H1 s1 ⟨v, r, rfl, ⟨a', ws, rfl, hR, rr⟩, e3⟩
    cases (show r = [] from e3)
    refine ⟨a', d, rfl, by rw [← rr.ints, ok.K, ← ok.fmK]; exact RX.list hR, fun l hl => q l _ _ (s1.trans (newSame hl)) (s1.free hl) upd_same (reps_ints _)⟩
  | ex c => exact q
  | no => exact q
end
end Hd
namespace Hd
open PySem PySem.Spec PyProof.Rows L2
section
end
end Hd
namespace Hd
open PySem PySem.Spec PyProof.Rows L2
section
end
section
end
end Hd
namespace Hd
open PySem PySem.Spec PyProof.Rows L2
theorem pget_list {X : Cx} : PGet X (rIxL X.K) := by
  intro pins s σ H x y v u Q I rx ry h
  obtain ⟨p, xs, i, z, rfl, rfl, hq, he, q⟩ := h
  cases rx
  obtain ⟨t, rfl⟩ := ry
  obtain ⟨its, r, pl, hz⟩ := I.list hq
  obtain ⟨j, h1, h2, h3, h4, h5⟩ := atI_get he
  obtain ⟨w, ew, rw'⟩ := r.get h2
  have hl := r.length
  have hn := line63
  have fin : EP X pins σ Q w s := ⟨z, H, I, rw', q⟩
  by_cases h0 : 0 ≤ i
  · have hj : i.toNat = j := by
      rw [seqIndex_of h0 h5] at h1
      exact Option.some.inj h1
    exact wpAny_getItem_list pl.isList h0 (by omega) (by rw [hj]; simpa using ew) fin
  · have hj : (i + (its.toArray.size : Int)).toNat = j := by
      rw [seqIndex_neg (by omega) h4] at h1
      rw [List.size_toArray, ← hl]
      exact Option.some.inj h1
    exact wpAny_getItem_list_neg pl.isList (by omega) (by rw [List.size_toArray] <;> omega) (by omega) (by rw [hj]; simpa using ew) fin
section
variable {δ : Type} {p : Pr} {sc : Scope} {NN VV GG : List Str} {k : Nat} {g : G} {L : List Slot} {md md' : Md} {pos : Pos} {st : List Stmt} {D : δ → Out} {i j : Nat} {x : Str} {e ix a b : Expr} {m1 m2 : M Int} {y : Int}
/-- n & 1 -/
theorem ev_and1 (ok : Ok p sc NN VV GG k g) (ha : EvE g L a md tInt m1) (hb : EvE g L b md tInt (.ok 1)) : EvE g L (.BinOp a .BitAnd b pos) md' tInt (m1.bind fun x => .ok (x % 2)) :=
  ev_op2 (f := fun x _ => .ok (x % 2)) ok op_andM ⟨fun {d e x y R H Q} rb rx ry q => ⟨d, 1, rx, ry, q _ _ (Same.refl _) rfl⟩⟩ (fun _ _ _ h => nomatch h) (.fresh : MdOk true md md') ha (ev_lit hb)
theorem evb_augI {bb : Bool} {ds : List Int} {m : M Int} {mi : M Int} {f : List Int → M δ} {p1 p2 : Pos} (ok : OkS p sc NN VV GG k g) (wk : Wk L g.LX) (hN : NN[i]? = some x) (hV : VV[j]? = some x) (hL : L[i]? = some (sOwn bb tInt ds))
    (hi : EvE g L ix md' tInt mi) (he : EvE g L e md tInt m) (hr : ∀ ds', EvB g (L.set i (sOwn bb tInt ds')) st D (f ds'))
    (ha : ∀ ov iv new, augStore ix ov iv new = (do holding [new, ov, iv] (setItem ov iv new); release [new, ov, iv] []; pure .next) := by intros; rfl) :
    EvB g L (.AugAssign (.Subscript (.Name x p1) ix p2) .Add e pos :: st) D (mi.bind fun n => (getM ds n).bind fun v => m.bind fun d => (setM ds n (v + d)).bind f) := by
  obtain ⟨hv, ho⟩ := ok.vis hV
  obtain ⟨h1, h2, _⟩ := okName_d ho
  refine PSs.imp (pss_cons (ps_augS (pe_var (i := i) (by rw [ok.N]; exact hN) hv h1 h2) hi pget_list he ip_add set_list ha) (PSs.ex hr)) fun E σ H ⟨kp, own, at_, q⟩ => ?_
  obtain ⟨p', vs, e1, hp, r, mu⟩ := at_.mut hL
  refine ⟨_, e1, tE_iff.mpr ⟨kp, own, at_, ?_⟩⟩
  cases mi with
  | ok n =>
    intro v H1 s1 r1
    cases (show v = .int n from r1)
    have a1 := at_.ext s1
    obtain ⟨p2', vs2, e12, hp2, rr2, mu2⟩ := a1.mut hL
    rw [e1] at e12
    cases e12
    have q : BOk g kp E D ((getM ds n).bind fun v => m.bind fun d => (setM ds n (v + d)).bind f) := q
    rw [rr2.ints] at hp2
    unfold getM at q
    cases hat : L2.atI ds n with
    | none => rw [hat] at q; exact q.elim
    | some v0 =>
      rw [hat] at q
      have q : BOk g kp E D (m.bind fun d => (setM ds n (v0 + d)).bind f) := q
      refine ⟨_, ds.map V.int, n, .int v0, rfl, rfl, SqL.of hp2, ?_, tE_iff.mpr ⟨kp, own, a1, ?_⟩⟩
      · obtain ⟨vv, q1, q2⟩ := rr2.at hat
        cases (show vv = .int v0 from q2)
        rw [← rr2.ints]; exact q1
      · cases m with
        | ok d =>
          intro v2 H2 s2 r2
          cases (show v2 = .int d from r2)
          have a2 := a1.ext s2
          obtain ⟨p3, vs3, e13, hp3, rr3, mu3⟩ := a2.mut hL
          rw [e1] at e13
          cases e13
          have q : BOk g kp E D ((setM ds n (v0 + d)).bind f) := q
          unfold setM at q
          split at q
          · rename_i jj hj
            refine ⟨v0, d, rfl, rfl, _, vs3, n, jj, rfl, rfl, hp3, by rw [← rr3.length]; exact hj, ds.set jj (v0 + d), kp, own, mu3 _ _ (rr3.set rfl jj), q⟩
          · exact q.elim
        | ex c => exact BOk.exx wk a1 q
        | no => exact q
  | ex c => exact BOk.exx wk at_ q
  | no => exact q
end
end Hd
namespace Hd
open PySem PySem.Spec PyProof.Rows L2
section
end
end Hd
namespace Hd
open PySem PySem.Spec PyProof.Rows L2
end Hd
namespace Hd
open PySem PySem.Spec PyProof.Rows L2
def tHl {δ : Type} (A : Ar δ) : Ty δ := ⟨fun d v R => ∃ a vs, v = .ref a ∧ R a (.lst vs) ∧ A.rep d vs R, fun ⟨a, vs, e, r, h⟩ s => ⟨a, vs, e, s _ _ r, A.mono h s⟩⟩
section
variable {α δ : Type} {p : Pr} {sc : Scope} {NN VV GG : List Str} {k : Nat} {g : G} {L : List Slot} {md : Md} {pos : Pos} {S : Ty α} {A : Ar δ} {es : List Expr} {a b : Expr}
theorem ev_hl {m : M δ} (hl : ∀ d vs R, A.rep d vs R → vs.length ≤ 1000) (ha : EvA g L es md A m) : EvE g L (.List es pos) md (tHl A) m := by
  refine PE.imp (pe_lst ha) fun σ H Q q => ?_
  obtain ⟨kp, own, at_, q⟩ := tE_iff.mp q
  refine tA_iff.mpr ⟨kp, own, at_, ?_⟩
  cases m with
  | ok d => exact fun vs H1 s1 r1 => ⟨Nat.le_trans (hl _ _ _ r1) (by decide), fun p hp => q _ _ (s1.trans (newSame hp)) ⟨p, vs, rfl, newRX (at_.ext s1) s1 hp, A.mono r1 (RX.same (newSame hp))⟩⟩
  | ex c => exact q
  | no => exact q
theorem ev_hlIx {n : Int} {f : δ → α} {m : M δ} (ok : Ok p sc NN VV GG k g) (hA : ArAt A n S f) (ha : EvE g L a md (tHl A) m) (hb : EvE g L b md tInt (.ok n)) (hs : PlainIx b := by exact fun _ _ => rfl) : EvE g L (.Subscript a b pos) md S (m.bind fun t => .ok (f t)) :=
  ev_ix (S := tHl A) (r := rIxL p.K) (m2 := .ok ()) (f := fun t _ => .ok (f t)) (T := tLit n) (fr := false) ok (by rw [← ok.K]; exact ix_list) ⟨fun {d e x y R H Q} rb ⟨a, vs, ex, h, r⟩ ry q => by
    obtain ⟨v, h1, h2⟩ := hA.get r
    refine ⟨a, vs, n, v, ex, ry, sq_of rb h, ?_, q _ _ (Same.refl _) (S.mono h2 (Nw.old rfl))⟩
    have := atI_nat (xs := vs) (j := n.toNat) h1
    rwa [Int.toNat_of_nonneg hA.nat] at this⟩ (fun _ _ _ h => nomatch h) .same ha (ev_lit hb) hs
def dHl (E : DeepA A) : Deep (tHl A) := ⟨fun d => .list (E.pd d), E.dp + 1, fun {K ds v R H} rb ⟨a, vs, e, h, r⟩ => by
    subst e
    obtain ⟨h1, h2⟩ := E.rep rb r
    exact ⟨.lst (.inl ((rb _ _ h rfl).resolve_right fun z => z)) h1, h2⟩, fun ds => by simp only [PyData.depth]; have := E.dep ds; omega, fun d e => by
    simp only [PyData.eqv]
    exact E.eqv d e⟩
end
end Hd
namespace Hd
open PySem PySem.Spec L2
section
end
end Hd
namespace Hd
open PySem PySem.Spec PyProof.Rows L2
section
variable {α β δ : Type} {S : Ty α} {T : Ty β} {A : Ar δ}
/-- what < says of data of a kind -/
structure OrdD (D : Deep S) where
  lt : α → α → Bool
  al : ∀ a b, PySem.W.alike (D.pd a) (D.pd b) = true
  nn : ∀ a, D.pd a ≠ .none
  eq : ∀ a b, PySem.W.dataLt (D.pd a) (D.pd b) = lt a b
structure OrdA (E : DeepA A) where
  lt : δ → δ → Bool
  al : ∀ a b, PySem.W.alikeAll (E.pd a) (E.pd b) = true
  eq : ∀ a b, PyProof.Rows.lexLt PyProof.Rows.itemOrd (PySem.W.keyToksAll (E.pd a)) (PySem.W.keyToksAll (E.pd b)) = lt a b
def oInt : OrdD dInt := ⟨fun a b => decide (a < b), fun a b => by show PySem.W.alike (.int a) (.int b) = true; simp only [PySem.W.alike], (fun a e => by cases e), fun a b => PySem.W.dataLt_int a b⟩
def oStr : OrdD dStr := ⟨fun a b => decide (a < b), fun a b => by show PySem.W.alike (.str (toS a)) (.str (toS b)) = true; simp only [PySem.W.alike], (fun a e => by cases e), fun a b => by
  have h := PySem.W.dataLt_str (toS a) (toS b)
  rw [show (toS a).cps.toList = a from tl_toS a, show (toS b).cps.toList = b from tl_toS b] at h
  exact h⟩
def oNil : OrdA dNil := ⟨fun _ _ => false, fun a b => by show PySem.W.alikeAll [] [] = true; simp only [PySem.W.alikeAll], fun a b => lex_irrefl _⟩
def oCons [DecidableEq α] {D : Deep S} {E : DeepA A} (O : OrdD D) (P : OrdA E) : OrdA (dCons D E) := ⟨fun a b => if a.1 = b.1 then P.lt a.2 b.2 else O.lt a.1 b.1, fun a b => by
    show PySem.W.alikeAll (D.pd a.1 :: E.pd a.2) (D.pd b.1 :: E.pd b.2) = true
    rw [PySem.W.alikeAll, O.al, P.al]; rfl, fun a b => by
    show PyProof.Rows.lexLt itemOrd (PySem.W.keyToksAll (D.pd a.1 :: E.pd a.2)) (PySem.W.keyToksAll (D.pd b.1 :: E.pd b.2)) = _
    by_cases h : a.1 = b.1
    · rw [if_pos h, PySem.W.dataLt_all_yes (O.al a.1 b.1) (by rw [D.bq, decide_eq_true_eq]; exact h)]
      exact P.eq a.2 b.2
    · rw [if_neg h, PySem.W.dataLt_all_no (O.al a.1 b.1) (by rw [D.bq, decide_eq_false_iff_not]; exact h)]
      exact O.eq a.1 b.1⟩
def oTup {E : DeepA A} (P : OrdA E) : OrdD (dTup E) := ⟨P.lt, fun a b => by
    show PySem.W.alike (.tuple (E.pd a)) (.tuple (E.pd b)) = true
    simp only [PySem.W.alike]; exact P.al a b, (fun a e => by cases e), fun a b => (PySem.W.dataLt_tuple _ _).trans (P.eq a b)⟩
/-- a tuple with items -/
structure SomeT (D : Deep S) : Prop where
  sm : ∀ a, ∃ x r, D.pd a = .tuple (x :: r)
theorem st_tup {D : Deep S} {E : DeepA A} : SomeT (dTup (dCons D E)) := ⟨fun a => ⟨_, _, rfl⟩⟩
/-- < -/
def rLtD (K : PySem.W.Frag) : R2 := fun x y H Q => ∃ d e, Dp K H x d ∧ Dp K H y e ∧ PySem.W.alike d e = true ∧ d ≠ .none ∧ d.depth ≤ 64 ∧ Q (.bl (PySem.W.dataLt d e)) H
theorem op_ltD {X : Cx} (hu : X.A.units + 65 < cLine) : OpR X (compareOp .Lt) (rLtD X.K) := by
  intro pins s σ H x y v u Q I rx ry h
  obtain ⟨d, e, hd, he, al, nn, dp, q⟩ := h
  obtain ⟨as, r1⟩ := Dp.reads I d x v hd rx
  obtain ⟨bs, r2⟩ := Dp.reads I e y u he ry
  exact PySem.W.lt_data r1 r2 al nn (by omega) ⟨.bl _, H, I, rfl, q⟩
/-- sorted(a list of tuples) -/
def rSortD (K : PySem.W.Frag) (S : Ty α) (pd : α → PyData) : List V → Hp → VK → Prop := fun vs H Q => ∃ (a : Addr) (xs : List V) (R : RdR) (bs : List α), vs = [V.ref a] ∧ SqL K H a xs ∧ Reps S R bs xs ∧ (∀ b v, S.rep b v R → Dp K H v (pd b)) ∧
  (∀ b c, PySem.W.alike (pd b) (pd c) = true) ∧ (∀ b, ∃ x r, pd b = .tuple (x :: r)) ∧ (∀ b, (pd b).depth ≤ 64) ∧ ∀ p xs', H p = none → Reps S R (bs.mergeSort (PySem.W.dataLe false pd)) xs' → Q (.ref p) (upd H p (.lst xs'))
theorem each_of {R : RdR} : ∀ {bs : List α} {xs : List V} {its : List Value}, Reps S R bs xs → Vals xs its → PySem.W.EachIs (fun v x => ∃ y, RelV y v ∧ S.rep x y R) its bs
  | _, _, _, .nil, .nil => .nil
  | _, _, _, .cons r rs, .cons h hs => .cons ⟨_, h, r⟩ (each_of rs hs)
theorem of_each {R : RdR} : ∀ {bs : List α} {its : List Value}, PySem.W.EachIs (fun v x => ∃ y, RelV y v ∧ S.rep x y R) its bs → ∃ xs, Vals xs its ∧ Reps S R bs xs
  | _, _, .nil => ⟨[], .nil, .nil⟩
  | _, _, .cons ⟨y, h, r⟩ hs => by
    obtain ⟨xs, h1, h2⟩ := of_each hs
    exact ⟨y :: xs, .cons h h1, .cons r h2⟩
theorem cr_sortD {X : Cx} {k : Nat} {pd : α → PyData} (hr : Room k X.A) : CallR X (.builtin "sorted") (rSortD X.K S pd) := by
  intro pins s σ H vs us Q I r h
  obtain ⟨a, xs, R, bs, rfl, hs, rp, hD, al, sm, dp, q⟩ := h
  obtain ⟨its, rv, hl, hz⟩ := I.list hs
  obtain ⟨u, rfl, ru⟩ := vals1 r
  obtain rfl : u = Value.ref a := ru
  have e := each_of rp rv
  have er : PySem.W.EachIs (fun v b => ∃ as, Reads s.heap v (pd b) as) its bs := e.mono fun v b ⟨y, hy, hr⟩ => Dp.reads I (pd b) y v (hD b y hr) hy
  have hlen := e.length
  refine PySem.W.sorted_data (R := fun v x => ∃ y, RelV y v ∧ S.rep x y R) (enc := pd) hl.isList e er (fun d hd d' hd' => by
      obtain ⟨b, _, rfl⟩ := List.mem_map.mp hd
      obtain ⟨c, _, rfl⟩ := List.mem_map.mp hd'
      exact al b c) (.inl fun d hd => by
      obtain ⟨b, _, rfl⟩ := List.mem_map.mp hd
      exact sm b) (by rw [rp.length]; exact hz) (fun x _ => by have := hr.un; have := dp x; show X.A.units + 2 + _ < cLine; omega) fun out ho hE => ?_
  obtain ⟨ep, he'⟩ := PyProof.Rows.sortedAll_at s.heap its out.toArray
  obtain ⟨xs', v1, v2⟩ := of_each hE
  have hz2 : xs'.length ≤ sizeLine := by rw [← v2.length, List.length_mergeSort, rp.length]; exact hz
  exact ⟨.ref _, upd H (s.heap.objs.size + 1) (.lst xs'), I.laid (t' := s.toks) (fun _ _ => PyProof.Rows.sortedAll_old) (Nat.le_succ _) ⟨hz2, out, ep, v1, by simpa using he'⟩, rfl, q _ _ (I.hok.fresh (Nat.le_succ _)) v2⟩
end
section
variable {p : Pr} {sc : Scope} {NN VV GG : List Str} {k : Nat} {g : G} {L : List Slot} {α β δ : Type} {S : Ty α} {md md' : Md} {pos pp : Pos} {st : List Stmt} {D : δ → Out} {i j : Nat} {x : Str} {a e : Expr}
theorem c_ltD (ok : Ok p sc NN VV GG k g) {D : Deep S} (O : OrdD D) (hd : D.dp ≤ 64) : CmpOk p g.X .Lt S S (fun x y => O.lt x y) := ⟨rLtD p.K, by rw [← ok.K]; exact op_ltD (by have := ok.room.un; omega), ⟨fun {d e x y R H Q} rb rx ry q => by
  obtain ⟨a1, a2⟩ := D.rep rb rx
  obtain ⟨b1, b2⟩ := D.rep rb ry
  exact ⟨_, _, a1, b1, O.al d e, O.nn d, Nat.le_trans (D.dep d) hd, q _ _ (Same.refl _) (by show _ = V.bl _; rw [O.eq])⟩⟩⟩
/-- .. in rising order -/
def sortD {D : Deep S} (O : OrdD D) (xs : List α) : List α := xs.mergeSort fun a b => !O.lt b a
theorem evl_sortD {D : Deep S} {m : M (List α)} (ok : Ok p sc NN VV GG k g) (O : OrdD D) (hd : D.dp ≤ 64) (hS : SomeT D) (hG : GG[j]? = some "sorted") (hmg : p.mg "sorted" = none) (ha : EvE g L a md (tList S) m) (hs : starEach [a] g.X.env = (false, eval a g.X.env) :: starEach [] g.X.env := by rfl) :
    EvL g L (.Call (.Name "sorted" pp) [a] [] pos) md S (m.bind fun xs => .ok (sortD O xs)) := by
  obtain ⟨hg, ho⟩ := ok.gl hG
  obtain ⟨h1, _, h3⟩ := okName_d ho
  refine PE.imp (pe_callB (cr_sortD (S := S) (pd := D.pd) ok.room) hg (by rw [ok.mg]; exact hmg) (by decide +kernel) (eva_cons ha eva_nil hs) h3 h1 hs rfl) fun σ H W q => ?_
  obtain ⟨kp, own, at_, q⟩ := tL_iff.mp q
  refine tA_iff.mpr ⟨kp, own, at_, ?_⟩
  have ee : PySem.W.dataLe false D.pd = fun a b => !O.lt b a := by
    rw [PySem.W.dataLe_eq]
    funext a b
    show (!PySem.W.dataLt (D.pd b) (D.pd a)) = _
    rw [O.eq]
  cases m with
  | ok d =>
    rintro vs H1 s1 ⟨v, r, rfl, ⟨a', ws, rfl, hR, rr⟩, e3⟩
    cases (show r = [] from e3)
    refine ⟨a', ws, RX g.fm own H H1 md, d, rfl, by rw [ok.K, ← ok.fmK]; exact RX.list hR, rr, fun b v hb => ?_, O.al, hS.sm, fun b => Nat.le_trans (D.dep b) hd, fun l xs' hl rr' => ?_⟩
    · rw [ok.K, ← ok.fmK]; exact (D.rep RX.rdb hb).1
    · rw [ee] at rr'
      exact q l _ _ (s1.trans (newSame hl)) (s1.free hl) upd_same (rr'.mono fun a o z => RX.add (o' := .lst xs') hl a o z)
  | ex c => exact q
  | no => exact q
end
end Hd
namespace Hd
open PySem PySem.Spec L2
/-- a field: its name, its kind, its worth -/
structure FldS : Type 1 where
  n : Str
  α : Type
  T : Ty α
  d : α
inductive FsR (R : RdR) : List FldS → List (Str × V) → Prop where
  | nil : FsR R [] []
  | cons {s : FldS} {l v fs} : s.T.rep s.d v R → FsR R l fs → FsR R (s :: l) ((s.n, v) :: fs)
section
variable {R R' : RdR} {l l' : List FldS} {fs fs' : List (Str × V)}
theorem FsR.mono (h : FsR R l fs) (s : ∀ a o, R a o → R' a o) : FsR R' l fs := by
  induction h with
  | nil => exact .nil
  | cons r _ ih => exact .cons (Ty.mono _ r s) ih
theorem FsR.snoc {s : FldS} {v : V} (h : FsR R l fs) (r : s.T.rep s.d v R) : FsR R (l ++ [s]) (fs ++ [(s.n, v)]) := by
  induction h with
  | nil => exact .cons r .nil
  | cons q _ ih => exact .cons q ih
theorem FsR.length (h : FsR R l fs) : l.length = fs.length := by
  induction h with
  | nil => rfl
  | cons _ _ ih => simp [ih]
theorem FsR.none {f : Str} (h : FsR R l fs) (hn : l.all (fun s => !(f == s.n)) = true) : fs.lookup f = none := by
  induction h with
  | nil => rfl
  | @cons s l v fs _ _ ih =>
    rw [List.all_cons, Bool.and_eq_true] at hn
    rw [List.lookup_cons]
    have : (f == s.n) = false := by simpa using hn.1
    rw [this]
    exact ih hn.2
end
/-- the field f is there -/
inductive FAt {β : Type} (f : Str) (T : Ty β) (d : β) : List FldS → Prop where
  | here {l} : FAt f T d (⟨f, β, T, d⟩ :: l)
  | there {s l} {n : Str} : s.n = n → (f == n) = false → FAt f T d l → FAt f T d (s :: l)
theorem FAt.get {β : Type} {f : Str} {T : Ty β} {d : β} {R : RdR} {l : List FldS} (h : FAt f T d l) : ∀ {fs : List (Str × V)}, FsR R l fs → ∃ v, fs.lookup f = some v ∧ T.rep d v R := by
  induction h with
  | here =>
    intro fs r
    cases r with
    | cons q _ => exact ⟨_, by rw [List.lookup_cons]; simp, q⟩
  | there e0 e _ ih =>
    subst e0
    intro fs r
    cases r with
    | cons _ q =>
      obtain ⟨v, h1, h2⟩ := ih q
      exact ⟨v, by rw [List.lookup_cons, e]; exact h1, h2⟩
/-- the address of a class -/
abbrev cA (p : Pr) (c : Str) : Addr := He.ga p.K c
section
end
section
variable {p : Pr} {sc : Scope} {NN VV GG : List Str} {k : Nat} {g : G} {L : List Slot} {a b c e e' : Expr} {es : List Expr} {md md' : Md} {α β γ δ ρ : Type} {S : Ty α} {T : Ty β} {U : Ty γ} {A : Ar δ} {pos : Pos} {i j : Nat} {x f : Str} {pp : Pos} {C : Addr}
variable {st : List Stmt} {D : δ → Out} {d : δ}
/-- a method, as its callers know it -/
structure MeF (p : Pr) (k : Nat) (c m : Str) (ps : List Str) (sp : Sp) : Prop where
  ex : ∃ (f : Addr) (fd : FuncData), FnOk p.P p.w p.K p.mg p.base (L2.CX p.P p.w) k f fd ("self" :: ps) sp ∧ Cls p.K (cA p c) ∧ Meth p.K (cA p c) m f ∧ Binds p.K fd ("self" :: ps) []
end
end Hd
namespace Hd
open PySem PySem.Spec PyProof.Rows L2
section
end
end Hd
namespace Hd
open PySem PySem.Spec L2
section
end
end Hd
namespace Hd
open PySem PySem.Spec L2
/-- an object that may be owned -/
def gd : HO → Bool
  | .lst _ => true
  | .tup _ => true
  | .dK _ => true
  | .dT _ => true
  | .set _ _ => true
  | .ins _ _ _ => true
  | _ => false
theorem gd_nt {o : HO} (h : gd o = true) : nt o = true := by cases o <;> first | rfl | cases h
theorem gd_ext {o : HO} (h : gd o = true) : ∀ φ, o ≠ .ext φ := fun φ e => by subst e; cases h
/-- a kind of things of one's own: what is owned of one stands in F; T: as it looks when it is shared -/
structure WTy (α : Type) where
  T : Ty α
  rep : α → V → Hp → RdR → List Addr → Prop
  st : ∀ {d v H H' F} {R R' : RdR}, rep d v H R F → (∀ a o, R a o → R' a o) → (∀ p ∈ F, H' p = H p) → rep d v H' R' F
  tb : ∀ {d v H F} {R : RdR}, rep d v H R F → ∀ p ∈ F, ∃ o, H p = some o ∧ gd o = true
  fz : ∀ {d v H F} {R R' : RdR}, rep d v H R F → (∀ a o, R a o → R' a o) → (∀ p ∈ F, ∀ o, H p = some o → R' p o) → T.rep d v R'
/-- shared things -/
def wV {α : Type} (T : Ty α) : WTy α where
  T := T
  rep := fun d v _ R F => F = [] ∧ T.rep d v R
  st := fun ⟨e, r⟩ s _ => ⟨e, T.mono r s⟩
  tb := fun ⟨e, _⟩ p hp => by subst e; exact nomatch hp
  fz := fun ⟨_, r⟩ s _ => T.mono r s
inductive RepsO {α : Type} (O : WTy α) (H : Hp) (R : RdR) : List α → List V → List (List Addr) → Prop where
  | nil : RepsO O H R [] [] []
  | cons {d v F ds vs Fs} : O.rep d v H R F → RepsO O H R ds vs Fs → RepsO O H R (d :: ds) (v :: vs) (F :: Fs)
section
variable {α : Type} {O : WTy α} {H H' : Hp} {R R' : RdR} {ds es : List α} {vs ws : List V} {Fs Gs : List (List Addr)}
theorem RepsO.st (h : RepsO O H R ds vs Fs) (s : ∀ a o, R a o → R' a o) (k : ∀ p ∈ Fs.flatten, H' p = H p) : RepsO O H' R' ds vs Fs := by
  induction h with
  | nil => exact .nil
  | cons r _ ih => exact .cons (O.st r s fun p hp => k p (by simp [hp])) (ih fun p hp => k p (by simp only [List.flatten_cons, List.mem_append]; exact .inr hp))
theorem RepsO.tb (h : RepsO O H R ds vs Fs) : ∀ p ∈ Fs.flatten, ∃ o, H p = some o ∧ gd o = true := by
  induction h with
  | nil => intro p hp; simp at hp
  | cons r _ ih => intro p hp; rw [List.flatten_cons, List.mem_append] at hp; exact hp.elim (O.tb r p) (ih p)
theorem RepsO.fz (h : RepsO O H R ds vs Fs) (s : ∀ a o, R a o → R' a o) (k : ∀ p ∈ Fs.flatten, ∀ o, H p = some o → R' p o) : Reps O.T R' ds vs := by
  induction h with
  | nil => exact .nil
  | cons r _ ih => exact .cons (O.fz r s fun p hp => k p (by simp [hp])) (ih fun p hp => k p (by simp only [List.flatten_cons, List.mem_append]; exact .inr hp))
theorem RepsO.length (h : RepsO O H R ds vs Fs) : ds.length = vs.length := by
  induction h with
  | nil => rfl
  | cons _ _ ih => simp [ih]
theorem RepsO.get (h : RepsO O H R ds vs Fs) : ∀ {i : Nat} {d : α}, ds[i]? = some d → ∃ v F, vs[i]? = some v ∧ Fs[i]? = some F ∧ O.rep d v H R F := by
  induction h with
  | nil => intro i d e; simp at e
  | cons r _ ih =>
    intro i d e
    cases i with
    | zero => simp at e; subst e; exact ⟨_, _, rfl, rfl, r⟩
    | succ i => obtain ⟨v, F, e1, e2, r1⟩ := ih (i := i) (d := d) (by simpa using e); exact ⟨v, F, by simpa using e1, by simpa using e2, r1⟩
theorem RepsO.append (h : RepsO O H R ds vs Fs) (k : RepsO O H R es ws Gs) : RepsO O H R (ds ++ es) (vs ++ ws) (Fs ++ Gs) := by
  induction h with
  | nil => exact k
  | cons r _ ih => exact .cons r ih
theorem RepsO.set {d : α} {v : V} {F : List Addr} (h : RepsO O H R ds vs Fs) (r : O.rep d v H R F) : ∀ (i : Nat), RepsO O H R (ds.set i d) (vs.set i v) (Fs.set i F) := by
  induction h with
  | nil => intro i; exact .nil
  | cons q t ih =>
    intro i
    cases i with
    | zero => exact .cons r t
    | succ i => exact .cons q (ih i)
theorem RepsO.take (h : RepsO O H R ds vs Fs) : ∀ n, RepsO O H R (ds.take n) (vs.take n) (Fs.take n) := by
  induction h with
  | nil => intro n; simp; exact .nil
  | cons r _ ih => intro n; cases n with
    | zero => exact .nil
    | succ n => exact .cons r (ih n)
theorem RepsO.drop (h : RepsO O H R ds vs Fs) : ∀ n, RepsO O H R (ds.drop n) (vs.drop n) (Fs.drop n) := by
  induction h with
  | nil => intro n; simp; exact .nil
  | cons r t ih => intro n; cases n with
    | zero => exact .cons r t
    | succ n => exact ih n
/-- an item changes where it stands -/
theorem RepsO.chg {d' : α} {F F' : List Addr} {v : V} (h : RepsO O H R ds vs Fs) (s : ∀ a o, R a o → R' a o) : ∀ {i : Nat}, Fs.flatten.Nodup → Fs[i]? = some F → vs[i]? = some v → (∀ p ∈ Fs.flatten, p ∉ F → H' p = H p) → O.rep d' v H' R' F' → RepsO O H' R' (ds.set i d') vs (Fs.set i F') := by
  induction h with
  | nil => intro i _ e; simp at e
  | @cons d0 v0 F0 ds vs Fs q t ih =>
    intro i nd e1 e2 k r
    rw [List.flatten_cons, List.nodup_append] at nd
    cases i with
    | zero =>
      simp at e1 e2
      subst e1; subst e2
      exact .cons r (t.st s fun p hp => k p (by simp only [List.flatten_cons, List.mem_append]; exact .inr hp) fun hp' => nd.2.2 p hp' p hp rfl)
    | succ i =>
      have e1' : Fs[i]? = some F := by simpa using e1
      refine .cons (O.st q s fun p hp => k p (by simp [hp]) fun hp' => nd.2.2 p hp p (List.mem_flatten.mpr ⟨F, List.mem_of_getElem? e1', hp'⟩) rfl) ?_
      exact ih nd.2.1 e1' (by simpa using e2) (fun p hp => k p (by simp only [List.flatten_cons, List.mem_append]; exact .inr hp)) r
end
/-- the footprints' lists -/
theorem flat_set_mem {Fs : List (List Addr)} {F F' : List Addr} : ∀ {i : Nat}, Fs.flatten.Nodup → Fs[i]? = some F → ∀ x, x ∈ (Fs.set i F').flatten → x ∈ F' ∨ (x ∈ Fs.flatten ∧ x ∉ F) := by
  induction Fs with
  | nil => intro i _ e; simp at e
  | cons G Fs ih =>
    intro i nd e x hx
    rw [List.flatten_cons, List.nodup_append] at nd
    cases i with
    | zero =>
      simp at e; subst e
      rw [List.set_cons_zero, List.flatten_cons, List.mem_append] at hx
      rcases hx with h | h
      · exact .inl h
      · exact .inr ⟨by rw [List.flatten_cons, List.mem_append]; exact .inr h, fun h' => nd.2.2 x h' x h rfl⟩
    | succ i =>
      have e' : Fs[i]? = some F := by simpa using e
      rw [List.set_cons_succ, List.flatten_cons, List.mem_append] at hx
      rcases hx with h | h
      · exact .inr ⟨by rw [List.flatten_cons, List.mem_append]; exact .inl h, fun h' => nd.2.2 x h x (List.mem_flatten.mpr ⟨F, List.mem_of_getElem? e', h'⟩) rfl⟩
      · rcases ih nd.2.1 e' x h with h | ⟨h, h2⟩
        · exact .inl h
        · exact .inr ⟨by rw [List.flatten_cons, List.mem_append]; exact .inr h, h2⟩
theorem flat_set_nd {Fs : List (List Addr)} {F F' : List Addr} : ∀ {i : Nat}, Fs.flatten.Nodup → Fs[i]? = some F → F'.Nodup → (∀ x ∈ F', x ∈ F ∨ x ∉ Fs.flatten) → (Fs.set i F').flatten.Nodup := by
  induction Fs with
  | nil => intro i _ e; simp at e
  | cons G Fs ih =>
    intro i nd e n' k
    rw [List.flatten_cons, List.nodup_append] at nd
    cases i with
    | zero =>
      simp at e; subst e
      rw [List.set_cons_zero, List.flatten_cons, List.nodup_append]
      refine ⟨n', nd.2.1, fun a ha b hb e => ?_⟩
      subst e
      rcases k a ha with h | h
      · exact nd.2.2 a h a hb rfl
      · exact h (by rw [List.flatten_cons, List.mem_append]; exact .inr hb)
    | succ i =>
      have e' : Fs[i]? = some F := by simpa using e
      rw [List.set_cons_succ, List.flatten_cons, List.nodup_append]
      refine ⟨nd.1, ih nd.2.1 e' n' fun x hx => (k x hx).imp id (fun h h' => h (by rw [List.flatten_cons, List.mem_append]; exact .inr h')), fun a ha b hb e => ?_⟩
      subst e
      rcases flat_set_mem nd.2.1 e' a hb with h | ⟨h, _⟩
      · rcases k a h with h | h
        · exact nd.2.2 a ha a (List.mem_flatten.mpr ⟨F, List.mem_of_getElem? e', h⟩) rfl
        · exact h (by rw [List.flatten_cons, List.mem_append]; exact .inl ha)
      · exact nd.2.2 a ha a h rfl
theorem flat_mem {Fs : List (List Addr)} {F : List Addr} {i : Nat} (e : Fs[i]? = some F) : ∀ x ∈ F, x ∈ Fs.flatten := fun x hx => List.mem_flatten.mpr ⟨F, List.mem_of_getElem? e, hx⟩
theorem flat_nd {Fs : List (List Addr)} {F : List Addr} : ∀ {i : Nat}, Fs.flatten.Nodup → Fs[i]? = some F → F.Nodup := by
  induction Fs with
  | nil => intro i _ e; simp at e
  | cons G Fs ih =>
    intro i nd e
    rw [List.flatten_cons, List.nodup_append] at nd
    cases i with
    | zero => simp at e; subst e; exact nd.1
    | succ i => exact ih nd.2.1 (by simpa using e)
/-- a list of one's own -/
def wL {α : Type} (O : WTy α) : WTy (List α) where
  T := tList O.T
  rep := fun ds v H R F => ∃ p vs Fs, v = .ref p ∧ F = p :: Fs.flatten ∧ H p = some (.lst vs) ∧ RepsO O H R ds vs Fs
  st := by
    rintro d v H H' F R R' ⟨p, vs, Fs, e1, e2, h, r⟩ s k
    exact ⟨p, vs, Fs, e1, e2, by rw [k p (by rw [e2]; exact List.mem_cons_self)]; exact h, r.st s fun q hq => k q (by rw [e2]; exact List.mem_cons_of_mem _ hq)⟩
  tb := by
    rintro d v H F R ⟨p, vs, Fs, e1, e2, h, r⟩ q hq
    rw [e2] at hq
    rcases List.mem_cons.mp hq with e | hq
    · subst e; exact ⟨_, h, rfl⟩
    · exact r.tb q hq
  fz := by
    rintro d v H F R R' ⟨p, vs, Fs, e1, e2, h, r⟩ s k
    exact ⟨p, vs, e1, k p (by rw [e2]; exact List.mem_cons_self) _ h, r.fz s fun q hq => k q (by rw [e2]; exact List.mem_cons_of_mem _ hq)⟩
/-- written items of one's own -/
structure WAr (δ : Type) where
  A : Ar δ
  /-- as fields of an object with these names -/
  fl : List Str → δ → List FldS
  rep : δ → List V → Hp → RdR → List Addr → Prop
  st : ∀ {d vs H H' F} {R R' : RdR}, rep d vs H R F → (∀ a o, R a o → R' a o) → (∀ p ∈ F, H' p = H p) → rep d vs H' R' F
  tb : ∀ {d vs H F} {R : RdR}, rep d vs H R F → ∀ p ∈ F, ∃ o, H p = some o ∧ gd o = true
  fz : ∀ {d vs H F} {R R' : RdR}, rep d vs H R F → (∀ a o, R a o → R' a o) → (∀ p ∈ F, ∀ o, H p = some o → R' p o) → A.rep d vs R'
  fzF : ∀ {d vs H F} {R R' : RdR} {ns : List Str}, ns.length = vs.length → rep d vs H R F → (∀ a o, R a o → R' a o) → (∀ p ∈ F, ∀ o, H p = some o → R' p o) → FsR R' (fl ns d) (ns.zip vs)
def waNil : WAr Unit where
  A := aNil
  fl := fun _ _ => []
  rep := fun _ vs _ _ F => vs = [] ∧ F = []
  st := fun h _ _ => h
  tb := by
    rintro d vs H F R ⟨_, e⟩ p hp
    subst e; exact nomatch hp
  fz := fun h _ _ => h.1
  fzF := by
    rintro d vs H F R R' ns hl ⟨e, _⟩ _ _
    subst e
    cases ns with
    | nil => exact .nil
    | cons _ _ => cases hl
def waFl {α β : Type} (T : Ty α) (fl : List Str → β → List FldS) : List Str → α × β → List FldS
  | [], _ => []
  | n :: ns, d => ⟨n, α, T, d.1⟩ :: fl ns d.2
def waCons {α β : Type} (O : WTy α) (A : WAr β) : WAr (α × β) where
  A := aCons O.T A.A
  fl := waFl O.T A.fl
  rep := fun d vs H R F => ∃ v r F1 F2, vs = v :: r ∧ F = F1 ++ F2 ∧ O.rep d.1 v H R F1 ∧ A.rep d.2 r H R F2
  st := by
    rintro d vs H H' F R R' ⟨v, r, F1, F2, e1, e2, h1, h2⟩ s k
    exact ⟨v, r, F1, F2, e1, e2, O.st h1 s fun p hp => k p (by rw [e2]; exact List.mem_append_left _ hp), A.st h2 s fun p hp => k p (by rw [e2]; exact List.mem_append_right _ hp)⟩
  tb := by
    rintro d vs H F R ⟨v, r, F1, F2, e1, e2, h1, h2⟩ p hp
    rw [e2] at hp; exact (List.mem_append.mp hp).elim (O.tb h1 p) (A.tb h2 p)
  fz := by
    rintro d vs H F R R' ⟨v, r, F1, F2, e1, e2, h1, h2⟩ s k
    exact ⟨v, r, e1, O.fz h1 s fun p hp => k p (by rw [e2]; exact List.mem_append_left _ hp), A.fz h2 s fun p hp => k p (by rw [e2]; exact List.mem_append_right _ hp)⟩
  fzF := by
    rintro d vs H F R R' ns hl ⟨v, r, F1, F2, e1, e2, h1, h2⟩ s k
    subst e1
    cases ns with
    | nil => cases hl
    | cons n ns => exact .cons (O.fz h1 s fun p hp => k p (by rw [e2]; exact List.mem_append_left _ hp)) (A.fzF (by simpa using hl) h2 s fun p hp => k p (by rw [e2]; exact List.mem_append_right _ hp))
/-- a list of things of several kinds -/
def wHl {δ : Type} (A : WAr δ) : WTy δ where
  T := tHl A.A
  rep := fun d v H R F => ∃ p vs G, v = .ref p ∧ F = p :: G ∧ H p = some (.lst vs) ∧ A.rep d vs H R G
  st := by
    rintro d v H H' F R R' ⟨p, vs, Fs, e1, e2, h, r⟩ s k
    exact ⟨p, vs, Fs, e1, e2, by rw [k p (by rw [e2]; exact List.mem_cons_self)]; exact h, A.st r s fun q hq => k q (by rw [e2]; exact List.mem_cons_of_mem _ hq)⟩
  tb := by
    rintro d v H F R ⟨p, vs, Fs, e1, e2, h, r⟩ q hq
    rw [e2] at hq
    rcases List.mem_cons.mp hq with e | hq
    · subst e; exact ⟨_, h, rfl⟩
    · exact A.tb r q hq
  fz := by
    rintro d v H F R R' ⟨p, vs, Fs, e1, e2, h, r⟩ s k
    exact ⟨p, vs, e1, k p (by rw [e2]; exact List.mem_cons_self) _ h, A.fz r s fun q hq => k q (by rw [e2]; exact List.mem_cons_of_mem _ hq)⟩
/-- what holds of all leaves however they are read -/
def FlatW {α : Type} (O : WTy α) : Prop := ∀ {d v H F} {R R' : RdR}, O.rep d v H R F → O.rep d v H R' F
section
variable {α β δ : Type} {O : WTy α} {A : WAr δ} {T : Ty α} {C : Addr} {ns : List Str}
theorem fw_v (h : Flat T) : FlatW (wV T) := fun ⟨e, r⟩ => ⟨e, h r⟩
theorem fw_reps (h : FlatW O) {H : Hp} {R R' : RdR} {ds : List α} {vs : List V} {Fs : List (List Addr)} (r : RepsO O H R ds vs Fs) : RepsO O H R' ds vs Fs := by
  induction r with
  | nil => exact .nil
  | cons q _ ih => exact .cons (h q) ih
theorem fw_l (h : FlatW O) : FlatW (wL O) := fun ⟨p, vs, Fs, e1, e2, q, r⟩ => ⟨p, vs, Fs, e1, e2, q, fw_reps h r⟩
end
/-- a slot of things of one's own; px: which value it is -/
def sP {α : Type} (px : V → Prop) (O : WTy α) (d : α) : Slot := ⟨fun v H R F => ∃ x, v = some x ∧ px x ∧ O.rep d x H (R false) F, fun ⟨x, e, hx, r⟩ s k => ⟨x, e, hx, O.st r (s false) k⟩,
  fun ⟨x, e, hx, r⟩ p hp => by obtain ⟨o, h, g⟩ := O.tb r p hp; rw [cl_of h (gd_nt g)]; exact fun z => nomatch z⟩
abbrev sO {α : Type} (O : WTy α) (d : α) : Slot := sP (fun _ => True) O d
abbrev sA {α : Type} (x : V) (O : WTy α) (d : α) : Slot := sP (fun v => v = x) O d
def FinN {β : Type} (fm : Fm) (W : Wx) (own : List Addr) (σ : L2.St) (H : Hp) (O : WTy β) (Q : VK) : M β → Prop
  | .ok d => ∀ v F H', Same H H' → F.Nodup → (∀ p ∈ F, H p = none) → O.rep d v H' (RD fm (F ++ own) H') F → Q v H'
  | .ex c => ∀ H', Same H H' → W c σ H'
  | .no => False
theorem finN {β : Type} {O : WTy β} {fm : Fm} {W : Wx} {own : List Addr} {σ : L2.St} {H : Hp} {Q : VK} : Fin W σ H (FinN fm W own σ H O Q) := ⟨fun h => h, fun h => h⟩
def EvN (g : G) (L : List Slot) (e : Expr) {β : Type} (O : WTy β) (m : M β) : Prop := PE g.X e (fun σ H Q => ∃ kp own, At g.fm kp L σ H own ∧ FinN g.fm g.W own σ H O Q m)
theorem RD.drop {fm : Fm} {own own' : List Addr} {H : Hp} (k : ∀ p ∈ own', p ∈ own) : ∀ a o, RD fm own H a o → RD fm own' H a o := RX.own (md := .sh) (H := H) k
/-- read ahead: what was there is none of the new -/
theorem RD.newer {fm : Fm} {own F : List Addr} {H H' : Hp} (s : Same H H') (n : ∀ p ∈ F, H p = none) : ∀ a o, RD fm own H a o → RD fm (F ++ own) H' a o := fun a o r => by
  rcases r with ⟨r1, r2, r3⟩ | r
  · refine .inl ⟨Rd.same s r1, fun h => ?_, r3⟩
    rcases List.mem_append.mp h with h | h
    · have := n a h
      rcases r1 with r1 | ⟨_, r1⟩ <;> rw [cl_none this] at r1 <;> cases r1
    · exact r2 h
  · exact .inr r
section
variable {p : Pr} {sc : Scope} {NN VV GG : List Str} {k : Nat} {g : G} {L L' : List Slot} {a b c e e' : Expr} {es : List Expr} {md md' : Md} {α β γ δ ρ : Type} {S : Ty α} {T : Ty β} {U : Ty γ} {O : WTy α} {A : WAr δ} {pos pp : Pos} {i j : Nat} {x : Str}
/-- .. is shared at once -/
theorem ev_ofN {m : M α} (h : EvN g L e O m) : EvE g L e .sh O.T m := PE.imp h fun σ H Q q => by
  obtain ⟨kp, own, at_, q⟩ := tE_iff.mp q
  refine ⟨kp, own, at_, ?_⟩
  cases m with
  | ok d => exact fun v F H' s nd n r => q v H' s (O.fz r (RD.drop fun p hp => List.mem_append_right _ hp) fun p hp o ho => by
      obtain ⟨o', h', g'⟩ := O.tb r p hp
      rw [ho] at h'; cases h'
      exact .inl ⟨.inl (cl_of ho (gd_nt g')), fun hq => (at_.new p hq).1 (n p hp), fun hz => at_.zin p hz (n p hp)⟩)
  | ex c => exact q
  | no => exact q
theorem evn_v {m : M α} (h : EvE g L e md S m) : EvN g L e (wV S) m := PE.imp h fun σ H Q ⟨kp, own, at_, q⟩ => by
  refine tE_iff.mpr ⟨kp, own, at_, ?_⟩
  cases m with
  | ok d => exact fun v H' s r => q v [] H' s List.nodup_nil (fun _ hp => nomatch hp) ⟨rfl, S.mono r fun a o z => RX.sh a o z⟩
  | ex c => exact q
  | no => exact q
theorem evn_l {m : M (List α)} (h : EvL g L e md S m) : EvN g L e (wL (wV S)) m := PE.imp h fun σ H Q ⟨kp, own, at_, q⟩ => by
  refine tL_iff.mpr ⟨kp, own, at_, ?_⟩
  cases m with
  | ok ds =>
    intro p vs H' s n h' r
    have fl : ∀ {ds : List α} {vs : List V} {R : RdR}, Reps S R ds vs → ∃ Fs, RepsO (wV S) H' R ds vs Fs ∧ Fs.flatten = [] := fun {ds vs R} r => by
      induction r with
      | nil => exact ⟨[], .nil, rfl⟩
      | cons r _ ih => obtain ⟨Fs, h1, h2⟩ := ih; exact ⟨[] :: Fs, .cons ⟨rfl, r⟩ h1, by simpa using h2⟩
    obtain ⟨Fs, r1, e1⟩ := fl (r.mono fun a o z => RX.sh a o z)
    exact q (.ref p) [p] H' s (by simp) (fun q hq => by rw [List.mem_singleton.mp hq]; exact n) ⟨p, vs, Fs, rfl, by rw [e1], h', r1⟩
  | ex c => exact q
  | no => exact q
end
end Hd
namespace Hd
open PySem PySem.Spec L2
structure Plc (H : Hp) (R : RdR) {α : Type} (O : WTy α) (v : V) (F : List Addr) {β : Type} (O2 : WTy β) (d2 : β) (put : β → α) (v2 : V) (F2 : List Addr) : Prop where
  rep : O2.rep d2 v2 H R F2
  sub : ∀ p ∈ F2, p ∈ F
  nd : F2.Nodup
  up : ∀ {H' : Hp} {R' : RdR} {d2' : β} {F2' : List Addr}, (∀ a o, R a o → R' a o) → (∀ p ∈ F, p ∉ F2 → H' p = H p) → O2.rep d2' v2 H' R' F2' → F2'.Nodup → (∀ p ∈ F2', p ∈ F2 ∨ p ∉ F) →
    ∃ F', O.rep (put d2') v H' R' F' ∧ F'.Nodup ∧ ∀ p ∈ F', p ∈ F2' ∨ (p ∈ F ∧ p ∉ F2)
/-- the item k of written items -/
inductive WAt : {δ : Type} → WAr δ → Nat → {α : Type} → WTy α → (δ → α) → (δ → α → δ) → Prop where
  | z {α δ : Type} {O : WTy α} {A : WAr δ} : WAt (waCons O A) 0 O (fun d => d.1) (fun d y => (y, d.2))
  | s {α β δ : Type} {O : WTy α} {O' : WTy β} {A : WAr δ} {k : Nat} {pr : δ → α} {st : δ → α → δ} : WAt A k O pr st → WAt (waCons O' A) (k + 1) O (fun d => pr d.2) (fun d y => (d.1, st d.2 y))
section
variable {α β γ δ : Type} {O : WTy α} {O2 : WTy β} {O3 : WTy γ} {A : WAr δ} {H H' : Hp} {R R' : RdR} {v v2 : V} {F F2 G : List Addr} {d : α} {d2 : β} {put : β → α}
theorem Plc.root (r : O.rep d v H R F) (nd : F.Nodup) : Plc H R O v F O d (fun y => y) v F := ⟨r, fun _ h => h, nd, fun _ _ r' nd' _ => ⟨_, r', nd', fun _ hp => .inl hp⟩⟩
theorem Plc.ext (h : Plc H R O v F O2 d2 put v2 F2) (s : ∀ a o, R a o → R' a o) (k : ∀ p ∈ F, H' p = H p) : Plc H' R' O v F O2 d2 put v2 F2 :=
  ⟨O2.st h.rep s fun p hp => k p (h.sub p hp), h.sub, h.nd, fun s' k' r' nd' n' => h.up (fun a o z => s' a o (s a o z)) (fun p hp hn => (k' p hp hn).trans (k p hp)) r' nd' n'⟩
theorem WAt.get {k : Nat} {pr : δ → γ} {st : δ → γ → δ} (h : WAt A k O3 pr st) : ∀ {d : δ} {vs : List V} {G : List Addr}, A.rep d vs H R G → G.Nodup → ∃ v3 F3, vs[k]? = some v3 ∧ O3.rep (pr d) v3 H R F3 ∧ (∀ q ∈ F3, q ∈ G) ∧ F3.Nodup ∧
    ∀ {H' R' y F3'}, (∀ a o, R a o → R' a o) → (∀ q ∈ G, q ∉ F3 → H' q = H q) → O3.rep y v3 H' R' F3' → F3'.Nodup → (∀ q ∈ F3', q ∈ F3 ∨ q ∉ G) → ∃ G', A.rep (st d y) vs H' R' G' ∧ G'.Nodup ∧ ∀ q ∈ G', q ∈ F3' ∨ (q ∈ G ∧ q ∉ F3) := by
  induction h with
  | z =>
    rintro d vs G ⟨v, r, F1, F2, e1, e2, h1, h2⟩ nd
    subst e1; subst e2
    rw [List.nodup_append] at nd
    refine ⟨v, F1, rfl, h1, fun q hq => List.mem_append_left _ hq, nd.1, fun {H' R' y F3'} s k r' nd' n' => ?_⟩
    have dj : ∀ q ∈ F2, q ∉ F1 := fun q hq hq' => nd.2.2 q hq' q hq rfl
    refine ⟨F3' ++ F2, ⟨v, r, F3', F2, rfl, rfl, r', WAr.st _ h2 s fun q hq => k q (List.mem_append_right _ hq) (dj q hq)⟩, List.nodup_append.mpr ⟨nd', nd.2.1, fun a ha b hb e => ?_⟩, fun q hq => ?_⟩
    · subst e
      rcases n' a ha with hq | hq
      · exact dj a hb hq
      · exact hq (List.mem_append_right _ hb)
    · rcases List.mem_append.mp hq with hq | hq
      · exact .inl hq
      · exact .inr ⟨List.mem_append_right _ hq, dj q hq⟩
  | s _ ih =>
    rintro d vs G ⟨v, r, F1, F2, e1, e2, h1, h2⟩ nd
    subst e1; subst e2
    rw [List.nodup_append] at nd
    obtain ⟨v3, F3, e3, r3, s3, nd3, up3⟩ := ih h2 nd.2.1
    have dj : ∀ q ∈ F1, q ∉ F2 := fun q hq hq' => nd.2.2 q hq q hq' rfl
    refine ⟨v3, F3, by simpa using e3, r3, fun q hq => List.mem_append_right _ (s3 q hq), nd3, fun {H' R' y F3'} s k r' nd' n' => ?_⟩
    obtain ⟨G', r4, nd4, n4⟩ := up3 s (fun q hq hn => k q (List.mem_append_right _ hq) hn) r' nd' (fun q hq => (n' q hq).imp id fun hn hq' => hn (List.mem_append_right _ hq'))
    refine ⟨F1 ++ G', ⟨v, r, F1, G', rfl, rfl, WTy.st _ h1 s fun q hq => k q (List.mem_append_left _ hq) fun hq' => dj q hq (s3 q hq'), r4⟩, List.nodup_append.mpr ⟨nd.1, nd4, fun a ha b hb e => ?_⟩, fun q hq => ?_⟩
    · subst e
      rcases n4 a hb with hq | ⟨hq, _⟩
      · rcases n' a hq with hq | hq
        · exact dj a ha (s3 a hq)
        · exact hq (List.mem_append_left _ ha)
      · exact dj a ha hq
    · rcases List.mem_append.mp hq with hq | hq
      · exact .inr ⟨List.mem_append_left _ hq, fun hq' => dj q hq (s3 q hq')⟩
      · rcases n4 q hq with hq | ⟨hq, hn⟩
        · exact .inl hq
        · exact .inr ⟨List.mem_append_right _ hq, hn⟩
/-- a part of a thing that stands at one address and holds written items -/
theorem Plc.part {dd : δ} {put : δ → α} {B : WTy δ} {con : List V → HO} (h : Plc H R O v F B dd put v2 F2) {p : Addr} {vs : List V} {G : List Addr}
    (e1 : v2 = .ref p) (e2 : F2 = p :: G) (hp : H p = some (con vs)) (rr : A.rep dd vs H R G) (cl : ∀ H' R' d' G', H' p = some (con vs) → A.rep d' vs H' R' G' → B.rep d' v2 H' R' (p :: G'))
    {k : Nat} {pr : δ → γ} {st : δ → γ → δ} (hA : WAt A k O3 pr st) :
    ∃ v3 F3, vs[k]? = some v3 ∧ (∀ q ∈ F3, q ∈ F2) ∧ Plc H R O v F O3 (pr dd) (fun y => put (st dd y)) v3 F3 := by
  have nd := h.nd
  rw [e2, List.nodup_cons] at nd
  obtain ⟨v3, F3, e3, r3, s3, nd3, up3⟩ := hA.get rr nd.2
  have s32 : ∀ q ∈ F3, q ∈ F2 := fun q hq => by rw [e2]; exact List.mem_cons_of_mem _ (s3 q hq)
  have pF2 : p ∈ F2 := by rw [e2]; exact List.mem_cons_self
  have np3 : p ∉ F3 := fun hq => nd.1 (s3 p hq)
  refine ⟨v3, F3, e3, s32, r3, fun q hq => h.sub q (s32 q hq), nd3, fun {H' R' d3' F3'} s k r' nd' n' => ?_⟩
  obtain ⟨G', r4, nd4, n4⟩ := up3 s (fun q hq hn => k q (h.sub q (by rw [e2]; exact List.mem_cons_of_mem _ hq)) hn) r' nd' (fun q hq => (n' q hq).imp id fun hn hq' => hn (h.sub q (by rw [e2]; exact List.mem_cons_of_mem _ hq')))
  have np : p ∉ G' := fun hq => by
    rcases n4 p hq with hq | ⟨hq, _⟩
    · rcases n' p hq with hq | hq
      · exact np3 hq
      · exact hq (h.sub p pF2)
    · exact nd.1 hq
  obtain ⟨F', r5, nd5, n5⟩ := h.up (d2' := st dd d3') (F2' := p :: G') s (fun q hq hn => k q hq fun hq' => hn (s32 q hq')) (cl _ _ _ _ (by rw [k p (h.sub p pF2) np3]; exact hp) r4) (List.nodup_cons.mpr ⟨np, nd4⟩) (fun q hq => by
      rcases List.mem_cons.mp hq with hq | hq
      · subst hq; exact .inl pF2
      · rcases n4 q hq with hq | ⟨hq, _⟩
        · exact (n' q hq).imp (s32 q) id
        · exact .inl (by rw [e2]; exact List.mem_cons_of_mem _ hq))
  refine ⟨F', r5, nd5, fun q hq => ?_⟩
  rcases n5 q hq with hq | ⟨hq, hn⟩
  · rcases List.mem_cons.mp hq with hq | hq
    · subst hq; exact .inr ⟨h.sub _ pF2, np3⟩
    · rcases n4 q hq with hq | ⟨hq, hn⟩
      · exact .inl hq
      · exact .inr ⟨h.sub q (by rw [e2]; exact List.mem_cons_of_mem _ hq), hn⟩
  · exact .inr ⟨hq, fun hq' => hn (s32 q hq')⟩
end
/-- slot i holds a thing of one's own, of which d2 at v2 is a place -/
def AtP (fm : Fm) (L : List Slot) (σ : L2.St) (own : List Addr) (Fs : List (List Addr)) (i : Nat) (px : V → Prop) {α : Type} (O : WTy α) (d : α) (H : Hp) {β : Type} (O2 : WTy β) (d2 : β) (put : β → α) (v2 : V) (F2 : List Addr) : Prop :=
  ∃ v F, L[i]? = some (sP px O d) ∧ AllS H (RB fm own H) L σ Fs ∧ own = Fs.flatten ∧ σ[i]? = some (some v) ∧ px v ∧ Fs[i]? = some F ∧ Plc H (RD fm own H) O v F O2 d2 put v2 F2
section
variable {fm : Fm} {kp : RdR} {L : List Slot} {σ : L2.St} {H H' : Hp} {own : List Addr} {i : Nat} {px : V → Prop} {α β γ : Type} {O : WTy α} {O2 : WTy β} {d : α} {d2 : β} {put : β → α} {v2 : V} {F2 : List Addr} {Fs : List (List Addr)}
theorem At.gdo (h : At fm kp L σ H own) (hA : AtP fm L σ own Fs i px O d H O2 d2 put v2 F2) : ∀ p ∈ F2, p ∈ own := by
  obtain ⟨v, F, hL, hs, e, e1, hx, e2, pl⟩ := hA
  exact fun p hp => by rw [e]; exact flat_mem e2 p (pl.sub p hp)
theorem AtP.ext (hA : AtP fm L σ own Fs i px O d H O2 d2 put v2 F2) (s : Same H H') : AtP fm L σ own Fs i px O d H' O2 d2 put v2 F2 := by
  obtain ⟨v, F, hL, hs, e, e1, hx, e2, pl⟩ := hA
  have k : ∀ p ∈ Fs.flatten, H' p = H p := fun p hp => by
    cases r : cl H p with
    | none => exact absurd r (hs.tb p hp)
    | some o => rw [cl_raw r]; exact s.keep _ _ (cl_raw r) (cl_nt r)
  exact ⟨v, F, hL, hs.st (RB.same s) k, e, e1, hx, e2, pl.ext (RD.same s) fun p hp => k p (flat_mem e2 p hp)⟩
theorem At.toP (h : At fm kp L σ H own) (hs : AllS H (RB fm own H) L σ Fs) (e : own = Fs.flatten) (hL : L[i]? = some (sP px O d)) : ∃ v F, σ[i]? = some (some v) ∧ AtP fm L σ own Fs i px O d H O d (fun y => y) v F := by
  obtain ⟨v0, F, e1, e2, v, rfl, hx, r⟩ := hs.get hL
  have nd := h.nd
  rw [e] at nd
  exact ⟨v, F, e1, v, F, hL, hs, e, e1, hx, e2, Plc.root r (flat_nd nd e2)⟩
/-- one slot changes -/
theorem AllS.chg {R R' : Bool → RdR} {s' : Slot} : ∀ {L : List Slot} {σ : L2.St} {Fs : List (List Addr)} {i : Nat} {F F' : List Addr} {v : Option V}, AllS H R L σ Fs → Fs.flatten.Nodup → Fs[i]? = some F → σ[i]? = some v → (∀ b a o, R b a o → R' b a o) → (∀ p ∈ Fs.flatten, p ∉ F → H' p = H p) → s'.ok v H' R' F' → AllS H' R' (L.set i s') σ (Fs.set i F') := by
  intro L σ Fs i F F' v h
  induction h generalizing i with
  | nil => intro _ e; simp at e
  | @cons sl L v0 σ F0 Fs r t ih =>
    intro nd e1 e2 s k r'
    rw [List.flatten_cons, List.nodup_append] at nd
    cases i with
    | zero =>
      simp at e1 e2
      subst e1; subst e2
      exact .cons r' (t.st s fun p hp => k p (by simp only [List.flatten_cons, List.mem_append]; exact .inr hp) fun hp' => nd.2.2 p hp' p hp rfl)
    | succ i =>
      have e1' : Fs[i]? = some F := by simpa using e1
      refine .cons (sl.st r s fun p hp => k p (by simp [hp]) fun hp' => nd.2.2 p hp p (flat_mem e1' p hp') rfl) ?_
      exact ih nd.2.1 e1' (by simpa using e2) s (fun p hp => k p (by simp only [List.flatten_cons, List.mem_append]; exact .inr hp)) r'
/-- the heap without some things -/
def hm (H : Hp) (F : List Addr) : Hp := fun a => if a ∈ F then none else H a
theorem hm_in {H : Hp} {F : List Addr} {a : Addr} (h : a ∈ F) : hm H F a = none := by unfold hm; rw [if_pos h]
theorem hm_out {H : Hp} {F : List Addr} {a : Addr} (h : a ∉ F) : hm H F a = H a := by unfold hm; rw [if_neg h]
/-- the place changes, and nothing else that was there -/
theorem At.chg {d2' : β} {F2' : List Addr} (h : At fm kp L σ H own) (hA : AtP fm L σ own Fs i px O d H O2 d2 put v2 F2)
    (sm : Same (hm H F2) H') (nd' : F2'.Nodup) (n1 : ∀ p ∈ F2', p ∈ F2 ∨ H p = none) (n2 : ∀ p ∈ F2', H' p ≠ none)
    (r' : O2.rep d2' v2 H' (RD fm (F2' ++ own) H') F2') : ∃ own', At fm kp (L.set i (sP px O (put d2'))) σ H' own' ∧ ∀ p ∈ own', p ∈ F2' ∨ (p ∈ own ∧ p ∉ F2) := by
  have sub2 := h.gdo hA
  obtain ⟨v, F, hL, hs, e, e1, hx, e2, pl⟩ := hA
  obtain ⟨h1, h2, _, h4, h5, h6⟩ := h
  have nd := h4
  rw [e] at nd
  have keep : ∀ a o, H a = some o → nt o = true → a ∉ F2 → H' a = some o := fun a o ea na hn => sm.keep a o (by rw [hm_out hn]; exact ea) na
  have fr : ∀ a, H' a = none → a ∉ F2 → H a = none := fun a ea hn => by have := sm.fr a ea; rwa [hm_out hn] at this
  have tab : ∀ P, LamX.TabS H P lamQ → LamX.TabS H' P lamQ := fun P t => sm.tab P (by
    obtain ⟨ps, t1, t2, t3⟩ := t
    have ng : ∀ a o, H a = some o → gd o = false → a ∉ F2 := fun a o ea ga q => by
      obtain ⟨o', ho', go'⟩ := O2.tb pl.rep a q
      rw [ea] at ho'; cases ho'
      rw [ga] at go'; cases go'
    refine ⟨ps, by rw [hm_out (ng P _ t1 rfl)]; exact t1, t2, fun pos cv hc => ?_⟩
    obtain ⟨c, c1, c2⟩ := t3 pos cv hc
    exact ⟨c, c1, by rw [hm_out (ng c _ c2 rfl)]; exact c2⟩)
  have kcl : ∀ a o, cl H a = some o → a ∉ F2 → cl H' a = some o := fun a o ea hn => cl_of (keep a o (cl_raw ea) (cl_nt ea) hn) (cl_nt ea)
  have keq : ∀ a, cl H a ≠ none → a ∉ F2 → H' a = H a := fun a ha hn => by
    cases r : cl H a with
    | none => exact absurd r ha
    | some o => rw [cl_raw r]; exact keep a o (cl_raw r) (cl_nt r) hn
  have rdn : ∀ a o, RD fm own H a o → RD fm (F2' ++ own) H' a o := fun a o z => by
    rcases z with ⟨z1, z2, z3⟩ | z
    · have hne : H a ≠ none := fun q => by rcases z1 with z1 | ⟨_, z1⟩ <;> rw [cl_none q] at z1 <;> cases z1
      have n2 : a ∉ F2 := fun q => z2 (sub2 a q)
      refine .inl ⟨z1.imp (fun q => kcl a _ q n2) fun ⟨f, q⟩ => ⟨f, kcl a _ q n2⟩, fun hq => ?_, z3⟩
      rcases List.mem_append.mp hq with hq | hq
      · rcases n1 a hq with hq | hq
        · exact z2 (sub2 a hq)
        · exact hne hq
      · exact z2 hq
    · exact .inr z
  obtain ⟨F', r4, nd4, n4⟩ := pl.up rdn (fun p hp hn => keq p (hs.tb p (flat_mem e2 p hp)) hn) r' nd' (fun p hp => (n1 p hp).imp id fun q hq => (h5 p (by rw [e]; exact flat_mem e2 p hq)).1 q)
  have nF : ∀ p ∈ (Fs.set i F').flatten, p ∈ F2' ∨ (p ∈ own ∧ p ∉ F2) := fun p hp => by
    rcases flat_set_mem nd e2 p hp with hp | ⟨hp, hn⟩
    · rcases n4 p hp with hp | ⟨hp, hn⟩
      · exact .inl hp
      · exact .inr ⟨by rw [e]; exact flat_mem e2 p hp, hn⟩
    · exact .inr ⟨by rw [e]; exact hp, fun q => hn (pl.sub p q)⟩
  have dr : ∀ a o, RD fm (F2' ++ own) H' a o → RD fm (Fs.set i F').flatten H' a o := RD.drop fun p hp => List.mem_append.mpr ((nF p hp).imp id (·.1))
  have keyB : ∀ b a o, RB fm own H b a o → RB fm (Fs.set i F').flatten H' b a o := fun b a o z => by
    cases b with
    | false => exact dr a o (rdn a o z)
    | true =>
      obtain ⟨z1, z2, z3, z4⟩ := z
      have hne : H a ≠ none := fun q => by rw [cl_none q] at z1; cases z1
      refine ⟨kcl a _ z1 fun q => z2 (sub2 a q), fun hq => ?_, z3, z4⟩
      rcases nF a hq with hq | ⟨hq, _⟩
      · rcases n1 a hq with hq | hq
        · exact z2 (sub2 a hq)
        · exact hne hq
      · exact z2 hq
  have sH : Same fm.H0 H' := by
    refine ⟨fun a o ea na => keep a o (h1.keep a o ea na) na (fun q => by have := (h5 a (sub2 a q)).2.1; rw [this] at ea; cases ea), fun a ea => ?_, fun P t => tab P (h1.tab P t)⟩
    by_cases q2 : a ∈ F2
    · exact (h5 a (sub2 a q2)).2.1
    · exact h1.fr a (fr a ea q2)
  refine ⟨_, ⟨sH, fun a z ea => ?_, ⟨Fs.set i F', hs.chg nd e2 e1 keyB (fun p hp hn => keq p (hs.tb p hp) fun q => hn (pl.sub p q)) (s' := sP px O (put d2')) ⟨v, rfl, hx, O.st r4 dr fun _ _ => rfl⟩, rfl⟩, flat_set_nd nd e2 nd4 (fun p hp => ?_), fun p hp => ?_, fun a o z => dr a o (rdn a o (h6 a o z))⟩, nF⟩
  · exact h2 a z (fr a ea fun q => (h5 a (sub2 a q)).2.2 z)
  · rcases n4 p hp with hp | ⟨hp, _⟩
    · rcases n1 p hp with hp | hp
      · exact .inl (pl.sub p hp)
      · exact .inr fun q => (h5 p (by rw [e]; exact q)).1 hp
    · exact .inl hp
  · rcases nF p hp with hp | ⟨hp, hn⟩
    · refine ⟨n2 p hp, ?_, ?_⟩
      · rcases n1 p hp with hq | hq
        · exact (h5 p (sub2 p hq)).2.1
        · exact h1.free hq
      · rcases n1 p hp with hq | hq
        · exact (h5 p (sub2 p hq)).2.2
        · exact fun z => h2 p z hq
    · have q := h5 p hp
      exact ⟨fun z => q.1 (fr p z hn), q.2⟩
end
end Hd
namespace Hd
open PySem PySem.Spec L2
def FinP (fm : Fm) (W : Wx) (L : List Slot) (own : List Addr) (Fs : List (List Addr)) (σ : L2.St) (H : Hp) (i : Nat) (px : V → Prop) {α : Type} (O : WTy α) (d : α) {β : Type} (O2 : WTy β) (Q : VK) : M (β × (β → α)) → Prop
  | .ok q => ∀ v2 F2 H', Same H H' → AtP fm L σ own Fs i px O d H' O2 q.1 q.2 v2 F2 → Q v2 H'
  | .ex c => ∀ H', Same H H' → W c σ H'
  | .no => False
def EvP (g : G) (L : List Slot) (e : Expr) (i : Nat) (px : V → Prop) {α : Type} (O : WTy α) (d : α) {β : Type} (O2 : WTy β) (m : M (β × (β → α))) : Prop := PE g.X e (fun σ H Q => ∃ kp own Fs, At g.fm kp L σ H own ∧ AllS H (RB g.fm own H) L σ Fs ∧ own = Fs.flatten ∧ FinP g.fm g.W L own Fs σ H i px O d O2 Q m)
def NoEx {α : Type} (m : M α) : Prop := ∀ c, m ≠ .ex c
section
variable {p : Pr} {sc : Scope} {NN VV GG : List Str} {k : Nat} {g : G} {L L' : List Slot} {a b c e e' ix : Expr} {es : List Expr} {md md' : Md} {α β γ δ ρ : Type} {S : Ty α} {T : Ty β} {O : WTy α} {O2 : WTy β} {O3 : WTy γ} {A : WAr ρ} {pos pp : Pos} {i j : Nat} {x f : Str} {px : V → Prop} {d : α}
theorem evp_name (ok : Ok p sc NN VV GG k g) (hN : NN[i]? = some x) (hV : VV[j]? = some x) (hL : L[i]? = some (sP px O d)) : EvP g L (.Name x pos) i px O d O (.ok (d, fun y => y)) := by
  obtain ⟨hv, ho⟩ := ok.vis hV
  obtain ⟨h1, h2, _⟩ := okName_d ho
  refine PE.imp (pe_var (i := i) (by rw [ok.N]; exact hN) hv h1 h2) fun σ H Q ⟨kp, own, Fs, at_, hsl, heo, q⟩ => ?_
  obtain ⟨v, F, e1, hA⟩ := at_.toP hsl heo hL
  exact ⟨v, e1, q v F H (Same.refl H) hA⟩
theorem evp_hl {m : M (ρ × (ρ → α))} {kk : Nat} {pr : ρ → γ} {st : ρ → γ → ρ} (ok : Ok p sc NN VV GG k g) (hA : WAt A kk O3 pr st) (he : EvP g L e i px O d (wHl A) m) (hi : EvE g L ix md tInt (.ok (kk : Int))) (hs : PlainIx ix := by exact fun _ _ => rfl) : EvP g L (.Subscript e ix pos) i px O d O3 (m.bind fun q => .ok (pr q.1, fun y => q.2 (st q.1 y))) := by
  refine PE.imp (pe_ix (r := rIxL g.X.K) ix_list he hi hs) fun σ H Q ⟨kp, own, Fs, at_, hsl, heo, q⟩ => ?_
  refine ⟨kp, own, Fs, at_, hsl, heo, ?_⟩
  cases m with
  | ok q0 =>
    intro v2 F2 H1 s1 A1
    refine tE_iff.mpr ⟨kp, own, at_.ext s1, ?_⟩
    intro y H2 s2 r2
    cases (show y = .int kk from r2)
    obtain ⟨v, F, hL, hs, e, e1, hx, e2, pl⟩ := A1.ext s2
    obtain ⟨p', vs, G, r1, r2, hp, rr⟩ := pl.rep
    obtain ⟨v3, F3, e4, _, pl3⟩ := pl.part (con := .lst) r1 r2 hp rr (fun H' R' d' G' h' r' => ⟨p', vs, G', r1, rfl, h', r'⟩) hA
    exact ⟨p', vs, kk, v3, r1, rfl, .inl (.inl hp), atI_nat e4, q v3 F3 H2 (s1.trans s2) ⟨v, F, hL, hs, e, e1, hx, e2, pl3⟩⟩
  | ex c => exact q
  | no => exact q
variable {st : List Stmt} {D : δ → Out}
/-- exceptions: the slots ahead of them are told, or there are none -/
def Wkx (g : G) (L : List Slot) (n : Prop) : Prop := Wk L g.LX ∨ n
theorem BOk.exx' {kp : RdR} {E : Ends} {c : Ec} {σ : L2.St} {H : Hp} {own : List Addr} {n : Prop} (wk : Wkx g L n) (hn : n → False) (at_ : At g.fm kp L σ H own) (q : BOk g kp E D (.ex c)) : ∀ H', Same H H' → g.W c σ H' := by
  rcases wk with wk | z
  · exact BOk.exx wk at_ q
  · exact (hn z).elim
/-- one own thing is written -/
theorem hm_wr {H H1 : Hp} {F : List Addr} {q : Addr} {u o : HO} (s : Same H H1) (hq : q ∈ F) (h1 : H1 q = some u) (gu : gd u = true) (hg : ∀ a ∈ F, ∃ o, H a = some o ∧ gd o = true) : Same (hm H F) (upd H1 q o) := by
  have s0 : Same (hm H F) H := by
    refine ⟨fun a o e n => ?_, fun a e => ?_, fun P t => ?_⟩
    · by_cases z : a ∈ F
      · rw [hm_in z] at e; cases e
      · rwa [hm_out z] at e
    · unfold hm; split
      · rfl
      · exact e
    · obtain ⟨ps, t1, t2, t3⟩ := t
      have up : ∀ {a : Addr} {o : HO}, hm H F a = some o → H a = some o := fun {a o} e => by
        by_cases z : a ∈ F
        · rw [hm_in z] at e; cases e
        · rwa [hm_out z] at e
      exact ⟨ps, up t1, t2, fun pos cv hc => let ⟨c, c1, c2⟩ := t3 pos cv hc; ⟨c, c1, up c2⟩⟩
  exact (s0.trans s).wr (hm_in hq) h1 (gd_ext gu) (gd_nt gu)
/-- a list at a place changes -/
theorem At.chgL {fm : Fm} {kp : RdR} {σ : L2.St} {H1 H2 : Hp} {own : List Addr} {ds : List γ} {put : List γ → α} {v2 : V} {F1 F2 : List Addr} {Fs : List (List Addr)} (at1 : At fm kp L σ H1 own) (A1 : AtP fm L σ own Fs i px O d H1 (wL O3) ds put v2 F2) (s2 : Same H1 H2) (nF1 : ∀ q ∈ F1, H1 q = none) (tF1 : ∀ q ∈ F1, H2 q ≠ none) :
    ∃ p vs Gs, v2 = .ref p ∧ p ∈ own ∧ H1 p = some (.lst vs) ∧ H2 p = some (.lst vs) ∧ RepsO O3 H2 (RD fm (F1 ++ own) H2) ds vs Gs ∧ Gs.flatten.Nodup ∧ (∀ q ∈ Gs.flatten, H1 q ≠ none) ∧ (∀ q ∈ F1, q ∉ Gs.flatten) ∧
      ∀ ds' vs' Gs', RepsO O3 H2 (RD fm (F1 ++ own) H2) ds' vs' Gs' → Gs'.flatten.Nodup → (∀ q ∈ Gs'.flatten, q ∈ Gs.flatten ∨ q ∈ F1) → ∃ own', At fm kp (L.set i (sP px O (put ds'))) σ (upd H2 p (.lst vs')) own' ∧ ∀ q ∈ own', q ∈ own ∨ q ∈ F1 := by
  have sub2 := at1.gdo A1
  have A1' := A1
  obtain ⟨v, F, hL, hs, eo, e1, hx, e2, pl⟩ := A1
  obtain ⟨p, vs, Gs, r1, r2, hp, rr⟩ := pl.rep
  have nd := pl.nd
  rw [r2, List.nodup_cons] at nd
  have gH : ∀ q ∈ Gs.flatten, H1 q ≠ none := fun q hq => by obtain ⟨o, ho, _⟩ := rr.tb q hq; rw [ho]; exact fun z => nomatch z
  have h2p : H2 p = some (.lst vs) := s2.keep _ _ hp rfl
  have pF2 : p ∈ F2 := by rw [r2]; exact List.mem_cons_self
  have pown : p ∈ own := sub2 p pF2
  have dj : ∀ q ∈ F1, q ∉ Gs.flatten := fun q h1 h2 => gH q h2 (nF1 q h1)
  have np1 : p ∉ F1 := fun q => by rw [nF1 p q] at hp; cases hp
  have k2 : ∀ q ∈ Gs.flatten, H2 q = H1 q := fun q hq => by obtain ⟨o, ho, go⟩ := rr.tb q hq; rw [ho]; exact s2.keep _ _ ho (gd_nt go)
  refine ⟨p, vs, Gs, r1, pown, hp, h2p, rr.st (RD.newer s2 nF1) k2, nd.2, gH, dj, fun ds' vs' Gs' rr' nd' n' => ?_⟩
  have np : p ∉ Gs'.flatten := fun q => (n' p q).elim nd.1 np1
  have gdF2 : ∀ a ∈ F2, ∃ o, H1 a = some o ∧ gd o = true := fun a ha => by
    rw [r2] at ha
    rcases List.mem_cons.mp ha with e | ha
    · subst e; exact ⟨_, hp, rfl⟩
    · exact rr.tb a ha
  have rd : ∀ a o, RD fm (F1 ++ own) H2 a o → RD fm ((p :: Gs'.flatten) ++ own) (upd H2 p (.lst vs')) a o := fun a o z => by
    rcases z with ⟨z1, z2, z3⟩ | z
    · have ne : a ≠ p := fun e => z2 (by rw [e]; exact List.mem_append_right _ pown)
      refine .inl ⟨?_, fun hq => z2 ?_, z3⟩
      · unfold Rd at z1 ⊢; rw [cl_upd_ne ne]; exact z1
      · rcases List.mem_append.mp hq with hq | hq
        · rcases List.mem_cons.mp hq with e | hq
          · exact absurd e ne
          · rcases n' a hq with h | h
            · exact List.mem_append_right _ (sub2 a (by rw [r2]; exact List.mem_cons_of_mem _ h))
            · exact List.mem_append_left _ h
        · exact List.mem_append_right _ hq
    · exact .inr z
  have n1' : ∀ q ∈ p :: Gs'.flatten, q ∈ F2 ∨ H1 q = none := fun q hq => by
    rcases List.mem_cons.mp hq with e | hq
    · subst e; exact .inl pF2
    · exact (n' q hq).imp (fun h => by rw [r2]; exact List.mem_cons_of_mem _ h) (nF1 q)
  have n2' : ∀ q ∈ p :: Gs'.flatten, upd H2 p (.lst vs') q ≠ none := fun q hq => by
    rcases List.mem_cons.mp hq with e | hq
    · subst e; rw [upd_same]; exact fun z => nomatch z
    · rw [upd_ne fun e => np (by rw [← e]; exact hq)]
      rcases n' q hq with h | h
      · rw [k2 q h]; exact gH q h
      · exact tF1 q h
  obtain ⟨own', a', n3⟩ := at1.chg (d2' := ds') (F2' := p :: Gs'.flatten) A1' (hm_wr (o := .lst vs') s2 pF2 h2p rfl gdF2) (List.nodup_cons.mpr ⟨np, nd'⟩) n1' n2' ⟨p, vs', Gs', r1, rfl, upd_same, rr'.st rd fun q hq => upd_ne fun e => np (by rw [← e]; exact hq)⟩
  refine ⟨own', a', fun q hq => ?_⟩
  rcases n3 q hq with h | h
  · rcases List.mem_cons.mp h with e | h
    · subst e; exact .inl pown
    · rcases n' q h with h | h
      · exact .inl (sub2 q (by rw [r2]; exact List.mem_cons_of_mem _ h))
      · exact .inr h
  · exact .inl h.1
theorem flat_snoc {Gs : List (List Addr)} {F : List Addr} : (Gs ++ [F]).flatten = Gs.flatten ++ F := by simp
/-- place.append(e) -/
theorem evb_pAppend {mp : M (List γ × (List γ → α))} {m : M γ} {h : α → M δ} {ap cp : Pos} (ok : OkS p sc NN VV GG k g) (wk : Wkx g L (NoEx mp ∧ NoEx m)) (hp : EvP g L a i px O d (wL O3) mp) (he : EvN g L e O3 m) (hr : ∀ d', EvB g (L.set i (sP px O d')) st D (h d'))
    (hs : swapsWith (.Call (.Attribute a "append" ap) [e] [] cp) none pos.line g.X.env = pure false := by rfl)
    (hbase : attributeBase a "append" g.X.env (eval a g.X.env) = eval a g.X.env := by rfl)
    (hfew : ((backTo cp (starEach [e] g.X.env)).all (fun x => !x.1) && (backToKw cp (keywordEach [] g.X.env)).all (fun x => x.1.isSome)
      && decide (([e] : List Expr).length + ([] : List Keyword).length + (if ([] : List Keyword).isEmpty then 0 else 1) < 30)) = true := by rfl)
    (hline : (ap.endLine == cp.line) = true := by rfl) (hst : starEach [e] g.X.env = (false, eval e g.X.env) :: starEach [] g.X.env := by rfl) (hpl : (backTo cp (starEach [] g.X.env)).any (·.1) = false := by rfl) :
    EvB g L (.Expr (.Call (.Attribute a "append" ap) [e] [] cp) pos :: st) D (mp.bind fun q => m.bind fun x => (pushM q.1 x).bind fun l => h (q.2 l)) := by
  refine PSs.imp (pss_cons (ps_expr (pe_bm PySem.F.plainAttrs_list PySem.F.slot_list_append PySem.F.type_list_append mt_append hp (pa_cons he pa_nil hst) (hbase := hbase) (hfew := hfew) (hline := hline) (hs := hst) (hplain := hpl)) hs) (PSs.ex hr)) fun E σ H ⟨kp, own, at_, q⟩ => ?_
  obtain ⟨Fs, hsl, heo⟩ := at_.sl
  refine ⟨kp, own, Fs, at_, hsl, heo, ?_⟩
  cases mp with
  | ok q0 =>
    intro v2 F2 H1 s1 A1
    have at1 := at_.ext s1
    obtain ⟨p', vs, Gs, r1, _, hp', _⟩ := at1.chgL (F1 := []) A1 (Same.refl H1) (fun _ h => nomatch h) (fun _ h => nomatch h)
    subst r1
    refine ⟨Or.inl ⟨rfl, _, SqL.of hp'⟩, kp, own, at1, ?_⟩
    cases m with
    | ok x =>
      intro w F1 H2 s2 nd1 n1 rw_
      have q : BOk g kp E D ((pushM q0.1 x).bind fun l => h (q0.2 l)) := q
      obtain ⟨p2, vs, Gs, r1, _, _, hp2, rr, nd, gH, dj, up⟩ := at1.chgL A1 s2 n1 (fun q hq => by obtain ⟨o, ho, _⟩ := O3.tb rw_ q hq; rw [ho]; exact fun z => nomatch z)
      cases r1
      unfold pushM at q
      split at q
      · rename_i hlt
        obtain ⟨own', a', _⟩ := up (q0.1 ++ [x]) (vs ++ [w]) (Gs ++ [F1]) (rr.append (.cons rw_ .nil)) (by rw [flat_snoc]; exact List.nodup_append.mpr ⟨nd, nd1, fun a ha b hb e => dj b hb (by rw [← e]; exact ha)⟩) (fun q hq => by rw [flat_snoc] at hq; exact (List.mem_append.mp hq))
        exact ⟨_, vs, w, rfl, rfl, hp2, by rw [← rr.length]; exact hlt, q0.2 (q0.1 ++ [x]), kp, own', a', q⟩
      · exact q.elim
    | ex c => exact BOk.exx' wk (fun n => n.2 c rfl) at1 q
    | no => exact q
  | ex c => exact BOk.exx' wk (fun n => n.1 c rfl) at_ q
  | no => exact q
end
end Hd
namespace Hd
open PySem PySem.Spec L2
/-- a thing of one's own is handed back -/
def oOut {ρ : Type} (O : WTy ρ) (r : ρ) : Out := .gen fun fm rt => ∀ v H' F, Same fm.H0 H' → F.Nodup → (∀ a ∈ F, fm.H0 a = none ∧ ¬ fm.z a) → O.rep r v H' (RD fm F H') F → rt v H'
section
variable {p : Pr} {sc : Scope} {NN VV GG : List Str} {k : Nat} {g : G} {L L' : List Slot} {a b c e e' ix : Expr} {es : List Expr} {md md' : Md} {α β γ δ ρ : Type} {S : Ty α} {T : Ty β} {O : WTy α} {O2 : WTy β} {O3 : WTy γ} {A : WAr ρ} {pos pp pos' : Pos} {i j : Nat} {x f : Str} {px : V → Prop} {d : α}
variable {st : List Stmt} {D : δ → Out}
theorem AllS.lenF {H : Hp} {R : Bool → RdR} {L : List Slot} {σ : L2.St} {Fs : List (List Addr)} (h : AllS H R L σ Fs) : Fs.length = L.length := by
  induction h with
  | nil => rfl
  | cons _ _ ih => rw [List.length_cons, List.length_cons, ih]
theorem At.setW {fm : Fm} {kp : RdR} {σ : L2.St} {H H' : Hp} {own F1 : List Addr} {v : V} (h : At fm kp L σ H own) (s : Same H H') (nd1 : F1.Nodup) (n1 : ∀ q ∈ F1, H q = none) (r : O.rep d v H' (RD fm (F1 ++ own) H') F1) : ∃ own', At fm kp (L.set i (sO O d)) (σ.set i (some v)) H' own' := by
  obtain ⟨h1, h2, ⟨Fs, h3, e⟩, h4, h5, h6⟩ := h
  have nd := h4
  rw [e] at nd
  have hk : ∀ q ∈ Fs.flatten, H' q = H q := fun q hq => by
    cases r : cl H q with
    | none => exact absurd r (h3.tb q hq)
    | some o => rw [cl_raw r]; exact s.keep _ _ (cl_raw r) (cl_nt r)
  by_cases hi : i < Fs.length
  · have ei : Fs[i]? = some Fs[i] := List.getElem?_eq_getElem hi
    have nF : ∀ q ∈ (Fs.set i F1).flatten, q ∈ F1 ∨ q ∈ own := fun q hq => by
      rcases flat_set_mem nd ei q hq with hq | ⟨hq, _⟩
      · exact .inl hq
      · exact .inr (by rw [e]; exact hq)
    have dr : ∀ a o, RD fm (F1 ++ own) H' a o → RD fm (Fs.set i F1).flatten H' a o := RD.drop fun q hq => List.mem_append.mpr (nF q hq)
    have keyB : ∀ b a o, RB fm own H b a o → RB fm (Fs.set i F1).flatten H' b a o := fun b a o z => by
      cases b with
      | false => exact dr a o (RD.newer s n1 a o z)
      | true =>
        obtain ⟨z1, z2, z3, z4⟩ := z
        refine ⟨s.cl _ _ z1, fun hq => ?_, z3, z4⟩
        rcases nF a hq with hq | hq
        · rw [cl_none (n1 a hq)] at z1; cases z1
        · exact z2 hq
    refine ⟨_, h1.trans s, fun a z ea => h2 a z (s.free ea), ⟨Fs.set i F1, (h3.st keyB hk).set (s := sO O d) ⟨v, rfl, trivial, O.st r dr fun _ _ => rfl⟩ i, rfl⟩, flat_set_nd nd ei nd1 fun q hq => .inr fun hq' => (h5 q (by rw [e]; exact hq')).1 (n1 q hq), fun q hq => ?_, fun a o z => dr a o (RD.newer s n1 a o (h6 a o z))⟩
    rcases nF q hq with hq | hq
    · exact ⟨(fun z => by obtain ⟨o, ho, _⟩ := O.tb r q hq; rw [ho] at z; cases z), h1.free (n1 q hq), fun z => h2 q z (n1 q hq)⟩
    · exact ⟨fun z => (h5 q hq).1 (s.free z), (h5 q hq).2⟩
  · have hl := h3.len
    have hl2 : Fs.length = L.length := h3.lenF
    have e1 : L.set i (sO O d) = L := List.set_eq_of_length_le (by omega)
    have e2 : σ.set i (some v) = σ := List.set_eq_of_length_le (by omega)
    rw [e1, e2]
    exact ⟨own, At.ext ⟨h1, h2, ⟨Fs, h3, e⟩, h4, h5, h6⟩ s⟩
/-- x = e -/
theorem evb_setN {m : M α} {h : α → M δ} (ok : OkS p sc NN VV GG k g) (hN : NN[i]? = some x) (hV : VV[j]? = some x) (wk : Wkx g L (NoEx m)) (he : EvN g L e O m) (hr : ∀ d, EvB g (L.set i (sO O d)) st D (h d))
    (hs : swapsWith e (some (.Name x pos')) pos.line g.X.env = pure false := by rfl) : EvB g L (.Assign [.Name x pos'] e pos :: st) D (m.bind h) := by
  refine PSs.imp (pss_cons (ps_set (i := i) (by rw [ok.N]; exact ok.nd) (by rw [ok.N]; exact hN) (ok.loc hV) he hs (okS_fn ok)) (PSs.ex hr)) fun E σ H ⟨kp, own, at_, q⟩ => ?_
  refine ⟨kp, own, at_, ?_⟩
  cases m with
  | ok d =>
    intro v F H' s nd n r
    obtain ⟨own', a'⟩ := at_.setW (i := i) s nd n r
    exact ⟨d, kp, own', a', q⟩
  | ex c => exact BOk.exx' wk (fun n => n c rfl) at_ q
  | no => exact q
/-- looked at, as if it were shared -/
theorem At.freezeP {fm : Fm} {kp : RdR} {σ : L2.St} {H : Hp} {own : List Addr} (h : At fm kp L σ H own) (hL : L[i]? = some (sP px O d)) : ∃ own', At fm kp (L.set i (sV false O.T d)) σ H own' ∧ ∀ p ∈ own', p ∈ own := by
  obtain ⟨h1, h2, ⟨Fs, h3, e⟩, h4, h5, h6⟩ := h
  obtain ⟨v0, F, e1, e2, v, rfl, hx, r⟩ := h3.get hL
  have nd := h4
  rw [e] at nd
  have nF : ∀ q ∈ (Fs.set i []).flatten, q ∈ Fs.flatten ∧ q ∉ F := fun q hq => by
    rcases flat_set_mem nd e2 q hq with hq | hq
    · exact nomatch hq
    · exact hq
  have kk : ∀ q ∈ (Fs.set i []).flatten, q ∈ own := fun q hq => by rw [e]; exact (nF q hq).1
  have hk : ∀ q ∈ Fs.flatten, q ∉ F → H q = H q := fun _ _ _ => rfl
  refine ⟨_, ⟨h1, h2, ⟨Fs.set i [], h3.chg nd e2 e1 (RB.own kk) hk (s' := sV false O.T d) ⟨rfl, v, rfl, O.fz r (RB.own kk false) fun q hq o ho => ?_⟩, rfl⟩, flat_set_nd nd e2 List.nodup_nil (fun _ h => nomatch h), fun q hq => h5 q (kk q hq), fun a o z => RX.own (md := .sh) (H := H) kk a o (h6 a o z)⟩, kk⟩
  obtain ⟨o', ho', go⟩ := O.tb r q hq
  rw [ho] at ho'; cases ho'
  exact .inl ⟨.inl (cl_of ho (gd_nt go)), fun hq' => (nF q hq').2 hq, (h5 q (by rw [e]; exact flat_mem e2 q hq)).2.2⟩
theorem evt_borrowP {m : M Bool} (hL : L[i]? = some (sP px O d)) (h : EvT g (L.set i (sV false O.T d)) e m) : EvT g L e m := PT.imp h fun σ H Q q => by
  obtain ⟨kp, own, at_, q⟩ := tT_iff.mp q
  obtain ⟨own', a', sub⟩ := at_.freezeP hL
  refine tT_iff.mpr ⟨kp, own', a', ?_⟩
  cases m <;> exact q
theorem evn_borrowP {m : M β} (hf : FlatW O2) (hL : L[i]? = some (sP px O d)) (h : EvN g (L.set i (sV false O.T d)) e O2 m) : EvN g L e O2 m := PE.imp h fun σ H Q ⟨kp, own, at_, q⟩ => by
  obtain ⟨own', a', sub⟩ := at_.freezeP hL
  refine ⟨kp, own', a', ?_⟩
  cases m with
  | ok d => exact fun v F H' s nd n r => q v F H' s nd n (hf r)
  | ex c => exact q
  | no => exact q
theorem fn_rtN {x qual : Str} {st : Stmt} {f : Addr} {fd : FuncData} {ps : List Str} {δ ρ : Type} {A : Ar δ} {O : WTy ρ} {L0 : δ → List Slot} {n m : Nat} {F : δ → M ρ} (hF : FunD p.K x qual (defArgs st) (defBody st) (defScope st) [] [] f fd) (hS : Sc st NN VV ps GG) (ha : ArS A n L0) (hn : ps.length = n) (hm : n + m = NN.length)
    (hb : Body p st NN VV GG k (fun d => L0 d ++ List.replicate m sAny) (fun r => oOut O r) F) : FnOk p.P p.w p.K p.mg p.base (L2.CX p.P p.w) (k + 1) f fd ps (spM p A (fun r => oOut O r) F) :=
  fn_gen (D' := fun r => oOut O r) hF hS ha hn hm (fun r fm Q h => h) hb
theorem evn_call {x : Str} {j kf : Nat} {ps : List Str} {δ ρ : Type} {A : Ar δ} {O : WTy ρ} {F : δ → M ρ} {m : M δ} {pp : Pos} (ok : Ok p sc NN VV GG k g) (hf : Fn p kf x ps (spM p A (fun r => oOut O r) F)) (hk : kf ≤ k) (hG : GG[j]? = some x)
    (ha : EvA g L (e :: es) md A m) (he : starEach (e :: es) g.X.env = (false, eval e g.X.env) :: starEach es g.X.env := by rfl) (hpl : (backTo pos (starEach es g.X.env)).any (·.1) = false := by rfl) :
    EvN g L (.Call (.Name x pp) (e :: es) [] pos) O (m.bind F) := by
  obtain ⟨f, fd, hF, hm, hkp, hbd⟩ := hf.ex
  obtain ⟨hg, ho⟩ := ok.gl hG
  rw [← ok.prog, ← ok.w, ← ok.base] at hF
  have hF' : FnOk g.X.prog g.X.w g.X.K g.X.mg g.X.base (L2.CX g.X.prog g.X.w) kf f fd ps (spM p A (fun r => oOut O r) F) := by rw [ok.K, ok.mg]; exact hF
  refine PE.imp (pe_callS hF' (ok.room.mono hk) hg (by rw [ok.mg]; exact hm) (by rw [ok.K]; exact hkp) (by rw [ok.K]; exact hbd) (tk_at ok) ha (okName_d ho).1 he hpl) fun σ H Q ⟨kp, own, at_, q⟩ => ?_
  refine subA finN (Same.refl H) at_ q fun d vs H1 s1 r1 at1 q1 => ⟨d, fun a => a ∈ own ∨ g.fm.z a, ⟨fun a z => ?_, fun P e => at1.same.tab P (ok.tab P e)⟩, ?_, ?_⟩
  · rcases z with z | z
    · exact (at1.new a z).1
    · exact at1.zin a z
  · rw [← ok.fmK]; exact args_in r1
  · rw [← ok.fmK]
    cases hd : F d with
    | ok r =>
      rw [hd] at q1
      refine fun v H' F1 s nd n r => q1 v F1 H' (s1.trans s) nd (fun a ha => s1.free (n a ha).1) (O.st r (fun a o z => ?_) fun _ _ => rfl)
      exact z.imp (fun ⟨z1, z2, z3⟩ => ⟨z1, fun hq => (List.mem_append.mp hq).elim z2 fun hq => z3 (.inl hq), fun hq => z3 (.inr hq)⟩) id
    | ex c =>
      rw [hd] at q1
      exact fun H' s => ⟨c, rfl, rfl, q1 H' (s1.trans s)⟩
    | no => rw [hd] at q1; exact q1
end
end Hd
namespace Hd
open PySem PySem.Spec L2
/-- arguments: f: the slots they begin with; fo: the slots they end with; pj: what is owned of them; up: what they have become -/
inductive ArX : {δ ω : Type} → WAr δ → Nat → (δ → List V → List Slot) → (ω → List V → List Slot) → (δ → ω) → (δ → ω → δ) → Prop where
  | nil : ArX (ω := Unit) waNil 0 (fun _ _ => []) (fun _ _ => []) (fun _ => ()) (fun d _ => d)
  | sh {α δ ω : Type} {T : Ty α} {A : WAr δ} {n : Nat} {f : δ → List V → List Slot} {fo : ω → List V → List Slot} {pj : δ → ω} {up : δ → ω → δ} : ArX A n f fo pj up →
      ArX (ω := ω) (waCons (wV T) A) (n + 1) (fun d vs => sV false T d.1 :: f d.2 vs.tail) (fun w vs => sAny :: fo w vs.tail) (fun d => pj d.2) (fun d w => (d.1, up d.2 w))
  | ow {α δ ω : Type} {O : WTy α} {A : WAr δ} {n : Nat} {f : δ → List V → List Slot} {fo : ω → List V → List Slot} {pj : δ → ω} {up : δ → ω → δ} : ArX A n f fo pj up →
      ArX (ω := α × ω) (waCons O A) (n + 1) (fun d vs => sA (vs.headD .non) O d.1 :: f d.2 vs.tail) (fun w vs => sA (vs.headD .non) O w.1 :: fo w.2 vs.tail) (fun d => (d.1, pj d.2)) (fun d w => (w.1, up d.2 w.2))
section
variable {δ ω : Type} {A : WAr δ} {n : Nat} {f : δ → List V → List Slot} {fo : ω → List V → List Slot} {pj : δ → ω} {up : δ → ω → δ} {H H1 : Hp} {R : Bool → RdR} {R1 : RdR}
theorem ArX.all (h : ArX A n f fo pj up) : ∀ {d : δ} {vs : List V} {F : List Addr}, A.rep d vs H (R false) F → vs.length = n ∧ ∃ Fs, AllS H R (f d vs) (vs.map some) Fs ∧ Fs.flatten = F := by
  induction h with
  | nil => rintro d vs F ⟨e1, e2⟩; subst e1; subst e2; exact ⟨rfl, [], .nil, rfl⟩
  | sh _ ih =>
    rintro d vs F ⟨v, r, F1, F2, e1, e2, ⟨e3, h1⟩, h2⟩
    subst e1; subst e2; subst e3
    obtain ⟨hl, Fs, h3, h4⟩ := ih h2
    exact ⟨by simp [hl], [] :: Fs, .cons ⟨rfl, v, rfl, h1⟩ h3, by simp [h4]⟩
  | ow _ ih =>
    rintro d vs F ⟨v, r, F1, F2, e1, e2, h1, h2⟩
    subst e1; subst e2
    obtain ⟨hl, Fs, h3, h4⟩ := ih h2
    exact ⟨by simp [hl], F1 :: Fs, .cons ⟨v, rfl, rfl, h1⟩ h3, by simp [h4]⟩
end
section
end
end Hd
namespace Hd
open PySem PySem.Spec L2
/-- pointwise, but for some places -/
structure Pw (H : Hp) (R : Bool → RdR) (L : List Slot) (σ : L2.St) (Fs : List (List Addr)) (out : Nat → Prop) : Prop where
  l1 : σ.length = L.length
  l2 : Fs.length = L.length
  ok : ∀ j, ¬ out j → ∀ s v F, L[j]? = some s → σ[j]? = some v → Fs[j]? = some F → s.ok v H R F
theorem AllS.pw {H : Hp} {R : Bool → RdR} {L : List Slot} {σ : L2.St} {Fs : List (List Addr)} (h : AllS H R L σ Fs) : Pw H R L σ Fs (fun _ => False) := by
  refine ⟨h.len, h.lenF, fun j _ s v F e1 e2 e3 => ?_⟩
  obtain ⟨v', F', e4, e5, r⟩ := h.get e1
  rw [e2] at e4; cases e4
  rw [e3] at e5; cases e5
  exact r
theorem Pw.all {H : Hp} {R : Bool → RdR} : ∀ {L : List Slot} {σ : L2.St} {Fs : List (List Addr)}, Pw H R L σ Fs (fun _ => False) → AllS H R L σ Fs
  | [], σ, Fs, h => by
    have e1 : σ = [] := List.length_eq_zero_iff.mp h.l1
    have e2 : Fs = [] := List.length_eq_zero_iff.mp h.l2
    subst e1; subst e2; exact .nil
  | s :: L, [], Fs, h => by have := h.l1; simp at this
  | s :: L, v :: σ, [], h => by have := h.l2; simp at this
  | s :: L, v :: σ, F :: Fs, h => .cons (h.ok 0 (fun z => z) s v F rfl rfl rfl) (Pw.all ⟨by have := h.l1; simpa using this, by have := h.l2; simpa using this, fun j _ s' v' F' e1 e2 e3 => h.ok (j + 1) (fun z => z) s' v' F' (by simpa using e1) (by simpa using e2) (by simpa using e3)⟩)
/-- arguments, some of them places in slots of their own -/
inductive ArgsAt (L : List Slot) (σ : L2.St) (Fs : List (List Addr)) (H : Hp) (R : RdR) : {δ ω τ : Type} → WAr δ → (δ → ω → δ) → δ → List V → List Addr → List Nat → (ω → τ) → (τ → List (Nat × Slot)) → Prop where
  | nil : ArgsAt L σ Fs H R (ω := Unit) (τ := Unit) waNil (fun d _ => d) () [] [] [] (fun _ => ()) (fun _ => [])
  | sh {α δ ω τ : Type} {T : Ty α} {A : WAr δ} {up : δ → ω → δ} {d : α} {ds : δ} {v : V} {vs : List V} {Fa : List Addr} {is : List Nat} {pu : ω → τ} {mk : τ → List (Nat × Slot)} : T.rep d v R → ArgsAt L σ Fs H R A up ds vs Fa is pu mk →
      ArgsAt L σ Fs H R (waCons (wV T) A) (fun d w => (d.1, up d.2 w)) (d, ds) (v :: vs) Fa is pu mk
  | ow {α β δ ω τ : Type} {O : WTy α} {O2 : WTy β} {A : WAr δ} {up : δ → ω → δ} {d : α} {d2 : β} {ds : δ} {v v2 : V} {vs : List V} {F F2 Fa : List Addr} {is : List Nat} {i : Nat} {put : β → α} {px : V → Prop} {pu : ω → τ} {mk : τ → List (Nat × Slot)} :
      L[i]? = some (sP px O d) → σ[i]? = some (some v) → px v → Fs[i]? = some F → Plc H R O v F O2 d2 put v2 F2 → i ∉ is → ArgsAt L σ Fs H R A up ds vs Fa is pu mk →
      ArgsAt L σ Fs H R (ω := β × ω) (τ := α × τ) (waCons O2 A) (fun d w => (w.1, up d.2 w.2)) (d2, ds) (v2 :: vs) (F2 ++ Fa) (i :: is) (fun w => (put w.1, pu w.2)) (fun t => (i, sP px O t.1) :: mk t.2)
section
variable {L : List Slot} {σ : L2.St} {Fs : List (List Addr)} {H H' : Hp} {R R' : RdR} {δ ω τ : Type} {A : WAr δ} {up : δ → ω → δ} {ds : δ} {vs : List V} {Fa : List Addr} {is : List Nat} {pu : ω → τ} {mk : τ → List (Nat × Slot)}
theorem ArgsAt.ext (h : ArgsAt L σ Fs H R A up ds vs Fa is pu mk) (s : ∀ a o, R a o → R' a o) (k : ∀ p ∈ Fs.flatten, H' p = H p) : ArgsAt L σ Fs H' R' A up ds vs Fa is pu mk := by
  induction h with
  | nil => exact .nil
  | sh r _ ih => exact .sh (Ty.mono _ r s) ih
  | ow h1 h2 h3 h4 pl hn _ ih => exact .ow h1 h2 h3 h4 (pl.ext s fun p hp => k p (flat_mem h4 p hp)) hn ih
/-- the roots: what they hold of the arguments -/
theorem ArgsAt.sub (h : ArgsAt L σ Fs H R A up ds vs Fa is pu mk) : ∀ q ∈ Fa, ∃ i ∈ is, ∃ F, Fs[i]? = some F ∧ q ∈ F := by
  induction h with
  | nil => exact fun q hq => nomatch hq
  | sh _ _ ih => exact ih
  | ow h1 h2 h3 h4 pl hn _ ih =>
    intro q hq
    rcases List.mem_append.mp hq with hq | hq
    · exact ⟨_, List.mem_cons_self, _, h4, pl.sub q hq⟩
    · obtain ⟨i, hi, F, e, hF⟩ := ih q hq
      exact ⟨i, List.mem_cons_of_mem _ hi, F, e, hF⟩
theorem flat_two {i j : Nat} {F G : List Addr} (nd : Fs.flatten.Nodup) (h1 : Fs[i]? = some F) (h2 : Fs[j]? = some G) {q : Addr} (hF : q ∈ F) (hG : q ∈ G) : i = j := by
  induction Fs generalizing i j with
  | nil => simp at h1
  | cons E Fs ih =>
    rw [List.flatten_cons, List.nodup_append] at nd
    cases i with
    | zero =>
      cases j with
      | zero => rfl
      | succ j =>
        simp at h1; subst h1
        exact absurd rfl (nd.2.2 q hF q (flat_mem (by simpa using h2) q hG))
    | succ i =>
      cases j with
      | zero =>
        simp at h2; subst h2
        exact absurd rfl (nd.2.2 q hG q (flat_mem (by simpa using h1) q hF))
      | succ j =>
        have := ih nd.2.1 (i := i) (j := j) (by simpa using h1) (by simpa using h2)
        rw [this]
theorem ArgsAt.rep (h : ArgsAt L σ Fs H R A up ds vs Fa is pu mk) (nd : Fs.flatten.Nodup) : A.rep ds vs H R Fa ∧ Fa.Nodup := by
  induction h with
  | nil => exact ⟨⟨rfl, rfl⟩, List.nodup_nil⟩
  | sh r _ ih => exact ⟨⟨_, _, [], _, rfl, rfl, ⟨rfl, r⟩, ih.1⟩, ih.2⟩
  | ow h1 h2 h3 h4 pl hn t ih =>
    refine ⟨⟨_, _, _, _, rfl, rfl, pl.rep, ih.1⟩, List.nodup_append.mpr ⟨pl.nd, ih.2, fun a ha b hb e => ?_⟩⟩
    subst e
    obtain ⟨i', hi', F', e', hF'⟩ := t.sub a hb
    have := flat_two nd h4 e' (pl.sub a ha) hF'
    subst this
    exact hn hi'
end
end Hd
namespace Hd
open PySem PySem.Spec L2
section
variable {p : Pr} {sc : Scope} {NN VV GG : List Str} {k : Nat} {g : G} {L L' : List Slot} {a b c e e' ix : Expr} {es : List Expr} {md md' : Md} {α β γ δ ρ ω τ : Type} {S : Ty α} {T : Ty β} {O : WTy α} {O2 : WTy β} {O3 : WTy γ} {A : WAr δ} {pos pp pos' : Pos} {i j : Nat} {x f : Str} {px : V → Prop} {d : α}
theorem AllS.hk {fm : Fm} {own : List Addr} {L : List Slot} {σ : L2.St} {H H' : Hp} {Fs : List (List Addr)} {R : Bool → RdR} (hs : AllS H R L σ Fs) (s : Same H H') : ∀ q ∈ Fs.flatten, H' q = H q := fun q hq => by
  cases r : cl H q with
  | none => exact absurd r (hs.tb q hq)
  | some o => rw [cl_raw r]; exact s.keep _ _ (cl_raw r) (cl_nt r)
end
section
end
section
end
end Hd
namespace Hd
open PySem PySem.Spec L2
section
variable {p : Pr} {sc : Scope} {NN VV GG VV' GG' : List Str} {k : Nat} {g : G} {L L' : List Slot} {a b c e e' : Expr} {es : List Expr} {md md' : Md} {α β γ δ ρ : Type} {S : Ty α} {O : WTy β} {U : Ty γ} {A : Ar δ} {pos : Pos} {K : PySem.W.Frag} {tg : Expr} {st : List Stmt} {D : δ → Out} {i j : Nat} {x : Str}
def tN (fm : Fm) (W : Wx) (L : List Slot) {β : Type} (O : WTy β) (m : M β) : TE := fun σ H Q => ∃ kp own, At fm kp L σ H own ∧ FinN fm W own σ H O Q m
/-- [elt for x in it if c] -/
theorem evn_lc2 {scope : Scope} {it elt : Expr} {m : M (List α)} {cm : α → M Bool} {f : α → M β} {tp : Pos} {ifs : List Expr} {s₀ : Slot} (ok : Ok p sc NN VV GG k g) (hI : EvI g L (.Name x tp) it S m) (hN : NN[i]? = some x) (hLi : L[i]? = some s₀) (hs₀ : NoOwn s₀) (hb : blkC NN sc scope [(x, i)] = true)
    (hv : VV'.all (seenB scope) = true) (hg : GG'.all (glB scope) = true) (hx : locB scope x = true)
    (hc : ∀ g', Ok p scope NN VV' GG' k g' → ∀ d, PTs g'.X ifs (tT g'.fm g'.W (L.set i (sV false S d)) (cm d)))
    (hO : FlatW O) (he : ∀ g', Ok p scope NN VV' GG' k g' → ∀ d, EvN g' (L.set i (sV false S d)) elt O (f d)) (hs : ∀ x, foldedSetIterable it g.X.env x = pure x := by intro _; rfl) :
    (EvN g L (.ListComp elt [⟨.Name x tp, it, ifs, 0⟩] scope pos) (wL O) (m.bind fun xs => compM (fun d => (cm d).bind fun c => if c = true then (f d).bind fun y => .ok (some y) else .ok none) xs)) ∧
    (∀ {y : Str} {i2 : Nat} {py spos : Pos}, NN[i2]? = some y → g.X.env.scope.names.lookup y = some .local → swapsWith (.ListComp elt [⟨.Name x tp, it, ifs, 0⟩] scope pos) (some (.Name y py)) spos.line g.X.env = pure true →
      PS g.X (.Assign [.Name y py] (.ListComp elt [⟨.Name x tp, it, ifs, 0⟩] scope pos) spos) (tAsg (tN g.fm g.W L (wL O) (m.bind fun xs => compM (fun d => (cm d).bind fun c => if c = true then (f d).bind fun y => .ok (some y) else .ok none) xs)) (gName i2))) := by
  have loc : ∀ (s : Shared) (H : Hp) (C : Addr) (cl : List (Str × Addr)) (fp : List Addr), L2.Loc (g.X.blk s H scope (compEnvC scope cl C g.X.env) fp).env.scope x ∧ ((g.X.blk s H scope (compEnvC scope cl C g.X.env) fp).fn x = true ∨ (g.X.blk s H scope (compEnvC scope cl C g.X.env) fp).env.scope.names.lookup x = some .local) := by
    intro s H C cl fp
    rcases locB_v hx with h | h
    · have q : (relabel scope g.X.env).names.lookup x = some .local := by
        rcases lookup_rl (env := g.X.env) h with q | ⟨q, _⟩
        · exact q
        · cases q
      exact ⟨.inl q, .inr q⟩
    · have q : (relabel scope g.X.env).names.lookup x = some .cell := by
        rcases lookup_rl (env := g.X.env) h with q | ⟨q, _⟩
        · exact q
        · cases q
      refine ⟨.inr q, .inl ?_⟩
      show (scope.names.lookup x == some .cell) = true
      rw [h]; rfl
  have BODY : ∀ σ H Q, tN g.fm g.W L (wL O) (m.bind fun xs => compM (fun d => (cm d).bind fun c => if c = true then (f d).bind fun y => .ok (some y) else .ok none) xs) σ H Q →
      tLc (tI g.fm g.W L S m) (gName i) (fun σ H Q => ∃ z : {fm' : Fm // fm'.K = p.K ∧ ∀ P, p.T = some P → LamX.TabS fm'.H0 P lamQ} × α, tT z.1.1 (fun _ _ _ => False) (L.set i (sV false S z.2)) (cm z.2) σ H Q)
        (fun σ H Q => ∃ z : {fm' : Fm // fm'.K = p.K ∧ ∀ P, p.T = some P → LamX.TabS fm'.H0 P lamQ} × α, tN z.1.1 (fun _ _ _ => False) (L.set i (sV false S z.2)) O (f z.2) σ H Q) ([(x, i)].map (·.2)) σ H Q := by
    intro σ H Q q
    obtain ⟨kp, own, at_, q⟩ := q
    cases m with
    | ex c => exact ⟨kp, own, at_, q⟩
    | no => exact q.elim
    | ok xs =>
    refine ⟨kp, own, at_, fun J H1 s1 hJ D hD => ?_⟩
    have at1 := at_.ext s1
    have hHD : H D = none := s1.free hD
    -- the inner frame
    let fm' : Fm := ⟨g.fm.K, g.fm.H0, fun a => a = D ∨ g.fm.z a⟩
    let hh : α → M (Option β) := fun d => (cm d).bind fun c => if c = true then (f d).bind fun y => .ok (some y) else .ok none
    have q : FinN g.fm g.W own σ H (wL O) Q (compM hh xs) := q
    unfold compM at q
    split at q
    case isFalse => exact q.elim
    rename_i hlen
    have aw : At g.fm kp (L.set i sAny) (σ.set i none) H1 own := at1.setN hLi hs₀ rfl
    have rdD : ∀ (md : Md) (H0 : Hp) a o, RX g.fm own H0 H1 md a o → RX fm' own H0 (upd H1 D (.lst [])) md a o := fun md H0 a o z => by
      have z2 := RX.add (o' := .lst []) hD a o z
      cases md with
      | sh => exact z2.imp (fun ⟨a1, a2, a3⟩ => ⟨a1, fun y => a2 (List.mem_cons_of_mem _ y), fun y => y.elim (fun e => a2 (by rw [e]; exact List.mem_cons_self)) a3⟩) id
      | f0 => exact ⟨z2.1, fun y => z2.2.1 (List.mem_cons_of_mem _ y), fun y => y.elim (fun e => z2.2.1 (by rw [e]; exact List.mem_cons_self)) z2.2.2.1, z2.2.2.2⟩
      | fx => exact ⟨z2.1, fun y => z2.2.1 (List.mem_cons_of_mem _ y), fun y => y.elim (fun e => z2.2.1 (by rw [e]; exact List.mem_cons_self)) z2.2.2.1, z2.2.2.2⟩
    have a0 : At fm' (RD g.fm own H1) (L.set i sAny) (wipe σ [i]) (upd H1 D (.lst [])) own := by
      obtain ⟨h1, h2, ⟨Fs, h3, e⟩, h4, h5, h6⟩ := aw
      refine ⟨h1.trans (newSame hD), fun a z => ?_, ⟨Fs, h3.st (fun b a o z => ?_) fun y hy => ?_, e⟩, h4, fun y hy => ⟨fun n => (h5 y hy).1 ((newSame hD).free n), (h5 y hy).2.1, fun z => z.elim (fun e => (h5 y hy).1 (by rw [e]; exact hD)) (h5 y hy).2.2⟩, fun a o z => rdD .sh H1 a o z⟩
      · rcases z with z | z
        · rw [z, upd_same]; exact fun n => by cases n
        · exact fun n => h2 a z ((newSame hD).free n)
      · cases b with
        | false => exact rdD .sh H1 a o z
        | true => exact rdD .f0 H1 a o z
      · exact upd_ne fun e' => (h5 y (by rw [e]; exact hy)).1 (by rw [e']; exact hD)
    refine ⟨fun n mm H' => mm = xs.length - n ∧ n ≤ xs.length ∧ ∃ vs ds Gs, H' D = some (.lst vs) ∧ vs.length ≤ n ∧ Same H H' ∧ RepsO O H' (fun _ _ => False) ds vs Gs ∧ Gs.flatten.Nodup ∧ (∀ q ∈ Gs.flatten, H q = none ∧ q ≠ D) ∧ At fm' (RD g.fm own H1) (L.set i sAny) (wipe σ [i]) H' own ∧
      FinN g.fm g.W own σ H (wL O) Q ((compG hh (xs.drop n)).bind fun l => .ok (ds ++ l)), ⟨_, rfl, Nat.zero_le _, [], [], [], upd_same, Nat.zero_le _, s1.trans (newSame hD), .nil, List.nodup_nil, (fun _ h => nomatch h), a0, ?_⟩, ?_⟩
    · rw [List.drop_zero]
      have e : ((compG hh xs).bind fun l => M.ok ([] ++ l)) = compG hh xs := by cases compG hh xs <;> rfl
      rw [e]; exact q
    rintro n mm H' ⟨rfl, hn, vs, ds, Gs, hDv, hvl, sH, rr, gnd, gn, a', q'⟩
    have rb : Rdb g.fm.K (RD g.fm own H1) H' := ⟨fun a o z n => (a'.kept a o z).imp (fun h => Rd.raw h.1 n) id⟩
    obtain ⟨hgo, hst⟩ := hJ H' rb n
    have rk : ∀ {H5 : Hp}, Same H' H5 → ∀ q ∈ Gs.flatten, H5 q = H' q := fun {H5} s q hq => by obtain ⟨o, ho, go⟩ := rr.tb q hq; rw [ho]; exact s.keep _ _ ho (gd_nt go)
    by_cases hlt : n < xs.length
    · have hx' : xs[n]? = some xs[n] := by simp [hlt]
      obtain ⟨go, yl⟩ := hgo _ hx'
      refine .inr ⟨go, fun H6 => ∃ vs ds Gs, H6 D = some (.lst vs) ∧ vs.length ≤ n + 1 ∧ Same H H6 ∧ RepsO O H6 (fun _ _ => False) ds vs Gs ∧ Gs.flatten.Nodup ∧ (∀ q ∈ Gs.flatten, H q = none ∧ q ≠ D) ∧ At fm' (RD g.fm own H1) (L.set i sAny) (wipe σ [i]) H6 own ∧
        FinN g.fm g.W own σ H (wL O) Q ((compG hh (xs.drop (n + 1))).bind fun l => .ok (ds ++ l)), fun H6 z => ⟨xs.length - (n + 1), by omega, rfl, hlt, z⟩, fun y H3 hy => ?_⟩
      obtain ⟨s3, r3⟩ := yl y H3 hy
      have a3 := a'.ext s3
      have ry : S.rep xs[n] y (RD fm' own H3) := S.mono r3 (Nw.rd a' a'.kept s3)
      have hLw : (L.set i sAny)[i]? = some sAny := by
        have hlt' := (List.getElem?_eq_some_iff.mp hLi).1
        rw [List.getElem?_set_self hlt']
      have a4 : At fm' (RD g.fm own H1) (L.set i (sV false S xs[n])) ((wipe σ [i]).set i (some y)) H3 own := by
        have := a3.setN (s' := sV false S xs[n]) (v := some y) hLw no_any ⟨rfl, y, rfl, ry⟩
        rwa [List.set_set] at this
      rw [List.drop_eq_getElem_cons hlt] at q'
      refine ⟨wipe1, ⟨⟨fm', ok.fmK, ok.tab⟩, xs[n]⟩, _, own, a4, ?_⟩
      have q2 : FinN g.fm g.W own σ H (wL O) Q (((hh xs[n]).nox.bind fun o => (compG hh (xs.drop (n + 1))).bind fun l => .ok (o.toList ++ l)).bind fun l => .ok (ds ++ l)) := q'
      cases hcm : cm xs[n] with
      | ex c => rw [show hh xs[n] = .ex c from by show (cm xs[n]).bind _ = _; rw [hcm]; rfl] at q2; exact q2.elim
      | no => rw [show hh xs[n] = .no from by show (cm xs[n]).bind _ = _; rw [hcm]; rfl] at q2; exact q2.elim
      | ok c =>
        intro H4 s4
        cases c with
        | false =>
          rw [show hh xs[n] = .ok none from by show (cm xs[n]).bind _ = _; rw [hcm]; rfl] at q2
          refine (if_neg (by decide)).mpr ?_
          have a5 : At fm' (RD g.fm own H1) (L.set i sAny) (wipe σ [i]) H4 own := a3.ext s4
          refine ⟨vs, ds, Gs, s4.keep _ _ (s3.keep _ _ hDv rfl) rfl, Nat.le_succ_of_le hvl, (sH.trans s3).trans s4, rr.st (fun _ _ h => h) (rk (s3.trans s4)), gnd, gn, a5, ?_⟩
          have e : (((M.ok (none : Option β)).nox.bind fun o => (compG hh (xs.drop (n + 1))).bind fun l => M.ok (o.toList ++ l)).bind fun l => M.ok (ds ++ l)) = (compG hh (xs.drop (n + 1))).bind fun l => M.ok (ds ++ l) := by
            cases compG hh (xs.drop (n + 1)) <;> rfl
          rw [e] at q2; exact q2
        | true =>
          refine (if_pos rfl).mpr ⟨⟨⟨fm', ok.fmK, ok.tab⟩, xs[n]⟩, _, own, a4.ext s4, ?_⟩
          cases hf : f xs[n] with
          | ex c => rw [show hh xs[n] = .ex c from by show (cm xs[n]).bind _ = _; rw [hcm]; show (f xs[n]).bind _ = _; rw [hf]; rfl] at q2; exact q2.elim
          | no => rw [show hh xs[n] = .no from by show (cm xs[n]).bind _ = _; rw [hcm]; show (f xs[n]).bind _ = _; rw [hf]; rfl] at q2; exact q2.elim
          | ok w =>
            rw [show hh xs[n] = .ok (some w) from by show (cm xs[n]).bind _ = _; rw [hcm]; show (f xs[n]).bind _ = _; rw [hf]; rfl] at q2
            intro v F5 H5 s5 nd5 n5 r5
            have s35 : Same H' H5 := (s3.trans s4).trans s5
            have sHH5 : Same H H5 := sH.trans s35
            have r6 := hO (R' := fun _ _ => False) r5
            have tb5 := O.tb r5
            have n5H' : ∀ q ∈ F5, H' q = none := fun q hq => (s3.trans s4).free (n5 q hq)
            have n5D : ∀ q ∈ F5, q ≠ D := fun q hq e => by have := n5H' q hq; rw [e, hDv] at this; cases this
            have dj : ∀ q ∈ Gs.flatten, q ∉ F5 := fun q h1 h2 => by obtain ⟨o, ho, _⟩ := rr.tb q h1; rw [n5H' q h2] at ho; cases ho
            have gn' : ∀ q ∈ (Gs ++ [F5]).flatten, H q = none ∧ q ≠ D := fun q hq => by
              rw [flat_snoc] at hq
              rcases List.mem_append.mp hq with hq | hq
              · exact gn q hq
              · exact ⟨sH.free (n5H' q hq), n5D q hq⟩
            refine ⟨vs, s35.keep _ _ hDv rfl, by omega, vs ++ [v], ds ++ [w], Gs ++ [F5], upd_same, by rw [List.length_append, List.length_singleton]; omega, sHH5.wr hHD (s35.keep _ _ hDv rfl) (fun _ z => nomatch z) rfl, ?_, ?_, gn', ?_, ?_⟩
            · exact ((rr.st (fun _ _ h => h) (rk s35)).append (.cons r6 .nil)).st (fun _ _ h => h) fun q hq => upd_ne (gn' q hq).2
            · rw [flat_snoc]; exact List.nodup_append.mpr ⟨gnd, nd5, fun a ha b hb e => dj a ha (by rw [e]; exact hb)⟩
            · -- the slots at the changed heap
              have a5 : At fm' (RD g.fm own H1) (L.set i sAny) (wipe σ [i]) H5 own := a'.ext s35
              obtain ⟨h1, h2, ⟨Fs, h3, e⟩, h4, h5, h6⟩ := a5
              have ne : ∀ {a : Addr}, ¬ fm'.z a → a ≠ D := fun h e => h (.inl e)
              have k0 : ∀ (md : Md) a o, RX fm' own H5 H5 md a o → md = .fx ∨ RX fm' own (upd H5 D (.lst (vs ++ [v]))) (upd H5 D (.lst (vs ++ [v]))) md a o := fun md a o z => by
                cases md with
                | sh =>
                  refine .inr (z.imp (fun ⟨a1, a2, a3⟩ => ⟨?_, a2, a3⟩) id)
                  unfold Rd
                  rw [cl_upd_ne (ne a3)]
                  exact a1
                | f0 => exact .inr ⟨by rw [cl_upd_ne (ne z.2.2.1)]; exact z.1, z.2⟩
                | fx => exact .inl rfl
              have up : ∀ a, H5 a ≠ none → upd H5 D (.lst (vs ++ [v])) a ≠ none := fun a hne => by
                by_cases e : a = D
                · rw [e, upd_same]; exact fun z => by cases z
                · rw [upd_ne e]; exact hne
              refine ⟨h1.wr (at_.same.free hHD) (s35.keep _ _ hDv rfl) (fun _ z => nomatch z) rfl, fun a z => up a (h2 a z), ⟨Fs, h3.st (fun b a o z => ?_) fun y hy => ?_, e⟩, h4, fun y hy => ⟨up y (h5 y hy).1, (h5 y hy).2⟩, fun a o z => (k0 .sh a o (h6 a o z)).resolve_left fun e => nomatch e⟩
              · cases b with
                | false => exact (k0 .sh a o z).resolve_left fun e => nomatch e
                | true => exact (k0 .f0 a o z).resolve_left fun e => nomatch e
              · exact upd_ne (ne (h5 y (by rw [e]; exact hy)).2.2)
            · have e : (((M.ok (some w)).nox.bind fun o => (compG hh (xs.drop (n + 1))).bind fun l => M.ok (o.toList ++ l)).bind fun l => M.ok (ds ++ l)) = (compG hh (xs.drop (n + 1))).bind fun l => M.ok ((ds ++ [w]) ++ l) := by
                cases compG hh (xs.drop (n + 1)) <;> simp [M.nox, M.bind]
              rw [e] at q2; exact q2
    · have e : n = xs.length := by omega
      subst e
      rw [List.drop_length] at q'
      refine .inl ⟨hst (by simp), ?_⟩
      have q2 : FinN g.fm g.W own σ H (wL O) Q (.ok (ds ++ [])) := q'
      rw [List.append_nil] at q2
      exact q2 (.ref D) (D :: Gs.flatten) H' sH (List.nodup_cons.mpr ⟨fun h => (gn D h).2 rfl, gnd⟩) (fun q hq => by
        rcases List.mem_cons.mp hq with e | hq
        · rw [e]; exact hHD
        · exact (gn q hq).1) ⟨D, vs, Gs, rfl, rfl, hDv, fw_reps hO rr⟩
  refine ⟨PE.imp (pe_lc (own := [(x, i)]) ok.calm (by rw [ok.N]; exact ok.nd) hI (by rw [ok.N]; exact ok.blk hb) (fun s H C cl fp => pg_name (i := i) (by show g.X.N.Nodup; rw [ok.N]; exact ok.nd) (by show g.X.N[i]? = _; rw [ok.N]; exact hN) (loc s H C cl fp).1 (loc s H C cl fp).2)
    (fun s H C cl fp => PTs.ex (t := fun (z : {fm' : Fm // fm'.K = p.K ∧ ∀ P, p.T = some P → LamX.TabS fm'.H0 P lamQ} × α) => tT z.1.1 (fun _ _ _ => False) (L.set i (sV false S z.2)) (cm z.2)) fun z => hc ⟨g.X.blk s H scope (compEnvC scope cl C g.X.env) fp, z.1.1, fun _ _ _ => False, []⟩ (blk_ok ok z.1.2 hv hg) z.2) (fun s H C cl fp => PE.ex (t := fun (z : {fm' : Fm // fm'.K = p.K ∧ ∀ P, p.T = some P → LamX.TabS fm'.H0 P lamQ} × α) => tN z.1.1 (fun _ _ _ => False) (L.set i (sV false S z.2)) O (f z.2)) fun z => he ⟨g.X.blk s H scope (compEnvC scope cl C g.X.env) fp, z.1.1, fun _ _ _ => False, []⟩ (blk_ok ok z.1.2 hv hg) z.2) hs) BODY, fun {y i2 py spos} hy hyl hsw => ?_⟩
  exact PS.imp (ps_setLc (own := [(x, i)]) ok.calm (by rw [ok.N]; exact ok.nd) (by rw [ok.N]; exact hy) hyl hsw hI (by rw [ok.N]; exact ok.blk hb) (fun s H C cl fp => pg_name (i := i) (by show g.X.N.Nodup; rw [ok.N]; exact ok.nd) (by show g.X.N[i]? = _; rw [ok.N]; exact hN) (loc s H C cl fp).1 (loc s H C cl fp).2)
    (fun s H C cl fp => PTs.ex (t := fun (z : {fm' : Fm // fm'.K = p.K ∧ ∀ P, p.T = some P → LamX.TabS fm'.H0 P lamQ} × α) => tT z.1.1 (fun _ _ _ => False) (L.set i (sV false S z.2)) (cm z.2)) fun z => hc ⟨g.X.blk s H scope (compEnvC scope cl C g.X.env) fp, z.1.1, fun _ _ _ => False, []⟩ (blk_ok ok z.1.2 hv hg) z.2) (fun s H C cl fp => PE.ex (t := fun (z : {fm' : Fm // fm'.K = p.K ∧ ∀ P, p.T = some P → LamX.TabS fm'.H0 P lamQ} × α) => tN z.1.1 (fun _ _ _ => False) (L.set i (sV false S z.2)) O (f z.2)) fun z => he ⟨g.X.blk s H scope (compEnvC scope cl C g.X.env) fp, z.1.1, fun _ _ _ => False, []⟩ (blk_ok ok z.1.2 hv hg) z.2) hs) fun E σ H q => BODY σ H _ q
end
end Hd
namespace Hd
open PySem PySem.Spec L2
inductive It where
  | path (ns : List Int)
  | times (n : Int) (l : List It)
def itP : V := .str (Str.ofString "path")
def itT : V := .str (Str.ofString "times")
inductive ItR (R : RdR) : It → V → Prop where
  | path {ns : List Int} {a b : Addr} : R a (.tup [itP, .ref b]) → R b (.lst (ns.map V.int)) → ItR R (.path ns) (.ref a)
  | times {n : Int} {l : List It} {a b : Addr} {vs : List V} : R a (.tup [itT, .int n, .ref b]) → R b (.lst vs) → l.length = vs.length → (∀ (i : Nat) x v, l[i]? = some x → vs[i]? = some v → ItR R x v) → ItR R (.times n l) (.ref a)
theorem ItR.mono {R R' : RdR} (s : ∀ a o, R a o → R' a o) {x : It} {v : V} (h : ItR R x v) : ItR R' x v := by
  induction h with
  | path h1 h2 => exact .path (s _ _ h1) (s _ _ h2)
  | times h1 h2 h3 _ ih => exact .times (s _ _ h1) (s _ _ h2) h3 ih
section
end
end Hd
namespace Hd
open PySem PySem.Spec L2
section
end
end Hd
namespace Hd
open PySem PySem.Spec L2
section
end
end Hd
namespace Hd
open PySem PySem.Spec L2
section
end
end Hd
namespace Hd
open PySem PySem.Spec L2
section
end
end Hd
namespace Hd
open PySem PySem.Spec L2
section
variable {p : Pr} {sc : Scope} {NN VV GG : List Str} {k : Nat} {g : G} {L : List Slot} {e : Expr} {α β γ δ ω ρ τ : Type} {S : Ty α} {T : Ty β} {O : WTy α} {pos pos' : Pos} {i j : Nat} {x : Str} {d : α} {st : List Stmt} {D : δ → Out}
theorem At.conv {fm : Fm} {kp : RdR} {σ : L2.St} {H : Hp} {own : List Addr} {s s' : Slot} (hL : L[i]? = some s) (c : ∀ v H R F, s.ok v H R F → s'.ok v H R F) (h : At fm kp L σ H own) : At fm kp (L.set i s') σ H own := by
  obtain ⟨h1, h2, ⟨Fs, h3, e⟩, h4, h5, h6⟩ := h
  refine ⟨h1, h2, ⟨Fs, ?_, e⟩, h4, h5, h6⟩
  have hpw := h3.pw
  refine Pw.all ⟨by rw [List.length_set]; exact hpw.l1, by rw [List.length_set]; exact hpw.l2, fun j _ s2 v F e1 e2 e3 => ?_⟩
  by_cases hij : i = j
  · subst hij
    rw [List.getElem?_set_self (List.getElem?_eq_some_iff.mp hL).1] at e1
    cases e1
    exact c _ _ _ _ (hpw.ok i (fun z => z) _ v F hL e2 e3)
  · rw [List.getElem?_set_ne hij] at e1
    exact hpw.ok j (fun z => z) s2 v F e1 e2 e3
theorem evb_conv {m : M δ} {s s' : Slot} (hL : L[i]? = some s) (c : ∀ v H R F, s.ok v H R F → s'.ok v H R F) (hr : EvB g (L.set i s') st D m) : EvB g L st D m := PSs.imp hr fun E σ H ⟨kp, own, at_, q⟩ => ⟨kp, own, at_.conv hL c, q⟩
theorem repsV_to {H : Hp} {R : RdR} {ds : List α} {vs : List V} (h : Reps S R ds vs) : ∃ Fs, RepsO (wV S) H R ds vs Fs ∧ Fs.flatten = [] := by
  induction h with
  | nil => exact ⟨[], .nil, rfl⟩
  | cons r _ ih =>
    obtain ⟨Fs, h1, h2⟩ := ih
    exact ⟨[] :: Fs, .cons ⟨rfl, r⟩ h1, by rw [List.flatten_cons, h2]; rfl⟩
theorem own_to {ds : List α} (v : Option V) (H : Hp) (R : Bool → RdR) (F : List Addr) (h : (sOwn false S ds).ok v H R F) : (sO (wL (wV S)) ds).ok v H R F := by
  obtain ⟨q, xs, e1, e2, h1, h2⟩ := h
  obtain ⟨Fs, h3, h4⟩ := repsV_to (H := H) h2
  exact ⟨.ref q, e1, trivial, q, xs, Fs, rfl, by rw [h4, e2], h1, h3⟩
/-- a list of one's own, as a tree; and back -/
theorem evb_asO {m : M δ} {ds : List α} (hL : L[i]? = some (sOwn false S ds)) (hr : EvB g (L.set i (sO (wL (wV S)) ds)) st D m) : EvB g L st D m := evb_conv hL own_to hr
end
end Hd
namespace Hd
open PySem PySem.Spec L2
section
end
end Hd
namespace Hd
open PySem PySem.Spec L2
section
end
end Hd
namespace Hd
open PySem PySem.Spec L2
theorem WAt.set {δ : Type} {A : WAr δ} {kk : Nat} {α : Type} {O : WTy α} {pr : δ → α} {stt : δ → α → δ} (hA : WAt A kk O pr stt) : ∀ {d : δ} {vs : List V} {H : Hp} {R : RdR} {G F1 : List Addr} {x : α} {w : V}, A.rep d vs H R G → G.Nodup → O.rep x w H R F1 → F1.Nodup → (∀ q ∈ F1, q ∉ G) → ∃ G', A.rep (stt d x) (vs.set kk w) H R G' ∧ G'.Nodup ∧ (∀ q ∈ G', q ∈ F1 ∨ q ∈ G) ∧ kk < vs.length := by
  induction hA with
  | z =>
    rintro d vs H R G F1 x w ⟨v, r, Fa, Fb, e1, e2, h1, h2⟩ nd rx nd1 dis
    subst e1; subst e2
    have nd' := List.nodup_append.mp nd
    refine ⟨F1 ++ Fb, ⟨w, r, F1, Fb, rfl, rfl, rx, h2⟩, List.nodup_append.mpr ⟨nd1, nd'.2.1, fun q hq z hz e => dis q hq (by rw [e]; exact List.mem_append_right _ hz)⟩, fun q hq => ?_, by simp⟩
    rcases List.mem_append.mp hq with h | h
    · exact .inl h
    · exact .inr (List.mem_append_right _ h)
  | s _ ih =>
    rintro d vs H R G F1 x w ⟨v, r, Fa, Fb, e1, e2, h1, h2⟩ nd rx nd1 dis
    subst e1; subst e2
    have nd' := List.nodup_append.mp nd
    obtain ⟨G', g1, g2, g3, g4⟩ := ih h2 nd'.2.1 rx nd1 fun q hq hz => dis q hq (List.mem_append_right _ hz)
    refine ⟨Fa ++ G', ⟨v, _, Fa, G', rfl, rfl, h1, g1⟩, List.nodup_append.mpr ⟨nd'.1, g2, fun q hq z hz e => ?_⟩, fun q hq => ?_, by simp; omega⟩
    · subst e
      rcases g3 q hz with h | h
      · exact dis q h (List.mem_append_left _ hq)
      · exact nd'.2.2 q hq q h rfl
    · rcases List.mem_append.mp hq with h | h
      · exact .inr (List.mem_append_left _ h)
      · exact (g3 q h).imp id (List.mem_append_right _)
section
end
end Hd
namespace Hd
open PySem PySem.Spec PyProof.Rows L2
section
variable {p : Pr} {sc : Scope} {NN VV GG VV' GG' : List Str} {k : Nat} {g : G} {L L' : List Slot} {a b c e e' ix : Expr} {es : List Expr} {md md' : Md} {α β γ δ ρ : Type} {S : Ty α} {T : Ty β} {O : WTy α} {O2 : WTy β} {O3 : WTy γ} {A : WAr ρ} {pos pp pos' : Pos} {i j i2 : Nat} {x y f : Str} {px : V → Prop} {d : α} {st : List Stmt} {D : δ → Out} {py spos cpos tp : Pos} {elt it : Expr} {ifs : List Expr} {scope : Scope} {s₀ : Slot}
/-- y = [elt for x in it if c], items of one's own -/
theorem evn_lc {m : M (List α)} {cm : α → M Bool} {f : α → M β} (ok : Ok p sc NN VV GG k g) (hI : EvI g L (.Name x tp) it S m) (hN : NN[i]? = some x) (hLi : L[i]? = some s₀) (hs₀ : NoOwn s₀) (hb : blkC NN sc scope [(x, i)] = true)
    (hv : VV'.all (seenB scope) = true) (hg : GG'.all (glB scope) = true) (hx : locB scope x = true)
    (hc : ∀ g', Ok p scope NN VV' GG' k g' → ∀ d, PTs g'.X ifs (tT g'.fm g'.W (L.set i (sV false S d)) (cm d)))
    (hO : FlatW O2) (he : ∀ g', Ok p scope NN VV' GG' k g' → ∀ d, EvN g' (L.set i (sV false S d)) elt O2 (f d)) (hs : ∀ x, foldedSetIterable it g.X.env x = pure x := by intro _; rfl) :
    EvN g L (.ListComp elt [⟨.Name x tp, it, ifs, 0⟩] scope pos) (wL O2) (m.bind fun xs => compM (fun d => (cm d).bind fun c => if c = true then (f d).bind fun y => .ok (some y) else .ok none) xs) := (evn_lc2 ok hI hN hLi hs₀ hb hv hg hx hc hO he hs).1
/-- the statements over places, the rest behind a bind -/
theorem evb_qAppend {mp : M (List γ × (List γ → α))} {m : M γ} {h : α → M δ} {ap cp : Pos} (ok : OkS p sc NN VV GG k g) (wk : Wk L g.LX) (hp : EvP g L a i px O d (wL O3) mp) (he : EvN g L e O3 m) (hr : ∀ d', EvB g (L.set i (sP px O d')) st D (h d'))
    (hs : swapsWith (.Call (.Attribute a "append" ap) [e] [] cp) none pos.line g.X.env = pure false := by rfl)
    (hbase : attributeBase a "append" g.X.env (eval a g.X.env) = eval a g.X.env := by rfl)
    (hfew : ((backTo cp (starEach [e] g.X.env)).all (fun x => !x.1) && (backToKw cp (keywordEach [] g.X.env)).all (fun x => x.1.isSome)
      && decide (([e] : List Expr).length + ([] : List Keyword).length + (if ([] : List Keyword).isEmpty then 0 else 1) < 30)) = true := by rfl)
    (hline : (ap.endLine == cp.line) = true := by rfl) (hst : starEach [e] g.X.env = (false, eval e g.X.env) :: starEach [] g.X.env := by rfl) (hpl : (backTo cp (starEach [] g.X.env)).any (·.1) = false := by rfl) :
    EvB g L (.Expr (.Call (.Attribute a "append" ap) [e] [] cp) pos :: st) D (mp.bind fun q => m.bind fun x => (pushM q.1 x).bind fun l => M.bind (.ok (q.2 l)) h) :=
  evb_pAppend ok (.inl wk) hp he hr hs hbase hfew hline hst hpl
end
end Hd
namespace Hd
open PySem PySem.Spec PyProof.Rows L2
section
end
end Hd
namespace Hd
open PySem PySem.Spec PyProof.Rows L2
section
variable {p : Pr} {sc : Scope} {NN VV GG : List Str} {k : Nat} {g : G} {L : List Slot} {a b e tg : Expr} {md md' : Md} {pos pp : Pos} {j : Nat} {α β γ δ : Type} {S : Ty α} {T : Ty β} {U : Ty γ} {A : Ar δ} {K : PySem.W.Frag} {O : WTy α}
/-- an own list of nothing -/
theorem evn_lnil : EvN g L (.List [] pos) (wL O) (.ok []) := PE.imp (evl_nil (S := tNone) (md := .sh)) fun σ H Q ⟨kp, own, at_, q⟩ => by
  refine tL_iff.mpr ⟨kp, own, at_, ?_⟩
  intro p vs H' s n h' r
  have e : vs = [] := by cases r; rfl
  subst e
  exact q (.ref p) [p] H' s (by simp) (fun q hq => by rw [List.mem_singleton.mp hq]; exact n) ⟨p, [], [], rfl, rfl, h', .nil⟩
end
end Hd
namespace Hd
open PySem PySem.Spec L2
section
end
section
end
end Hd
namespace Hd
open PySem PySem.Spec L2
/-- the addresses of the slots is -/
def Mv (Fs : List (List Addr)) (is : List Nat) (a : Addr) : Prop := ∃ i ∈ is, ∃ F, Fs[i]? = some F ∧ a ∈ F
def FinMR {β : Type} (fm : Fm) (W : Wx) (own : List Addr) (Fs : List (List Addr)) (is : List Nat) (σ : L2.St) (H : Hp) (O : WTy β) (Q : VK) : M β → Prop
  | .ok d => ∀ v F H', Same H H' → F.Nodup → (∀ p ∈ F, H p = none ∨ Mv Fs is p) → O.rep d v H' (RD fm (F ++ own) H') F → Q v H'
  | .ex c => ∀ H', Same H H' → W c σ H'
  | .no => False
/-- an expression that makes a thing of one's own, of which the slots is are parts -/
def EvR (g : G) (L : List Slot) (is : List Nat) (e : Expr) {β : Type} (O : WTy β) (m : M β) : Prop := PE g.X e (fun σ H Q => ∃ kp own Fs, At g.fm kp L σ H own ∧ AllS H (RB g.fm own H) L σ Fs ∧ own = Fs.flatten ∧ FinMR g.fm g.W own Fs is σ H O Q m)
def FinMA {δ : Type} (fm : Fm) (W : Wx) (own : List Addr) (Fs : List (List Addr)) (is : List Nat) (σ : L2.St) (H : Hp) (A : WAr δ) (Q : List V → Hp → Prop) : M δ → Prop
  | .ok d => ∀ vs F H', Same H H' → F.Nodup → (∀ p ∈ F, H p = none ∨ Mv Fs is p) → A.rep d vs H' (RD fm (F ++ own) H') F → Q vs H'
  | .ex c => ∀ H', Same H H' → W c σ H'
  | .no => False
def EvRA (g : G) (L : List Slot) (is : List Nat) (es : List Expr) {δ : Type} (A : WAr δ) (m : M δ) : Prop := PA g.X es (fun σ H Q => ∃ kp own Fs, At g.fm kp L σ H own ∧ AllS H (RB g.fm own H) L σ Fs ∧ own = Fs.flatten ∧ FinMA g.fm g.W own Fs is σ H A Q m)
theorem RD.more {fm : Fm} {own own' : List Addr} {H H' : Hp} (s : Same H H') (k : ∀ p ∈ own', p ∈ own ∨ H p = none) : ∀ a o, RD fm own H a o → RD fm own' H' a o := fun a o r => by
  rcases r with ⟨r1, r2, r3⟩ | r
  · refine .inl ⟨Rd.same s r1, fun h => ?_, r3⟩
    rcases k a h with h | h
    · exact r2 h
    · rcases r1 with r1 | ⟨_, r1⟩ <;> rw [cl_none h] at r1 <;> cases r1
  · exact .inr r
theorem flat_ij {Fs : List (List Addr)} : ∀ {i j : Nat} {F G : List Addr} {x : Addr}, Fs.flatten.Nodup → Fs[i]? = some F → Fs[j]? = some G → x ∈ F → x ∈ G → i = j := by
  induction Fs with
  | nil => intro i j F G x _ e; simp at e
  | cons K Fs ih =>
    intro i j F G x nd e1 e2 h1 h2
    rw [List.flatten_cons, List.nodup_append] at nd
    cases i with
    | zero =>
      cases j with
      | zero => rfl
      | succ j =>
        simp at e1 e2
        subst e1
        exact absurd rfl (nd.2.2 x h1 x (flat_mem e2 x h2))
    | succ i =>
      cases j with
      | zero =>
        simp at e1 e2
        subst e2
        exact absurd rfl (nd.2.2 x h2 x (flat_mem e1 x h1))
      | succ j => exact congrArg (· + 1) (ih nd.2.1 (by simpa using e1) (by simpa using e2) h1 h2)
section
variable {p : Pr} {sc : Scope} {NN VV GG : List Str} {k : Nat} {g : G} {L L' : List Slot} {a b c e e' ix : Expr} {es : List Expr} {md md' : Md} {α β γ δ ρ : Type} {S : Ty α} {T : Ty β} {O : WTy α} {O2 : WTy β} {O3 : WTy γ} {A : WAr δ} {pos pp pos' : Pos} {i j : Nat} {x : Str} {px : V → Prop} {d : α} {is is2 : List Nat}
theorem evr_n {m : M α} (h : EvN g L e O m) : EvR g L [] e O m := PE.imp h fun σ H Q ⟨kp, own, Fs, at_, hsl, heo, q⟩ => by
  refine ⟨kp, own, at_, ?_⟩
  cases m with
  | ok d => exact fun v F H' s nd n r => q v F H' s nd (fun p hp => .inl (n p hp)) r
  | ex c => exact q
  | no => exact q
/-- a name, the slot of which is moved -/
theorem evr_mv (ok : Ok p sc NN VV GG k g) (hN : NN[i]? = some x) (hV : VV[j]? = some x) (hL : L[i]? = some (sP px O d)) : EvR g L [i] (.Name x pos) O (.ok d) := by
  obtain ⟨hv, ho⟩ := ok.vis hV
  obtain ⟨h1, h2, _⟩ := okName_d ho
  refine PE.imp (pe_var (i := i) (by rw [ok.N]; exact hN) hv h1 h2) fun σ H Q ⟨kp, own, Fs, at_, hsl, heo, q⟩ => ?_
  obtain ⟨v0, F, e1, e2, v, rfl, hx, r⟩ := hsl.get hL
  have nd := at_.nd
  rw [heo] at nd
  have sub : ∀ q ∈ F, q ∈ own := fun q hq => by rw [heo]; exact flat_mem e2 q hq
  exact ⟨v, e1, q v F H (Same.refl H) (flat_nd nd e2) (fun p hp => .inr ⟨i, by simp, F, e2, hp⟩) (O.st r (RD.drop fun q hq => (List.mem_append.mp hq).elim (sub q) id) fun _ _ => rfl)⟩
theorem evra_nil : EvRA g L [] [] waNil (.ok ()) := PA.imp pa_nil fun σ H Q ⟨kp, own, Fs, at_, hsl, heo, q⟩ => q [] [] H (Same.refl H) List.nodup_nil (fun _ z => nomatch z) ⟨rfl, rfl⟩
theorem evra_cons {m1 : M α} {m2 : M δ} (ok : Ok p sc NN VV GG k g) (ha : EvR g L is a O m1) (hb : ∀ g', Ok p sc NN VV GG k g' → EvRA g' L is2 es A m2) (hd : ∀ i ∈ is, i ∉ is2)
    (hs : starEach (a :: es) g.X.env = (false, eval a g.X.env) :: starEach es g.X.env := by rfl) : EvRA g L (is ++ is2) (a :: es) (waCons O A) (m1.bind fun d => m2.bind fun e => .ok (d, e)) := by
  refine ⟨fun po pins s σ H Q I ⟨kp, own, Fs, at_, hsl, heo, q⟩ => ?_⟩
  refine (pa_cons (t := fun σ' H1 Q' => ∃ (g' : G) (hg' : g'.X = g.X) (_ : Ok p sc NN VV GG k g') (kp' : RdR) (own' : List Addr) (Fs' : List (List Addr)), At g'.fm kp' L σ' H1 own' ∧ AllS H1 (RB g'.fm own' H1) L σ' Fs' ∧ own' = Fs'.flatten ∧ FinMA g'.fm g'.W own' Fs' is2 σ' H1 A Q' m2) ha ?_ hs).run po pins s σ H Q I ?_
  · refine ⟨fun po pins s σ H Q I ⟨g', hg', ok', z⟩ => ?_⟩
    have h := (hb g' ok').run
    rw [hg'] at h
    exact h po pins s σ H Q I z
  · refine ⟨kp, own, Fs, at_, hsl, heo, ?_⟩
    have nd := at_.nd
    rw [heo] at nd
    cases m1 with
    | ok d =>
      intro v F1 H1 s1 nd1 n1 r1
      have F1n : ∀ y ∈ F1, H1 y ≠ none := fun y hy => by
        obtain ⟨o, ho, _⟩ := O.tb r1 y hy
        rw [ho]; exact fun z => nomatch z
      -- the fresh of the first are hidden from the rest
      let Fr : Addr → Prop := fun y => y ∈ F1 ∧ H y = none
      let fm' : Fm := ⟨g.fm.K, g.fm.H0, fun y => Fr y ∨ g.fm.z y⟩
      let g' : G := ⟨g.X, fm', g.W, g.LX⟩
      have ok' : Ok p sc NN VV GG k g' := { prog := ok.prog, w := ok.w, K := ok.K, mg := ok.mg, base := ok.base, N := ok.N, fmK := ok.fmK, tab := ok.tab, room := ok.room, nd := ok.nd, vis := ok.vis, gl := ok.gl, tk := ok.tk, calm := ok.calm, blk := ok.blk }
      have rdo : ∀ a o, RD g.fm own H a o → RD fm' own H1 a o := fun a o r => by
        rcases r with ⟨r1, r2, r3⟩ | r
        · refine .inl ⟨Rd.same s1 r1, r2, fun z => z.elim (fun z => ?_) r3⟩
          rcases r1 with r1 | ⟨_, r1⟩ <;> rw [cl_none z.2] at r1 <;> cases r1
        · exact .inr r
      have hk : ∀ y ∈ Fs.flatten, H1 y = H y := hsl.hk (fm := g.fm) (own := own) s1
      have sl1 : AllS H1 (RB fm' own H1) L σ Fs := hsl.st (fun b a o z => by
        cases b with
        | false => exact rdo a o z
        | true =>
          obtain ⟨z1, z2, z3, z4⟩ := z
          exact ⟨s1.cl _ _ z1, z2, fun y => y.elim (fun y => by rw [cl_none y.2] at z1; cases z1) z3, z4⟩) hk
      have at1 : At fm' kp L σ H1 own := ⟨at_.same.trans s1, fun y hy => hy.elim (fun hy => F1n y hy.1) fun hy ea => at_.zin y hy (s1.free ea), ⟨Fs, sl1, heo⟩, at_.nd, fun y hy => ⟨fun z => (at_.new y hy).1 (s1.free z), (at_.new y hy).2.1, fun z => z.elim (fun z => (at_.new y hy).1 z.2) (at_.new y hy).2.2⟩, fun a o z => rdo a o (at_.kept a o z)⟩
      refine ⟨g', rfl, ok', kp, own, Fs, at1, sl1, heo, ?_⟩
      cases m2 with
      | ok e =>
        intro vs F2 H2 s2 nd2 n2 r2
        have dj : ∀ y ∈ F1, y ∉ F2 := fun y h1 h2 => by
          rcases n2 y h2 with h | ⟨i2, hi2, G2, eG2, hG2⟩
          · exact F1n y h1 h
          · rcases n1 y h1 with h | ⟨i1, hi1, G1, eG1, hG1⟩
            · exact (at_.new y (by rw [heo]; exact flat_mem eG2 y hG2)).1 h
            · have := flat_ij nd eG1 eG2 hG1 hG2
              subst this
              exact hd i1 hi1 hi2
        refine q (v :: vs) (F1 ++ F2) H2 (s1.trans s2) (List.nodup_append.mpr ⟨nd1, nd2, fun y h1 z h2 e => dj y h1 (by rw [e]; exact h2)⟩) (fun y hy => ?_) ⟨v, vs, F1, F2, rfl, rfl, O.st r1 (RD.more s2 fun y hy => ?_) fun y hy => ?_, A.st r2 (fun a o z => ?_) fun _ _ => rfl⟩
        · rcases List.mem_append.mp hy with hy | hy
          · exact (n1 y hy).imp id fun ⟨i1, h1, z⟩ => ⟨i1, List.mem_append_left _ h1, z⟩
          · exact (n2 y hy).imp s1.free fun ⟨i1, h1, z⟩ => ⟨i1, List.mem_append_right _ h1, z⟩
        · rcases List.mem_append.mp hy with hy | hy
          · rcases List.mem_append.mp hy with hy | hy
            · exact .inl (List.mem_append_left _ hy)
            · rcases n2 y hy with h | ⟨i2, hi2, G2, eG2, hG2⟩
              · exact .inr h
              · exact .inl (List.mem_append_right _ (by rw [heo]; exact flat_mem eG2 y hG2))
          · exact .inl (List.mem_append_right _ hy)
        · obtain ⟨o, ho, go⟩ := O.tb r1 y hy
          rw [ho]; exact s2.keep _ _ ho (gd_nt go)
        · rcases z with ⟨z1, z2, z3⟩ | z
          · refine .inl ⟨z1, fun hq => ?_, fun y => z3 (.inr y)⟩
            rcases List.mem_append.mp hq with hq | hq
            · rcases List.mem_append.mp hq with hq | hq
              · rcases n1 a hq with h | ⟨i1, hi1, G1, eG1, hG1⟩
                · exact z3 (.inl ⟨hq, h⟩)
                · exact z2 (List.mem_append_right _ (by rw [heo]; exact flat_mem eG1 a hG1))
              · exact z2 (List.mem_append_left _ hq)
            · exact z2 (List.mem_append_right _ hq)
          · exact .inr z
      | ex c => exact fun H' s => q H' (s1.trans s)
      | no => exact q
    | ex c => exact q
    | no => exact q
theorem evr_hl {m : M δ} (hl : ∀ d vs H R F, A.rep d vs H R F → vs.length ≤ 1000) (ha : EvRA g L is es A m) : EvR g L is (.List es pos) (wHl A) m := by
  refine PE.imp (pe_lst ha) fun σ H Q ⟨kp, own, Fs, at_, hsl, heo, q⟩ => ⟨kp, own, Fs, at_, hsl, heo, ?_⟩
  cases m with
  | ok d =>
    refine fun vs F H1 s1 nd n r1 => ⟨Nat.le_trans (hl _ _ _ _ _ r1) (by decide), fun p hp => q _ (p :: F) _ (s1.trans (newSame hp)) (List.nodup_cons.mpr ⟨fun h => ?_, nd⟩) (fun y hy => ?_) ⟨p, vs, F, rfl, rfl, upd_same, A.st r1 (RD.more (newSame hp) fun y hy => ?_) fun y hy => ?_⟩⟩
    · obtain ⟨o, ho, _⟩ := A.tb r1 p h
      rw [hp] at ho; cases ho
    · rcases List.mem_cons.mp hy with e | hy
      · rw [e]; exact .inl (s1.free hp)
      · exact n y hy
    · rcases List.mem_cons.mp hy with e | hy
      · rw [e]; exact .inr hp
      · exact .inl hy
    · obtain ⟨o, ho, _⟩ := A.tb r1 y hy
      exact upd_ne (ne_of_none ho hp)
  | ex c => exact q
  | no => exact q
theorem lenW0 {d : Unit} {vs : List V} {H : Hp} {R : RdR} {F : List Addr} (h : waNil.rep d vs H R F) : vs.length = 0 := by rw [h.1]; rfl
theorem lenWS {n : Nat} (h : ∀ d vs H R F, A.rep d vs H R F → vs.length = n) (d : α × δ) (vs : List V) (H : Hp) (R : RdR) (F : List Addr) (q : (waCons O A).rep d vs H R F) : vs.length = n + 1 := by
  obtain ⟨v, r, _, _, e, _, _, h2⟩ := q
  rw [e, List.length_cons, h _ _ _ _ _ h2]
theorem lenWl {n : Nat} (hn : n ≤ 1000) (h : ∀ d vs H R F, A.rep d vs H R F → vs.length = n) (d : δ) (vs : List V) (H : Hp) (R : RdR) (F : List Addr) (q : A.rep d vs H R F) : vs.length ≤ 1000 := by rw [h _ _ _ _ _ q]; exact hn
theorem evn_r {m : M α} (h : EvR g L [] e O m) : EvN g L e O m := PE.imp h fun σ H Q ⟨kp, own, at_, q⟩ => by
  obtain ⟨Fs, hsl, heo⟩ := at_.sl
  refine ⟨kp, own, Fs, at_, hsl, heo, ?_⟩
  cases m with
  | ok d => exact fun v F H' s nd n r => q v F H' s nd (fun p hp => (n p hp).resolve_right fun ⟨_, z, _⟩ => nomatch z) r
  | ex c => exact q
  | no => exact q
variable {st : List Stmt} {D : δ → Out}
/-- return e, of which slots are parts -/
theorem evb_retR {m : M α} {mk : α → δ} (wk : Wkx g L (NoEx m)) (hD : ∀ d, D (mk d) = oOut O d) (he : EvR g L is e O m) : EvB g L (.Return (some e) pos :: st) D (m.bind fun d => .ok (mk d)) := by
  refine PSs.imp (PSs.head (ps_ret he)) fun E σ H ⟨kp, own, at_, q⟩ => ?_
  obtain ⟨Fs, hsl, heo⟩ := at_.sl
  refine ⟨kp, own, Fs, at_, hsl, heo, ?_⟩
  cases m with
  | ok d =>
    have q : OutOk g.fm kp E (D (mk d)) := q
    rw [hD] at q
    refine fun v F H' s nd n r => q v H' F (at_.same.trans s) nd (fun a ha => ?_) (O.st r (RD.drop fun p hp => List.mem_append_left _ hp) fun _ _ => rfl)
    rcases n a ha with h | ⟨i, _, F', e, h⟩
    · exact ⟨at_.same.free h, fun z => at_.zin a z h⟩
    · exact (at_.new a (by rw [heo]; exact flat_mem e a h)).2
  | ex c => exact BOk.exx' wk (fun n => n c rfl) at_ q
  | no => exact q
end
end Hd
namespace Hd
open PySem PySem.Spec L2
section
end
end Hd
namespace Hd
open PySem PySem.Spec L2
/-- a list of one's own, its place and its values known -/
def wLv {α : Type} (a : Addr) (ws : List V) (O : WTy α) : WTy (List α) where
  T := tList O.T
  rep := fun ds v H R F => ∃ Fs, v = .ref a ∧ F = a :: Fs.flatten ∧ H a = some (.lst ws) ∧ RepsO O H R ds ws Fs
  st := by
    rintro d v H H' F R R' ⟨Fs, e1, e2, h, r⟩ s k
    exact ⟨Fs, e1, e2, by rw [k a (by rw [e2]; exact List.mem_cons_self)]; exact h, r.st s fun q hq => k q (by rw [e2]; exact List.mem_cons_of_mem _ hq)⟩
  tb := by
    rintro d v H F R ⟨Fs, e1, e2, h, r⟩ q hq
    rw [e2] at hq
    rcases List.mem_cons.mp hq with e | hq
    · subst e; exact ⟨_, h, rfl⟩
    · exact r.tb q hq
  fz := by
    rintro d v H F R R' ⟨Fs, e1, e2, h, r⟩ s k
    exact ⟨a, ws, e1, k a (by rw [e2]; exact List.mem_cons_self) _ h, r.fz s fun q hq => k q (by rw [e2]; exact List.mem_cons_of_mem _ hq)⟩
inductive WPin {γ : Type} (O3 : WTy γ) : {δ : Type} → WAr δ → Nat → (Addr → List V → WAr δ) → (δ → List γ) → (δ → List γ → δ) → Prop where
  | z {δ : Type} {A : WAr δ} : WPin O3 (waCons (wL O3) A) 0 (fun a ws => waCons (wLv a ws O3) A) (fun d => d.1) (fun d y => (y, d.2))
  | s {β δ : Type} {O' : WTy β} {A : WAr δ} {k : Nat} {A' : Addr → List V → WAr δ} {pr : δ → List γ} {stt : δ → List γ → δ} : WPin O3 A k A' pr stt → WPin O3 (waCons O' A) (k + 1) (fun a ws => waCons O' (A' a ws)) (fun d => pr d.2) (fun d y => (d.1, stt d.2 y))
section
variable {γ δ : Type} {O3 : WTy γ} {A : WAr δ} {kk : Nat} {A' : Addr → List V → WAr δ} {pr : δ → List γ} {stt : δ → List γ → δ} {H : Hp} {R : RdR}
theorem WPin.of (h : WPin O3 A kk A' pr stt) : ∀ {d vs G a ws}, (A' a ws).rep d vs H R G → A.rep d vs H R G := by
  induction h with
  | z =>
    rintro d vs G a ws ⟨v, r, F1, F2, e1, e2, ⟨Fs, e3, e4, h3, h4⟩, h2⟩
    exact ⟨v, r, F1, F2, e1, e2, ⟨a, ws, Fs, e3, e4, h3, h4⟩, h2⟩
  | s _ ih =>
    rintro d vs G a ws ⟨v, r, F1, F2, e1, e2, h1, h2⟩
    exact ⟨v, r, F1, F2, e1, e2, h1, ih h2⟩
end
theorem Plc.itemV {α γ : Type} {O : WTy α} {O3 : WTy γ} {H : Hp} {R : RdR} {v v2 : V} {F F2 : List Addr} {p : Addr} {vs : List V} {ds : List γ} {put : List γ → α} (h : Plc H R O v F (wLv p vs O3) ds put v2 F2) {i : Nat} {x : γ} (e : ds[i]? = some x) :
    ∃ v3 F3, vs[i]? = some v3 ∧ H p = some (.lst vs) ∧ Plc H R O v F O3 x (fun y => put (ds.set i y)) v3 F3 := by
  obtain ⟨Fs, e1, e2, hp, rr⟩ := h.rep
  obtain ⟨v3, F3, e3, e4, r3⟩ := rr.get e
  have nd := h.nd
  rw [e2, List.nodup_cons] at nd
  have s3 : ∀ q ∈ F3, q ∈ Fs.flatten := flat_mem e4
  have s32 : ∀ q ∈ F3, q ∈ F2 := fun q hq => by rw [e2]; exact List.mem_cons_of_mem _ (s3 q hq)
  have pF2 : p ∈ F2 := by rw [e2]; exact List.mem_cons_self
  refine ⟨v3, F3, e3, hp, r3, fun q hq => h.sub q (s32 q hq), flat_nd nd.2 e4, fun {H' R' d3' F3'} s k r' nd' n' => ?_⟩
  have np3 : p ∉ F3 := fun hq => nd.1 (s3 p hq)
  have n3' : ∀ q ∈ F3', q ∈ F3 ∨ q ∉ Fs.flatten := fun q hq => (n' q hq).imp id fun hn hq' => hn (h.sub q (by rw [e2]; exact List.mem_cons_of_mem _ hq'))
  have np : p ∉ (Fs.set i F3').flatten := fun hq => by
    rcases flat_set_mem nd.2 e4 p hq with hq | ⟨hq, _⟩
    · rcases n' p hq with hq | hq
      · exact np3 hq
      · exact hq (h.sub p pF2)
    · exact nd.1 hq
  obtain ⟨F', r4, nd4, n4⟩ := h.up (d2' := ds.set i d3') (F2' := p :: (Fs.set i F3').flatten) s (fun q hq hn => k q hq fun hq' => hn (s32 q hq'))
    ⟨Fs.set i F3', e1, rfl, by rw [k p (h.sub p pF2) np3]; exact hp, rr.chg s nd.2 e4 e3 (fun q hq hn => k q (h.sub q (by rw [e2]; exact List.mem_cons_of_mem _ hq)) hn) r'⟩
    (List.nodup_cons.mpr ⟨np, flat_set_nd nd.2 e4 nd' n3'⟩) (fun q hq => by
      rcases List.mem_cons.mp hq with hq | hq
      · subst hq; exact .inl pF2
      · rcases flat_set_mem nd.2 e4 q hq with hq | ⟨hq, _⟩
        · exact (n' q hq).imp (s32 q) id
        · exact .inl (by rw [e2]; exact List.mem_cons_of_mem _ hq))
  refine ⟨F', r4, nd4, fun q hq => ?_⟩
  rcases n4 q hq with hq | ⟨hq, hn⟩
  · rcases List.mem_cons.mp hq with hq | hq
    · subst hq; exact .inr ⟨h.sub _ pF2, np3⟩
    · rcases flat_set_mem nd.2 e4 q hq with hq | ⟨hq, hn⟩
      · exact .inl hq
      · exact .inr ⟨h.sub q (by rw [e2]; exact List.mem_cons_of_mem _ hq), hn⟩
  · exact .inr ⟨hq, fun hq' => hn (s32 q hq')⟩
theorem wk_set : ∀ (L : List Slot) (i : Nat), Wk L (L.set i sAny)
  | [], _ => .n
  | _ :: L, 0 => .a (Wk.refl L)
  | _ :: L, i + 1 => .s (wk_set L i)
section
end
end Hd
namespace Hd
open PySem PySem.Spec L2
section
end
end Hd
namespace Hd
open PySem PySem.Spec L2
section
end
end Hd
namespace Hd
open PySem PySem.Spec L2
section
end
end Hd
namespace Hd
open PySem PySem.Spec L2
theorem NoEx.bind {α β : Type} {m : M α} {f : α → M β} (h : NoEx m) (k : ∀ a, NoEx (f a)) : NoEx (m.bind f) := fun c e => by
  cases m with
  | ok a => exact k a c e
  | ex c' => exact h c' rfl
  | no => cases e
section
end
end Hd
namespace Hd
open PySem PySem.Spec L2
section
end
end Hd
namespace Hd
open PySem PySem.Spec L2
section
variable {fm : Fm} {kp : RdR} {L : List Slot} {σ : L2.St} {H H' : Hp} {own W : List Addr} {i : Nat} {px : V → Prop} {α β γ : Type} {O : WTy α} {O2 : WTy β} {d : α} {d2 : β} {put : β → α} {v v2 : V} {F F2 : List Addr} {Fs : List (List Addr)}
/-- the place changes; what is put there may come from W, of which nobody else knows -/
theorem At.chgW {d2' : β} {F2' : List Addr} (h1 : Same fm.H0 H) (h2 : ∀ a, fm.z a → H a ≠ none) (hs : AllS H (RB fm W H) L σ Fs) (e : own = Fs.flatten) (hW : ∀ p ∈ own, p ∈ W) (h4 : own.Nodup) (h5 : ∀ p ∈ W, H p ≠ none ∧ fm.H0 p = none ∧ ¬ fm.z p) (h6 : ∀ a o, kp a o → RD fm W H a o)
    (e1 : σ[i]? = some (some v)) (hx : px v) (e2 : Fs[i]? = some F) (pl : Plc H (RD fm W H) O v F O2 d2 put v2 F2)
    (sm : Same (hm H F2) H') (nd' : F2'.Nodup) (n1 : ∀ p ∈ F2', p ∈ F2 ∨ H p = none ∨ (p ∈ W ∧ p ∉ own)) (n2 : ∀ p ∈ F2', H' p ≠ none)
    (r' : O2.rep d2' v2 H' (RD fm (F2' ++ W) H') F2') : ∃ own', At fm kp (L.set i (sP px O (put d2'))) σ H' own' := by
  have sub0 : ∀ p ∈ F2, p ∈ own := fun p hp => by rw [e]; exact flat_mem e2 p (pl.sub p hp)
  have sub2 : ∀ p ∈ F2, p ∈ W := fun p hp => hW p (sub0 p hp)
  have nd := h4
  rw [e] at nd
  have keep : ∀ a o, H a = some o → nt o = true → a ∉ F2 → H' a = some o := fun a o ea na hn => sm.keep a o (by rw [hm_out hn]; exact ea) na
  have fr : ∀ a, H' a = none → a ∉ F2 → H a = none := fun a ea hn => by have := sm.fr a ea; rwa [hm_out hn] at this
  have tab : ∀ P, LamX.TabS H P lamQ → LamX.TabS H' P lamQ := fun P t => sm.tab P (by
    obtain ⟨ps, t1, t2, t3⟩ := t
    have ng : ∀ a o, H a = some o → gd o = false → a ∉ F2 := fun a o ea ga q => by
      obtain ⟨o', ho', go'⟩ := O2.tb pl.rep a q
      rw [ea] at ho'; cases ho'
      rw [ga] at go'; cases go'
    refine ⟨ps, by rw [hm_out (ng P _ t1 rfl)]; exact t1, t2, fun pos cv hc => ?_⟩
    obtain ⟨c, c1, c2⟩ := t3 pos cv hc
    exact ⟨c, c1, by rw [hm_out (ng c _ c2 rfl)]; exact c2⟩)
  have kcl : ∀ a o, cl H a = some o → a ∉ F2 → cl H' a = some o := fun a o ea hn => cl_of (keep a o (cl_raw ea) (cl_nt ea) hn) (cl_nt ea)
  have keq : ∀ a, cl H a ≠ none → a ∉ F2 → H' a = H a := fun a ha hn => by
    cases r : cl H a with
    | none => exact absurd r ha
    | some o => rw [cl_raw r]; exact keep a o (cl_raw r) (cl_nt r) hn
  have rdn : ∀ a o, RD fm W H a o → RD fm (F2' ++ W) H' a o := fun a o z => by
    rcases z with ⟨z1, z2, z3⟩ | z
    · have hne : H a ≠ none := fun q => by rcases z1 with z1 | ⟨_, z1⟩ <;> rw [cl_none q] at z1 <;> cases z1
      have n2 : a ∉ F2 := fun q => z2 (sub2 a q)
      refine .inl ⟨z1.imp (fun q => kcl a _ q n2) fun ⟨f, q⟩ => ⟨f, kcl a _ q n2⟩, fun hq => ?_, z3⟩
      rcases List.mem_append.mp hq with hq | hq
      · rcases n1 a hq with hq | hq | ⟨hq, _⟩
        · exact z2 (sub2 a hq)
        · exact hne hq
        · exact z2 hq
      · exact z2 hq
    · exact .inr z
  obtain ⟨F', r4, nd4, n4⟩ := pl.up rdn (fun p hp hn => keq p (hs.tb p (flat_mem e2 p hp)) hn) r' nd' (fun p hp => (n1 p hp).imp id fun q hq => by
    have hq' : p ∈ own := by rw [e]; exact flat_mem e2 p hq
    rcases q with q | q
    · exact (h5 p (hW p hq')).1 q
    · exact q.2 hq')
  have nF : ∀ p ∈ (Fs.set i F').flatten, p ∈ F2' ∨ (p ∈ own ∧ p ∉ F2) := fun p hp => by
    rcases flat_set_mem nd e2 p hp with hp | ⟨hp, hn⟩
    · rcases n4 p hp with hp | ⟨hp, hn⟩
      · exact .inl hp
      · exact .inr ⟨by rw [e]; exact flat_mem e2 p hp, hn⟩
    · exact .inr ⟨by rw [e]; exact hp, fun q => hn (pl.sub p q)⟩
  have dr : ∀ a o, RD fm (F2' ++ W) H' a o → RD fm (Fs.set i F').flatten H' a o := RD.drop fun p hp => List.mem_append.mpr ((nF p hp).imp id fun q => hW p q.1)
  have keyB : ∀ b a o, RB fm W H b a o → RB fm (Fs.set i F').flatten H' b a o := fun b a o z => by
    cases b with
    | false => exact dr a o (rdn a o z)
    | true =>
      obtain ⟨z1, z2, z3, z4⟩ := z
      have hne : H a ≠ none := fun q => by rw [cl_none q] at z1; cases z1
      refine ⟨kcl a _ z1 fun q => z2 (sub2 a q), fun hq => ?_, z3, z4⟩
      rcases nF a hq with hq | ⟨hq, _⟩
      · rcases n1 a hq with hq | hq | ⟨hq, _⟩
        · exact z2 (sub2 a hq)
        · exact hne hq
        · exact z2 hq
      · exact z2 (hW a hq)
  have sH : Same fm.H0 H' := by
    refine ⟨fun a o ea na => keep a o (h1.keep a o ea na) na (fun q => by have := (h5 a (sub2 a q)).2.1; rw [this] at ea; cases ea), fun a ea => ?_, fun P t => tab P (h1.tab P t)⟩
    by_cases q2 : a ∈ F2
    · exact (h5 a (sub2 a q2)).2.1
    · exact h1.fr a (fr a ea q2)
  refine ⟨_, ⟨sH, fun a z ea => ?_, ⟨Fs.set i F', hs.chg nd e2 e1 keyB (fun p hp hn => keq p (hs.tb p hp) fun q => hn (pl.sub p q)) (s' := sP px O (put d2')) ⟨v, rfl, hx, O.st r4 dr fun _ _ => rfl⟩, rfl⟩, flat_set_nd nd e2 nd4 (fun p hp => ?_), fun p hp => ?_, fun a o z => dr a o (rdn a o (h6 a o z))⟩⟩
  · exact h2 a z (fr a ea fun q => (h5 a (sub2 a q)).2.2 z)
  · rcases n4 p hp with hp | ⟨hp, _⟩
    · rcases n1 p hp with hp | hp
      · exact .inl (pl.sub p hp)
      · refine .inr fun q => ?_
        have q' : p ∈ own := by rw [e]; exact q
        rcases hp with hp | hp
        · exact (h5 p (hW p q')).1 hp
        · exact hp.2 q'
    · exact .inl hp
  · rcases nF p hp with hp | ⟨hp, hn⟩
    · refine ⟨n2 p hp, ?_, ?_⟩
      · rcases n1 p hp with hq | hq | ⟨hq, _⟩
        · exact (h5 p (sub2 p hq)).2.1
        · exact h1.free hq
        · exact (h5 p hq).2.1
      · rcases n1 p hp with hq | hq | ⟨hq, _⟩
        · exact (h5 p (sub2 p hq)).2.2
        · exact fun z => h2 p z hq
        · exact (h5 p hq).2.2
    · have q := h5 p (hW p hp)
      exact ⟨fun z => q.1 (fr p z hn), q.2⟩
end
section
variable {p : Pr} {sc : Scope} {NN VV GG : List Str} {k : Nat} {g : G} {L L' : List Slot} {a b e ix : Expr} {md md' : Md} {α β γ δ ρ : Type} {T : Ty β} {O : WTy α} {O1 : WTy β} {O3 : WTy γ} {A : WAr ρ} {pos : Pos} {i j : Nat} {px px1 : V → Prop} {d : α} {d1 : β} {st : List Stmt} {D : δ → Out}
/-- two slots' footprints -/
theorem flat_dis {Fs : List (List Addr)} {F F' : List Addr} : ∀ {i j : Nat}, Fs.flatten.Nodup → Fs[i]? = some F → Fs[j]? = some F' → i ≠ j → ∀ q ∈ F, q ∉ F' := by
  induction Fs with
  | nil => intro i j _ e; simp at e
  | cons G Fs ih =>
    intro i j nd e1 e2 ne q hq hq'
    rw [List.flatten_cons, List.nodup_append] at nd
    cases i with
    | zero =>
      cases j with
      | zero => exact ne rfl
      | succ j =>
        simp at e1 e2
        subst e1
        exact nd.2.2 q hq q (flat_mem (by simpa using e2) q hq') rfl
    | succ i =>
      cases j with
      | zero =>
        simp at e1 e2
        subst e2
        exact nd.2.2 q hq' q (flat_mem (by simpa using e1) q hq) rfl
      | succ j => exact ih nd.2.1 (by simpa using e1) (by simpa using e2) (fun h => ne (by rw [h])) q hq hq'
/-- place.append(x), where x moves -/
theorem evb_pAppMv {mp : M (List γ × (List γ → α))} {m1 : M (γ × (γ → β))} {h : α → M δ} {ap cp : Pos} (ok : OkS p sc NN VV GG k g) (wk : Wkx g L (NoEx mp ∧ NoEx m1)) (hij : i ≠ j) (hp : EvP g L a i px O d (wL O3) mp) (he : EvP g L e j px1 O1 d1 O3 m1) (hr : ∀ d', EvB g ((L.set j sAny).set i (sP px O d')) st D (h d'))
    (hs : swapsWith (.Call (.Attribute a "append" ap) [e] [] cp) none pos.line g.X.env = pure false := by rfl)
    (hbase : attributeBase a "append" g.X.env (eval a g.X.env) = eval a g.X.env := by rfl)
    (hfew : ((backTo cp (starEach [e] g.X.env)).all (fun x => !x.1) && (backToKw cp (keywordEach [] g.X.env)).all (fun x => x.1.isSome)
      && decide (([e] : List Expr).length + ([] : List Keyword).length + (if ([] : List Keyword).isEmpty then 0 else 1) < 30)) = true := by rfl)
    (hline : (ap.endLine == cp.line) = true := by rfl) (hst : starEach [e] g.X.env = (false, eval e g.X.env) :: starEach [] g.X.env := by rfl) (hpl : (backTo cp (starEach [] g.X.env)).any (·.1) = false := by rfl) :
    EvB g L (.Expr (.Call (.Attribute a "append" ap) [e] [] cp) pos :: st) D (mp.bind fun q => m1.bind fun x => (pushM q.1 x.1).bind fun l => h (q.2 l)) := by
  refine PSs.imp (pss_cons (ps_expr (pe_bm PySem.F.plainAttrs_list PySem.F.slot_list_append PySem.F.type_list_append mt_append hp (pa_cons he pa_nil hst) (hbase := hbase) (hfew := hfew) (hline := hline) (hs := hst) (hplain := hpl)) hs) (PSs.ex hr)) fun E σ H ⟨kp, own, at_, q⟩ => ?_
  obtain ⟨Fs, hsl, heo⟩ := at_.sl
  refine ⟨kp, own, Fs, at_, hsl, heo, ?_⟩
  cases mp with
  | ok q0 =>
    intro v2 F2 H1 s1 A1
    have at1 := at_.ext s1
    obtain ⟨p', vs0, Gs0, r1, _, hp0, _⟩ := at1.chgL (F1 := []) A1 (Same.refl H1) (fun _ h => nomatch h) (fun _ h => nomatch h)
    subst r1
    have hsl1 : AllS H1 (RB g.fm own H1) L σ Fs := by obtain ⟨_, _, _, z, _⟩ := A1; exact z
    refine ⟨Or.inl ⟨rfl, _, SqL.of hp0⟩, kp, own, Fs, at1, hsl1, heo, ?_⟩
    cases m1 with
    | ok x0 =>
      intro w F1 H2 s2 B2
      have A2 := A1.ext s2
      have at2 := at1.ext s2
      have q : BOk g kp E D ((pushM q0.1 x0.1).bind fun l => h (q0.2 l)) := q
      unfold pushM at q
      split at q
      · rename_i hlt
        have subA := at2.gdo A2
        have subB := at2.gdo B2
        obtain ⟨vi, Fi, hLi, hsl2, _, ei, hxi, efi, pli⟩ := A2
        obtain ⟨vj, Fj, hLj, _, _, ej, hxj, efj, plj⟩ := B2
        have nd := at2.nd
        rw [heo] at nd
        obtain ⟨p2, vs, Gs, r1, r3, hp2, rr⟩ := pli.rep
        cases r1
        have nd2 := pli.nd
        rw [r3, List.nodup_cons] at nd2
        have tbF : ∀ z ∈ F2, ∃ o, H2 z = some o ∧ gd o = true := (wL O3).tb pli.rep
        have tb1 : ∀ z ∈ F1, ∃ o, H2 z = some o ∧ gd o = true := O3.tb plj.rep
        have dj : ∀ z ∈ F1, z ∉ F2 := fun z hz hz' => flat_dis nd efj efi (fun h => hij h.symm) z (plj.sub z hz) (pli.sub z hz')
        have hsl3 : AllS H2 (RB g.fm own H2) (L.set j sAny) σ (Fs.set j []) := hsl2.chg nd efj ej (fun _ _ _ z => z) (fun _ _ _ => rfl) (s' := sAny) rfl
        have inF : ∀ z ∈ p' :: (Gs ++ [F1]).flatten, z ∈ F2 ∨ z ∈ F1 := fun z hz => by
          rw [flat_snoc] at hz
          rcases List.mem_cons.mp hz with e | hz
          · exact .inl (by rw [e, r3]; exact List.mem_cons_self)
          · exact (List.mem_append.mp hz).imp (fun hz => by rw [r3]; exact List.mem_cons_of_mem _ hz) id
        have inO : ∀ z ∈ (p' :: (Gs ++ [F1]).flatten) ++ own, z ∈ own := fun z hz => by
          rcases List.mem_append.mp hz with hz | hz
          · exact (inF z hz).elim (subA z) (subB z)
          · exact hz
        have pin : p' ∈ F2 := by rw [r3]; exact List.mem_cons_self
        have mono : ∀ b o, RD g.fm own H2 b o → RD g.fm ((p' :: (Gs ++ [F1]).flatten) ++ own) (upd H2 p' (.lst (vs ++ [w]))) b o := fun b o z => by
          rcases z with ⟨z1, z2, z3⟩ | z
          · have ne : b ≠ p' := fun h => z2 (by rw [h]; exact subA p' pin)
            refine .inl ⟨?_, fun h => z2 (inO b h), z3⟩
            unfold Rd
            show _ ∨ _
            rw [cl_upd_ne ne]
            exact z1
          · exact .inr z
        have ne1 : ∀ z ∈ F1, upd H2 p' (.lst (vs ++ [w])) z = H2 z := fun z hz => upd_ne fun h => dj z hz (by rw [h]; exact pin)
        have ne2 : ∀ z ∈ Gs.flatten, upd H2 p' (.lst (vs ++ [w])) z = H2 z := fun z hz => upd_ne fun h => nd2.1 (by rw [← h]; exact hz)
        obtain ⟨own', a'⟩ := At.chgW (fm := g.fm) (kp := kp) (W := own) (L := L.set j sAny) (own := (Fs.set j []).flatten) (F2' := p' :: (Gs ++ [F1]).flatten) (d2' := q0.1 ++ [x0.1]) (H' := upd H2 p' (.lst (vs ++ [w]))) at2.same at2.zin hsl3 rfl (fun z hz => by rw [heo]; exact set_sub.subset hz) (nd.sublist set_sub) at2.new at2.kept ei hxi (by rw [List.getElem?_set_ne fun h => hij h.symm]; exact efi) pli
          (hm_wr (Same.refl H2) pin hp2 rfl tbF)
          (by
            rw [flat_snoc]
            refine List.nodup_cons.mpr ⟨fun h => ?_, List.nodup_append.mpr ⟨nd2.2, plj.nd, fun a ha b hb e => dj b hb (by rw [← e, r3]; exact List.mem_cons_of_mem _ ha)⟩⟩
            rcases List.mem_append.mp h with h | h
            · exact nd2.1 h
            · exact dj p' h pin)
          (fun z hz => (inF z hz).imp id fun hz => .inr ⟨subB z hz, fun hz' => by
            rcases flat_set_mem nd efj z hz' with hz' | ⟨_, hn⟩
            · exact nomatch hz'
            · exact hn (plj.sub z hz)⟩)
          (fun z hz => by
            by_cases ez : z = p'
            · rw [ez, upd_same]; exact fun h => nomatch h
            · rw [upd_ne ez]
              obtain ⟨o, ho, _⟩ := (inF z hz).elim (tbF z) (tb1 z)
              rw [ho]; exact fun h => nomatch h)
          ⟨p', vs ++ [w], Gs ++ [F1], rfl, rfl, upd_same, (rr.st mono ne2).append (.cons (O3.st plj.rep mono ne1) .nil)⟩
        exact ⟨_, vs, w, rfl, rfl, hp2, by rw [← rr.length]; exact hlt, q0.2 (q0.1 ++ [x0.1]), kp, own', a', q⟩
      · exact q.elim
    | ex c => exact BOk.exx' wk (fun n => n.2 c rfl) at1 q
    | no => exact q
  | ex c => exact BOk.exx' wk (fun n => n.1 c rfl) at_ q
  | no => exact q
end
/-- a part taken out of written items -/
inductive WTk : {δ δ' : Type} → WAr δ → Nat → {α : Type} → WTy α → (δ → α) → WAr δ' → (δ → δ') → Prop where
  | z {α δ : Type} {O : WTy α} {A : WAr δ} : WTk (waCons O A) 0 O (fun d => d.1) (waCons (wV tAny) A) (fun d => ((), d.2))
  | s {α β δ δ' : Type} {O : WTy α} {O' : WTy β} {A : WAr δ} {A' : WAr δ'} {k : Nat} {pr : δ → α} {f : δ → δ'} : WTk A k O pr A' f → WTk (waCons O' A) (k + 1) O (fun d => pr d.2) (waCons O' A') (fun d => (d.1, f d.2))
theorem WTk.take {δ δ' γ : Type} {A : WAr δ} {A' : WAr δ'} {k : Nat} {O : WTy γ} {pr : δ → γ} {f : δ → δ'} (h : WTk A k O pr A' f) : ∀ {d : δ} {vs : List V} {H : Hp} {R : RdR} {G : List Addr}, A.rep d vs H R G → G.Nodup → ∃ v3 F3 G', vs[k]? = some v3 ∧ O.rep (pr d) v3 H R F3 ∧ A'.rep (f d) vs H R G' ∧ (∀ q ∈ G', q ∈ G ∧ q ∉ F3) ∧ (∀ q ∈ F3, q ∈ G) ∧ F3.Nodup ∧ G'.Nodup := by
  induction h with
  | z =>
    rintro d vs H R G ⟨v, r, F1, F2, e1, e2, h1, h2⟩ nd
    subst e1; subst e2
    rw [List.nodup_append] at nd
    exact ⟨v, F1, F2, rfl, h1, ⟨v, r, [], F2, rfl, rfl, ⟨rfl, trivial⟩, h2⟩, fun q hq => ⟨List.mem_append_right _ hq, fun hq' => nd.2.2 q hq' q hq rfl⟩, fun q hq => List.mem_append_left _ hq, nd.1, nd.2.1⟩
  | s _ ih =>
    rintro d vs H R G ⟨v, r, F1, F2, e1, e2, h1, h2⟩ nd
    subst e1; subst e2
    rw [List.nodup_append] at nd
    obtain ⟨v3, F3, G', e3, r3, rr, g1, g2, g3, g4⟩ := ih h2 nd.2.1
    refine ⟨v3, F3, F1 ++ G', by simpa using e3, r3, ⟨v, r, F1, G', rfl, rfl, h1, rr⟩, fun q hq => ?_, fun q hq => List.mem_append_right _ (g2 q hq), g3, List.nodup_append.mpr ⟨nd.1, g4, fun a ha b hb e => nd.2.2 a ha b (g1 b hb).1 e⟩⟩
    rcases List.mem_append.mp hq with hq | hq
    · exact ⟨List.mem_append_left _ hq, fun hq' => nd.2.2 q hq q (g2 q hq') rfl⟩
    · exact ⟨List.mem_append_right _ (g1 q hq).1, (g1 q hq).2⟩
section
end
section
end
theorem RepsO.wv {α : Type} {S : Ty α} {H : Hp} {R : RdR} {ds : List α} {vs : List V} {Fs : List (List Addr)} (h : RepsO (wV S) H R ds vs Fs) : Reps S R ds vs := by
  induction h with
  | nil => exact .nil
  | cons r _ ih => exact .cons r.2 ih
section
variable {p : Pr} {sc : Scope} {NN VV GG : List Str} {k : Nat} {g : G} {L : List Slot} {e : Expr} {α β : Type} {S : Ty α} {O : WTy β} {d : β} {px : V → Prop} {pos pp : Pos} {i j : Nat}
/-- list(place), the items shared -/
theorem evl_copyP {mx : M (List α × (List α → β))} (ok : Ok p sc NN VV GG k g) (hG : GG[j]? = some "list") (hmg : p.mg "list" = none) (ha : EvP g L e i px O d (wL (wV S)) mx) (hs : starEach [e] g.X.env = (false, eval e g.X.env) :: starEach [] g.X.env := by rfl) : EvL g L (.Call (.Name "list" pp) [e] [] pos) .sh S (mx.bind fun q => .ok q.1) := by
  obtain ⟨hg, ho⟩ := ok.gl hG
  obtain ⟨h1, _, h3⟩ := okName_d ho
  refine PE.imp (pe_callTy call_list_of hg (by rw [ok.mg]; exact hmg) (by decide +kernel) (pa_cons ha pa_nil hs) h3 h1 hs rfl) fun σ H W q => ?_
  obtain ⟨kp, own, at_, q⟩ := tL_iff.mp q
  obtain ⟨Fs, hsl, heo⟩ := at_.sl
  refine ⟨kp, own, Fs, at_, hsl, heo, ?_⟩
  cases mx with
  | ok q0 =>
    intro v2 F2 H1 s1 A1
    obtain ⟨v, F, _, _, _, _, _, _, pl⟩ := A1
    obtain ⟨p', vs, Gs, rfl, e2, hp, rr⟩ := pl.rep
    exact ⟨p', vs, rfl, .inl (SqL.of hp), fun l hl => q l vs _ (s1.trans (newSame hl)) (s1.free hl) upd_same (rr.wv.mono (RX.add (md := .sh) (H := H1) hl))⟩
  | ex c => exact q
  | no => exact q
end
section
end
section
end
def Fl.mg {α : Type} : Fl α α → α
  | .nx a => a
  | .rt a => a
section
variable {p : Pr} {sc : Scope} {NN VV GG : List Str} {k : Nat} {g : G} {L L' : List Slot} {a b e ix : Expr} {md md' : Md} {α β γ δ ρ : Type} {T : Ty β} {O : WTy α} {O1 : WTy β} {O3 : WTy γ} {A : WAr ρ} {pos : Pos} {i j : Nat} {px px1 : V → Prop} {d : α} {d1 : β} {st : List Stmt} {D : δ → Out}
theorem evb_qAppMv {mp : M (List γ × (List γ → α))} {m1 : M (γ × (γ → β))} {h : α → M δ} {ap cp : Pos} (ok : OkS p sc NN VV GG k g) (wk : Wkx g L (NoEx mp ∧ NoEx m1)) (hij : i ≠ j) (hp : EvP g L a i px O d (wL O3) mp) (he : EvP g L e j px1 O1 d1 O3 m1) (hr : ∀ d', EvB g ((L.set j sAny).set i (sP px O d')) st D (h d'))
    (hs : swapsWith (.Call (.Attribute a "append" ap) [e] [] cp) none pos.line g.X.env = pure false := by rfl)
    (hbase : attributeBase a "append" g.X.env (eval a g.X.env) = eval a g.X.env := by rfl)
    (hfew : ((backTo cp (starEach [e] g.X.env)).all (fun x => !x.1) && (backToKw cp (keywordEach [] g.X.env)).all (fun x => x.1.isSome)
      && decide (([e] : List Expr).length + ([] : List Keyword).length + (if ([] : List Keyword).isEmpty then 0 else 1) < 30)) = true := by rfl)
    (hline : (ap.endLine == cp.line) = true := by rfl) (hst : starEach [e] g.X.env = (false, eval e g.X.env) :: starEach [] g.X.env := by rfl) (hpl : (backTo cp (starEach [] g.X.env)).any (·.1) = false := by rfl) :
    EvB g L (.Expr (.Call (.Attribute a "append" ap) [e] [] cp) pos :: st) D (mp.bind fun q => m1.bind fun x => (pushM q.1 x.1).bind fun l => (M.ok (q.2 l)).bind h) := evb_pAppMv ok wk hij hp he hr hs hbase hfew hline hst hpl
end
section
end
section
end
end Hd
namespace Hd
open PySem PySem.Spec PyProof.Rows L2
section
end
section
end
end Hd
namespace Hd
open PySem PySem.Spec PyProof.Rows L2
section
end
end Hd
namespace Hd
open PySem PySem.Spec PyProof.Rows L2
section
end
end Hd
namespace Hd
open PySem PySem.Spec PyProof.Rows L2
section
end
end Hd
namespace Hd
open PySem PySem.Spec PyProof.Rows L2
def RN : RdR := fun _ _ => False
structure KyA {κ : Type} (A : Ar κ) (f : κ → List Key) : Prop where
  inj : ∀ {a b}, f a = f b → a = b
  to : ∀ {d vs R}, A.rep d vs R → vs = (f d).map kV
  flat : ∀ {d vs} {R R' : RdR}, A.rep d vs R → A.rep d vs R'
section
variable {p : Pr} {sc : Scope} {NN VV GG : List Str} {k : Nat} {g : G} {L : List Slot} {α β δ κ : Type} {S : Ty α} {T : Ty β} {md md' : Md} {pos : Pos} {st : List Stmt} {D : δ → Out} {i j : Nat} {x : Str} {a b c e : Expr} {es : List Expr} {A : Ar κ} {f : κ → List Key}
inductive TReps {κ α : Type} (A : Ar κ) (f : κ → List Key) (T : Ty α) (R : RdR) : List (κ × α) → List (List Key × V) → Prop where
  | nil : TReps A f T R [] []
  | cons {k d v ds vs} : A.rep k ((f k).map kV) RN → T.rep d v R → TReps A f T R ds vs → TReps A f T R ((k, d) :: ds) ((f k, v) :: vs)
theorem TReps.mono {R R' : RdR} {ds : List (κ × α)} {vs : List (List Key × V)} (h : TReps A f S R ds vs) (s : ∀ a o, R a o → R' a o) : TReps A f S R' ds vs := by
  induction h with
  | nil => exact .nil
  | cons a r _ ih => exact .cons a (S.mono r s) ih
theorem TReps.length {R : RdR} {ds : List (κ × α)} {vs : List (List Key × V)} (h : TReps A f S R ds vs) : ds.length = vs.length := by
  induction h with
  | nil => rfl
  | cons a r _ ih => simp [ih]
section
variable [DecidableEq κ]
def dgetT {κ α : Type} [DecidableEq κ] (ds : List (κ × α)) (k : κ) : Option α := (ds.find? fun kv => decide (kv.1 = k)).map (·.2)
def dputT {κ α : Type} [DecidableEq κ] (ds : List (κ × α)) (k : κ) (d : α) : List (κ × α) := if (ds.any fun kv => decide (kv.1 = k)) = true then ds.map (fun kv => if kv.1 = k then (kv.1, d) else kv) else ds ++ [(k, d)]
theorem TReps.get {R : RdR} {ds : List (κ × α)} {vs : List (List Key × V)} (hk : KyA A f) (h : TReps A f S R ds vs) (k : κ) : (dgetT ds k = none ∧ valV vs (f k) = none) ∨ ∃ d v, dgetT ds k = some d ∧ valV vs (f k) = some v ∧ S.rep d v R := by
  induction h with
  | nil => exact .inl ⟨rfl, rfl⟩
  | @cons k' d v ds vs a r _ ih =>
    by_cases e : k' = k
    · exact .inr ⟨d, v, by simp [dgetT, List.find?_cons, e], valV_pos (by rw [e]), r⟩
    · have e1 : dgetT ((k', d) :: ds) k = dgetT ds k := by simp [dgetT, List.find?_cons, e]
      rw [e1, valV_neg (fun z => e (hk.inj z))]
      exact ih
theorem TReps.some {R : RdR} {ds : List (κ × α)} {vs : List (List Key × V)} (hk : KyA A f) (h : TReps A f S R ds vs) (k : κ) : (valV vs (f k)).isSome = (dgetT ds k).isSome := by
  rcases h.get hk k with ⟨g1, g2⟩ | ⟨d, v, g1, g2, _⟩ <;> rw [g1, g2] <;> rfl
theorem TReps.map {R : RdR} {ds : List (κ × α)} {vs : List (List Key × V)} (hk : KyA A f) (h : TReps A f S R ds vs) (k : κ) {d : α} {v : V} (r : S.rep d v R) : TReps A f S R (ds.map (fun kv => if kv.1 = k then (kv.1, d) else kv)) (vs.map (fun kv => if kv.1 = f k then (kv.1, v) else kv)) := by
  induction h with
  | nil => exact .nil
  | @cons k' d' v' ds vs a r' _ ih =>
    rw [List.map_cons, List.map_cons]
    by_cases e : k' = k
    · have e' : f k' = f k := by rw [e]
      simp only [if_pos e, if_pos e']; exact .cons a r ih
    · have e' : ¬ f k' = f k := fun z => e (hk.inj z)
      simp only [if_neg e, if_neg e']; exact .cons a r' ih
theorem TReps.any {R : RdR} {ds : List (κ × α)} {vs : List (List Key × V)} (hk : KyA A f) (h : TReps A f S R ds vs) (k : κ) : (ds.any fun kv => decide (kv.1 = k)) = (vs.any fun kv => decide (kv.1 = f k)) := by
  induction h with
  | nil => rfl
  | @cons k' d' v' ds vs a r' _ ih =>
    rw [List.any_cons, List.any_cons, ih]
    congr 1
    by_cases e : k' = k
    · rw [decide_eq_true e, decide_eq_true (show f k' = f k by rw [e])]
    · rw [decide_eq_false e, decide_eq_false (fun z : f k' = f k => e (hk.inj z))]
theorem TReps.snoc {R : RdR} {ds : List (κ × α)} {vs : List (List Key × V)} (h : TReps A f S R ds vs) (k : κ) {d : α} {v : V} (a : A.rep k ((f k).map kV) RN) (r : S.rep d v R) : TReps A f S R (ds ++ [(k, d)]) (vs ++ [(f k, v)]) := by
  induction h with
  | nil => exact .cons a r .nil
  | cons a' r' _ ih => exact .cons a' r' ih
theorem TReps.put {R : RdR} {ds : List (κ × α)} {vs : List (List Key × V)} (hk : KyA A f) (h : TReps A f S R ds vs) (k : κ) {d : α} {v : V} (a : A.rep k ((f k).map kV) RN) (r : S.rep d v R) : TReps A f S R (dputT ds k d) (putK vs (f k) v) := by
  unfold dputT putK
  rw [h.any hk k]
  split
  · exact h.map hk k r
  · exact h.snoc k a r
end
section
end
end
end Hd
namespace Hd
open PySem PySem.Spec PyProof.Rows L2
section
end
end Hd
namespace Hd
open PySem PySem.Spec PyProof.Rows L2
section
end
end Hd
namespace Hd
open PySem PySem.Spec PyProof.Rows L2
section
end
section
end
end Hd
namespace Hd
open PySem PySem.Spec PyProof.Rows L2
section
end
section
end
end Hd
namespace Hd
open PySem PySem.Spec L2
inductive Pc where
  | Given (ends picks : Int) (texts : List Tx)
  | Named (ends picks : Int) (texts : List Tx) (name : Tx)
  | Twill (ends picks : Int) (many : Int) (more : Int)
  | Satin (ends picks : Int) (step : Int)
  | Beside (ends picks : Int) (left : Pc) (right : Pc)
  | Above (ends picks : Int) (first : Pc) (later : Pc)
  | Mirrored (ends picks : Int) (inner : Pc)
  | Backed (ends picks : Int) (inner : Pc)
  | Upended (ends picks : Int) (inner : Pc)
  | Quartered (ends picks : Int) (inner : Pc)
  | Repeated (ends picks : Int) (inner : Pc) (across : Int) (along : Int)
  | Blocked (ends picks : Int) (profile : Pc) (unit : Pc) (other : Pc)
  | Covered (ends picks : Int) (upper_one : Pc) (lower_one : Pc)
inductive PK where
  | Given | Named | Twill | Satin | Beside | Above | Mirrored | Backed | Upended | Quartered | Repeated | Blocked | Covered
  deriving DecidableEq
def PK.nm : PK → Str
  | .Given => "Given"
  | .Named => "Named"
  | .Twill => "Twill"
  | .Satin => "Satin"
  | .Beside => "Beside"
  | .Above => "Above"
  | .Mirrored => "Mirrored"
  | .Backed => "Backed"
  | .Upended => "Upended"
  | .Quartered => "Quartered"
  | .Repeated => "Repeated"
  | .Blocked => "Blocked"
  | .Covered => "Covered"
def PK.all : List PK := [.Given, .Named, .Twill, .Satin, .Beside, .Above, .Mirrored, .Backed, .Upended, .Quartered, .Repeated, .Blocked, .Covered]
theorem PK.mem (c : PK) : c ∈ PK.all := by cases c <;> decide
def Pc.k : Pc → PK
  | .Given _ _ _ => .Given
  | .Named _ _ _ _ => .Named
  | .Twill _ _ _ _ => .Twill
  | .Satin _ _ _ => .Satin
  | .Beside _ _ _ _ => .Beside
  | .Above _ _ _ _ => .Above
  | .Mirrored _ _ _ => .Mirrored
  | .Backed _ _ _ => .Backed
  | .Upended _ _ _ => .Upended
  | .Quartered _ _ _ => .Quartered
  | .Repeated _ _ _ _ _ => .Repeated
  | .Blocked _ _ _ _ _ => .Blocked
  | .Covered _ _ _ _ => .Covered
def pcRep (p : Pr) (R : RdR) : Pc → V → Prop
  | .Given e q d0, v => ∃ (a dx : Addr) (w0 : V), v = .ref a ∧ R a (.ins (cA p "Given") dx [("ends", .int e), ("picks", .int q), ("texts", w0)]) ∧ (tList tStr).rep d0 w0 R
  | .Named e q d0 d1, v => ∃ (a dx : Addr) (w0 : V), v = .ref a ∧ R a (.ins (cA p "Named") dx [("ends", .int e), ("picks", .int q), ("texts", w0), ("name", .str (toS d1))]) ∧ (tList tStr).rep d0 w0 R ∧ OkTx d1
  | .Twill e q d0 d1, v => ∃ (a dx : Addr), v = .ref a ∧ R a (.ins (cA p "Twill") dx [("ends", .int e), ("picks", .int q), ("many", .int d0), ("more", .int d1)])
  | .Satin e q d0, v => ∃ (a dx : Addr), v = .ref a ∧ R a (.ins (cA p "Satin") dx [("ends", .int e), ("picks", .int q), ("step", .int d0)])
  | .Beside e q d0 d1, v => ∃ (a dx : Addr) (w0 : V) (w1 : V), v = .ref a ∧ R a (.ins (cA p "Beside") dx [("ends", .int e), ("picks", .int q), ("left", w0), ("right", w1)]) ∧ pcRep p R d0 w0 ∧ pcRep p R d1 w1
  | .Above e q d0 d1, v => ∃ (a dx : Addr) (w0 : V) (w1 : V), v = .ref a ∧ R a (.ins (cA p "Above") dx [("ends", .int e), ("picks", .int q), ("first", w0), ("later", w1)]) ∧ pcRep p R d0 w0 ∧ pcRep p R d1 w1
  | .Mirrored e q d0, v => ∃ (a dx : Addr) (w0 : V), v = .ref a ∧ R a (.ins (cA p "Mirrored") dx [("ends", .int e), ("picks", .int q), ("inner", w0)]) ∧ pcRep p R d0 w0
  | .Backed e q d0, v => ∃ (a dx : Addr) (w0 : V), v = .ref a ∧ R a (.ins (cA p "Backed") dx [("ends", .int e), ("picks", .int q), ("inner", w0)]) ∧ pcRep p R d0 w0
  | .Upended e q d0, v => ∃ (a dx : Addr) (w0 : V), v = .ref a ∧ R a (.ins (cA p "Upended") dx [("ends", .int e), ("picks", .int q), ("inner", w0)]) ∧ pcRep p R d0 w0
  | .Quartered e q d0, v => ∃ (a dx : Addr) (w0 : V), v = .ref a ∧ R a (.ins (cA p "Quartered") dx [("ends", .int e), ("picks", .int q), ("inner", w0)]) ∧ pcRep p R d0 w0
  | .Repeated e q d0 d1 d2, v => ∃ (a dx : Addr) (w0 : V), v = .ref a ∧ R a (.ins (cA p "Repeated") dx [("ends", .int e), ("picks", .int q), ("inner", w0), ("across", .int d1), ("along", .int d2)]) ∧ pcRep p R d0 w0
  | .Blocked e q d0 d1 d2, v => ∃ (a dx : Addr) (w0 : V) (w1 : V) (w2 : V), v = .ref a ∧ R a (.ins (cA p "Blocked") dx [("ends", .int e), ("picks", .int q), ("profile", w0), ("unit", w1), ("other", w2)]) ∧ pcRep p R d0 w0 ∧ pcRep p R d1 w1 ∧ pcRep p R d2 w2
  | .Covered e q d0 d1, v => ∃ (a dx : Addr) (w0 : V) (w1 : V), v = .ref a ∧ R a (.ins (cA p "Covered") dx [("ends", .int e), ("picks", .int q), ("upper_one", w0), ("lower_one", w1)]) ∧ pcRep p R d0 w0 ∧ pcRep p R d1 w1
theorem pcRep_mono {p : Pr} {R R' : RdR} (s : ∀ a o, R a o → R' a o) : ∀ (d : Pc) {v : V}, pcRep p R d v → pcRep p R' d v
  | .Given e q d0, v, ⟨a, dx, w0, e1, h, r0⟩ => ⟨a, dx, w0,  e1, s _ _ h, (tList tStr).mono r0 s⟩
  | .Named e q d0 d1, v, ⟨a, dx, w0, e1, h, r0, r1⟩ => ⟨a, dx, w0,  e1, s _ _ h, (tList tStr).mono r0 s, r1⟩
  | .Twill e q d0 d1, v, ⟨a, dx, e1, h⟩ => ⟨a, dx,  e1, s _ _ h⟩
  | .Satin e q d0, v, ⟨a, dx, e1, h⟩ => ⟨a, dx,  e1, s _ _ h⟩
  | .Beside e q d0 d1, v, ⟨a, dx, w0, w1, e1, h, r0, r1⟩ => ⟨a, dx, w0, w1,  e1, s _ _ h, pcRep_mono s d0 r0, pcRep_mono s d1 r1⟩
  | .Above e q d0 d1, v, ⟨a, dx, w0, w1, e1, h, r0, r1⟩ => ⟨a, dx, w0, w1,  e1, s _ _ h, pcRep_mono s d0 r0, pcRep_mono s d1 r1⟩
  | .Mirrored e q d0, v, ⟨a, dx, w0, e1, h, r0⟩ => ⟨a, dx, w0,  e1, s _ _ h, pcRep_mono s d0 r0⟩
  | .Backed e q d0, v, ⟨a, dx, w0, e1, h, r0⟩ => ⟨a, dx, w0,  e1, s _ _ h, pcRep_mono s d0 r0⟩
  | .Upended e q d0, v, ⟨a, dx, w0, e1, h, r0⟩ => ⟨a, dx, w0,  e1, s _ _ h, pcRep_mono s d0 r0⟩
  | .Quartered e q d0, v, ⟨a, dx, w0, e1, h, r0⟩ => ⟨a, dx, w0,  e1, s _ _ h, pcRep_mono s d0 r0⟩
  | .Repeated e q d0 d1 d2, v, ⟨a, dx, w0, e1, h, r0⟩ => ⟨a, dx, w0,  e1, s _ _ h, pcRep_mono s d0 r0⟩
  | .Blocked e q d0 d1 d2, v, ⟨a, dx, w0, w1, w2, e1, h, r0, r1, r2⟩ => ⟨a, dx, w0, w1, w2,  e1, s _ _ h, pcRep_mono s d0 r0, pcRep_mono s d1 r1, pcRep_mono s d2 r2⟩
  | .Covered e q d0 d1, v, ⟨a, dx, w0, w1, e1, h, r0, r1⟩ => ⟨a, dx, w0, w1,  e1, s _ _ h, pcRep_mono s d0 r0, pcRep_mono s d1 r1⟩
def tPc (p : Pr) : Ty Pc := ⟨fun d v R => pcRep p R d v, fun {d v R R'} h s => pcRep_mono s d h⟩
/-- just this one -/
def tOnly (p : Pr) (d : Pc) : Ty Unit := ⟨fun _ v R => pcRep p R d v, fun h s => pcRep_mono s d h⟩
section
end
section
variable {p : Pr} {δ δ' ρ : Type} {A : Ar δ} {A' : Ar δ'} {D : ρ → Out} {F : δ → M ρ} {φ : δ' → δ} {k k' : Nat} {c m : Str} {ps : List Str}
theorem spM_as (h : ∀ d vs R, A'.rep d vs R → A.rep (φ d) vs R) {vs : List V} {H : Hp} {Q : VK} {E : XK} : spM p A' D (fun d => F (φ d)) vs H Q E → spM p A D F vs H Q E := fun ⟨d, z, h1, h2, h3⟩ => ⟨φ d, z, h1, h _ _ _ h2, h3⟩
theorem MeF.le {sp : Sp} (hf : MeF p k c m ps sp) (h : k ≤ k') : MeF p k' c m ps sp := by
  obtain ⟨f, fd, h1, h2⟩ := hf.ex
  exact ⟨f, fd, h1.mono h, h2⟩
theorem Fn.le {sp : Sp} (hf : Fn p k m ps sp) (h : k ≤ k') : Fn p k' m ps sp := by
  obtain ⟨f, fd, h1, h2⟩ := hf.ex
  exact ⟨f, fd, h1.mono h, h2⟩
/-- a method that no class of pieces has of its own -/
structure MuF (p : Pr) (k : Nat) (m : Str) (ps : List Str) (sp : Sp) : Prop where
  ex : ∃ (f : Addr) (fd : FuncData), FnOk p.P p.w p.K p.mg p.base (L2.CX p.P p.w) k f fd ("self" :: ps) sp ∧ (∀ c : PK, Cls p.K (cA p c.nm) ∧ Meth p.K (cA p c.nm) m f) ∧ Binds p.K fd ("self" :: ps) []
theorem MuF.at {A : Ar δ} {F : Pc × δ → M ρ} (hf : MuF p k m ps (spM p (aCons (tPc p) A) D F)) (d : Pc) : MeF p k d.k.nm m ps (spM p (aCons (tOnly p d) A) D (fun a => F (d, a.2))) := by
  obtain ⟨f, fd, h1, h2, h3⟩ := hf.ex
  exact ⟨f, fd, h1.imp fun vs H Q E => spM_as (A := aCons (tPc p) A) (A' := aCons (tOnly p d) A) (φ := fun a : Unit × δ => (d, a.2)) (fun a vs R ⟨v, r, e, r1, r2⟩ => ⟨v, r, e, r1, r2⟩), (h2 d.k).1, (h2 d.k).2, h3⟩
end
section
end
section
end
end Hd
namespace Hd
open PySem PySem.Spec L2
section
end
end Hd
namespace Hd
open PySem PySem.Spec L2
inductive PV where
  | num (n : Int)
  | text (t : Tx)
  | tree (w : Tx) (its : List PV)
inductive PVR (R : RdR) : PV → V → Prop where
  | num {n : Int} : PVR R (.num n) (.int n)
  | text {t : Tx} : OkTx t → PVR R (.text t) (.str (toS t))
  | tree {w : Tx} {its : List PV} {a b : Addr} {vs : List V} : OkTx w → R a (.tup [.str (toS w), .ref b]) → R b (.lst vs) → its.length = vs.length → (∀ (i : Nat) x v, its[i]? = some x → vs[i]? = some v → PVR R x v) → PVR R (.tree w its) (.ref a)
theorem PVR.mono {R R' : RdR} (s : ∀ a o, R a o → R' a o) {x : PV} {v : V} (h : PVR R x v) : PVR R' x v := by
  induction h with
  | num => exact .num
  | text h => exact .text h
  | tree h0 h1 h2 h3 _ ih => exact .tree h0 (s _ _ h1) (s _ _ h2) h3 ih
section
end
end Hd
namespace Hd
open PySem PySem.Spec L2
section
end
end Hd
set_option maxHeartbeats 1000000
namespace Hd
open PySem PySem.Spec PyProof.Rows L2 RT
section
end
section
end
end Hd
namespace Hd
open PySem PySem.Spec L2
def lOf {β : Type} (p : Pr) (iC : Nat) : List (Ec × β) → List V → List (Value × (Addr → Value → Option Addr → TS))
  | (d, _) :: r, v :: vs => (.ref (p.C d), fun _ _ _ => tAsg (fun σ H Q => Q v H) (gName iC)) :: lOf p iC r vs
  | _, _ => []
inductive Hds (p : Pr) (kn : List Ec) (GG : List Str) (L : List Slot) {α : Type} (S : Ty α) (y : Str) (iC : Nat) {β : Type} (LJ : β → List Slot) : List ExceptHandler → List (Ec × β) → List V → Prop
  | nil : Hds p kn GG L S y iC LJ [] [] []
  | cons {x : Str} {cx : Ec} {j : Nat} {np pos' p2 p3 : Pos} {e : Expr} {v : V} {dv : α} {h : β} {hs cl vs} (hcx : cx ∈ kn) (hx : p.mg x = some (.ref (p.C cx))) (hG : GG[j]? = some x) (he : ∀ Y : Cx, PE Y e (fun σ H Q => Q v H)) (hrep : ∀ R, S.rep dv v R)
      (hh : Wk (L.set iC (sV false S dv)) (LJ h)) (r : Hds p kn GG L S y iC LJ hs cl vs) (hsw : ∀ Y : Cx, swapsWith e (some (.Name y p2)) p3.line Y.env = pure false := by intro _; rfl) :
      Hds p kn GG L S y iC LJ (.ExceptHandler (some (.Name x np)) none [.Assign [.Name y p2] e p3] pos' :: hs) ((cx, h) :: cl) (v :: vs)
section
variable {p : Pr} {sc : Scope} {NN VV GG : List Str} {k : Nat} {g : G} {L L' : List Slot} {α β γ δ : Type} {S : Ty α} {pos : Pos} {st : List Stmt} {D : δ → Out}
theorem Hds.ok {kn : List Ec} {y : Str} {iC jC : Nat} {LJ : β → List Slot} {hs : List ExceptHandler} {cl : List (Ec × β)} {vs : List V} (ok : OkS p sc NN VV GG k g) (hNC : NN[iC]? = some y) (hVC : VV[jC]? = some y) (r : Hds p kn GG L S y iC LJ hs cl vs) : HdsOk g.X hs (lOf p iC cl vs) := by
  induction r with
  | nil => exact .nil
  | cons hcx hx hG he hrep hh r hsw ih =>
    obtain ⟨hg, ho⟩ := ok.gl hG
    refine .cons ⟨hg, (okName_d ho).1, .inl (by rw [ok.mg]; exact hx)⟩ (fun ad oE cl dd pn _ _ => ?_) ih
    exact pss_one (ps_set (i := iC) (by show g.X.N.Nodup; rw [ok.N]; exact ok.nd) (by show g.X.N[iC]? = _; rw [ok.N]; exact hNC) (ok.loc hVC) (he _) (hsw _) (.inl (ok.fnT y)))
end
end Hd
namespace Hd
open PySem PySem.Spec L2
section
end
end Hd
namespace Hd
open PySem PySem.Spec L2
section
end
end Hd
namespace Hd
open PySem PySem.Spec L2
section
end
section
end
end Hd
namespace Hd
open PySem PySem.Spec PyProof.Rows L2
section
end
end Hd
noncomputable section
namespace Hd
open PySem PySem.Spec PySem.W PySem.Calls PyProof.Rows HandSHeadRun
section
end
end Hd
namespace Hd
open PySem PySem.Spec L2
section
variable {α β γ δ ε : Type} {S : Ty α} {T : Ty β} {U : Ty γ} {W : Ty ε} {A : Ar δ}
/-- never the same -/
structure Apart (D : Deep S) (E : Deep T) : Prop where
  l : ∀ a b, PyData.eqv (D.pd a) (E.pd b) = false
  r : ∀ a b, PyData.eqv (E.pd b) (D.pd a) = false
end
section
end
end Hd
namespace Hd
open PySem PySem.Spec L2
section
variable {α β γ δ ε : Type} {S : Ty α} {T : Ty β} {S' : Ty γ} {A : Ar δ} {B : Ar ε}
theorem Apart.symm {D : Deep S} {E : Deep T} (h : Apart D E) : Apart E D := ⟨fun a b => h.r b a, fun a b => h.l b a⟩
end
section
end
end Hd
namespace Hd
open PySem PySem.Spec L2
section
end
end Hd
namespace Hd
open PySem PySem.Spec L2
theorem Plc.lv {α γ : Type} {O : WTy α} {O3 : WTy γ} {H : Hp} {R : RdR} {v v2 : V} {F F2 : List Addr} {ds : List γ} {put : List γ → α} (h : Plc H R O v F (wL O3) ds put v2 F2) :
    ∃ a ws, v2 = .ref a ∧ H a = some (.lst ws) ∧ ws.length = ds.length ∧ Plc H R O v F (wLv a ws O3) ds put (.ref a) F2 := by
  obtain ⟨a, ws, Fs, e1, e2, hp, rr⟩ := h.rep
  subst e1
  refine ⟨a, ws, rfl, hp, rr.length.symm, ⟨Fs, rfl, e2, hp, rr⟩, h.sub, h.nd, fun {H' R' d2' F2'} s k r' nd' n' => ?_⟩
  obtain ⟨Fs', x1, x2, x3, x4⟩ := r'
  exact h.up s k ⟨a, ws, Fs', rfl, x2, x3, x4⟩ nd' n'
/-- a thing of one's own told by the items of one list in it -/
def wCx {α γ : Type} (O : WTy α) (O3 : WTy γ) (put : List γ → α) (a : Addr) (ws : List V) : WTy (List γ) where
  T := { O.T with rep := fun ds v R => O.T.rep (put ds) v R, mono := fun r s => O.T.mono r s }
  rep := fun ds v H R F => ∃ F2, Plc H R O v F (wLv a ws O3) ds put (.ref a) F2 ∧ ∀ p ∈ F, ∃ o, H p = some o ∧ gd o = true
  st := by
    rintro ds v H H' F R R' ⟨F2, h, t⟩ s k
    exact ⟨F2, h.ext s k, fun p hp => by rw [k p hp]; exact t p hp⟩
  tb := fun ⟨_, _, t⟩ p hp => t p hp
  fz := by
    rintro ds v H F R R' ⟨F2, h, t⟩ s k
    obtain ⟨F', r, nd, n⟩ := h.up (R' := R) (H' := H) (fun _ _ z => z) (fun _ _ _ => rfl) h.rep h.nd (fun p hp => .inl hp)
    exact O.fz r s fun p hp o ho => k p ((n p hp).elim (h.sub p) (·.1)) o ho
theorem ex_nd (P : Addr → Prop) : ∀ F : List Addr, ∃ G : List Addr, G.Nodup ∧ ∀ p, p ∈ G ↔ p ∈ F ∧ P p
  | [] => ⟨[], List.nodup_nil, fun p => by simp⟩
  | a :: F => by
    obtain ⟨G, h1, h2⟩ := ex_nd P F
    by_cases c : P a ∧ a ∉ G
    · exact ⟨a :: G, List.nodup_cons.mpr ⟨c.2, h1⟩, fun p => by
        rw [List.mem_cons, List.mem_cons, h2]
        constructor
        · rintro (e | e)
          · subst e; exact ⟨.inl rfl, c.1⟩
          · exact ⟨.inr e.1, e.2⟩
        · rintro ⟨e | e, z⟩
          · exact .inl e
          · exact .inr ⟨e, z⟩⟩
    · exact ⟨G, h1, fun p => by
        rw [List.mem_cons, h2]
        constructor
        · exact fun e => ⟨.inr e.1, e.2⟩
        · rintro ⟨e | e, z⟩
          · subst e
            by_cases q : p ∈ G
            · exact (h2 p).mp q
            · exact absurd ⟨z, q⟩ c
          · exact ⟨e, z⟩⟩
theorem Plc.cx {α γ : Type} {O : WTy α} {O3 : WTy γ} {put : List γ → α} {a : Addr} {ws : List V} {H : Hp} {R : RdR} {v : V} {F : List Addr} {ds : List γ} (r : (wCx O O3 put a ws).rep ds v H R F) : ∃ F2, Plc H R (wCx O O3 put a ws) v F (wLv a ws O3) ds (fun d => d) (.ref a) F2 := by
  obtain ⟨F2, pl, tb⟩ := r
  refine ⟨F2, pl.rep, pl.sub, pl.nd, fun {H' R' d2' F2'} s k r' nd' n' => ?_⟩
  obtain ⟨G, g1, g2⟩ := ex_nd (fun p => p ∉ F2) F
  have nd2 : (F2' ++ G).Nodup := by
    refine List.nodup_append.mpr ⟨nd', g1, fun p hp q hq e => ?_⟩
    subst e
    obtain ⟨q1, q2⟩ := (g2 p).mp hq
    exact (n' p hp).elim q2 fun z => z q1
  have mem : ∀ p, p ∈ F2' ++ G ↔ p ∈ F2' ∨ (p ∈ F ∧ p ∉ F2) := fun p => by
    rw [List.mem_append, g2]
  refine ⟨F2' ++ G, ⟨F2', ⟨r', fun p hp => (mem p).mpr (.inl hp), nd', fun {H'' R'' d'' F2''} s2 k2 r2 nd3 n3 => ?_⟩, fun p hp => ?_⟩, nd2, fun p hp => (mem p).mp hp⟩
  · have dj : ∀ p, p ∈ F → p ∉ F2 → p ∉ F2' := fun p h1 h2 h3 => (n' p h3).elim h2 fun z => z h1
    obtain ⟨F', x1, x2, x3⟩ := pl.up (H' := H'') (R' := R'') (d2' := d'') (F2' := F2'') (fun b o z => s2 b o (s b o z)) (fun p hp hn => (k2 p ((mem p).mpr (.inr ⟨hp, hn⟩)) (dj p hp hn)).trans (k p hp hn)) r2 nd3 (fun p hp => by
      by_cases z : p ∈ F2
      · exact .inl z
      · refine .inr fun z2 => ?_
        rcases n3 p hp with q | q
        · exact dj p z2 z q
        · exact q ((mem p).mpr (.inr ⟨z2, z⟩)))
    exact ⟨F', x1, x2, fun p hp => (x3 p hp).imp id fun ⟨q1, q2⟩ => ⟨(mem p).mpr (.inr ⟨q1, q2⟩), dj p q1 q2⟩⟩
  · rcases (mem p).mp hp with z | ⟨z1, z2⟩
    · exact (wLv a ws O3).tb r' p z
    · rw [k p z1 z2]; exact tb p z1
/-- a slot whose value is known, and nothing else of it -/
def sIs (w : V) : Slot := ⟨fun v _ _ F => F = [] ∧ v = some w, fun h _ _ => h, fun ⟨e, _⟩ p hp => by subst e; exact nomatch hp⟩
theorem At.setIs {fm : Fm} {kp : RdR} {L : List Slot} {i : Nat} {σ : L2.St} {H : Hp} {own : List Addr} {v : V} (h : At fm kp L σ H own) : ∃ own', At fm kp (L.set i (sIs v)) (σ.set i (some v)) H own' ∧ ∀ p ∈ own', p ∈ own := by
  obtain ⟨h1, h2, ⟨Fs, h3, rfl⟩, h4, h5, h6⟩ := h
  have kk : ∀ p ∈ (Fs.set i []).flatten, p ∈ Fs.flatten := fun p hp => (set_sub (i := i)).subset hp
  exact ⟨_, ⟨h1, h2, ⟨Fs.set i [], (h3.st (RB.own kk) fun _ _ => rfl).set (s := sIs v) (v := some v) ⟨rfl, rfl⟩ i, rfl⟩, h4.sublist set_sub, fun p hp => h5 p (kk p hp), fun a o q => RX.own (md := .sh) (H := H) kk a o (h6 a o q)⟩, kk⟩
/-- a slot's own thing, told otherwise, with less of one's own -/
theorem At.reshape {fm : Fm} {kp : RdR} {L : List Slot} {i : Nat} {σ : L2.St} {H : Hp} {own : List Addr} {s s' : Slot} (h : At fm kp L σ H own) (hL : L[i]? = some s)
    (c : ∀ v F (R : Bool → RdR), s.ok v H R F → ∃ F', s'.ok v H R F' ∧ F'.Nodup ∧ ∀ p ∈ F', p ∈ F) : ∃ own', At fm kp (L.set i s') σ H own' := by
  obtain ⟨h1, h2, ⟨Fs, h3, rfl⟩, h4, h5, h6⟩ := h
  obtain ⟨v, F, e1, e2, r⟩ := h3.get hL
  obtain ⟨F', r', nd', sub'⟩ := c v F _ r
  have kk : ∀ p ∈ (Fs.set i F').flatten, p ∈ Fs.flatten := fun p hp => by
    rcases flat_set_mem h4 e2 p hp with z | ⟨z, _⟩
    · exact flat_mem e2 p (sub' p z)
    · exact z
  exact ⟨_, h1, h2, ⟨Fs.set i F', (h3.chg h4 e2 e1 (RB.own kk) (fun _ _ _ => rfl) (s'.st r' (RB.own kk) fun _ _ => rfl)), rfl⟩, flat_set_nd h4 e2 nd' (fun p hp => .inl (sub' p hp)), fun p hp => h5 p (kk p hp), fun a o q => RX.own (md := .sh) (H := H) kk a o (h6 a o q)⟩
/-- each item, one after the other -/
def walkF {γ : Type} (F : γ → M γ) : List γ → M (List γ)
  | [] => .ok []
  | x :: r => (F x).bind fun y => (walkF F r).bind fun l => .ok (y :: l)
section
variable {p : Pr} {sc : Scope} {NN VV GG : List Str} {k : Nat} {g : G} {L L' : List Slot} {a b c e e' ix it : Expr} {md md' : Md} {α β γ δ ρ τ : Type} {S : Ty α} {T : Ty β} {O : WTy α} {O2 : WTy β} {O3 : WTy γ} {A : WAr ρ} {pos pp pos' : Pos} {i j : Nat} {x y : Str} {px : V → Prop} {st body : List Stmt} {D : δ → Out} {d : α}
/-- the name that walks is a name of the item -/
theorem evp_alias {put : List γ → α} {q : Addr} {ws : List V} {ds : List γ} {n i2 j2 : Nat} {v : V} {z : γ} (ok : Ok p sc NN VV GG k g) (hN : NN[i2]? = some x) (hV : VV[j2]? = some x) (hL : L[i]? = some (sP px (wCx O O3 put q ws) ds)) (hL2 : L[i2]? = some (sIs v)) (hw : ws[n]? = some v) (hz : ds[n]? = some z) :
    EvP g L (.Name x pos) i px (wCx O O3 put q ws) ds O3 (.ok (z, fun r => ds.set n r)) := by
  obtain ⟨hv, ho⟩ := ok.vis hV
  obtain ⟨h1, h2, _⟩ := okName_d ho
  refine PE.imp (pe_var (i := i2) (by rw [ok.N]; exact hN) hv h1 h2) fun σ H Q ⟨kp, own, Fs, at_, hsl, heo, r⟩ => ?_
  obtain ⟨v1, F1, e1, e2, e3, e4⟩ := hsl.get hL2
  subst e4
  obtain ⟨v0, F0, x1, x2, v3, x3, hx, rr⟩ := hsl.get hL
  subst x3
  obtain ⟨F2, pl⟩ := Plc.cx rr
  obtain ⟨v4, F4, y1, y2, pl4⟩ := pl.itemV hz
  rw [hw] at y1
  cases y1
  exact ⟨v, e1, r v F4 H (Same.refl H) ⟨v3, F0, hL, hsl, heo, x1, hx, x2, pl4⟩⟩
/-- for x in PLACE: body, where the body changes the item -/
theorem evb_forPl {mp : M (List γ × (List γ → α))} {FB : γ → M γ} {h : α → M δ} {i2 j2 : Nat} {tp : Pos} (ok : OkS p sc NN VV GG k g) (hX : g.LX = List.replicate L.length sAny)
    (hp : EvP g L it i px O d (wL O3) mp) (hN2 : NN[i2]? = some x) (hV2 : VV[j2]? = some x) (hij : i ≠ i2) {s2 : Slot} (hL2 : L[i2]? = some s2)
    (hb : ∀ (put : List γ → α) (q : Addr) (ws : List V) (ds : List γ) (n : Nat) (v : V) (z : γ), ws[n]? = some v → ds[n]? = some z → EvB g ((L.set i2 (sIs v)).set i (sP px (wCx O O3 put q ws) ds)) body (fun d' => .go ((L.set i2 sAny).set i (sP px (wCx O O3 put q ws) d'))) ((FB z).bind fun r => .ok (ds.set n r)))
    (hr : ∀ d', EvB g ((L.set i2 sAny).set i (sP px O d')) st D (h d')) (hfs : ∀ v, foldedSetIterable it g.X.env v = pure v := by intro _; rfl) :
    EvB g L (.For (.Name x tp) it body [] pos :: st) D (mp.bind fun q => (walkF FB q.1).bind fun l => M.bind (.ok (q.2 l)) h) := by
  let Z := { z : (List γ → α) × Addr × List V × List γ × Nat × V × γ // z.2.2.1[z.2.2.2.2.1]? = some z.2.2.2.2.2.1 ∧ z.2.2.2.1[z.2.2.2.2.1]? = some z.2.2.2.2.2.2 }
  have hb' : ∀ z : Z, PSs g.X body (tB g ((L.set i2 (sIs z.1.2.2.2.2.2.1)).set i (sP px (wCx O O3 z.1.1 z.1.2.1 z.1.2.2.1) z.1.2.2.2.1)) (fun d' => .go ((L.set i2 sAny).set i (sP px (wCx O O3 z.1.1 z.1.2.1 z.1.2.2.1) d'))) ((FB z.1.2.2.2.2.2.2).bind fun r => .ok (z.1.2.2.2.1.set z.1.2.2.2.2.1 r))) := fun z => hb _ _ _ _ _ _ _ z.2.1 z.2.2
  refine PSs.imp (pss_cons (ps_for ok.psO ok.calm (pi_list hp) (pg_name (i := i2) (by rw [ok.N]; exact ok.nd) (by rw [ok.N]; exact hN2) (ok.loc hV2) (okS_fn ok)) (PSs.ex hb') hfs) (PSs.ex hr)) fun E σ H ⟨kp, own, at_, q⟩ => ?_
  obtain ⟨Fs, hsl, heo⟩ := at_.sl
  refine ⟨kp, own, Fs, at_, hsl, heo, ?_⟩
  cases mp with
  | ex c => exact fun H' s => BOk.exx (by rw [hX]; exact Wk.anys rfl) at_ q H' s
  | no => exact q.elim
  | ok q0 =>
  intro v2 F2 H1 s1 A1
  have q : BOk g kp E D ((walkF FB q0.1).bind fun l => M.bind (.ok (q0.2 l)) h) := q
  have at1 := at_.ext s1
  obtain ⟨v, F, hL, hs, e, e1, hx, e2, pl⟩ := A1
  obtain ⟨a0, ws, rfl, ha1, hwl, plv⟩ := pl.lv
  refine ⟨a0, rfl, ⟨ws, SqL.of ha1⟩, ?_⟩
  let L1 : List γ → List Slot := fun ds => (L.set i2 sAny).set i (sP px (wCx O O3 q0.2 a0 ws) ds)
  have hlt : i < (L.set i2 sAny).length := by rw [List.length_set]; exact (List.getElem?_eq_some_iff.mp hL).1
  have at0 : ∃ own0, At g.fm kp (L1 q0.1) σ H1 own0 := by
    have atc : At g.fm kp (L.set i (sP px (wCx O O3 q0.2 a0 ws) q0.1)) σ H1 own := by
      refine ⟨at1.same, at1.zin, ⟨Fs, ?_, e⟩, at1.nd, at1.new, at1.kept⟩
      have hpw := hs.pw
      refine Pw.all ⟨by rw [List.length_set]; exact hpw.l1, by rw [List.length_set]; exact hpw.l2, fun j _ s3 v' F' x1 x2 x3 => ?_⟩
      by_cases hj : i = j
      · subst hj
        rw [List.getElem?_set_self (List.getElem?_eq_some_iff.mp hL).1] at x1
        cases x1
        rw [e1] at x2; cases x2
        rw [e2] at x3; cases x3
        obtain ⟨v9, y1, y2, y3⟩ := hpw.ok i (fun z => z) _ _ _ hL e1 e2
        exact ⟨v, rfl, hx, F2, plv, fun p hp => by cases y1; exact O.tb y3 p hp⟩
      · rw [List.getElem?_set_ne hj] at x1
        exact hpw.ok j (fun z => z) s3 v' F' x1 x2 x3
    obtain ⟨own0, b0, _⟩ := At.weak atc (wk_set _ i2)
    refine ⟨own0, ?_⟩
    show At g.fm kp ((L.set i2 sAny).set i _) σ H1 own0
    rw [← List.set_comm _ _ hij]
    exact b0
  obtain ⟨own0, at0⟩ := at0
  have nth : ∀ {ds : List γ} {σ : L2.St} {H : Hp} {own : List Addr}, At g.fm kp (L1 ds) σ H own → H a0 = some (.lst ws) := fun {ds σ H own} at_ => by
    obtain ⟨Fs, hsl, heo⟩ := at_.sl
    obtain ⟨v0, F0, _, _, v3, _, _, F9, pl9, _⟩ := hsl.get (i := i) (List.getElem?_set_self hlt)
    obtain ⟨_, _, _, y7, _⟩ := pl9.rep
    exact y7
  have nth2 : ∀ {ds : List γ} {σ : L2.St} {H : Hp} {own : List Addr}, At g.fm kp (L1 ds) σ H own → ws.length = ds.length := fun {ds σ H own} at_ => by
    obtain ⟨Fs, hsl, heo⟩ := at_.sl
    obtain ⟨v0, F0, _, _, v3, _, _, F9, pl9, _⟩ := hsl.get (i := i) (List.getElem?_set_self hlt)
    obtain ⟨_, _, _, _, rr⟩ := pl9.rep
    exact rr.length.symm
  refine ⟨fun n m σ H => m = ws.length - n ∧ n ≤ ws.length ∧ ∃ dn own', dn.length = n ∧ At g.fm kp (L1 (dn ++ q0.1.drop n)) σ H own' ∧ BOk g kp E D ((walkF FB (q0.1.drop n)).bind fun l => M.bind (.ok (q0.2 (dn ++ l))) h), ⟨_, rfl, Nat.zero_le _, [], own0, rfl, by rw [List.drop_zero, List.nil_append]; exact at0, by rw [List.drop_zero]; exact q⟩, ?_⟩
  rintro n m σ2 H2 ⟨rfl, hn, dn, own', hdn, a', q'⟩
  have ha2 := nth a'
  by_cases hnl : n < ws.length
  · have hnp : n < q0.1.length := by omega
    have hd : q0.1.drop n = q0.1[n] :: q0.1.drop (n + 1) := List.drop_eq_getElem_cons hnp
    rw [hd] at a' q'
    refine .inr ⟨⟨ws, ws[n], SqL.of ha2, by simp [hnl]⟩, fun σ' H' => ∃ dn own', dn.length = n + 1 ∧ At g.fm kp (L1 (dn ++ q0.1.drop (n + 1))) σ' H' own' ∧ BOk g kp E D ((walkF FB (q0.1.drop (n + 1))).bind fun l => M.bind (.ok (q0.2 (dn ++ l))) h), fun σ' H' z => ⟨ws.length - (n + 1), by omega, rfl, hnl, z⟩, fun x3 H3 ⟨eH, yx⟩ => ?_⟩
    subst eH
    have ex3 : x3 = ws[n] := by
      have := yx ws (SqL.of ha2)
      rw [List.getElem?_eq_getElem hnl] at this
      cases this; rfl
    subst ex3
    obtain ⟨own3, b3, _⟩ := a'.setIs (i := i2) (v := ws[n])
    have eL : (L1 (dn ++ (q0.1[n] :: q0.1.drop (n + 1)))).set i2 (sIs ws[n]) = (L.set i2 (sIs ws[n])).set i (sP px (wCx O O3 q0.2 a0 ws) (dn ++ (q0.1[n] :: q0.1.drop (n + 1)))) := by
      show ((L.set i2 sAny).set i _).set i2 _ = _
      rw [List.set_comm _ _ hij, List.set_set]
    rw [eL] at b3
    refine ⟨⟨(q0.2, a0, ws, dn ++ (q0.1[n] :: q0.1.drop (n + 1)), n, ws[n], q0.1[n]), List.getElem?_eq_getElem hnl, by show (dn ++ (q0.1[n] :: q0.1.drop (n + 1)))[n]? = _; rw [List.getElem?_append_right (by omega), hdn, Nat.sub_self]; rfl⟩, kp, own3, b3, ?_⟩
    have q2 : BOk g kp E D (((FB q0.1[n]).bind fun y => (walkF FB (q0.1.drop (n + 1))).bind fun l => .ok (y :: l)).bind fun l => M.bind (.ok (q0.2 (dn ++ l))) h) := q'
    show BOk g kp _ _ ((FB q0.1[n]).bind fun r => .ok ((dn ++ (q0.1[n] :: q0.1.drop (n + 1))).set n r))
    cases hF : FB q0.1[n] with
    | ok r =>
      rw [hF] at q2
      have e9 : (dn ++ (q0.1[n] :: q0.1.drop (n + 1))).set n r = dn ++ [r] ++ q0.1.drop (n + 1) := by
        rw [List.set_append_right _ _ (by omega), hdn, Nat.sub_self, List.set_cons_zero, List.append_assoc]; rfl
      have q3 : BOk g kp E D ((walkF FB (q0.1.drop (n + 1))).bind fun l => M.bind (.ok (q0.2 (dn ++ [r] ++ l))) h) := by
        have e : (((walkF FB (q0.1.drop (n + 1))).bind fun l => M.ok (r :: l)).bind fun l => M.bind (.ok (q0.2 (dn ++ l))) h) = (walkF FB (q0.1.drop (n + 1))).bind fun l => M.bind (.ok (q0.2 (dn ++ [r] ++ l))) h := by
          rw [M.bind_assoc]
          congr 1
          funext l
          show h (q0.2 (dn ++ (r :: l))) = h (q0.2 (dn ++ [r] ++ l))
          rw [List.append_assoc]; rfl
        rw [← e]
        exact q2
      show OutOk g.fm kp _ (.go (L1 ((dn ++ (q0.1[n] :: q0.1.drop (n + 1))).set n r)))
      rw [e9]
      exact fun σ3 H3 own4 a4 => ⟨⟨dn ++ [r], own4, by simp [hdn], a4, q3⟩, ⟨dn ++ [r], own4, by simp [hdn], a4, q3⟩⟩
    | ex c =>
      rw [hF] at q2
      exact fun σ3 H3 own4 a4 => q2 σ3 H3 own4 a4
    | no => rw [hF] at q2; exact q2
  · have e : n = ws.length := by omega
    subst e
    refine .inl ⟨⟨ws, SqL.of ha2, Nat.le_refl _⟩, ?_⟩
    have hdl : q0.1.drop ws.length = [] := List.drop_eq_nil_of_le (by omega)
    rw [hdl] at a' q'
    obtain ⟨own5, a5⟩ := a'.reshape (i := i) (List.getElem?_set_self hlt) (s' := sP px O (q0.2 (dn ++ []))) (fun v F R ⟨x, e, hx, F2, pl, tb⟩ => by
      obtain ⟨F', r, nd, n⟩ := pl.up (R' := R false) (H' := _) (fun _ _ z => z) (fun _ _ _ => rfl) pl.rep pl.nd (fun p hp => .inl hp)
      exact ⟨F', ⟨x, e, hx, r⟩, nd, fun p hp => (n p hp).elim (pl.sub p) (·.1)⟩)
    have e2 : (L1 (dn ++ [])).set i (sP px O (q0.2 (dn ++ []))) = (L.set i2 sAny).set i (sP px O (q0.2 (dn ++ []))) := List.set_set ..
    rw [e2] at a5
    exact ⟨q0.2 (dn ++ []), kp, own5, a5, q'⟩
theorem wk_al {L : List Slot} {i i2 : Nat} {s P P' : Slot} (hij : i ≠ i2) : Wk (((L.set i2 s).set i P').set i P) ((L.set i2 sAny).set i P) := by
  have e : ((L.set i2 s).set i P').set i P = (L.set i2 s).set i P := List.set_set ..
  rw [e]
  have h := wk_set ((L.set i2 s).set i P) i2
  rwa [List.set_comm _ _ hij, List.set_set] at h
/-- for x in PLACE: x.append(c) -/
theorem evb_forA {O3 : WTy γ} {mp : M (List (List γ) × (List (List γ) → α))} {cst : γ} {h : α → M δ} {i2 j2 : Nat} {tp xp ap cp ep : Pos} (ok : OkS p sc NN VV GG k g) (hX : g.LX = List.replicate L.length sAny)
    (hp : EvP g L it i px O d (wL (wL O3)) mp) (hN2 : NN[i2]? = some x) (hV2 : VV[j2]? = some x) (hij : i ≠ i2) {s2 : Slot} (hL2 : L[i2]? = some s2) (hi : L[i]? = some (sP px O d))
    (he : ∀ L', EvN g L' e O3 (.ok cst)) (hr : ∀ d', EvB g ((L.set i2 sAny).set i (sP px O d')) st D (h d')) (hfs : ∀ v, foldedSetIterable it g.X.env v = pure v := by intro _; rfl)
    (hs : swapsWith (.Call (.Attribute (.Name x xp) "append" ap) [e] [] cp) none ep.line g.X.env = pure false := by rfl)
    (hbase : attributeBase (.Name x xp) "append" g.X.env (eval (.Name x xp) g.X.env) = eval (.Name x xp) g.X.env := by rfl)
    (hfew : ((backTo cp (starEach [e] g.X.env)).all (fun x => !x.1) && (backToKw cp (keywordEach [] g.X.env)).all (fun x => x.1.isSome)
      && decide (([e] : List Expr).length + ([] : List Keyword).length + (if ([] : List Keyword).isEmpty then 0 else 1) < 30)) = true := by rfl)
    (hline : (ap.endLine == cp.line) = true := by rfl) (hst : starEach [e] g.X.env = (false, eval e g.X.env) :: starEach [] g.X.env := by rfl) (hpl : (backTo cp (starEach [] g.X.env)).any (·.1) = false := by rfl) :
    EvB g L (.For (.Name x tp) it [.Expr (.Call (.Attribute (.Name x xp) "append" ap) [e] [] cp) ep] [] pos :: st) D (mp.bind fun q => (walkF (fun z => pushM z cst) q.1).bind fun l => M.bind (.ok (q.2 l)) h) := by
  have l2 : i2 < L.length := (List.getElem?_eq_some_iff.mp hL2).1
  have l1 : i < L.length := (List.getElem?_eq_some_iff.mp hi).1
  refine evb_forPl (FB := fun z => pushM z cst) ok hX hp hN2 hV2 hij hL2 (fun put q ws ds n v z hw hz => ?_) hr hfs
  have hL' : ((L.set i2 (sIs v)).set i (sP px (wCx O (wL O3) put q ws) ds))[i]? = some (sP px (wCx O (wL O3) put q ws) ds) := List.getElem?_set_self (by rw [List.length_set]; exact l1)
  have hL2' : ((L.set i2 (sIs v)).set i (sP px (wCx O (wL O3) put q ws) ds))[i2]? = some (sIs v) := by rw [List.getElem?_set_ne hij, List.getElem?_set_self l2]
  exact evb_qAppend (h := fun d' => .ok d') ok (by rw [hX]; have := Wk.anys (L := (L.set i2 (sIs v)).set i (sP px (wCx O (wL O3) put q ws) ds)) rfl; rwa [List.length_set, List.length_set] at this) (evp_alias ok.toOk hN2 hV2 hL' hL2' hw hz) (he _) (fun d' => evb_go rfl (wk_al hij)) hs hbase hfew hline hst hpl
end
end Hd
namespace Hd
open PySem PySem.Spec L2
/-- what holds written items: a list or a tuple -/
structure Cn where
  con : List V → HO
  T : {δ : Type} → Ar δ → Ty δ
  g : ∀ vs, gd (con vs) = true
  build : ∀ {δ : Type} {A : Ar δ} {d : δ} {R : RdR} {a : Addr} {vs : List V}, R a (con vs) → A.rep d vs R → (T A).rep d (.ref a) R
def cT : Cn := ⟨.tup, tTup, fun _ => rfl, fun h r => ⟨_, _, rfl, h, r⟩⟩
section
end
section
end
section
end
section
end
/-- an item of another kind of owning, the same data -/
inductive WRe {γ : Type} (O O' : WTy γ) : {δ : Type} → WAr δ → Nat → WAr δ → (δ → γ) → (δ → γ → δ) → Prop where
  | z {δ : Type} {A : WAr δ} : WRe O O' (waCons O A) 0 (waCons O' A) (fun d => d.1) (fun d y => (y, d.2))
  | s {β δ : Type} {P : WTy β} {A A' : WAr δ} {k : Nat} {pr : δ → γ} {st : δ → γ → δ} : WRe O O' A k A' pr st → WRe O O' (waCons P A) (k + 1) (waCons P A') (fun d => pr d.2) (fun d y => (d.1, st d.2 y))
section
variable {γ δ : Type} {O O' : WTy γ} {A A' : WAr δ} {k : Nat} {pr : δ → γ} {stt : δ → γ → δ} {H : Hp} {R : RdR}
/-- .. and another one is put there -/
theorem WRe.put (h : WRe O (wV O.T) A k A' pr stt) : ∀ {d vs G F1 x w}, A'.rep d vs H R G → G.Nodup → O.rep x w H R F1 → F1.Nodup → (∀ q ∈ F1, q ∉ G) → ∃ G', A.rep (stt d x) (vs.set k w) H R G' ∧ G'.Nodup ∧ (∀ q ∈ G', q ∈ F1 ∨ q ∈ G) ∧ k < vs.length := by
  induction h with
  | z =>
    rintro d vs G F1 x w ⟨v, r, Fa, Fb, e1, e2, h1, h2⟩ nd rx nd1 dis
    subst e1; subst e2
    have nd' := List.nodup_append.mp nd
    refine ⟨F1 ++ Fb, ⟨w, r, F1, Fb, rfl, rfl, rx, h2⟩, List.nodup_append.mpr ⟨nd1, nd'.2.1, fun q hq z hz e => dis q hq (by rw [e]; exact List.mem_append_right _ hz)⟩, fun q hq => ?_, by simp⟩
    rcases List.mem_append.mp hq with h | h
    · exact .inl h
    · exact .inr (List.mem_append_right _ h)
  | s _ ih =>
    rintro d vs G F1 x w ⟨v, r, Fa, Fb, e1, e2, h1, h2⟩ nd rx nd1 dis
    subst e1; subst e2
    have nd' := List.nodup_append.mp nd
    obtain ⟨G', g1, g2, g3, g4⟩ := ih h2 nd'.2.1 rx nd1 fun q hq hz => dis q hq (List.mem_append_right _ hz)
    refine ⟨Fa ++ G', ⟨v, _, Fa, G', rfl, rfl, h1, g1⟩, List.nodup_append.mpr ⟨nd'.1, g2, fun q hq z hz e => ?_⟩, fun q hq => ?_, by simp; omega⟩
    · subst e
      rcases g3 q hz with h | h
      · exact dis q h (List.mem_append_left _ hq)
      · exact nd'.2.2 q hq q h rfl
    · rcases List.mem_append.mp hq with h | h
      · exact .inr (List.mem_append_left _ h)
      · exact (g3 q h).imp id (List.mem_append_right _)
end
section
end
section
end
section
end
end Hd
namespace Hd
open PySem PySem.Spec L2
section
end
end Hd
namespace Hd
open PySem PySem.Spec L2
section
end
end Hd
namespace Hd
open PySem PySem.Spec L2
section
variable {fm : Fm} {kp : RdR} {L : List Slot} {σ : L2.St} {H : Hp} {own : List Addr} {i j : Nat} {s s' : Slot}
/-- a slot that owns less from here on -/
theorem At.convS (hL : L[i]? = some s) (h : At fm kp L σ H own) (c : ∀ v R F, s.ok v H R F → ∃ F', F'.Sublist F ∧ s'.ok v H R F') : ∃ own', At fm kp (L.set i s') σ H own' ∧ ∀ p ∈ own', p ∈ own := by
  obtain ⟨h1, h2, ⟨Fs, h3, e⟩, h4, h5, h6⟩ := h
  have hpw := h3.pw
  have hil := (List.getElem?_eq_some_iff.mp hL).1
  obtain ⟨v, ev⟩ : ∃ v, σ[i]? = some v := ⟨_, List.getElem?_eq_getElem (by rw [hpw.l1]; exact hil)⟩
  obtain ⟨F, eF⟩ : ∃ F, Fs[i]? = some F := ⟨_, List.getElem?_eq_getElem (by rw [hpw.l2]; exact hil)⟩
  obtain ⟨F', sb, r⟩ := c v _ F (hpw.ok i (fun z => z) _ v F hL ev eF)
  have nd := h4
  rw [e] at nd
  have kk : ∀ q ∈ (Fs.set i F').flatten, q ∈ own := fun q hq => by
    rw [e]
    rcases flat_set_mem nd eF q hq with hq | hq
    · exact flat_mem eF q (sb.subset hq)
    · exact hq.1
  exact ⟨_, ⟨h1, h2, ⟨Fs.set i F', h3.chg nd eF ev (RB.own kk) (fun _ _ _ => rfl) (s'.st r (RB.own kk) fun _ _ => rfl), rfl⟩, flat_set_nd nd eF ((flat_nd nd eF).sublist sb) (fun q hq => .inl (sb.subset hq)), fun q hq => h5 q (kk q hq), fun a o z => RX.own (md := .sh) (H := H) kk a o (h6 a o z)⟩, kk⟩
end
section
variable {p : Pr} {sc : Scope} {NN VV GG : List Str} {k : Nat} {g : G} {L L' : List Slot} {a b c e e' ix : Expr} {es : List Expr} {md md' : Md} {α β γ δ ρ τ : Type} {S : Ty α} {T : Ty β} {O : WTy α} {O2 : WTy β} {O3 : WTy γ} {A : WAr ρ} {pos pp pos' : Pos} {i j : Nat} {x y : Str} {px : V → Prop} {st : List Stmt} {D : δ → Out}
theorem evb_convS {m : M δ} {s s' : Slot} (hL : L[i]? = some s) (c : ∀ v H R F, s.ok v H R F → ∃ F', F'.Sublist F ∧ s'.ok v H R F') (hr : EvB g (L.set i s') st D m) : EvB g L st D m := PSs.imp hr fun E σ H ⟨kp, own, at_, q⟩ => by
  obtain ⟨own', a', _⟩ := at_.convS hL fun v R F => c v H R F
  exact ⟨kp, own', a', q⟩
end
end Hd
namespace Hd
open PySem PySem.Spec PyProof.Rows L2
section
variable {P : Program} {w : World} {A : Around} {E : Value → Shared → Prop} {s : Shared}
/-- a set without members -/
abbrev oSet (w : World) : Obj := { cls := .type "set", dict := none, data := .set #[] 0 (.fresh 0 0 (!w.params.followText "set-order")) }
/-- what the making of a set of ints comes to -/
def MadeI (w : World) (s : Shared) (ns : List Int) (r : Value) (t : Shared) : Prop :=
  r = .none ∧ ∃ h' tk c, t = { s with heap := h', toks := tk } ∧ SetR w h' s.heap.objs.size (fun j => decide (j ∈ ns)) c ∧ c ≤ ns.length ∧ ∀ b o, s.heap.get? b = some o → h'.get? b = some o
theorem fill_setI {l : Addr} {items : Array Value} (ns : List Int) (hh : A.handled = none) (hl : s.heap.IsList l items) (hit : IntsAre items.toList ns) (hb : ns.length + 1 < scanBound) :
    ∀ {R : Value → Shared → Prop}, (∀ r t, MadeI w s ns r t → R r t) → codeAny (model P w) A (.call (.builtin "set.__init__") ⟨[.ref s.heap.objs.size, .ref l], []⟩) (wants R E) { s with heap := s.heap.push (oSet w) } := by
  intro R hR
  have sz : items.size = ns.length := by rw [← hit.length, Array.length_toList]
  have gS : (s.heap.push (oSet w)).get? s.heap.objs.size = some (oSet w) := Heap.get?_push_size _ rfl
  have tS : Shared.TypeIs { s with heap := s.heap.push (oSet w) } (.ref s.heap.objs.size) "set" := ⟨_, gS, rfl⟩
  refine codeAny_call_builtin F.called_set.init.plain F.entry_set_init (check_set_init_1 tS ?_)
  have lt : l < s.heap.objs.size := by obtain ⟨o, ho, _⟩ := hl; exact Heap.lt_size ho
  have l1 : (s.heap.push (oSet w)).IsList l items := hl.push _
  obtain ⟨⟨cl, di, da, sl⟩, ho, hc, nl, hd⟩ := hl
  simp only at hc hd
  subst hc
  subst hd
  have ho1 : (s.heap.push (oSet w)).get? l = some { cls := .type "list", dict := di, data := .seq items nl, slots := sl } := Heap.get?_push_of_some _ ho
  have n1 := F.sub_list_set
  have n2 := F.sub_list_frozenset
  have n3 : (Value.type "list" == Value.type "dict") = false := by decide
  unfold Builtin.«set.__init__»
  unfold noKeywords Builtin.Frozenset.updateFrom
  generalize hI : pyIter = PI; wp_walk; subst hI
  refine wpAny_pyIter_list l1 (wpAny_bind (wpAny_runValue ?_))
  have h3 : A.in1.in1.handled = none := by simp [hh]
  have sz1 : (s.heap.push (oSet w)).objs.size = s.heap.objs.size + 1 := Heap.size_push ..
  have ne : l ≠ (s.heap.push (oSet w)).objs.size := fun e => absurd lt (by rw [e, sz1]; exact Nat.not_lt.mpr (Nat.le_succ _))
  have nf : s.heap.objs.size ∉ [(s.heap.push (oSet w)).objs.size, l] := by
    simp only [List.mem_cons, List.not_mem_nil, or_false, not_or]
    exact ⟨fun e => absurd (e.trans sz1) (Nat.ne_of_lt (Nat.lt_succ_self _)), fun e => absurd lt (by rw [← e]; exact Nat.lt_irrefl _)⟩
  have gI : ((s.heap.push (oSet w)).push { cls := .type "list_iterator", data := .fields #[.ref l, .int 0 0] }).get? s.heap.objs.size = some (oSet w) := Heap.get?_push_of_some _ gS
  refine set_update_ints ((Walks.list h3 _ l ne items).toS) s.heap.objs.size nf ns sz hb (fun i v hv => ?_) (items.size - 0) 0 _ (by omega) (Nat.zero_le _) ?_ ?_ fun t c hm hc ht => ?_
  · have hi : i < ns.length := by rw [← sz]; exact (Array.getElem?_eq_some_iff.mp hv).1
    obtain ⟨tk, e⟩ := hit.int_at i v (by rw [Array.getElem?_toList]; exact hv)
    exact ⟨ns[i], tk, List.getElem?_eq_getElem hi, by rw [e, List.getD_eq_getElem?_getD, List.getElem?_eq_getElem hi] <;> rfl⟩
  · exact ⟨⟨_, Heap.get?_push_size _ rfl, rfl, rfl⟩, l1.push _⟩
  · exact ⟨0, Nat.le_refl 0, setR_new_at gI⟩
  · have e : t = { s with heap := t.heap, toks := t.toks } := by
      have g1 := hm.gens
      have g2 := hm.drawn
      have g3 := hm.os
      cases t
      simp only at g1 g2 g3
      subst g1 g2 g3
      rfl
    refine wpAny_pure (wpAny_pure (hR _ _ ⟨rfl, t.heap, t.toks, c, e, ht, by omega, fun b o hb => ?_⟩))
    have := Heap.lt_size hb
    refine hm.heap b o ?_ (Heap.get?_push_of_some _ (Heap.get?_push_of_some _ hb))
    simp only [List.mem_cons, List.not_mem_nil, or_false, not_or]
    exact ⟨fun e => absurd this (by rw [e]; exact Nat.lt_irrefl _), fun e => absurd this (by rw [e]; exact Nat.not_lt.mpr (by rw [sz1]; exact Nat.le_succ _))⟩
/-- what is asked of a new set of these ints -/
def NewI (w : World) (s : Shared) (ns : List Int) (Q : Value → Shared → Prop) : Prop :=
  ∀ {g : Heap} {m c : Nat}, SetR w g s.heap.objs.size (fun z => decide (z ∈ ns)) c → c ≤ ns.length → (∀ b o, s.heap.get? b = some o → g.get? b = some o) → Q (.ref s.heap.objs.size) { s with heap := g, toks := m }
/-- set(xs), xs a list of ints: the road is the library's for a tuple of ints -/
theorem make_setI {l : Addr} {items : Array Value} (ns : List Int) {Q : Value → Shared → Prop} (hh : A.handled = none) (hl : s.heap.IsList l items) (hit : IntsAre items.toList ns) (hb : ns.length + 1 < scanBound) (hQ : NewI w s ns Q) : wpAny (model P w) A (call (Value.type "set") [Value.ref l]) Q E s := by
  obtain ⟨cl, tl, hmro⟩ := F.called_set.mro
  have q1 := F.called_set.made
  have q2 := F.called_set.sub
  have q3 := F.called_set.notType
  have q4 := F.called_set.canCreate
  have q5 := F.typeCall_set_1 (.ref l)
  have q6 := F.called_set.init.lookup
  have q7 := F.called_set.init.bind (.ref s.heap.objs.size)
  have tS : Shared.TypeIs { s with heap := s.heap.push (oSet w) } (.ref s.heap.objs.size) "set" := ⟨_, Heap.get?_push_size _ rfl, rfl⟩
  refine wpAny_call (codeAny_of_tree (show wpAny _ _ (callAny (Value.type "set") _) _ _ _ from ?_))
  refine wpAny_pure ⟨Code.quiet_builtin _ (by decide +kernel), ?_⟩
  refine codeAny_builtin F.entry_type_call ?_
  rw [(Around.under_plain (weight_type_call_type "set" [Value.ref l] []) rfl)]
  repeat any_goals (first | assumption | wp_step)
  refine codeAny_mono (code_set_led1 (.ref l) (E := E) (Q₁ := fun r t => r = .ref s.heap.objs.size ∧ t = { s with heap := s.heap.push (oSet w) }) ⟨rfl, rfl⟩) fun r t hr => ?_
  match r, hr with
  | .error e, hr => exact hr
  | .ok (.ret v), ⟨e1, e2⟩ =>
    subst e1 e2
    repeat any_goals (first | assumption | wp_step)
    refine codeAny_mono (fill_setI ns (by simp [hh]) hl hit hb (E := E) (R := MadeI w s ns) fun r t m => m) fun r2 t2 hr2 => ?_
    match r2, hr2 with
    | .error e, hr2 => exact hr2
    | .ok (.ret v2), ⟨e1, h', tk, c, e2, z1, z2, z3⟩ =>
      subst e1 e2
      repeat any_goals (first | assumption | wp_step)
      exact hQ z1 z2 z3
end
section
variable {X : Cx}
def rSetOfI (K : PySem.W.Frag) (w : World) : List V → Hp → VK → Prop := fun xs H Q => ∃ (l : Addr) (ns : List Int), xs = [V.ref l] ∧ SqL K H l (ns.map V.int) ∧ ns.length ≤ 1000 ∧ ∀ a c, H a = none → c ≤ ns.length → Q (.ref a) (upd H a (SetO w a (fun j => decide (j ∈ ns)) c))
theorem cr_setOfI (hc : X.calm = true) : CallR X (.type "set") (rSetOfI X.K X.w) := by
  intro pins s σ H xs us Q I r h
  obtain ⟨l, ns, rfl, hl, hn, q⟩ := h
  rw [Vals.ref1 r]
  obtain ⟨its, rv, pl, hz⟩ := I.list hl
  refine make_setI ns (I.ok.hd hc) pl.isList (by simpa using rv.ints) (by unfold scanBound; omega) fun {h' tk c} R hcn k => ?_
  exact ⟨.ref s.heap.objs.size, upd H s.heap.objs.size (SetO X.w s.heap.objs.size (fun j => decide (j ∈ ns)) c), I.laid (t' := tk) k (Nat.le_refl _) (setO_new R), rfl, q _ c (I.hok.fresh (Nat.le_refl _)) hcn⟩
end
end Hd
namespace Hd
open PySem PySem.Spec PyProof.Rows L2
structure Slt {α : Type} (lt : α → α → Bool) : Prop where
  irr : ∀ a, lt a a = false
  tr : ∀ {a b c}, lt a b = true → lt b c = true → lt a c = true
  tri : ∀ {a b}, lt a b = false → lt b a = false → a = b
def insS {α : Type} (lt : α → α → Bool) (x : α) : List α → List α
  | [] => [x]
  | y :: r => if lt x y = true then x :: y :: r else if lt y x = true then y :: insS lt x r else y :: r
def srtS {α : Type} (lt : α → α → Bool) : List α → List α
  | [] => []
  | x :: r => insS lt x (srtS lt r)
section
variable {α : Type} {lt : α → α → Bool} (h : Slt lt)
include h
theorem insS_mem {x k : α} : ∀ {l : List α}, k ∈ insS lt x l ↔ k = x ∨ k ∈ l
  | [] => by simp [insS]
  | y :: r => by
    unfold insS
    cases e1 : lt x y with
    | true => rw [if_pos rfl]; simp
    | false =>
      rw [if_neg (by simp)]
      cases e2 : lt y x with
      | true => rw [if_pos rfl, List.mem_cons, insS_mem, List.mem_cons]; constructor <;> (rintro (a | a | a) <;> simp [a])
      | false =>
        rw [if_neg (by simp), List.mem_cons, h.tri e1 e2]
        constructor
        · rintro (a | a) <;> simp [a]
        · rintro (a | a | a) <;> simp [a]
theorem insS_pw {x : α} : ∀ {l : List α}, l.Pairwise (fun a b => lt a b = true) → (insS lt x l).Pairwise (fun a b => lt a b = true)
  | [], _ => by simp [insS]
  | y :: r, p => by
    obtain ⟨p1, p2⟩ := List.pairwise_cons.mp p
    unfold insS
    cases e1 : lt x y with
    | true =>
      rw [if_pos rfl]
      refine List.pairwise_cons.mpr ⟨fun z hz => ?_, p⟩
      rcases List.mem_cons.mp hz with e | hz
      · subst e; exact e1
      · exact h.tr e1 (p1 z hz)
    | false =>
      rw [if_neg (by simp)]
      cases e2 : lt y x with
      | true =>
        rw [if_pos rfl]
        refine List.pairwise_cons.mpr ⟨fun z hz => ?_, insS_pw p2⟩
        rcases (insS_mem h).mp hz with e | hz
        · subst e; exact e2
        · exact p1 z hz
      | false => rw [if_neg (by simp)]; exact p
theorem srtS_mem {k : α} : ∀ {l : List α}, k ∈ srtS lt l ↔ k ∈ l
  | [] => by simp [srtS]
  | x :: r => by rw [srtS, insS_mem h, srtS_mem, List.mem_cons]
theorem srtS_pw : ∀ {l : List α}, (srtS lt l).Pairwise (fun a b => lt a b = true)
  | [] => .nil
  | x :: r => insS_pw h srtS_pw
theorem srt_uniq : ∀ {l m : List α}, l.Pairwise (fun a b => lt a b = true) → m.Pairwise (fun a b => lt a b = true) → (∀ k, k ∈ l ↔ k ∈ m) → l = m
  | [], [], _, _, _ => rfl
  | [], y :: m, _, _, e => absurd ((e y).mpr List.mem_cons_self) (by simp)
  | x :: l, [], _, _, e => absurd ((e x).mp List.mem_cons_self) (by simp)
  | x :: l, y :: m, p1, p2, e => by
    obtain ⟨a1, a2⟩ := List.pairwise_cons.mp p1
    obtain ⟨b1, b2⟩ := List.pairwise_cons.mp p2
    have no : ∀ {a b : α}, lt a b = true → lt b a = true → False := fun u v => by
      have := h.tr u v
      rw [h.irr] at this; cases this
    have exy : x = y := by
      rcases List.mem_cons.mp ((e x).mp List.mem_cons_self) with z | z
      · exact z
      · rcases List.mem_cons.mp ((e y).mpr List.mem_cons_self) with w | w
        · exact w.symm
        · exact (no (a1 y w) (b1 x z)).elim
    subst exy
    rw [srt_uniq a2 b2 fun k => ?_]
    constructor
    · intro hk
      rcases List.mem_cons.mp ((e k).mp (List.mem_cons_of_mem _ hk)) with z | z
      · subst z
        have := a1 k hk
        rw [h.irr] at this; cases this
      · exact z
    · intro hk
      rcases List.mem_cons.mp ((e k).mpr (List.mem_cons_of_mem _ hk)) with z | z
      · subst z
        have := b1 k hk
        rw [h.irr] at this; cases this
      · exact z
end
def ltI (a b : Int) : Bool := decide (a < b)
theorem slt_I : Slt ltI := ⟨fun a => by simp [ltI], fun {a b c} h1 h2 => by simp only [ltI, decide_eq_true_eq] at *; omega, fun {a b} h1 h2 => by simp only [ltI, decide_eq_false_iff_not] at *; omega⟩
abbrev PrI := Int × Int × Unit
def ltP (a b : PrI) : Bool := decide (a.1 < b.1 ∨ (a.1 = b.1 ∧ a.2.1 < b.2.1))
theorem slt_P : Slt ltP := ⟨fun a => by simp [ltP], fun {a b c} h1 h2 => by simp only [ltP, decide_eq_true_eq] at *; omega, fun {a b} h1 h2 => by
  simp only [ltP, decide_eq_false_iff_not] at *
  obtain ⟨a1, a2, a3⟩ := a
  obtain ⟨b1, b2, b3⟩ := b
  dsimp only at h1 h2
  have e1 : a1 = b1 := by omega
  subst e1
  have e2 : a2 = b2 := by
    rcases Int.lt_trichotomy a2 b2 with z | z | z
    · exact absurd (.inr ⟨rfl, z⟩) h1
    · exact z
    · exact absurd (.inr ⟨rfl, z⟩) h2
  subst e2
  rfl⟩
def setSortI (xs : List Int) : M (List Int) := if xs.length < 64 then .ok (srtS ltI xs) else .no
def setSortP (xs : List PrI) : M (List PrI) := if xs.length < 64 ∧ xs.all (fun d => decide (0 ≤ d.1 ∧ d.1 < 64 ∧ 0 ≤ d.2.1 ∧ d.2.1 < 64)) = true then .ok (srtS ltP xs) else .no
section
variable {p : Pr} {sc : Scope} {NN VV GG : List Str} {k : Nat} {g : G} {L : List Slot} {α β δ : Type} {S : Ty α} {md md' : Md} {pos pp pp2 pos2 : Pos} {i j j2 : Nat} {x : Str} {a e : Expr}
theorem evl_setSortI {m : M (List Int)} (ok : Ok p sc NN VV GG k g) (calm : g.X.calm = true) (hG : GG[j]? = some "sorted") (hmg : p.mg "sorted" = none) (hG2 : GG[j2]? = some "set") (hmg2 : p.mg "set" = none) (ha : EvE g L a md (tList tInt) m)
    (hs : starEach [a] g.X.env = (false, eval a g.X.env) :: starEach [] g.X.env := by rfl) (hs2 : starEach [.Call (.Name "set" pp2) [a] [] pos2] g.X.env = (false, eval (.Call (.Name "set" pp2) [a] [] pos2) g.X.env) :: starEach [] g.X.env := by rfl) :
    EvL g L (.Call (.Name "sorted" pp) [.Call (.Name "set" pp2) [a] [] pos2] [] pos) md' tInt (m.bind fun xs => setSortI xs) := by
  obtain ⟨hg, ho⟩ := ok.gl hG
  obtain ⟨h1, _, h3⟩ := okName_d ho
  obtain ⟨hg2, ho2⟩ := ok.gl hG2
  obtain ⟨h12, _, h32⟩ := okName_d ho2
  refine PE.imp (pe_callB (cr_sortedSet calm) hg (by rw [ok.mg]; exact hmg) (by decide +kernel) (pa_cons (pe_callTy (cr_setOfI calm) hg2 (by rw [ok.mg]; exact hmg2) (by decide +kernel) (eva_cons ha eva_nil hs) h32 h12 hs rfl) pa_nil hs2) h3 h1 hs2 rfl) fun σ H W q => ?_
  obtain ⟨kp, own, at_, q⟩ := tL_iff.mp q
  refine tA_iff.mpr ⟨kp, own, at_, ?_⟩
  cases m with
  | ok d =>
    rintro vs H1 s1 ⟨v, r, rfl, ⟨a', ws, rfl, hR, rr⟩, e3⟩
    cases (show r = [] from e3)
    have q : FinL g.fm g.W own σ H md' tInt W (setSortI d) := q
    unfold setSortI at q
    split at q
    · rename_i hn
      refine ⟨a', d, rfl, by rw [← rr.ints, ok.K, ← ok.fmK]; exact RX.list hR, by omega, fun z c hz hc => ⟨z, _, c, rfl, upd_same, by omega, fun ns z2 hpw hm hl hz2 => ?_⟩⟩
      have e : ns = srtS ltI d := srt_uniq slt_I (hpw.imp fun h => decide_eq_true h) (srtS_pw slt_I) fun k => by rw [hm k, srtS_mem slt_I, decide_eq_true_iff]
      subst e
      have hz1 : H1 z2 = none := by
        by_cases ez : z2 = z
        · subst ez; exact hz
        · rwa [upd_ne ez] at hz2
      exact q z2 _ _ ((s1.trans (newSame hz)).trans (newSame hz2)) (s1.free hz1) upd_same (reps_ints _)
    · exact q.elim
  | ex c => exact q
  | no => exact q
theorem repsQ_of {γ : Type} {R : RdR} {f : γ → α} {v : γ → V} : ∀ {l : List γ}, (∀ q ∈ l, S.rep (f q) (v q) R) → Reps S R (l.map f) (l.map v)
  | [], _ => .nil
  | y :: r, h => .cons (h y List.mem_cons_self) (repsQ_of fun q hq => h q (List.mem_cons_of_mem _ hq))
/-- the pairs of a list, each with its address -/
theorem pairs_at {own : List Addr} {H H1 : Hp} {md : Md} : ∀ {ds : List PrI} {ws : List V}, Reps (tTup (aCons tInt (aCons tInt aNil))) (RX g.fm own H H1 md) ds ws →
    ∃ ks : List (Addr × List Int), ws = ks.map (fun p => V.ref p.1) ∧ ks.map (·.2) = ds.map (fun d => [d.1, d.2.1]) ∧ ∀ q ∈ ks, SqT g.fm.K H1 q.1 (q.2.map V.int) ∧ ∃ d : PrI, q.2 = [d.1, d.2.1] ∧ RX g.fm own H H1 md q.1 (.tup [.int d.1, .int d.2.1])
  | _, _, .nil => ⟨[], rfl, rfl, fun _ h => nomatch h⟩
  | _, _, .cons (d := d) ⟨a, vs, e, h, r⟩ t => by
    obtain ⟨ks, e1, e2, e3⟩ := pairs_at t
    obtain ⟨v1, r1, rfl, x1, ⟨v2, r2, rfl, x2, e5⟩⟩ := r
    cases (show v1 = .int d.1 from x1)
    cases (show v2 = .int d.2.1 from x2)
    cases (show r2 = [] from e5)
    refine ⟨(a, [d.1, d.2.1]) :: ks, by rw [e, e1]; rfl, by rw [List.map_cons, e2]; rfl, fun q hq => ?_⟩
    rcases List.mem_cons.mp hq with z | hq
    · subst z; exact ⟨h.tup, d, rfl, h⟩
    · exact e3 q hq
theorem evl_setSortP {m : M (List PrI)} (ok : Ok p sc NN VV GG k g) (calm : g.X.calm = true) (hG : GG[j]? = some "sorted") (hmg : p.mg "sorted" = none) (hG2 : GG[j2]? = some "set") (hmg2 : p.mg "set" = none) (ha : EvE g L a md (tList (tTup (aCons tInt (aCons tInt aNil)))) m)
    (hs : starEach [a] g.X.env = (false, eval a g.X.env) :: starEach [] g.X.env := by rfl) (hs2 : starEach [.Call (.Name "set" pp2) [a] [] pos2] g.X.env = (false, eval (.Call (.Name "set" pp2) [a] [] pos2) g.X.env) :: starEach [] g.X.env := by rfl) :
    EvL g L (.Call (.Name "sorted" pp) [.Call (.Name "set" pp2) [a] [] pos2] [] pos) md (tTup (aCons tInt (aCons tInt aNil))) (m.bind fun xs => setSortP xs) := by
  obtain ⟨hg, ho⟩ := ok.gl hG
  obtain ⟨h1, _, h3⟩ := okName_d ho
  obtain ⟨hg2, ho2⟩ := ok.gl hG2
  obtain ⟨h12, _, h32⟩ := okName_d ho2
  refine PE.imp (pe_callB (cr_sortedT calm) hg (by rw [ok.mg]; exact hmg) (by decide +kernel) (pa_cons (pe_callTy (cr_setOfT calm ok.room.units) hg2 (by rw [ok.mg]; exact hmg2) (by decide +kernel) (eva_cons ha eva_nil hs) h32 h12 hs rfl) pa_nil hs2) h3 h1 hs2 rfl) fun σ H W q => ?_
  obtain ⟨kp, own, at_, q⟩ := tL_iff.mp q
  refine tA_iff.mpr ⟨kp, own, at_, ?_⟩
  cases m with
  | ok d =>
    rintro vs H1 s1 ⟨v, r, rfl, ⟨a', ws, rfl, hR, rr⟩, e3⟩
    cases (show r = [] from e3)
    have q : FinL g.fm g.W own σ H md (tTup (aCons tInt (aCons tInt aNil))) W (setSortP d) := q
    obtain ⟨ks, k1, k2, k3⟩ := pairs_at rr
    unfold setSortP at q
    split at q
    · rename_i hn
      obtain ⟨hn, hbd⟩ := hn
      have hkl : ks.length = d.length := by
        have := congrArg List.length k2
        rwa [List.length_map, List.length_map] at this
      have hd : ∀ q ∈ ks, ∃ x ∈ d, q.2 = [x.1, x.2.1] := fun q hq => by
        have : q.2 ∈ ks.map (·.2) := List.mem_map_of_mem hq
        rw [k2] at this
        obtain ⟨x, hx, e⟩ := List.mem_map.mp this
        exact ⟨x, hx, e.symm⟩
      have bd : ∀ x ∈ d, 0 ≤ x.1 ∧ x.1 < 64 ∧ 0 ≤ x.2.1 ∧ x.2.1 < 64 := fun x hx => by simpa using List.all_eq_true.mp hbd x hx
      refine ⟨a', ks, rfl, by rw [← k1, ok.K, ← ok.fmK]; exact RX.list hR, fun q hq => by rw [ok.K, ← ok.fmK]; exact (k3 q hq).1, by omega, fun z L hz hL hL2 => ⟨z, L, 2, 64, rfl, upd_same, fun q hq => ?_, by decide, fun q hq => ?_, fun L' z2 pm nd hl pw hz2 => ?_⟩⟩
      · rw [ok.K, ← ok.fmK]
        obtain ⟨_, x, ex, hx⟩ := k3 q (hL q hq)
        rw [ex]
        exact (RX.same (newSame hz) _ _ hx).tup
      · obtain ⟨x, hx, e⟩ := hd q (hL q hq)
        have := bd x hx
        rw [e]
        refine ⟨rfl, fun y hy => ?_⟩
        simp only [List.mem_cons, List.not_mem_nil, or_false] at hy
        rcases hy with rfl | rfl <;> omega
      · have hz1 : H1 z2 = none := by
          by_cases ez : z2 = z
          · subst ez; exact hz
          · rwa [upd_ne ez] at hz2
        have hb : ∀ q ∈ L', ∃ x ∈ d, q.2 = [x.1, x.2.1] := fun q hq => hd q (hL q (pm.subset hq))
        have e : L'.map (fun q => ((q.2.getD 0 0, q.2.getD 1 0, ()) : PrI)) = srtS ltP d := by
          refine srt_uniq slt_P ?_ (srtS_pw slt_P) fun y => ?_
          · rw [List.pairwise_map]
            have nd2 : L'.Pairwise fun q r => q.2 ≠ r.2 := List.pairwise_map.mp nd
            refine (pw.and nd2).imp_of_mem fun {q r} hq hr ⟨w1, w2⟩ => ?_
            obtain ⟨x, hx, ex⟩ := hb q hq
            obtain ⟨y, hy, ey⟩ := hb r hr
            have b1 := bd x hx
            have b2 := bd y hy
            rw [ex, ey] at w1 w2
            have := pair_lt w1 w2 ⟨b1.1, b1.2.1⟩ b1.2.2 ⟨b2.1, b2.2.1⟩ b2.2.2
            rw [ex, ey]
            exact decide_eq_true this
          · rw [srtS_mem slt_P, List.mem_map]
            constructor
            · rintro ⟨q, hq, rfl⟩
              obtain ⟨x, hx, ex⟩ := hb q hq
              rw [ex]; exact hx
            · intro hy
              have h4 : [y.1, y.2.1] ∈ ks.map (·.2) := by rw [k2]; exact List.mem_map.mpr ⟨y, hy, rfl⟩
              obtain ⟨q, hq, eq⟩ := List.mem_map.mp h4
              obtain ⟨q', hq', eq'⟩ := List.mem_map.mp (hL2 q hq)
              refine ⟨q', pm.symm.subset hq', ?_⟩
              rw [eq', eq]; rfl
        rw [← e] at q
        refine q z2 _ _ ((s1.trans (newSame hz)).trans (newSame hz2)) (s1.free hz1) upd_same ?_
        refine (repsQ_of (f := fun q : Addr × List Int => ((q.2.getD 0 0, q.2.getD 1 0, ()) : PrI)) (v := fun q => V.ref q.1) fun q hq => ?_).mono (RX.add hz2)
        obtain ⟨_, x, ex, hx⟩ := k3 q (hL q (pm.subset hq))
        rw [ex]
        exact ⟨q.1, _, rfl, RX.same (newSame hz) _ _ hx, .int x.1, _, rfl, rfl, .int x.2.1, [], rfl, rfl, rfl⟩
    · exact q.elim
  | ex c => exact q
  | no => exact q
end
end Hd
namespace Hd
open PySem PySem.Spec L2
section
variable {p : Pr} {sc : Scope} {NN VV GG : List Str} {k : Nat} {g : G} {L L' : List Slot} {a b c e e' ix : Expr} {es : List Expr} {md md' : Md} {α β γ δ ρ τ ε ζ : Type} {S : Ty α} {T : Ty β} {U : Ty γ} {O : WTy α} {O2 : WTy β} {O3 : WTy γ} {A : WAr ρ} {pos pp pos' : Pos} {i j : Nat} {x y : Str} {px : V → Prop} {st : List Stmt} {D : δ → Out}
theorem evr_cat {A1 : WAr δ} {A2 : WAr ε} {A3 : WAr ζ} {f : δ → ε → ζ} {m : M ε} {d : δ} (ok : Ok p sc NN VV GG k g) (hcat : ∀ {d vs H} {R : RdR} {F e ws G}, A1.rep d vs H R F → A2.rep e ws H R G → A3.rep (f d e) (vs ++ ws) H R (F ++ G)) (hl : ∀ d vs H R F, A3.rep d vs H R F → vs.length ≤ 1000)
    (hN : NN[i]? = some x) (hV : VV[j]? = some x) (hL : L[i]? = some (sP px (wHl A1) d)) (hb : EvN g L b (wHl A2) m) : EvR g L [i] (.BinOp (.Name x pp) .Add b pos) (wHl A3) (m.bind fun e => .ok (f d e)) := by
  obtain ⟨hv, ho⟩ := ok.vis hV
  obtain ⟨h1, h2, _⟩ := okName_d ho
  refine PE.imp (pe_op op_catR (pe_var (i := i) (by rw [ok.N]; exact hN) hv h1 h2) hb) fun σ H Q ⟨kp, own, Fs, at_, hsl, heo, q⟩ => ?_
  obtain ⟨v0, F, e1, e2, v, rfl, hx, p1, vs, G1, e3, e4, hp1, r1⟩ := hsl.get hL
  subst e3
  refine ⟨_, e1, kp, own, at_, ?_⟩
  have nd := at_.nd
  rw [heo] at nd
  have ndF := flat_nd nd e2
  rw [e4, List.nodup_cons] at ndF
  have sub1 : ∀ q ∈ G1, q ∈ own := fun q hq => by rw [heo]; exact flat_mem e2 q (by rw [e4]; exact List.mem_cons_of_mem _ hq)
  cases m with
  | ok e =>
    intro w F2 H1 s1 nd2 n2 ⟨p2, ws, G2, e5, e6, hp2, r2⟩
    subst e5
    rw [e6, List.nodup_cons] at nd2
    have hk : ∀ y ∈ Fs.flatten, H1 y = H y := hsl.hk (fm := g.fm) (own := own) s1
    have kk : ∀ y ∈ G1, H1 y = H y := fun y hy => hk y (by rw [← heo]; exact sub1 y hy)
    have n2' : ∀ y ∈ G2, H y = none := fun y hy => n2 y (by rw [e6]; exact List.mem_cons_of_mem _ hy)
    have free : ∀ q : Addr, q ∈ own → H q ≠ none := fun q hq => (at_.new q hq).1
    have dj : ∀ y ∈ G1, y ∉ G2 := fun y h1 h2 => free y (sub1 y h1) (n2' y h2)
    have q : ∀ v F H', Same H H' → F.Nodup → (∀ p ∈ F, H p = none ∨ Mv Fs [i] p) → (wHl A3).rep (f d e) v H' (RD g.fm (F ++ own) H') F → Q v H' := q
    have tb2 : ∀ y ∈ G2, ∃ o, H1 y = some o ∧ gd o = true := fun y hy => A2.tb r2 y hy
    have tb1 : ∀ y ∈ G1, ∃ o, H1 y = some o ∧ gd o = true := fun y hy => by
      obtain ⟨o, ho, go⟩ := A1.tb r1 y hy
      exact ⟨o, by rw [kk y hy]; exact ho, go⟩
    have r1' : A1.rep d vs H1 (RD g.fm ((G1 ++ G2) ++ own) H1) G1 := A1.st r1 (RD.more s1 fun y hy => by
      rcases List.mem_append.mp hy with hy | hy
      · rcases List.mem_append.mp hy with hy | hy
        · exact .inl (sub1 y hy)
        · exact .inr (n2' y hy)
      · exact .inl hy) kk
    have r2' : A2.rep e ws H1 (RD g.fm ((G1 ++ G2) ++ own) H1) G2 := A2.st r2 (RD.drop fun y hy => by
      rw [e6]
      rcases List.mem_append.mp hy with hy | hy
      · rcases List.mem_append.mp hy with hy | hy
        · exact List.mem_append_right _ (sub1 y hy)
        · exact List.mem_append_left _ (List.mem_cons_of_mem _ hy)
      · exact List.mem_append_right _ hy) fun _ _ => rfl
    have r3 := hcat r1' r2'
    refine ⟨p1, p2, vs, ws, rfl, rfl, .inl (by rw [hk p1 (by rw [← heo, heo]; exact flat_mem e2 p1 (by rw [e4]; exact List.mem_cons_self))]; exact hp1), .inl hp2, Nat.le_trans (by rw [← List.length_append]; exact hl _ _ _ _ _ r3) (by decide), fun z hz => ?_⟩
    refine q (.ref z) (z :: (G1 ++ G2)) _ (s1.trans (newSame hz)) (List.nodup_cons.mpr ⟨fun h => ?_, List.nodup_append.mpr ⟨ndF.2, nd2.2, fun a ha b hb e => dj a ha (by rw [e]; exact hb)⟩⟩) (fun y hy => ?_) ⟨z, vs ++ ws, G1 ++ G2, rfl, rfl, upd_same, A3.st r3 (RD.more (newSame hz) fun y hy => ?_) fun y hy => ?_⟩
    · rcases List.mem_append.mp h with h | h
      · obtain ⟨o, ho, _⟩ := tb1 z h
        rw [hz] at ho; cases ho
      · obtain ⟨o, ho, _⟩ := tb2 z h
        rw [hz] at ho; cases ho
    · rcases List.mem_cons.mp hy with e | hy
      · rw [e]; exact .inl (s1.free hz)
      · rcases List.mem_append.mp hy with hy | hy
        · exact .inr ⟨i, List.mem_singleton_self _, F, e2, by rw [e4]; exact List.mem_cons_of_mem _ hy⟩
        · exact .inl (n2' y hy)
    · rcases List.mem_cons.mp hy with e | hy
      · rw [e]; exact .inr hz
      · exact .inl hy
    · have : ∃ o, H1 y = some o ∧ gd o = true := (List.mem_append.mp hy).elim (tb1 y) (tb2 y)
      obtain ⟨o, ho, _⟩ := this
      exact upd_ne (ne_of_none ho hz)
  | ex c => exact q
  | no => exact q
/-- [a, b] + [c] -/
theorem evr_cat3 {m : M (γ × Unit)} {d : α × β × Unit} (ok : Ok p sc NN VV GG k g) (hN : NN[i]? = some x) (hV : VV[j]? = some x) (hL : L[i]? = some (sP px (wHl (waCons O (waCons O2 waNil))) d)) (hb : EvN g L b (wHl (waCons O3 waNil)) m) :
    EvR g L [i] (.BinOp (.Name x pp) .Add b pos) (wHl (waCons O (waCons O2 (waCons O3 waNil)))) (m.bind fun e => .ok (d.1, d.2.1, e.1, ())) :=
  evr_cat (A1 := waCons O (waCons O2 waNil)) (A2 := waCons O3 waNil) (A3 := waCons O (waCons O2 (waCons O3 waNil))) (f := fun (d : α × β × Unit) (e : γ × Unit) => (d.1, d.2.1, e.1, ())) ok (fun ⟨v1, r1, F1, F2, e1, e2, h1, v2, r2, F3, F4, e3, e4, h2, e5, e6⟩ ⟨v3, r3, F5, F6, e7, e8, h3, e9, e10⟩ => by
    subst e1 e2 e3 e4 e5 e6 e7 e8 e9 e10
    exact ⟨v1, [v2, v3], F1, F3 ++ F5, rfl, by simp, h1, v2, [v3], F3, F5, rfl, rfl, h2, v3, [], F5, [], rfl, by simp, h3, rfl, rfl⟩) (fun d vs H R F ⟨v1, r1, F1, F2, e1, e2, h1, v2, r2, F3, F4, e3, e4, h2, v3, r3, F5, F6, e7, e8, h3, e9, e10⟩ => by
    subst e1 e3 e7 e9
    simp) hN hV hL hb
theorem junk_items {H : Hp} {R R' : RdR} : ∀ {ds : List α} {vs : List V} {Fs : List (List Addr)}, RepsO O H R ds vs Fs → RepsO (wV tAny) H R' (ds.map fun _ => ()) vs (Fs.map fun _ => []) ∧ (Fs.map fun _ : List Addr => ([] : List Addr)).flatten = []
  | _, _, _, .nil => ⟨.nil, rfl⟩
  | _, _, _, .cons r t => by
    obtain ⟨x, y⟩ := junk_items (R' := R') t
    exact ⟨.cons ⟨rfl, trivial⟩ x, by rw [List.map_cons, List.flatten_cons, y]; rfl⟩
theorem junk_part {H : Hp} {R : RdR} {ds : List α} {v : V} {F : List Addr} (h : (wL O).rep ds v H R F) : ∃ F', F'.Sublist F ∧ (wL (wV tAny)).rep (ds.map fun _ => ()) v H R F' := by
  obtain ⟨a, ws, Fs, e1, e2, hp, rr⟩ := h
  obtain ⟨x, y⟩ := junk_items (R' := R) rr
  refine ⟨[a], by rw [e2]; simp, a, ws, _, e1, by rw [y], hp, x⟩
/-- three lists of one's own: from here on a list of lists -/
theorem evb_junk3 {m : M δ} {d : List α × List β × List γ × Unit} (hL : L[i]? = some (sP px (wHl (waCons (wL O) (waCons (wL O2) (waCons (wL O3) waNil)))) d)) (hr : EvB g (L.set i (sP px (wL (wL (wV tAny))) [d.1.map fun _ => (), d.2.1.map fun _ => (), d.2.2.1.map fun _ => ()])) st D m) : EvB g L st D m := by
  refine evb_convS hL (fun v H R F ⟨x, e0, hx, p1, vs, G, e1, e2, hp, v1, r1, F1, G1, e3, e4, h1, v2, r2, F2, G2, e5, e6, h2, v3, r3, F3, G3, e7, e8, h3, e9, e10⟩ => ?_) hr
  subst e3 e4 e5 e6 e7 e8 e9 e10
  obtain ⟨J1, s1, j1⟩ := junk_part h1
  obtain ⟨J2, s2, j2⟩ := junk_part h2
  obtain ⟨J3, s3, j3⟩ := junk_part h3
  refine ⟨p1 :: [J1, J2, J3].flatten, ?_, x, e0, hx, p1, _, [J1, J2, J3], e1, rfl, hp, .cons j1 (.cons j2 (.cons j3 .nil))⟩
  rw [e2]
  refine List.Sublist.cons₂ _ ?_
  simp only [List.flatten_cons, List.flatten_nil, List.append_nil]
  exact s1.append (s2.append s3)
theorem evn_any {m : M β} (h : EvE g L e .sh T m) : EvN g L e (wV tAny) (m.bind fun _ => .ok ()) := evn_v (ev_as (T := tAny) (d2 := fun _ => ()) (fun _ _ _ _ => trivial) h)
end
end Hd
namespace Hd
open PySem PySem.Spec L2
def Okm {α : Type} (m : M α) (P : α → Prop) : Prop := ∃ a, m = .ok a ∧ P a
section
variable {α β γ ρ : Type} {m : M α} {f : α → M β} {P P' : α → Prop} {Q : β → Prop}
theorem okv {a : α} (h : P a) : Okm (.ok a) P := ⟨a, rfl, h⟩
theorem okb (h : Okm m P) (k : ∀ a, P a → Okm (f a) Q) : Okm (m.bind f) Q := by
  obtain ⟨a, rfl, ha⟩ := h
  exact k a ha
theorem okmono (h : Okm m P) (k : ∀ a, P a → P' a) : Okm m P' := by
  obtain ⟨a, e, ha⟩ := h
  exact ⟨a, e, k a ha⟩
theorem okif {c : Bool} {a b : M α} (h1 : c = true → Okm a P) (h2 : c = false → Okm b P) : Okm (if c = true then a else b) P := by
  cases c with
  | true => exact h1 rfl
  | false => exact h2 rfl
theorem oke {a : α} (h : Okm m (· = a)) : m = .ok a := by
  obtain ⟨b, e, rfl⟩ := h
  exact e
theorem ok_mod {x y : Int} (h : 0 < y) : Okm (modM x y) (· = x % y) := by unfold modM; rw [if_pos h]; exact okv rfl
theorem ok_div {x y : Int} (h : 0 < y) (h2 : y < 2 ^ 64) : Okm (divM x y) (· = x / y) := by
  unfold divM
  rw [if_pos ⟨h, Nat.lt_of_lt_of_le (show y.natAbs < 2 ^ 64 by omega) (Nat.pow_le_pow_right (by decide) (by decide))⟩]
  exact okv rfl
theorem ok_mul {x y : Int} (n m : Nat) (h : x.natAbs < 2 ^ n) (h2 : y.natAbs < 2 ^ m) (hn : n ≤ 10000 := by decide) (hm : m ≤ 10000 := by decide) : Okm (mulM x y) (· = x * y) := by
  unfold mulM
  rw [if_pos ⟨Nat.lt_of_lt_of_le h (Nat.pow_le_pow_right (by decide) hn), Nat.lt_of_lt_of_le h2 (Nat.pow_le_pow_right (by decide) hm)⟩]
  exact okv rfl
theorem getM_at {xs : List α} {i : Int} {v : α} (h0 : 0 ≤ i) (h : xs[i.toNat]? = some v) : getM xs i = .ok v := by
  have hl : i.toNat < xs.length := (List.getElem?_eq_some_iff.mp h).1
  unfold getM L2.atI L2.ixN
  rw [if_pos h0, if_pos (by omega)]
  show (match xs[i.toNat]? with | some d => M.ok d | none => .no) = _
  rw [h]
theorem getM_nat {xs : List α} {i : Nat} {v : α} (h : xs[i]? = some v) : getM xs (i : Int) = .ok v := getM_at (by omega) (by rw [Int.toNat_natCast]; exact h)
theorem ok_get {xs : List α} {i : Int} (h0 : 0 ≤ i) (h1 : i < xs.length) : Okm (getM xs i) (fun v => xs[i.toNat]? = some v) := by
  have hl : i.toNat < xs.length := by omega
  exact ⟨xs[i.toNat], getM_at h0 (by simp [hl]), by simp [hl]⟩
theorem getM_last {xs : List α} {v : α} (h : xs.getLast? = some v) : getM xs (-1) = .ok v := by
  have hne : xs ≠ [] := fun e => by rw [e] at h; cases h
  have hl : 0 < xs.length := List.length_pos_iff.mpr hne
  unfold getM L2.atI L2.ixN
  rw [if_neg (by decide), if_pos (by omega)]
  show (match xs[(-1 + (xs.length : Int)).toNat]? with | some d => M.ok d | none => .no) = _
  rw [show (-1 + (xs.length : Int)).toNat = xs.length - 1 by omega, ← List.getLast?_eq_getElem?, h]
theorem getS_at {x : Tx} {i : Int} {c : Nat} (h0 : 0 ≤ i) (h : x[i.toNat]? = some c) : getS x i = .ok [c] := by
  have hl : i.toNat < x.length := (List.getElem?_eq_some_iff.mp h).1
  unfold getS L2.atI L2.ixN
  rw [if_pos h0, if_pos (by omega)]
  show (match x[i.toNat]? with | some d => M.ok [d] | none => .no) = _
  rw [h]
theorem getS_nat {x : Tx} {i : Nat} {c : Nat} (h : x[i]? = some c) : getS x (i : Int) = .ok [c] := getS_at (by omega) (by rw [Int.toNat_natCast]; exact h)
theorem ok_push {xs : List α} {d : α} (h : xs.length < 1000000) : Okm (pushM xs d) (· = xs ++ [d]) := by
  unfold pushM
  rw [if_pos (Nat.lt_trans h (by decide))]
  exact okv rfl
theorem ok_set {xs : List α} {i : Int} {d : α} (h0 : 0 ≤ i) (h1 : i < xs.length) : Okm (setM xs i d) (· = xs.set i.toNat d) := by
  unfold setM L2.ixN
  rw [if_pos h0, if_pos h1]
  exact okv rfl
theorem ok_cat {x y : Tx} (h : x.length + y.length ≤ 1000000) : Okm (catS x y) (· = x ++ y) := by
  unfold catS
  rw [if_pos (Nat.le_trans h (by decide))]
  exact okv rfl
theorem ok_catL {x y : List α} (h : x.length + y.length ≤ 1000000) : Okm (catL x y) (· = x ++ y) := by
  unfold catL
  rw [if_pos (Nat.le_trans h (by decide))]
  exact okv rfl
theorem flat_rep1 {d : α} : ∀ n, (List.replicate n [d]).flatten = List.replicate n d
  | 0 => rfl
  | n + 1 => by rw [List.replicate_succ, List.flatten_cons, flat_rep1 n]; rfl
theorem ok_rep1 {d : α} {n : Int} (h : n < 1000000) (h' : -1000000 < n) : Okm (repM [d] n) (· = List.replicate n.toNat d) := by
  unfold repM
  rw [if_pos ⟨by omega, by omega, by
    have : ([d] : List α).length * n.toNat ≤ 1000000 := by simp; omega
    exact Nat.le_trans this (by decide)⟩, flat_rep1]
  exact okv rfl
theorem ok_range {lo hi : Int} (h1 : -(2 ^ 62) ≤ lo := by omega) (h2 : lo < 2 ^ 62 := by omega) (h3 : -(2 ^ 62) ≤ hi := by omega) (h4 : hi < 2 ^ 62 := by omega) : Okm (rangeM lo hi) (· = upFrom lo (hi - lo).toNat) := by
  unfold rangeM
  rw [if_pos ⟨h1, h2, h3, h4⟩]
  exact okv rfl
theorem range_eq {lo hi : Int} (h1 : -(2 ^ 62) ≤ lo := by omega) (h2 : lo < 2 ^ 62 := by omega) (h3 : -(2 ^ 62) ≤ hi := by omega) (h4 : hi < 2 ^ 62 := by omega) : rangeM lo hi = .ok (upFrom lo (hi - lo).toNat) := oke (ok_range h1 h2 h3 h4)
theorem upFrom_mem {lo x : Int} {n : Nat} : x ∈ upFrom lo n ↔ lo ≤ x ∧ x < lo + n := by
  induction n generalizing lo with
  | zero => simp [upFrom]
  | succ n ih => rw [upFrom, List.mem_cons, ih]; push_cast; omega
theorem upFrom_succ' {lo : Int} {n : Nat} : upFrom lo (n + 1) = upFrom lo n ++ [lo + n] := by
  induction n generalizing lo with
  | zero => simp [upFrom]
  | succ n ih => rw [upFrom, ih, upFrom]; simp; omega
theorem ok_for {f : β → α → M β} {s0 : β} {xs : List α} (I : Nat → β → Prop) (h0 : I 0 s0) (hs : ∀ i x s, xs[i]? = some x → I i s → Okm (f s x) (I (i + 1))) : Okm (forM f s0 xs) (I xs.length) := by
  induction xs generalizing s0 I with
  | nil => exact okv h0
  | cons x r ih =>
    refine okb (hs 0 x s0 rfl h0) fun s1 h1 => ?_
    exact ih (fun i => I (i + 1)) h1 fun i y s e h => hs (i + 1) y s (by simpa using e) h
theorem ok_forR {f : β → Int → M β} {s0 : β} {lo : Int} {n : Nat} (I : Nat → β → Prop) (h0 : I 0 s0) (hs : ∀ i s, i < n → I i s → Okm (f s (lo + i)) (I (i + 1))) : Okm (forM f s0 (upFrom lo n)) (I n) := by
  have h := ok_for (f := f) (xs := upFrom lo n) I h0 fun i x s e h => by
    rw [upFrom_get] at e
    by_cases hi : i < n
    · rw [if_pos hi] at e
      cases e
      exact hs i s hi h
    · rw [if_neg hi] at e; cases e
  rwa [upFrom_len] at h
/-- an invariant without a place -/
theorem ok_forI {f : β → α → M β} {s0 : β} {xs : List α} (I : β → Prop) (h0 : I s0) (hs : ∀ x ∈ xs, ∀ s, I s → Okm (f s x) I) : Okm (forM f s0 xs) I := ok_for (fun _ => I) h0 fun _ x s e h => hs x (List.mem_of_getElem? e) s h
def FlP {β ρ : Type} (N : β → Prop) (R : ρ → Prop) : Fl β ρ → Prop
  | .nx s => N s
  | .rt r => R r
theorem ok_forF {f : β → α → M (Fl β ρ)} {s0 : β} {xs : List α} (I : Nat → β → Prop) (R : ρ → Prop) (h0 : I 0 s0) (hs : ∀ i x s, xs[i]? = some x → I i s → Okm (f s x) (FlP (I (i + 1)) R)) : Okm (forF f s0 xs) (FlP (I xs.length) R) := by
  induction xs generalizing s0 I with
  | nil => exact okv h0
  | cons x r ih =>
    refine okb (hs 0 x s0 rfl h0) fun s1 h1 => ?_
    cases s1 with
    | nx s1 => exact ih (fun i => I (i + 1)) h1 fun i y s e h => hs (i + 1) y s (by simpa using e) h
    | rt q => exact okv h1
theorem ok_forFR {f : β → Int → M (Fl β ρ)} {s0 : β} {lo : Int} {n : Nat} (I : Nat → β → Prop) (R : ρ → Prop) (h0 : I 0 s0) (hs : ∀ i s, i < n → I i s → Okm (f s (lo + i)) (FlP (I (i + 1)) R)) : Okm (forF f s0 (upFrom lo n)) (FlP (I n) R) := by
  have h := ok_forF (f := f) (xs := upFrom lo n) I R h0 fun i x s e h => by
    rw [upFrom_get] at e
    by_cases hi : i < n
    · rw [if_pos hi] at e
      cases e
      exact hs i s hi h
    · rw [if_neg hi] at e; cases e
  rwa [upFrom_len] at h
/-- a law's loop that leaves with no False: all its turns go on -/
theorem okel {g : β → M γ} {h : ρ → M γ} {m : M (Fl β ρ)} {N : β → Prop} {R : ρ → Prop} {Q : γ → Prop} (hm : Okm m (FlP N R)) (h1 : ∀ s, N s → Okm (g s) Q) (h2 : ∀ r, R r → Okm (h r) Q) : Okm (m.bind (Fl.el g h)) Q :=
  okb hm fun a ha => by
    cases a with
    | nx s => exact h1 s ha
    | rt r => exact h2 r ha
theorem comp_eq {h : α → M (Option β)} {g : α → Option β} {xs : List α} (hl : xs.length ≤ 1000000) (hs : ∀ x ∈ xs, h x = .ok (g x)) : compM h xs = .ok (xs.filterMap g) := by
  unfold compM
  rw [if_pos (Nat.le_trans hl (by decide))]
  clear hl
  induction xs with
  | nil => rfl
  | cons x r ih =>
    show ((h x).nox.bind fun o => (compG h r).bind fun l => M.ok (o.toList ++ l)) = _
    rw [hs x List.mem_cons_self, ih fun y hy => hs y (List.mem_cons_of_mem _ hy)]
    show M.ok ((g x).toList ++ r.filterMap g) = _
    rw [List.filterMap_cons]
    cases g x <;> rfl
theorem comp_map {h : α → M (Option β)} {g : α → β} {xs : List α} (hl : xs.length ≤ 1000000) (hs : ∀ x ∈ xs, h x = .ok (some (g x))) : compM h xs = .ok (xs.map g) := by
  rw [comp_eq (g := fun x => some (g x)) hl hs]
  congr 1
  induction xs with
  | nil => rfl
  | cons x r ih => rw [List.filterMap_cons]; simp only [List.map_cons]; rw [ih (by simp at hl; omega) fun y hy => hs y (List.mem_cons_of_mem _ hy)]
theorem ok_comp {h : α → M (Option β)} {xs : List α} (R : α → β → Prop) (hl : xs.length ≤ 1000000) (hs : ∀ x ∈ xs, Okm (h x) (fun o => ∃ y, o = some y ∧ R x y)) : Okm (compM h xs) (fun ys => ys.length = xs.length ∧ ∀ (i : Nat) (x : α) (y : β), xs[i]? = some x → ys[i]? = some y → R x y) := by
  unfold compM
  rw [if_pos (Nat.le_trans hl (by decide))]
  clear hl
  induction xs with
  | nil => exact okv ⟨rfl, fun i x y e => by simp at e⟩
  | cons x r ih =>
    obtain ⟨o, e, y, rfl, hy⟩ := hs x List.mem_cons_self
    obtain ⟨ys, e2, h2, h3⟩ := ih fun z hz => hs z (List.mem_cons_of_mem _ hz)
    show Okm ((h x).nox.bind fun o => (compG h r).bind fun l => M.ok (o.toList ++ l)) _
    rw [e, e2]
    refine okv ⟨by simp [h2], fun i a b ea eb => ?_⟩
    cases i with
    | zero => simp at ea eb; subst ea; subst eb; exact hy
    | succ i => exact h3 i a b (by simpa using ea) (by simpa using eb)
end
theorem tx_hash : tx "#" = [35] := by decide +kernel
theorem tx_dot : tx "." = [46] := by decide +kernel
theorem tx_nil : tx "" = [] := by decide +kernel
theorem sIx_at {n d : Nat} {i : Int} (h0 : 0 ≤ i) (h : i ≤ n) : HT.sIx n d (some i) = i.toNat := by
  simp only [HT.sIx]
  split <;> omega
theorem cut_mid {α : Type} {xs : List α} {a b : Int} (h0 : 0 ≤ a) (h1 : a ≤ b) (h2 : b ≤ xs.length) : cutL xs (some a) (some b) = (xs.drop a.toNat).take (b.toNat - a.toNat) := by
  unfold cutL; rw [sIx_at h0 (by omega), sIx_at (by omega) h2]
theorem cut_from {α : Type} {xs : List α} {a : Int} (h0 : 0 ≤ a) (h1 : a ≤ xs.length) : cutL xs (some a) none = xs.drop a.toNat := by
  unfold cutL; rw [sIx_at h0 (by omega)]
  show (xs.drop a.toNat).take (xs.length - a.toNat) = _
  rw [List.take_of_length_le (by rw [List.length_drop]; exact Nat.le_refl _)]
/-- a cloth's rows -/
structure Cloth (rows : List Tx) (w h : Nat) : Prop where
  hh : rows.length = h
  ww : ∀ r ∈ rows, r.length = w
  sg : ∀ r ∈ rows, ∀ c ∈ r, c = 35 ∨ c = 46
  w1 : 1 ≤ w
  w2 : w ≤ 40
  h1 : 1 ≤ h
  h2 : h ≤ 40
end Hd
set_option maxHeartbeats 0
namespace Hd
open PySem PySem.Spec L2
def topS (i : Nat) : Stmt := PySem.Challenge.pw_heddle_k39_whole_seams_and_sheets.main.body.getD i (.Pass ⟨0, 0, 0, 0⟩)
def dds : List He.DefD := ([⟨("_law_numbers", none), "_law_numbers", "_law_numbers", defArgs (topS 23), defBody (topS 23), defScope (topS 23), [], []⟩, ⟨("_law_cloth", none), "_law_cloth", "_law_cloth", defArgs (topS 24), defBody (topS 24), defScope (topS 24), [], []⟩, ⟨("measured", none), "measured", "measured", defArgs (topS 7), defBody (topS 7), defScope (topS 7), [], []⟩, ⟨("scores_of", none), "scores_of", "scores_of", defArgs (topS 9), defBody (topS 9), defScope (topS 9), [], []⟩, ⟨("by_count", none), "by_count", "by_count", defArgs (topS 11), defBody (topS 11), defScope (topS 11), [], []⟩, ⟨("running_sums", none), "running_sums", "running_sums", defArgs (topS 12), defBody (topS 12), defScope (topS 12), [], []⟩, ⟨("tops_of", none), "tops_of", "tops_of", defArgs (topS 13), defBody (topS 13), defScope (topS 13), [], []⟩, ⟨("layers_of", none), "layers_of", "layers_of", defArgs (topS 14), defBody (topS 14), defScope (topS 14), [], []⟩, ⟨("layer_numbers", none), "layer_numbers", "layer_numbers", defArgs (topS 15), defBody (topS 15), defScope (topS 15), [], []⟩, ⟨("_law_whole_number", none), "_law_whole_number", "_law_whole_number", defArgs (topS 26), defBody (topS 26), defScope (topS 26), [], []⟩, ⟨("_law_seams", none), "_law_seams", "_law_seams", defArgs (topS 25), defBody (topS 25), defScope (topS 25), [], []⟩, ⟨("seen_shuttles", none), "seen_shuttles", "seen_shuttles", defArgs (topS 17), defBody (topS 17), defScope (topS 17), [], []⟩, ⟨("turns_made", none), "turns_made", "turns_made", defArgs (topS 18), defBody (topS 18), defScope (topS 18), [], []⟩, ⟨("seams_of", none), "seams_of", "seams_of", defArgs (topS 19), defBody (topS 19), defScope (topS 19), [], []⟩, ⟨("tubes_of", none), "tubes_of", "tubes_of", defArgs (topS 20), defBody (topS 20), defScope (topS 20), [], []⟩, ⟨("sheets_of", none), "sheets_of", "sheets_of", defArgs (topS 21), defBody (topS 21), defScope (topS 21), [], []⟩, ⟨("_law_all_told", none), "_law_all_told", "_law_all_told", defArgs (topS 31), defBody (topS 31), defScope (topS 31), [], []⟩, ⟨("_law_seams_right", none), "_law_seams_right", "_law_seams_right", defArgs (topS 27), defBody (topS 27), defScope (topS 27), [], []⟩, ⟨("_law_tubes_right", none), "_law_tubes_right", "_law_tubes_right", defArgs (topS 28), defBody (topS 28), defScope (topS 28), [], []⟩, ⟨("_law_spread", none), "_law_spread", "_law_spread", defArgs (topS 29), defBody (topS 29), defScope (topS 29), [], []⟩, ⟨("_law_sheets_right", none), "_law_sheets_right", "_law_sheets_right", defArgs (topS 30), defBody (topS 30), defScope (topS 30), [], []⟩, ⟨("law", none), "law", "law", defArgs (topS 32), defBody (topS 32), defScope (topS 32), [], []⟩] : List He.DefD)
def fas : List He.Fa := ([.glo "_law_numbers", .glo "_law_cloth", .glo "measured", .glo "scores_of", .glo "by_count", .glo "running_sums", .glo "tops_of", .glo "layers_of", .glo "layer_numbers", .glo "_law_whole_number", .glo "_law_seams", .glo "seen_shuttles", .glo "turns_made", .glo "seams_of", .glo "tubes_of", .glo "sheets_of", .glo "_law_all_told", .glo "_law_seams_right", .glo "_law_tubes_right", .glo "_law_spread", .glo "_law_sheets_right", .glo "law", .free "all", .free "bool", .free "enumerate", .free "int", .free "isinstance", .free "len", .free "list", .free "max"] : List He.Fa) ++ ([.free "min", .free "range", .free "set", .free "sorted", .free "str", .free "tuple", .int "MOST_STRANDS" 40, .glo "NoCloth", .exc "NoCloth", .glo "NoShuttle", .exc "NoShuttle"] : List He.Fa)
def loose : List Str := (["_wall", "WeaveError", "NoCloth", "NoShuttle", "MOST_STRANDS", "measured", "scores_of", "by_count", "running_sums", "tops_of", "layers_of", "layer_numbers", "seen_shuttles", "turns_made", "seams_of", "tubes_of", "sheets_of", "_law_numbers", "_law_cloth", "_law_seams", "_law_whole_number", "_law_seams_right", "_law_tubes_right", "_law_spread", "_law_sheets_right", "_law_all_told"] : List Str)
abbrev hdR : PySem.W.OpenRow := PySem.W.OpenLaw.row PySem.Challenge.rw_heddle_k39_whole_seams_and_sheets
abbrev hk : PySem.W.Hook := He.hookX 6 fas dds [] [("by_count", none)] (fun _ => true)
def ob (s : PySem.W.SharedT) : He.AlX := He.obsX 6 fas dds [] [("by_count", none)] (fun _ => true) (HandSHeadRun.getT s)
theorem ob_eq (s : PySem.W.SharedT) : ob s = hk.obs s.abs := He.obsX_eq (HandSHeadRun.getT_eq s)
theorem run (w : World) : HandSHeadRun.RunEq hdR (PySem.W.view hdR.prog [32]) hk ob 3000 loose w := by intro os; kernel_rfl
structure Facts (p : Pr) : Prop where
  g_all : p.mg "all" = none
  g_bool : p.mg "bool" = none
  g_enumerate : p.mg "enumerate" = none
  g_int : p.mg "int" = none
  g_isinstance : p.mg "isinstance" = none
  g_len : p.mg "len" = none
  g_list : p.mg "list" = none
  g_max : p.mg "max" = none
  g_min : p.mg "min" = none
  g_range : p.mg "range" = none
  g_set : p.mg "set" = none
  g_sorted : p.mg "sorted" = none
  g_str : p.mg "str" = none
  g_tuple : p.mg "tuple" = none
  c_MOST_STRANDS : ∃ t, p.mg "MOST_STRANDS" = some (.int 40 t)
  x_NoCloth : ExF p "NoCloth" .noCloth
  x_NoShuttle : ExF p "NoShuttle" .noShuttle
  d__law_numbers : ∃ f fd, FunD p.K "_law_numbers" "_law_numbers" (defArgs (topS 23)) (defBody (topS 23)) (defScope (topS 23)) [] [] f fd ∧ p.mg "_law_numbers" = some (.ref f)
  d__law_cloth : ∃ f fd, FunD p.K "_law_cloth" "_law_cloth" (defArgs (topS 24)) (defBody (topS 24)) (defScope (topS 24)) [] [] f fd ∧ p.mg "_law_cloth" = some (.ref f)
  d_measured : ∃ f fd, FunD p.K "measured" "measured" (defArgs (topS 7)) (defBody (topS 7)) (defScope (topS 7)) [] [] f fd ∧ p.mg "measured" = some (.ref f)
  d_scores_of : ∃ f fd, FunD p.K "scores_of" "scores_of" (defArgs (topS 9)) (defBody (topS 9)) (defScope (topS 9)) [] [] f fd ∧ p.mg "scores_of" = some (.ref f)
  d_by_count : ∃ f fd, FunD p.K "by_count" "by_count" (defArgs (topS 11)) (defBody (topS 11)) (defScope (topS 11)) [] [] f fd ∧ p.mg "by_count" = some (.ref f) ∧ ∃ c P, fd.code = .ref c ∧ p.T = some P ∧ LamX.TabB p.base p.mg c P
  d_running_sums : ∃ f fd, FunD p.K "running_sums" "running_sums" (defArgs (topS 12)) (defBody (topS 12)) (defScope (topS 12)) [] [] f fd ∧ p.mg "running_sums" = some (.ref f)
  d_tops_of : ∃ f fd, FunD p.K "tops_of" "tops_of" (defArgs (topS 13)) (defBody (topS 13)) (defScope (topS 13)) [] [] f fd ∧ p.mg "tops_of" = some (.ref f)
  d_layers_of : ∃ f fd, FunD p.K "layers_of" "layers_of" (defArgs (topS 14)) (defBody (topS 14)) (defScope (topS 14)) [] [] f fd ∧ p.mg "layers_of" = some (.ref f)
  d_layer_numbers : ∃ f fd, FunD p.K "layer_numbers" "layer_numbers" (defArgs (topS 15)) (defBody (topS 15)) (defScope (topS 15)) [] [] f fd ∧ p.mg "layer_numbers" = some (.ref f)
  d__law_whole_number : ∃ f fd, FunD p.K "_law_whole_number" "_law_whole_number" (defArgs (topS 26)) (defBody (topS 26)) (defScope (topS 26)) [] [] f fd ∧ p.mg "_law_whole_number" = some (.ref f)
  d__law_seams : ∃ f fd, FunD p.K "_law_seams" "_law_seams" (defArgs (topS 25)) (defBody (topS 25)) (defScope (topS 25)) [] [] f fd ∧ p.mg "_law_seams" = some (.ref f)
  d_seen_shuttles : ∃ f fd, FunD p.K "seen_shuttles" "seen_shuttles" (defArgs (topS 17)) (defBody (topS 17)) (defScope (topS 17)) [] [] f fd ∧ p.mg "seen_shuttles" = some (.ref f)
  d_turns_made : ∃ f fd, FunD p.K "turns_made" "turns_made" (defArgs (topS 18)) (defBody (topS 18)) (defScope (topS 18)) [] [] f fd ∧ p.mg "turns_made" = some (.ref f)
  d_seams_of : ∃ f fd, FunD p.K "seams_of" "seams_of" (defArgs (topS 19)) (defBody (topS 19)) (defScope (topS 19)) [] [] f fd ∧ p.mg "seams_of" = some (.ref f)
  d_tubes_of : ∃ f fd, FunD p.K "tubes_of" "tubes_of" (defArgs (topS 20)) (defBody (topS 20)) (defScope (topS 20)) [] [] f fd ∧ p.mg "tubes_of" = some (.ref f)
  d_sheets_of : ∃ f fd, FunD p.K "sheets_of" "sheets_of" (defArgs (topS 21)) (defBody (topS 21)) (defScope (topS 21)) [] [] f fd ∧ p.mg "sheets_of" = some (.ref f)
  d__law_all_told : ∃ f fd, FunD p.K "_law_all_told" "_law_all_told" (defArgs (topS 31)) (defBody (topS 31)) (defScope (topS 31)) [] [] f fd ∧ p.mg "_law_all_told" = some (.ref f)
  d__law_seams_right : ∃ f fd, FunD p.K "_law_seams_right" "_law_seams_right" (defArgs (topS 27)) (defBody (topS 27)) (defScope (topS 27)) [] [] f fd ∧ p.mg "_law_seams_right" = some (.ref f)
  d__law_tubes_right : ∃ f fd, FunD p.K "_law_tubes_right" "_law_tubes_right" (defArgs (topS 28)) (defBody (topS 28)) (defScope (topS 28)) [] [] f fd ∧ p.mg "_law_tubes_right" = some (.ref f)
  d__law_spread : ∃ f fd, FunD p.K "_law_spread" "_law_spread" (defArgs (topS 29)) (defBody (topS 29)) (defScope (topS 29)) [] [] f fd ∧ p.mg "_law_spread" = some (.ref f)
  d__law_sheets_right : ∃ f fd, FunD p.K "_law_sheets_right" "_law_sheets_right" (defArgs (topS 30)) (defBody (topS 30)) (defScope (topS 30)) [] [] f fd ∧ p.mg "_law_sheets_right" = some (.ref f)
  d_law : ∃ f fd, FunD p.K "law" "law" (defArgs (topS 32)) (defBody (topS 32)) (defScope (topS 32)) [] [] f fd ∧ p.mg "law" = some (.ref f)
abbrev s__law_numbers : Stmt := (topS 23)
abbrev N__law_numbers : List Str := ["script", "many", "found", "step", "k"]
abbrev V__law_numbers : List Str := ["script", "many", "found", "step", "k"]
abbrev G__law_numbers : List Str := ["len", "range"]
theorem sc__law_numbers : Sc s__law_numbers N__law_numbers V__law_numbers ["script", "many"] G__law_numbers := ⟨⟨rfl, rfl, rfl, by decide +kernel, rfl, by decide +kernel, by decide +kernel⟩, by decide +kernel, by decide +kernel, by decide +kernel⟩
def r_f_law_numbers_l1  : ((List Int) × Int) → Int → M ((List Int) × Int) := fun s17 k18 => M.bind (M.bind (M.bind (M.ok s17.2) fun y20 => M.ok (y20 * (48271 : Int))) fun y21 => M.ok (y21 % (2147483647 : Int))) fun step19 => M.bind (M.bind (M.bind (M.ok step19) fun y23 => M.ok (y23 / (16 : Int))) fun y24 => M.ok (y24 % (1000000 : Int))) fun y25 => M.bind (pushM s17.1 y25) fun found22 => M.ok (found22, step19)
def f_law_numbers_l1  : ((List Int) × Int) → Int → M ((List Int) × Int) := fun s17 k18 => let step19 : Int := ((s17.2 * (48271 : Int)) % (2147483647 : Int)); M.bind (pushM s17.1 ((step19 / (16 : Int)) % (1000000 : Int))) fun found22 => M.ok (found22, step19)
theorem eq_f_law_numbers_l1  : r_f_law_numbers_l1  = f_law_numbers_l1  := by funext s17 k18; first | (simp only [r_f_law_numbers_l1, f_law_numbers_l1, M.bind_assoc, M.bok]; done) | (simp only [r_f_law_numbers_l1, f_law_numbers_l1, M.bind_assoc, M.bok]; rfl)
def r_f_law_numbers_l2 (script1 : (List Int)) (many2 : Int) : ((List Int)) → Int → M ((List Int)) := fun s30 k31 => M.bind (M.bind (M.bind (M.bind (M.ok s30) fun y34 => M.bind (M.bind (M.ok k31) fun y32 => M.bind (M.ok many2) fun y33 => modM y32 y33) fun y35 => getM y34 y35) fun y38 => M.bind (M.bind (M.ok script1) fun y36 => M.bind (M.ok k31) fun y37 => getM y36 y37) fun y39 => M.ok (y38 + y39)) fun y40 => M.ok (y40 % (1000000 : Int))) fun y43 => M.bind (M.bind (M.ok k31) fun y41 => M.bind (M.ok many2) fun y42 => modM y41 y42) fun i44 => M.bind (setM s30 i44 y43) fun found45 => M.ok found45
def f_law_numbers_l2 (script1 : (List Int)) (many2 : Int) : ((List Int)) → Int → M ((List Int)) := fun s30 k31 => M.bind (M.bind (M.bind (M.bind (modM k31 many2) fun y35 => getM s30 y35) fun y38 => M.bind (getM script1 k31) fun y39 => M.ok (y38 + y39)) fun y40 => M.ok (y40 % (1000000 : Int))) fun y43 => M.bind (modM k31 many2) fun i44 => M.bind (setM s30 i44 y43) fun found45 => M.ok found45
theorem eq_f_law_numbers_l2 (script1 : (List Int)) (many2 : Int) : r_f_law_numbers_l2 script1 many2 = f_law_numbers_l2 script1 many2 := by funext s30 k31; first | (simp only [r_f_law_numbers_l2, f_law_numbers_l2, M.bind_assoc, M.bok, eq_f_law_numbers_l1]; done) | (simp only [r_f_law_numbers_l2, f_law_numbers_l2, M.bind_assoc, M.bok, eq_f_law_numbers_l1]; rfl)
def q__law_numbers (script1 : (List Int)) (many2 : Int) : M (List Int) := M.bind (M.ok []) fun found3 => M.bind (M.ok (1 : Int)) fun step4 => M.bind (M.bind (M.bind (M.ok script1) fun y5 => M.ok (y5.length : Int)) fun y6 => M.bind (M.ok (0 : Int)) fun y7 => M.ok (decide (y7 < y6))) fun c8 => M.bind (if c8 = true then M.bind (M.bind (M.ok (1 : Int)) fun y13 => M.bind (M.bind (M.bind (M.ok script1) fun y10 => M.bind (M.ok (0 : Int)) fun y11 => getM y10 y11) fun y12 => M.ok (y12 % (2147483646 : Int))) fun y14 => M.ok (y13 + y14)) fun step9 => M.ok step9 else M.ok step4) fun (s15 : (Int)) => M.bind (M.bind (M.ok many2) fun y16 => rangeM 0 y16) fun xs26 => M.bind (forM r_f_law_numbers_l1 (found3, s15) xs26) fun (s27 : ((List Int) × Int)) => M.bind (M.bind (M.bind (M.ok script1) fun y28 => M.ok (y28.length : Int)) fun y29 => rangeM 0 y29) fun xs46 => M.bind (forM (r_f_law_numbers_l2 script1 many2) s27.1 xs46) fun (s47 : ((List Int))) => M.ok s47
def f_law_numbers (script1 : (List Int)) (many2 : Int) : M (List Int) := let found3 : (List Int) := []; let step4 : Int := (1 : Int); M.bind (if (decide ((0 : Int) < (script1.length : Int))) = true then M.bind (M.bind (M.bind (getM script1 (0 : Int)) fun y12 => M.ok (y12 % (2147483646 : Int))) fun y14 => M.ok ((1 : Int) + y14)) fun step9 => M.ok step9 else M.ok step4) fun (s15 : (Int)) => M.bind (rangeM 0 many2) fun xs26 => M.bind (forM f_law_numbers_l1 (found3, s15) xs26) fun (s27 : ((List Int) × Int)) => M.bind (rangeM 0 (script1.length : Int)) fun xs46 => M.bind (forM (f_law_numbers_l2 script1 many2) s27.1 xs46) fun (s47 : ((List Int))) => M.ok s47
def r__law_numbers (d : ((List Int) × Int × Unit)) : M (List Int) := q__law_numbers d.1 d.2.1
def c__law_numbers (d : ((List Int) × Int × Unit)) : M (List Int) := f_law_numbers d.1 d.2.1
theorem eq__law_numbers : r__law_numbers = c__law_numbers := by funext d; first | (simp only [r__law_numbers, c__law_numbers, q__law_numbers, f_law_numbers, M.bind_assoc, M.bok, eq_f_law_numbers_l1, eq_f_law_numbers_l2]; done) | (simp only [r__law_numbers, c__law_numbers, q__law_numbers, f_law_numbers, M.bind_assoc, M.bok, eq_f_law_numbers_l1, eq_f_law_numbers_l2]; rfl)
theorem bb__law_numbers {p : Pr} (X : Facts p) {g : G} (ok : OkS p (defScope s__law_numbers) N__law_numbers V__law_numbers G__law_numbers 0 g) (hX : g.LX = List.replicate N__law_numbers.length sAny) (script1 : (List Int)) (many2 : Int) : EvB g [(sV false (tListK p.K tInt) script1), (sV false tInt many2), sAny, sAny, sAny] (defBody s__law_numbers) (fun r => .rtL false tInt r) (q__law_numbers script1 many2) := (evb_own ok (i := 2) (j := 2) rfl rfl (wkX hX rfl) .sh (evl_nil (md := .sh) (S := tInt)) fun found3 => (evb_set ok (i := 3) (j := 3) rfl rfl (wkX hX rfl) .sh (ev_int (md := .sh)) fun step4 => (evb_if (LJ := (fun (s15 : (Int)) => [(sV false (tListK p.K tInt) script1), (sV false tInt many2), (sOwn false tInt found3), (sV false tInt s15), sAny])) (wkX hX rfl) (evt_c ok.toOk c_gt (ev_lenQ (md' := .sh) ok.toOk sq_k (j := 0) rfl X.g_len (ev_vsh ok.toOk (i := 0) (j := 0) rfl rfl rfl)) (ev_int (md := .sh))) (evb_set ok (i := 3) (j := 3) rfl rfl (wkX hX rfl) .sh (ev_add (md' := .sh) ok.toOk (ev_int (md := .sh)) (ev_modC (md' := .sh) ok.toOk (by decide) (ev_ixQ ok.toOk sq_k (ev_vsh ok.toOk (i := 0) (j := 0) rfl rfl rfl) (ev_int (md := .sh))) (ev_int (md := .sh)))) fun step9 => (evb_nx (by rfl) (Wk.s (Wk.s (Wk.s (Wk.s (Wk.s Wk.n))))))) (evb_nx (by rfl) (Wk.s (Wk.s (Wk.s (Wk.s (Wk.s Wk.n)))))) fun s15 => (evb_for (LF := (fun (s17 : ((List Int) × Int)) => [(sV false (tListK p.K tInt) script1), (sV false tInt many2), (sOwn false tInt s17.1), (sV false tInt s17.2), sAny])) (s0 := (found3, s15)) ok (wkX hX rfl) (evi_range1 ok.toOk (j := 1) rfl X.g_range (ev_vsh ok.toOk (i := 1) (j := 1) rfl rfl rfl)) (Wk.s (Wk.s (Wk.s (Wk.s (Wk.s Wk.n))))) (fun _ => evg_name ok (i := 4) (j := 4) rfl rfl) (fun s17 k18 => (evb_set ok (i := 3) (j := 3) rfl rfl (wkX hX rfl) .sh (ev_modC (md' := .sh) ok.toOk (by decide) (ev_mulC (md' := .sh) ok.toOk (by decide) (ev_vsh ok.toOk (i := 3) (j := 3) rfl rfl rfl) (ev_int (md := .sh))) (ev_int (md := .sh))) fun step19 => (evb_append ok (wkX hX rfl) (i := 2) (j := 2) rfl rfl rfl .sh (ev_modC (md' := .sh) ok.toOk (by decide) (ev_divC (md' := .sh) ok.toOk (by decide) (by decide) (ev_vsh ok.toOk (i := 3) (j := 3) rfl rfl rfl) (ev_int (md := .sh))) (ev_int (md := .sh))) fun found22 => (evb_go (by rfl) (Wk.s (Wk.s (Wk.s (Wk.s (Wk.a Wk.n))))))))) fun s27 => (evb_for (LF := (fun (s30 : ((List Int))) => [(sV false (tListK p.K tInt) script1), (sV false tInt many2), (sOwn false tInt s30), (sV false tInt s27.2), sAny])) (s0 := s27.1) ok (wkX hX rfl) (evi_range1 ok.toOk (j := 1) rfl X.g_range (ev_lenQ (md' := .sh) ok.toOk sq_k (j := 0) rfl X.g_len (ev_vsh ok.toOk (i := 0) (j := 0) rfl rfl rfl))) (Wk.s (Wk.s (Wk.s (Wk.s (Wk.s Wk.n))))) (fun _ => evg_name ok (i := 4) (j := 4) rfl rfl) (fun s30 k31 => (evb_setitem ok (wkX hX rfl) (i := 2) (j := 2) rfl rfl rfl .sh (ev_borrow (i := 2) (.inl flInt) rfl (ev_modC (md' := .sh) ok.toOk (by decide) (ev_add (md' := .sh) ok.toOk (ev_ixQ ok.toOk sq_l (ev_vsh ok.toOk (i := 2) (j := 2) rfl rfl rfl) (ev_mod (md' := .sh) ok.toOk (ev_vsh ok.toOk (i := 4) (j := 4) rfl rfl rfl) (ev_vsh ok.toOk (i := 1) (j := 1) rfl rfl rfl))) (ev_ixQ ok.toOk sq_k (ev_vsh ok.toOk (i := 0) (j := 0) rfl rfl rfl) (ev_vsh ok.toOk (i := 4) (j := 4) rfl rfl rfl))) (ev_int (md := .sh)))) (ev_mod (md' := .sh) ok.toOk (ev_vsh ok.toOk (i := 4) (j := 4) rfl rfl rfl) (ev_vsh ok.toOk (i := 1) (j := 1) rfl rfl rfl)) fun found45 => (evb_go (by rfl) (Wk.s (Wk.s (Wk.s (Wk.s (Wk.a Wk.n)))))))) fun s47 => (evb_retOwn ok.toOk (i := 2) (j := 2) rfl rfl rfl (.inl rfl) (by rfl)))))))
theorem b__law_numbers {p : Pr} (X : Facts p) : Body p s__law_numbers N__law_numbers V__law_numbers G__law_numbers 0 (fun (d : ((List Int) × Int × Unit)) => [(sV false (tListK p.K tInt) d.1), (sV false tInt d.2.1), sAny, sAny, sAny]) (fun r => .rtL false tInt r) r__law_numbers := fun g ok hX d => bb__law_numbers X ok hX d.1 d.2.1
theorem fn__law_numbers {p : Pr} (X : Facts p) : Fn p 1 "_law_numbers" ["script", "many"] (spM p (aCons (tListK p.K tInt) (aCons tInt aNil)) (fun r => .rtL false tInt r) c__law_numbers) := by
  obtain ⟨f, fd, hF, hm⟩ := X.d__law_numbers
  exact ⟨f, fd, eq__law_numbers ▸ fn_rtL (m := 3) hF sc__law_numbers (.cons (.cons .nil)) rfl rfl (b__law_numbers X), hm, hF.kp, hF.bindsN fun _ _ _ _ _ _ us hl => match us, hl with | [_, _], _ => rfl⟩
abbrev s__law_cloth : Stmt := (topS 24)
abbrev N__law_cloth : List Str := ["numbers", "wide", "high", "layered", "rows", "j", "row", "k", "at", "bit", "up", "low"]
abbrev V__law_cloth : List Str := ["numbers", "wide", "high", "layered", "rows", "j", "row", "k", "at", "bit", "up", "low"]
abbrev G__law_cloth : List Str := ["range", "int"]
theorem sc__law_cloth : Sc s__law_cloth N__law_cloth V__law_cloth ["numbers", "wide", "high", "layered"] G__law_cloth := ⟨⟨rfl, rfl, rfl, by decide +kernel, rfl, by decide +kernel, by decide +kernel⟩, by decide +kernel, by decide +kernel, by decide +kernel⟩
def r_f_law_cloth_l1 (numbers1 : (List Int)) (layered4 : Int) (j8 : Int) : (Tx) → Int → M (Tx) := fun s11 k12 => M.bind (M.bind (M.bind (M.ok j8) fun y14 => M.ok (y14 * (40 : Int))) fun y15 => M.bind (M.ok k12) fun y16 => M.ok (y15 + y16)) fun at13 => M.bind (M.bind (M.bind (M.bind (M.ok numbers1) fun y21 => M.bind (M.bind (M.ok (8 : Int)) fun y19 => M.bind (M.bind (M.ok at13) fun y18 => M.ok (y18 % (55 : Int))) fun y20 => M.ok (y19 + y20)) fun y22 => getM y21 y22) fun y27 => M.bind (M.bind (M.ok (1 : Int)) fun y25 => M.bind (M.bind (M.bind (M.ok at13) fun y23 => M.ok (y23 / (55 : Int))) fun y24 => M.ok ((2 : Int) * y24)) fun y26 => M.ok (y25 + y26)) fun y28 => divM y27 y28) fun y29 => M.ok (y29 % (2 : Int))) fun bit17 => M.bind (M.bind (M.ok layered4) fun y30 => M.bind (M.ok (1 : Int)) fun y31 => M.ok (decide (y31 < y30))) fun c32 => M.bind (if c32 = true then M.bind (M.bind (M.bind (M.bind (M.ok numbers1) fun y38 => M.bind (M.bind (M.ok (8 : Int)) fun y36 => M.bind (M.bind (M.bind (M.ok k12) fun y34 => M.ok ((3 : Int) * y34)) fun y35 => M.ok (y35 % (55 : Int))) fun y37 => M.ok (y36 + y37)) fun y39 => getM y38 y39) fun y40 => M.ok (y40 / (7 : Int))) fun y41 => M.bind (M.ok layered4) fun y42 => modM y41 y42) fun up33 => M.bind (M.bind (M.bind (M.bind (M.ok numbers1) fun y50 => M.bind (M.bind (M.ok (8 : Int)) fun y48 => M.bind (M.bind (M.bind (M.bind (M.ok j8) fun y44 => M.ok ((3 : Int) * y44)) fun y45 => M.bind (M.ok (1 : Int)) fun y46 => M.ok (y45 + y46)) fun y47 => M.ok (y47 % (55 : Int))) fun y49 => M.ok (y48 + y49)) fun y51 => getM y50 y51) fun y52 => M.ok (y52 / (7 : Int))) fun y53 => M.bind (M.ok layered4) fun y54 => modM y53 y54) fun low43 => M.bind (M.bind (M.ok up33) fun y55 => M.bind (M.ok low43) fun y56 => M.ok (!decide (y55 = y56))) fun c57 => if c57 = true then M.bind (M.bind (M.bind (M.ok up33) fun y59 => M.bind (M.ok low43) fun y60 => M.ok (decide (y59 < y60))) fun y61 => M.ok (bInt y61)) fun bit58 => M.ok bit58 else M.ok bit17 else M.ok bit17) fun (s63 : (Int)) => M.bind (M.bind (M.ok s11) fun y67 => M.bind (M.bind (M.ok (tx ".#")) fun y65 => M.bind (M.ok s63) fun y66 => getS y65 y66) fun y68 => catS y67 y68) fun row64 => M.ok row64
def f_law_cloth_l1 (numbers1 : (List Int)) (layered4 : Int) (j8 : Int) : (Tx) → Int → M (Tx) := fun s11 k12 => let at13 : Int := ((j8 * (40 : Int)) + k12); M.bind (M.bind (M.bind (getM numbers1 ((8 : Int) + (at13 % (55 : Int)))) fun y27 => divM y27 ((1 : Int) + ((2 : Int) * (at13 / (55 : Int))))) fun y29 => M.ok (y29 % (2 : Int))) fun bit17 => M.bind (if (decide ((1 : Int) < layered4)) = true then M.bind (M.bind (M.bind (getM numbers1 ((8 : Int) + (((3 : Int) * k12) % (55 : Int)))) fun y40 => M.ok (y40 / (7 : Int))) fun y41 => modM y41 layered4) fun up33 => M.bind (M.bind (M.bind (getM numbers1 ((8 : Int) + ((((3 : Int) * j8) + (1 : Int)) % (55 : Int)))) fun y52 => M.ok (y52 / (7 : Int))) fun y53 => modM y53 layered4) fun low43 => if (!decide (up33 = low43)) = true then let bit58 : Int := (bInt (decide (up33 < low43))); M.ok bit58 else M.ok bit17 else M.ok bit17) fun (s63 : (Int)) => M.bind (M.bind (getS (tx ".#") s63) fun y68 => catS s11 y68) fun row64 => M.ok row64
theorem eq_f_law_cloth_l1 (numbers1 : (List Int)) (layered4 : Int) (j8 : Int) : r_f_law_cloth_l1 numbers1 layered4 j8 = f_law_cloth_l1 numbers1 layered4 j8 := by funext s11 k12; first | (simp only [r_f_law_cloth_l1, f_law_cloth_l1, M.bind_assoc, M.bok]; done) | (simp only [r_f_law_cloth_l1, f_law_cloth_l1, M.bind_assoc, M.bok]; rfl)
def r_f_law_cloth_l2 (numbers1 : (List Int)) (wide2 : Int) (layered4 : Int) : ((List Tx)) → Int → M ((List Tx)) := fun s7 j8 => M.bind (M.ok (tx "")) fun row9 => M.bind (M.bind (M.ok wide2) fun y10 => rangeM 0 y10) fun xs69 => M.bind (forM (r_f_law_cloth_l1 numbers1 layered4 j8) row9 xs69) fun (s70 : (Tx)) => M.bind (M.ok s70) fun y72 => M.bind (pushM s7 y72) fun rows71 => M.ok rows71
def f_law_cloth_l2 (numbers1 : (List Int)) (wide2 : Int) (layered4 : Int) : ((List Tx)) → Int → M ((List Tx)) := fun s7 j8 => let row9 : Tx := (tx ""); M.bind (rangeM 0 wide2) fun xs69 => M.bind (forM (f_law_cloth_l1 numbers1 layered4 j8) row9 xs69) fun (s70 : (Tx)) => M.bind (pushM s7 s70) fun rows71 => M.ok rows71
theorem eq_f_law_cloth_l2 (numbers1 : (List Int)) (wide2 : Int) (layered4 : Int) : r_f_law_cloth_l2 numbers1 wide2 layered4 = f_law_cloth_l2 numbers1 wide2 layered4 := by funext s7 j8; first | (simp only [r_f_law_cloth_l2, f_law_cloth_l2, M.bind_assoc, M.bok, eq_f_law_cloth_l1]; done) | (simp only [r_f_law_cloth_l2, f_law_cloth_l2, M.bind_assoc, M.bok, eq_f_law_cloth_l1]; rfl)
def q__law_cloth (numbers1 : (List Int)) (wide2 : Int) (high3 : Int) (layered4 : Int) : M (List Tx) := M.bind (M.ok []) fun rows5 => M.bind (M.bind (M.ok high3) fun y6 => rangeM 0 y6) fun xs73 => M.bind (forM (r_f_law_cloth_l2 numbers1 wide2 layered4) rows5 xs73) fun (s74 : ((List Tx))) => M.ok s74
def f_law_cloth (numbers1 : (List Int)) (wide2 : Int) (high3 : Int) (layered4 : Int) : M (List Tx) := let rows5 : (List Tx) := []; M.bind (rangeM 0 high3) fun xs73 => M.bind (forM (f_law_cloth_l2 numbers1 wide2 layered4) rows5 xs73) fun (s74 : ((List Tx))) => M.ok s74
def r__law_cloth (d : ((List Int) × Int × Int × Int × Unit)) : M (List Tx) := q__law_cloth d.1 d.2.1 d.2.2.1 d.2.2.2.1
def c__law_cloth (d : ((List Int) × Int × Int × Int × Unit)) : M (List Tx) := f_law_cloth d.1 d.2.1 d.2.2.1 d.2.2.2.1
theorem eq__law_cloth : r__law_cloth = c__law_cloth := by funext d; first | (simp only [r__law_cloth, c__law_cloth, q__law_cloth, f_law_cloth, M.bind_assoc, M.bok, eq_f_law_cloth_l1, eq_f_law_cloth_l2]; done) | (simp only [r__law_cloth, c__law_cloth, q__law_cloth, f_law_cloth, M.bind_assoc, M.bok, eq_f_law_cloth_l1, eq_f_law_cloth_l2]; rfl)
theorem bb__law_cloth {p : Pr} (X : Facts p) {g : G} (ok : OkS p (defScope s__law_cloth) N__law_cloth V__law_cloth G__law_cloth 0 g) (hX : g.LX = List.replicate N__law_cloth.length sAny) (numbers1 : (List Int)) (wide2 : Int) (high3 : Int) (layered4 : Int) : EvB g [(sV false (tList tInt) numbers1), (sV false tInt wide2), (sV false tInt high3), (sV false tInt layered4), sAny, sAny, sAny, sAny, sAny, sAny, sAny, sAny] (defBody s__law_cloth) (fun r => .rtL false tStr r) (q__law_cloth numbers1 wide2 high3 layered4) := (evb_own ok (i := 4) (j := 4) rfl rfl (wkX hX rfl) .sh (evl_nil (md := .sh) (S := tStr)) fun rows5 => (evb_for (LF := (fun (s7 : ((List Tx))) => [(sV false (tList tInt) numbers1), (sV false tInt wide2), (sV false tInt high3), (sV false tInt layered4), (sOwn false tStr s7), sAny, sAny, sAny, sAny, sAny, sAny, sAny])) (s0 := rows5) ok (wkX hX rfl) (evi_range1 ok.toOk (j := 0) rfl X.g_range (ev_vsh ok.toOk (i := 2) (j := 2) rfl rfl rfl)) (Wk.s (Wk.s (Wk.s (Wk.s (Wk.s (Wk.s (Wk.s (Wk.s (Wk.s (Wk.s (Wk.s (Wk.s Wk.n)))))))))))) (fun _ => evg_name ok (i := 5) (j := 5) rfl rfl) (fun s7 j8 => (evb_set ok (i := 6) (j := 6) rfl rfl (wkX hX rfl) .sh (ev_str (md := .sh) (by decide +kernel)) fun row9 => (evb_for (LF := (fun (s11 : (Tx)) => [(sV false (tList tInt) numbers1), (sV false tInt wide2), (sV false tInt high3), (sV false tInt layered4), (sOwn false tStr s7), (sV false tInt j8), (sV false tStr s11), sAny, sAny, sAny, sAny, sAny])) (s0 := row9) ok (wkX hX rfl) (evi_range1 ok.toOk (j := 0) rfl X.g_range (ev_vsh ok.toOk (i := 1) (j := 1) rfl rfl rfl)) (Wk.s (Wk.s (Wk.s (Wk.s (Wk.s (Wk.s (Wk.s (Wk.s (Wk.s (Wk.s (Wk.s (Wk.s Wk.n)))))))))))) (fun _ => evg_name ok (i := 7) (j := 7) rfl rfl) (fun s11 k12 => (evb_set ok (i := 8) (j := 8) rfl rfl (wkX hX rfl) .sh (ev_add (md' := .sh) ok.toOk (ev_mulC (md' := .sh) ok.toOk (by decide) (ev_vsh ok.toOk (i := 5) (j := 5) rfl rfl rfl) (ev_int (md := .sh))) (ev_vsh ok.toOk (i := 7) (j := 7) rfl rfl rfl)) fun at13 => (evb_set ok (i := 9) (j := 9) rfl rfl (wkX hX rfl) .sh (ev_modC (md' := .sh) ok.toOk (by decide) (ev_div (md' := .sh) ok.toOk (ev_ixQ ok.toOk sq_l (ev_vsh ok.toOk (i := 0) (j := 0) rfl rfl rfl) (ev_add (md' := .sh) ok.toOk (ev_int (md := .sh)) (ev_modC (md' := .sh) ok.toOk (by decide) (ev_vsh ok.toOk (i := 8) (j := 8) rfl rfl rfl) (ev_int (md := .sh))))) (ev_add (md' := .sh) ok.toOk (ev_int (md := .sh)) (ev_mulL (md' := .sh) ok.toOk (by decide) (ev_int (md := .sh)) (ev_divC (md' := .sh) ok.toOk (by decide) (by decide) (ev_vsh ok.toOk (i := 8) (j := 8) rfl rfl rfl) (ev_int (md := .sh)))))) (ev_int (md := .sh))) fun bit17 => (evb_if (LJ := (fun (s63 : (Int)) => [(sV false (tList tInt) numbers1), (sV false tInt wide2), (sV false tInt high3), (sV false tInt layered4), (sOwn false tStr s7), (sV false tInt j8), (sV false tStr s11), (sV false tInt k12), (sV false tInt at13), (sV false tInt s63), sAny, sAny])) (wkX hX rfl) (evt_c ok.toOk c_gt (ev_vsh ok.toOk (i := 3) (j := 3) rfl rfl rfl) (ev_int (md := .sh))) (evb_set ok (i := 10) (j := 10) rfl rfl (wkX hX rfl) .sh (ev_mod (md' := .sh) ok.toOk (ev_divC (md' := .sh) ok.toOk (by decide) (by decide) (ev_ixQ ok.toOk sq_l (ev_vsh ok.toOk (i := 0) (j := 0) rfl rfl rfl) (ev_add (md' := .sh) ok.toOk (ev_int (md := .sh)) (ev_modC (md' := .sh) ok.toOk (by decide) (ev_mulL (md' := .sh) ok.toOk (by decide) (ev_int (md := .sh)) (ev_vsh ok.toOk (i := 7) (j := 7) rfl rfl rfl)) (ev_int (md := .sh))))) (ev_int (md := .sh))) (ev_vsh ok.toOk (i := 3) (j := 3) rfl rfl rfl)) fun up33 => (evb_set ok (i := 11) (j := 11) rfl rfl (wkX hX rfl) .sh (ev_mod (md' := .sh) ok.toOk (ev_divC (md' := .sh) ok.toOk (by decide) (by decide) (ev_ixQ ok.toOk sq_l (ev_vsh ok.toOk (i := 0) (j := 0) rfl rfl rfl) (ev_add (md' := .sh) ok.toOk (ev_int (md := .sh)) (ev_modC (md' := .sh) ok.toOk (by decide) (ev_add (md' := .sh) ok.toOk (ev_mulL (md' := .sh) ok.toOk (by decide) (ev_int (md := .sh)) (ev_vsh ok.toOk (i := 5) (j := 5) rfl rfl rfl)) (ev_int (md := .sh))) (ev_int (md := .sh))))) (ev_int (md := .sh))) (ev_vsh ok.toOk (i := 3) (j := 3) rfl rfl rfl)) fun low43 => (evb_ifl (wkX hX rfl) (evt_c ok.toOk (c_ne s_int) (ev_vsh ok.toOk (i := 10) (j := 10) rfl rfl rfl) (ev_vsh ok.toOk (i := 11) (j := 11) rfl rfl rfl)) (evb_set ok (i := 9) (j := 9) rfl rfl (wkX hX rfl) .sh (ev_intB (md' := .sh) ok.toOk (j := 1) rfl X.g_int (ev_c (md' := .sh) ok.toOk c_lt (ev_vsh ok.toOk (i := 10) (j := 10) rfl rfl rfl) (ev_vsh ok.toOk (i := 11) (j := 11) rfl rfl rfl))) fun bit58 => (evb_nx (by rfl) (Wk.s (Wk.s (Wk.s (Wk.s (Wk.s (Wk.s (Wk.s (Wk.s (Wk.s (Wk.s (Wk.a (Wk.a Wk.n)))))))))))))) (evb_nx (by rfl) (Wk.s (Wk.s (Wk.s (Wk.s (Wk.s (Wk.s (Wk.s (Wk.s (Wk.s (Wk.s (Wk.a (Wk.a Wk.n)))))))))))))))) (evb_nx (by rfl) (Wk.s (Wk.s (Wk.s (Wk.s (Wk.s (Wk.s (Wk.s (Wk.s (Wk.s (Wk.s (Wk.s (Wk.s Wk.n))))))))))))) fun s63 => (evb_set ok (i := 6) (j := 6) rfl rfl (wkX hX rfl) .sh (ev_catS (md' := .sh) ok.toOk (ev_vsh ok.toOk (i := 6) (j := 6) rfl rfl rfl) (ev_ixS (md' := .sh) ok.toOk (ev_str (md := .sh) (by decide +kernel)) (ev_vsh ok.toOk (i := 9) (j := 9) rfl rfl rfl))) fun row64 => (evb_go (by rfl) (Wk.s (Wk.s (Wk.s (Wk.s (Wk.s (Wk.s (Wk.s (Wk.a (Wk.a (Wk.a (Wk.s (Wk.s Wk.n)))))))))))))))))) fun s70 => (evb_append ok (wkX hX rfl) (i := 4) (j := 4) rfl rfl rfl .sh (ev_vsh ok.toOk (i := 6) (j := 6) rfl rfl rfl) fun rows71 => (evb_go (by rfl) (Wk.s (Wk.s (Wk.s (Wk.s (Wk.s (Wk.a (Wk.a (Wk.s (Wk.s (Wk.s (Wk.s (Wk.s Wk.n))))))))))))))))) fun s74 => (evb_retOwn ok.toOk (i := 4) (j := 4) rfl rfl rfl (.inl rfl) (by rfl))))
theorem b__law_cloth {p : Pr} (X : Facts p) : Body p s__law_cloth N__law_cloth V__law_cloth G__law_cloth 0 (fun (d : ((List Int) × Int × Int × Int × Unit)) => [(sV false (tList tInt) d.1), (sV false tInt d.2.1), (sV false tInt d.2.2.1), (sV false tInt d.2.2.2.1), sAny, sAny, sAny, sAny, sAny, sAny, sAny, sAny]) (fun r => .rtL false tStr r) r__law_cloth := fun g ok hX d => bb__law_cloth X ok hX d.1 d.2.1 d.2.2.1 d.2.2.2.1
theorem fn__law_cloth {p : Pr} (X : Facts p) : Fn p 1 "_law_cloth" ["numbers", "wide", "high", "layered"] (spM p (aCons (tList tInt) (aCons tInt (aCons tInt (aCons tInt aNil)))) (fun r => .rtL false tStr r) c__law_cloth) := by
  obtain ⟨f, fd, hF, hm⟩ := X.d__law_cloth
  exact ⟨f, fd, eq__law_cloth ▸ fn_rtL (m := 8) hF sc__law_cloth (.cons (.cons (.cons (.cons .nil)))) rfl rfl (b__law_cloth X), hm, hF.kp, hF.bindsN fun _ _ _ _ _ _ us hl => match us, hl with | [_, _, _, _], _ => rfl⟩
abbrev s_measured : Stmt := (topS 7)
abbrev N_measured : List Str := ["cloth", "wide", "text", "sign"]
abbrev V_measured : List Str := ["cloth", "wide", "text", "sign"]
abbrev G_measured : List Str := ["len", "MOST_STRANDS", "NoCloth"]
theorem sc_measured : Sc s_measured N_measured V_measured ["cloth"] G_measured := ⟨⟨rfl, rfl, rfl, by decide +kernel, rfl, by decide +kernel, by decide +kernel⟩, by decide +kernel, by decide +kernel, by decide +kernel⟩
def r_f_measured_l1  : Unit → Tx → M Unit := fun s24 sign25 => M.bind (M.ok ((!decide (sign25 = (tx "#"))) && (!decide (sign25 = (tx "."))))) fun c31 => if c31 = true then M.ex .noCloth else M.ok ()
def f_measured_l1  : Unit → Tx → M Unit := fun s24 sign25 => if ((!decide (sign25 = (tx "#"))) && (!decide (sign25 = (tx ".")))) = true then M.ex .noCloth else M.ok ()
theorem eq_f_measured_l1  : r_f_measured_l1  = f_measured_l1  := by funext s24 sign25; first | (simp only [r_f_measured_l1, f_measured_l1, M.bind_assoc, M.bok]; done) | (simp only [r_f_measured_l1, f_measured_l1, M.bind_assoc, M.bok]; rfl)
def r_f_measured_l2 (wide9 : Int) : Unit → Tx → M Unit := fun s18 text19 => M.bind (M.bind (M.bind (M.ok text19) fun y20 => M.ok (y20.length : Int)) fun y21 => M.bind (M.ok wide9) fun y22 => M.ok (!decide (y21 = y22))) fun c35 => if c35 = true then M.ex .noCloth else M.bind (M.bind (M.ok text19) fun y23 => M.ok (y23.map fun c => [c])) fun xs33 => M.bind (forM r_f_measured_l1 () xs33) fun (s34 : Unit) => M.ok ()
def f_measured_l2 (wide9 : Int) : Unit → Tx → M Unit := fun s18 text19 => if (!decide ((text19.length : Int) = wide9)) = true then M.ex .noCloth else M.bind (forM f_measured_l1 () (text19.map fun c => [c])) fun (s34 : Unit) => M.ok ()
theorem eq_f_measured_l2 (wide9 : Int) : r_f_measured_l2 wide9 = f_measured_l2 wide9 := by funext s18 text19; first | (simp only [r_f_measured_l2, f_measured_l2, M.bind_assoc, M.bok, eq_f_measured_l1]; done) | (simp only [r_f_measured_l2, f_measured_l2, M.bind_assoc, M.bok, eq_f_measured_l1]; rfl)
def q_measured (cloth1 : (List Tx)) : M (Int × Int × Unit) := M.bind (M.ok ((decide ((cloth1.length : Int) < (1 : Int))) || (decide ((40 : Int) < (cloth1.length : Int))))) fun c49 => if c49 = true then M.ex .noCloth else M.bind (M.bind (M.bind (M.ok cloth1) fun y10 => M.bind (M.ok (0 : Int)) fun y11 => getM y10 y11) fun y12 => M.ok (y12.length : Int)) fun wide9 => M.bind (M.ok ((decide (wide9 < (1 : Int))) || (decide ((40 : Int) < wide9)))) fun c47 => if c47 = true then M.ex .noCloth else M.bind (M.ok cloth1) fun xs37 => M.bind (forM (r_f_measured_l2 wide9) () xs37) fun (s38 : Unit) => (M.bind (M.ok wide9) fun y42 => M.bind (M.bind (M.bind (M.ok cloth1) fun y39 => M.ok (y39.length : Int)) fun y40 => M.bind (M.ok ()) fun y41 => M.ok (y40, y41)) fun y43 => M.ok (y42, y43))
def f_measured (cloth1 : (List Tx)) : M (Int × Int × Unit) := if ((decide ((cloth1.length : Int) < (1 : Int))) || (decide ((40 : Int) < (cloth1.length : Int)))) = true then M.ex .noCloth else M.bind (M.bind (getM cloth1 (0 : Int)) fun y12 => M.ok (y12.length : Int)) fun wide9 => if ((decide (wide9 < (1 : Int))) || (decide ((40 : Int) < wide9))) = true then M.ex .noCloth else M.bind (forM (f_measured_l2 wide9) () cloth1) fun (s38 : Unit) => M.ok (wide9, (cloth1.length : Int), ())
def r_measured (d : ((List Tx) × Unit)) : M (Int × Int × Unit) := q_measured d.1
def c_measured (d : ((List Tx) × Unit)) : M (Int × Int × Unit) := f_measured d.1
theorem eq_measured : r_measured = c_measured := by funext d; first | (simp only [r_measured, c_measured, q_measured, f_measured, M.bind_assoc, M.bok, eq_f_measured_l1, eq_f_measured_l2]; done) | (simp only [r_measured, c_measured, q_measured, f_measured, M.bind_assoc, M.bok, eq_f_measured_l1, eq_f_measured_l2]; rfl)
theorem bb_measured {p : Pr} (X : Facts p) {g : G} (ok : OkS p (defScope s_measured) N_measured V_measured G_measured 0 g) (hX : g.LX = List.replicate N_measured.length sAny) (cloth1 : (List Tx)) : EvB g [(sV false (tList tStr) cloth1), sAny, sAny, sAny] (defBody s_measured) (fun r => .rt false (tTup (aCons tInt (aCons tInt aNil))) r) (q_measured cloth1) := (evb_ifr ok (wkX hX rfl) X.x_NoCloth (jj := 0) (j := 2) rfl (EvW.t (evw_orP (pureT (m := M.bind (M.bind (M.ok cloth1) fun y2 => M.ok (y2.length : Int)) fun y3 => M.bind (M.ok (1 : Int)) fun y4 => M.ok (decide (y3 < y4))) (evt_c ok.toOk c_lt (ev_lenQ (md' := .sh) ok.toOk sq_l (j := 0) rfl X.g_len (ev_vsh ok.toOk (i := 0) (j := 0) rfl rfl rfl)) (ev_int (md := .sh))) rfl) (pureW (m := M.bind (M.bind (M.ok cloth1) fun y5 => M.ok (y5.length : Int)) fun y6 => M.bind (M.ok (40 : Int)) fun y7 => M.ok (decide (y7 < y6))) (evw_or1 (evt_c ok.toOk c_gt (ev_lenQ (md' := .sh) ok.toOk sq_l (j := 0) rfl X.g_len (ev_vsh ok.toOk (i := 0) (j := 0) rfl rfl rfl)) (ev_gint (md := .sh) ok.toOk (j := 1) rfl X.c_MOST_STRANDS))) rfl))) (evb_set ok (i := 1) (j := 1) rfl rfl (wkX hX rfl) .sh (ev_lenS (md' := .sh) ok.toOk (j := 0) rfl X.g_len (ev_ixQ ok.toOk sq_l (ev_vsh ok.toOk (i := 0) (j := 0) rfl rfl rfl) (ev_int (md := .sh)))) fun wide9 => (evb_ifr ok (wkX hX rfl) X.x_NoCloth (jj := 0) (j := 2) rfl (EvW.t (evw_orP (pureT (m := M.bind (M.ok wide9) fun y13 => M.bind (M.ok (1 : Int)) fun y14 => M.ok (decide (y13 < y14))) (evt_c ok.toOk c_lt (ev_vsh ok.toOk (i := 1) (j := 1) rfl rfl rfl) (ev_int (md := .sh))) rfl) (pureW (m := M.bind (M.ok wide9) fun y15 => M.bind (M.ok (40 : Int)) fun y16 => M.ok (decide (y16 < y15))) (evw_or1 (evt_c ok.toOk c_gt (ev_vsh ok.toOk (i := 1) (j := 1) rfl rfl rfl) (ev_gint (md := .sh) ok.toOk (j := 1) rfl X.c_MOST_STRANDS))) rfl))) (evb_for (LF := (fun (s18 : Unit) => [(sV false (tList tStr) cloth1), (sV false tInt wide9), sAny, sAny])) (s0 := ()) ok (wkX hX rfl) (evi_seq ok.toOk sq_l (ev_vsh ok.toOk (i := 0) (j := 0) rfl rfl rfl)) (Wk.s (Wk.s (Wk.s (Wk.s Wk.n)))) (fun _ => evg_name ok (i := 2) (j := 2) rfl rfl) (fun s18 text19 => (evb_ifr ok (wkX hX rfl) X.x_NoCloth (jj := 0) (j := 2) rfl (evt_c ok.toOk (c_ne s_int) (ev_lenS (md' := .sh) ok.toOk (j := 0) rfl X.g_len (ev_vsh ok.toOk (i := 2) (j := 2) rfl rfl rfl)) (ev_vsh ok.toOk (i := 1) (j := 1) rfl rfl rfl)) (evb_for (LF := (fun (s24 : Unit) => [(sV false (tList tStr) cloth1), (sV false tInt wide9), (sV false tStr text19), sAny])) (s0 := ()) ok (wkX hX rfl) (evi_str (ev_vsh ok.toOk (i := 2) (j := 2) rfl rfl rfl)) (Wk.s (Wk.s (Wk.s (Wk.s Wk.n)))) (fun _ => evg_name ok (i := 3) (j := 3) rfl rfl) (fun s24 sign25 => (evb_ifr ok (wkX hX rfl) X.x_NoCloth (jj := 0) (j := 2) rfl (EvW.t (evw_andP (pureT (m := M.bind (M.ok sign25) fun y26 => M.bind (M.ok (tx "#")) fun y27 => M.ok (!decide (y26 = y27))) (evt_c ok.toOk (c_ne s_str) (ev_vsh ok.toOk (i := 3) (j := 3) rfl rfl rfl) (ev_str (md := .sh) (by decide +kernel))) rfl) (pureW (m := M.bind (M.ok sign25) fun y28 => M.bind (M.ok (tx ".")) fun y29 => M.ok (!decide (y28 = y29))) (evw_and1 (evt_c ok.toOk (c_ne s_str) (ev_vsh ok.toOk (i := 3) (j := 3) rfl rfl rfl) (ev_str (md := .sh) (by decide +kernel)))) rfl))) (evb_go (by rfl) (Wk.s (Wk.s (Wk.s (Wk.a Wk.n))))))) fun s34 => (evb_go (by rfl) (Wk.s (Wk.s (Wk.a (Wk.s Wk.n)))))))) fun s38 => (evb_ret (wkX hX rfl) .sh (by intro _; rfl) (ev_tup (fun d vs R h => by rw [(lenS (lenS len0)) h]; decide) (eva_cons (ev_vsh ok.toOk (i := 1) (j := 1) rfl rfl rfl) (eva_cons (ev_lenQ (md' := .sh) ok.toOk sq_l (j := 0) rfl X.g_len (ev_vsh ok.toOk (i := 0) (j := 0) rfl rfl rfl)) eva_nil))))))))
theorem b_measured {p : Pr} (X : Facts p) : Body p s_measured N_measured V_measured G_measured 0 (fun (d : ((List Tx) × Unit)) => [(sV false (tList tStr) d.1), sAny, sAny, sAny]) (fun r => .rt false (tTup (aCons tInt (aCons tInt aNil))) r) r_measured := fun g ok hX d => bb_measured X ok hX d.1
theorem fn_measured {p : Pr} (X : Facts p) : Fn p 1 "measured" ["cloth"] (spM p (aCons (tList tStr) aNil) (fun r => .rt false (tTup (aCons tInt (aCons tInt aNil))) r) c_measured) := by
  obtain ⟨f, fd, hF, hm⟩ := X.d_measured
  exact ⟨f, fd, eq_measured ▸ fn_rt (m := 3) hF sc_measured (.cons .nil) rfl rfl (b_measured X), hm, hF.kp, hF.bindsN fun _ _ _ _ _ _ us hl => match us, hl with | [_], _ => rfl⟩
abbrev s_scores_of : Stmt := (topS 9)
abbrev N_scores_of : List Str := ["cloth", "ends", "picks", "counts", "end", "pick", "row"]
abbrev V_scores_of : List Str := ["cloth", "ends", "picks", "counts", "end", "pick"]
abbrev G_scores_of : List Str := ["measured", "range", "len"]
theorem sc_scores_of : Sc s_scores_of N_scores_of V_scores_of ["cloth"] G_scores_of := ⟨⟨rfl, rfl, rfl, by decide +kernel, rfl, by decide +kernel, by decide +kernel⟩, by decide +kernel, by decide +kernel, by decide +kernel⟩
def r_f_scores_of_l1 (cloth1 : (List Tx)) : ((List Int)) → Int → M ((List Int)) := fun s8 end9 => M.bind (M.bind (M.bind (M.ok cloth1) fun xs18 => compM (fun row11 => M.bind (M.bind (M.bind (M.ok row11) fun y12 => M.bind (M.ok end9) fun y13 => getS y12 y13) fun y14 => M.bind (M.ok (tx "#")) fun y15 => M.ok (decide (y14 = y15))) fun c16 => if c16 = true then M.bind (M.ok row11) fun y17 => M.ok (some y17) else M.ok none) xs18) fun y19 => M.ok (y19.length : Int)) fun y20 => M.bind (pushM s8 y20) fun counts10 => M.ok counts10
def f_scores_of_l1 (cloth1 : (List Tx)) : ((List Int)) → Int → M ((List Int)) := fun s8 end9 => M.bind (M.bind (compM (fun row11 => M.bind (M.bind (getS row11 end9) fun y14 => M.ok (decide (y14 = (tx "#")))) fun c16 => if c16 = true then M.ok (some row11) else M.ok none) cloth1) fun y19 => M.ok (y19.length : Int)) fun y20 => M.bind (pushM s8 y20) fun counts10 => M.ok counts10
theorem eq_f_scores_of_l1 (cloth1 : (List Tx)) : r_f_scores_of_l1 cloth1 = f_scores_of_l1 cloth1 := by funext s8 end9; first | (simp only [r_f_scores_of_l1, f_scores_of_l1, M.bind_assoc, M.bok, c_measured]; done) | (simp only [r_f_scores_of_l1, f_scores_of_l1, M.bind_assoc, M.bok, c_measured]; rfl)
def r_f_scores_of_l2 (cloth1 : (List Tx)) : ((List Int)) → Int → M ((List Int)) := fun s24 pick25 => M.bind (M.bind (M.bind (M.ok cloth1) fun y27 => M.bind (M.ok pick25) fun y28 => getM y27 y28) fun y29 => M.bind (M.ok (tx ".")) fun y30 => countS y29 y30) fun y31 => M.bind (pushM s24 y31) fun counts26 => M.ok counts26
def f_scores_of_l2 (cloth1 : (List Tx)) : ((List Int)) → Int → M ((List Int)) := fun s24 pick25 => M.bind (M.bind (getM cloth1 pick25) fun y29 => countS y29 (tx ".")) fun y31 => M.bind (pushM s24 y31) fun counts26 => M.ok counts26
theorem eq_f_scores_of_l2 (cloth1 : (List Tx)) : r_f_scores_of_l2 cloth1 = f_scores_of_l2 cloth1 := by funext s24 pick25; first | (simp only [r_f_scores_of_l2, f_scores_of_l2, M.bind_assoc, M.bok, eq_f_scores_of_l1, c_measured]; done) | (simp only [r_f_scores_of_l2, f_scores_of_l2, M.bind_assoc, M.bok, eq_f_scores_of_l1, c_measured]; rfl)
def q_scores_of (cloth1 : (List Tx)) : M (List Int) := M.bind (M.bind (M.bind (M.ok cloth1) fun y2 => M.bind (M.ok ()) fun y3 => M.ok (y2, y3)) c_measured) fun t5 => M.bind (M.ok []) fun counts6 => M.bind (M.bind (M.ok t5.1) fun y7 => rangeM 0 y7) fun xs21 => M.bind (forM (r_f_scores_of_l1 cloth1) counts6 xs21) fun (s22 : ((List Int))) => M.bind (M.bind (M.ok t5.2.1) fun y23 => rangeM 0 y23) fun xs32 => M.bind (forM (r_f_scores_of_l2 cloth1) s22 xs32) fun (s33 : ((List Int))) => M.ok s33
def f_scores_of (cloth1 : (List Tx)) : M (List Int) := M.bind (f_measured cloth1) fun t5 => let counts6 : (List Int) := []; M.bind (rangeM 0 t5.1) fun xs21 => M.bind (forM (f_scores_of_l1 cloth1) counts6 xs21) fun (s22 : ((List Int))) => M.bind (rangeM 0 t5.2.1) fun xs32 => M.bind (forM (f_scores_of_l2 cloth1) s22 xs32) fun (s33 : ((List Int))) => M.ok s33
def r_scores_of (d : ((List Tx) × Unit)) : M (List Int) := q_scores_of d.1
def c_scores_of (d : ((List Tx) × Unit)) : M (List Int) := f_scores_of d.1
theorem eq_scores_of : r_scores_of = c_scores_of := by funext d; first | (simp only [r_scores_of, c_scores_of, q_scores_of, f_scores_of, M.bind_assoc, M.bok, eq_f_scores_of_l1, eq_f_scores_of_l2, c_measured]; done) | (simp only [r_scores_of, c_scores_of, q_scores_of, f_scores_of, M.bind_assoc, M.bok, eq_f_scores_of_l1, eq_f_scores_of_l2, c_measured]; rfl)
theorem bb_scores_of {p : Pr} (X : Facts p) {g : G} (ok : OkS p (defScope s_scores_of) N_scores_of V_scores_of G_scores_of 1 g) (hX : g.LX = List.replicate N_scores_of.length sAny) (cloth1 : (List Tx)) : EvB g [(sV false (tList tStr) cloth1), sAny, sAny, sAny, sAny, sAny, sAny] (defBody s_scores_of) (fun r => .rtL false tInt r) (q_scores_of cloth1) := (evb_asg ok (wkX hX rfl) (ev_call (md' := .sh) ok.toOk (fn_measured X) (by decide) (j := 0) rfl .sh (eva_cons (md := .sh) (ev_vsh ok.toOk (i := 0) (j := 0) rfl rfl rfl) eva_nil)) (evg_tup ok.toOk (lenS (lenS len0)) (evgs_cons (evg_name ok (i := 1) (j := 1) rfl rfl) fun _ => (evgs_cons (evg_name ok (i := 2) (j := 2) rfl rfl) fun _ => evgs_nil))) fun t5 => (evb_own ok (i := 3) (j := 3) rfl rfl (wkX hX rfl) .sh (evl_nil (md := .sh) (S := tInt)) fun counts6 => (evb_for (LF := (fun (s8 : ((List Int))) => [(sV false (tList tStr) cloth1), (sV false tInt t5.1), (sV false tInt t5.2.1), (sOwn false tInt s8), sAny, sAny, sAny])) (s0 := counts6) ok (wkX hX rfl) (evi_range1 ok.toOk (j := 1) rfl X.g_range (ev_vsh ok.toOk (i := 1) (j := 1) rfl rfl rfl)) (Wk.s (Wk.s (Wk.s (Wk.s (Wk.s (Wk.s (Wk.s Wk.n))))))) (fun _ => evg_name ok (i := 4) (j := 4) rfl rfl) (fun s8 end9 => (evb_append ok (wkX hX rfl) (i := 3) (j := 3) rfl rfl rfl .sh (ev_lenQ (md' := .sh) ok.toOk sq_l (j := 2) rfl X.g_len (ev_ofL (evl_lc (md := .sh) (VV' := ["row", "end"]) (GG' := []) (i := 6) ok.toOk (evi_seq ok.toOk sq_l (ev_vsh ok.toOk (i := 0) (j := 0) rfl rfl rfl)) rfl rfl no_any (by decide +kernel) (by decide +kernel) (by decide +kernel) (by decide +kernel) (fun g' okc row11 => (evpts_one (evt_c okc (c_eq s_str) (ev_ixS (md' := .sh) okc (ev_vsh okc (i := 6) (j := 0) rfl rfl rfl) (ev_vsh okc (i := 4) (j := 1) rfl rfl rfl)) (ev_str (md := .sh) (by decide +kernel))))) (fun g' okc row11 => (ev_vsh okc (i := 6) (j := 0) rfl rfl rfl))))) fun counts10 => (evb_go (by rfl) (Wk.s (Wk.s (Wk.s (Wk.s (Wk.a (Wk.s (Wk.s Wk.n)))))))))) fun s22 => (evb_for (LF := (fun (s24 : ((List Int))) => [(sV false (tList tStr) cloth1), (sV false tInt t5.1), (sV false tInt t5.2.1), (sOwn false tInt s24), sAny, sAny, sAny])) (s0 := s22) ok (wkX hX rfl) (evi_range1 ok.toOk (j := 1) rfl X.g_range (ev_vsh ok.toOk (i := 2) (j := 2) rfl rfl rfl)) (Wk.s (Wk.s (Wk.s (Wk.s (Wk.s (Wk.s (Wk.s Wk.n))))))) (fun _ => evg_name ok (i := 5) (j := 5) rfl rfl) (fun s24 pick25 => (evb_append ok (wkX hX rfl) (i := 3) (j := 3) rfl rfl rfl .sh (ev_countS (md' := .sh) ok.toOk (ev_ixQ ok.toOk sq_l (ev_vsh ok.toOk (i := 0) (j := 0) rfl rfl rfl) (ev_vsh ok.toOk (i := 5) (j := 5) rfl rfl rfl)) (ev_str (md := .sh) (by decide +kernel))) fun counts26 => (evb_go (by rfl) (Wk.s (Wk.s (Wk.s (Wk.s (Wk.s (Wk.a (Wk.s Wk.n)))))))))) fun s33 => (evb_retOwn ok.toOk (i := 3) (j := 3) rfl rfl rfl (.inl rfl) (by rfl))))))
theorem b_scores_of {p : Pr} (X : Facts p) : Body p s_scores_of N_scores_of V_scores_of G_scores_of 1 (fun (d : ((List Tx) × Unit)) => [(sV false (tList tStr) d.1), sAny, sAny, sAny, sAny, sAny, sAny]) (fun r => .rtL false tInt r) r_scores_of := fun g ok hX d => bb_scores_of X ok hX d.1
theorem fn_scores_of {p : Pr} (X : Facts p) : Fn p 2 "scores_of" ["cloth"] (spM p (aCons (tList tStr) aNil) (fun r => .rtL false tInt r) c_scores_of) := by
  obtain ⟨f, fd, hF, hm⟩ := X.d_scores_of
  exact ⟨f, fd, eq_scores_of ▸ fn_rtL (m := 6) hF sc_scores_of (.cons .nil) rfl rfl (b_scores_of X), hm, hF.kp, hF.bindsN fun _ _ _ _ _ _ us hl => match us, hl with | [_], _ => rfl⟩
abbrev s_by_count : Stmt := topS 11
abbrev N_by_count : List Str := ["counts", "first", "behind"]
abbrev V_by_count : List Str := ["counts", "first", "behind"]
abbrev G_by_count : List Str := ["sorted", "range"]
theorem sc_by_count : Sc s_by_count N_by_count V_by_count ["counts", "first", "behind"] G_by_count := ⟨⟨rfl, rfl, rfl, by decide +kernel, rfl, by decide +kernel, by decide +kernel⟩, by decide +kernel, by decide +kernel, by decide +kernel⟩
def f_by_count (counts : List Int) (first : Int) (behind : Int) : M (List Int) := sortKeyM counts first behind
def c_by_count (d : (List Int × Int × Int × Unit)) : M (List Int) := f_by_count d.1 d.2.1 d.2.2.1
theorem fn_by_count {p : Pr} (X : Facts p) : Fn p 1 "by_count" ["counts", "first", "behind"] (spM p (aCons (tList tInt) (aCons tInt (aCons tInt aNil))) (fun r => .rtL false tInt r) c_by_count) := by
  obtain ⟨f, fd, hF, hm, c, P, hc, hT, TB⟩ := X.d_by_count
  refine ⟨f, fd, fn_genC (m := 0) hF sc_by_count (.cons (.cons (.cons .nil))) rfl rfl (fun g ok hX hcode hqual d => ?_), hm, hF.kp, hF.bindsN fun _ _ _ _ _ _ us hl => match us, hl with | [_, _, _], _ => rfl⟩
  exact evb_retL (m := M.bind (M.ok d.2.1) fun lo => M.bind (M.ok d.2.2.1) fun hi => sortKeyM d.1 lo hi) (wkX hX rfl) .sh (by intro _; rfl) (evl_sortLam (md' := .sh) ok (j := 0) rfl X.g_sorted (j2 := 1) rfl X.g_range (i := 0) rfl rfl (ev_vsh ok.toOk (i := 1) (j := 1) rfl rfl rfl) (ev_vsh ok.toOk (i := 2) (j := 2) rfl rfl rfl) hT TB (hcode.trans hc) (by rw [hqual]; decide +kernel) rfl ⟨rfl, rfl, rfl, by decide +kernel, by decide +kernel, by decide +kernel, by decide +kernel, by decide +kernel, by decide +kernel, by decide +kernel, fun _ _ _ _ _ => rfl⟩ (by decide +kernel))
abbrev s_running_sums : Stmt := (topS 12)
abbrev N_running_sums : List Str := ["counts", "line", "sums", "strand"]
abbrev V_running_sums : List Str := ["counts", "line", "sums", "strand"]
abbrev G_running_sums : List Str := []
theorem sc_running_sums : Sc s_running_sums N_running_sums V_running_sums ["counts", "line"] G_running_sums := ⟨⟨rfl, rfl, rfl, by decide +kernel, rfl, by decide +kernel, by decide +kernel⟩, by decide +kernel, by decide +kernel, by decide +kernel⟩
def r_f_running_sums_l1 (counts1 : (List Int)) : ((List Int)) → Int → M ((List Int)) := fun s7 strand8 => M.bind (M.bind (M.bind (M.ok s7) fun y11 => M.bind (M.bind (M.ok (1 : Int)) fun y10 => M.ok (-y10)) fun y12 => getM y11 y12) fun y15 => M.bind (M.bind (M.ok counts1) fun y13 => M.bind (M.ok strand8) fun y14 => getM y13 y14) fun y16 => M.ok (y15 + y16)) fun y17 => M.bind (pushM s7 y17) fun sums9 => M.ok sums9
def f_running_sums_l1 (counts1 : (List Int)) : ((List Int)) → Int → M ((List Int)) := fun s7 strand8 => M.bind (M.bind (getM s7 (-(1 : Int))) fun y15 => M.bind (getM counts1 strand8) fun y16 => M.ok (y15 + y16)) fun y17 => M.bind (pushM s7 y17) fun sums9 => M.ok sums9
theorem eq_f_running_sums_l1 (counts1 : (List Int)) : r_f_running_sums_l1 counts1 = f_running_sums_l1 counts1 := by funext s7 strand8; first | (simp only [r_f_running_sums_l1, f_running_sums_l1, M.bind_assoc, M.bok]; done) | (simp only [r_f_running_sums_l1, f_running_sums_l1, M.bind_assoc, M.bok]; rfl)
def q_running_sums (counts1 : (List Int)) (line2 : (List Int)) : M (List Int) := M.bind (M.bind (M.ok (0 : Int)) fun y4 => M.bind (M.ok []) fun y5 => M.ok (y4 :: y5)) fun sums3 => M.bind (M.ok line2) fun xs18 => M.bind (forM (r_f_running_sums_l1 counts1) sums3 xs18) fun (s19 : ((List Int))) => M.ok s19
def f_running_sums (counts1 : (List Int)) (line2 : (List Int)) : M (List Int) := let sums3 : (List Int) := [(0 : Int)]; M.bind (forM (f_running_sums_l1 counts1) sums3 line2) fun (s19 : ((List Int))) => M.ok s19
def r_running_sums (d : ((List Int) × (List Int) × Unit)) : M (List Int) := q_running_sums d.1 d.2.1
def c_running_sums (d : ((List Int) × (List Int) × Unit)) : M (List Int) := f_running_sums d.1 d.2.1
theorem eq_running_sums : r_running_sums = c_running_sums := by funext d; first | (simp only [r_running_sums, c_running_sums, q_running_sums, f_running_sums, M.bind_assoc, M.bok, eq_f_running_sums_l1]; done) | (simp only [r_running_sums, c_running_sums, q_running_sums, f_running_sums, M.bind_assoc, M.bok, eq_f_running_sums_l1]; rfl)
theorem bb_running_sums {p : Pr} (X : Facts p) {g : G} (ok : OkS p (defScope s_running_sums) N_running_sums V_running_sums G_running_sums 0 g) (hX : g.LX = List.replicate N_running_sums.length sAny) (counts1 : (List Int)) (line2 : (List Int)) : EvB g [(sV false (tList tInt) counts1), (sV false (tList tInt) line2), sAny, sAny] (defBody s_running_sums) (fun r => .rtL false tInt r) (q_running_sums counts1 line2) := (evb_own ok (i := 2) (j := 2) rfl rfl (wkX hX rfl) .sh (evl_lstN (n := 1) (lnS ln0) (by decide) (evs_cons (ev_int (md := .sh)) evs_nil)) fun sums3 => (evb_for (LF := (fun (s7 : ((List Int))) => [(sV false (tList tInt) counts1), (sV false (tList tInt) line2), (sOwn false tInt s7), sAny])) (s0 := sums3) ok (wkX hX rfl) (evi_seq ok.toOk sq_l (ev_vsh ok.toOk (i := 1) (j := 1) rfl rfl rfl)) (Wk.s (Wk.s (Wk.s (Wk.s Wk.n)))) (fun _ => evg_name ok (i := 3) (j := 3) rfl rfl) (fun s7 strand8 => (evb_append ok (wkX hX rfl) (i := 2) (j := 2) rfl rfl rfl .sh (ev_borrow (i := 2) (.inl flInt) rfl (ev_add (md' := .sh) ok.toOk (ev_ixQ ok.toOk sq_l (ev_vsh ok.toOk (i := 2) (j := 2) rfl rfl rfl) (ev_neg (md' := .sh) ok.toOk (ev_int (md := .sh)))) (ev_ixQ ok.toOk sq_l (ev_vsh ok.toOk (i := 0) (j := 0) rfl rfl rfl) (ev_vsh ok.toOk (i := 3) (j := 3) rfl rfl rfl)))) fun sums9 => (evb_go (by rfl) (Wk.s (Wk.s (Wk.s (Wk.a Wk.n))))))) fun s19 => (evb_retOwn ok.toOk (i := 2) (j := 2) rfl rfl rfl (.inl rfl) (by rfl))))
theorem b_running_sums {p : Pr} (X : Facts p) : Body p s_running_sums N_running_sums V_running_sums G_running_sums 0 (fun (d : ((List Int) × (List Int) × Unit)) => [(sV false (tList tInt) d.1), (sV false (tList tInt) d.2.1), sAny, sAny]) (fun r => .rtL false tInt r) r_running_sums := fun g ok hX d => bb_running_sums X ok hX d.1 d.2.1
theorem fn_running_sums {p : Pr} (X : Facts p) : Fn p 1 "running_sums" ["counts", "line"] (spM p (aCons (tList tInt) (aCons (tList tInt) aNil)) (fun r => .rtL false tInt r) c_running_sums) := by
  obtain ⟨f, fd, hF, hm⟩ := X.d_running_sums
  exact ⟨f, fd, eq_running_sums ▸ fn_rtL (m := 2) hF sc_running_sums (.cons (.cons .nil)) rfl rfl (b_running_sums X), hm, hF.kp, hF.bindsN fun _ _ _ _ _ _ us hl => match us, hl with | [_, _], _ => rfl⟩
abbrev s_tops_of : Stmt := (topS 13)
abbrev N_tops_of : List Str := ["cloth", "ends", "picks", "counts", "end_sums", "pick_sums", "found", "many", "more"]
abbrev V_tops_of : List Str := ["cloth", "ends", "picks", "counts", "end_sums", "pick_sums", "found", "many", "more"]
abbrev G_tops_of : List Str := ["measured", "scores_of", "by_count", "running_sums", "range"]
theorem sc_tops_of : Sc s_tops_of N_tops_of V_tops_of ["cloth"] G_tops_of := ⟨⟨rfl, rfl, rfl, by decide +kernel, rfl, by decide +kernel, by decide +kernel⟩, by decide +kernel, by decide +kernel, by decide +kernel⟩
def r_f_tops_of_l1 (t5 : (Int × Int × Unit)) (endsums10 : (List Int)) (picksums26 : (List Int)) (many49 : Int) : ((List (Int × Int × Unit))) → Int → M ((List (Int × Int × Unit))) := fun s53 more54 => M.bind (M.bind (M.bind (M.bind (M.ok endsums10) fun y55 => M.bind (M.ok many49) fun y56 => getM y55 y56) fun y59 => M.bind (M.bind (M.ok picksums26) fun y57 => M.bind (M.ok more54) fun y58 => getM y57 y58) fun y60 => M.ok (y59 + y60)) fun y71 => M.bind (M.bind (M.bind (M.bind (M.ok many49) fun y61 => M.bind (M.ok t5.2.1) fun y62 => mulM y61 y62) fun y65 => M.bind (M.bind (M.ok more54) fun y63 => M.bind (M.ok t5.1) fun y64 => mulM y63 y64) fun y66 => M.ok (y65 + y66)) fun y69 => M.bind (M.bind (M.ok many49) fun y67 => M.bind (M.ok more54) fun y68 => mulM y67 y68) fun y70 => M.ok (y69 - y70)) fun y72 => M.ok (decide (y71 = y72))) fun c73 => if c73 = true then M.bind (M.bind (M.ok many49) fun y77 => M.bind (M.bind (M.ok more54) fun y75 => M.bind (M.ok ()) fun y76 => M.ok (y75, y76)) fun y78 => M.ok (y77, y78)) fun y81 => M.bind (pushM s53 y81) fun found74 => M.ok found74 else M.ok s53
def f_tops_of_l1 (t5 : (Int × Int × Unit)) (endsums10 : (List Int)) (picksums26 : (List Int)) (many49 : Int) : ((List (Int × Int × Unit))) → Int → M ((List (Int × Int × Unit))) := fun s53 more54 => M.bind (M.bind (M.bind (getM endsums10 many49) fun y59 => M.bind (getM picksums26 more54) fun y60 => M.ok (y59 + y60)) fun y71 => M.bind (M.bind (M.bind (mulM many49 t5.2.1) fun y65 => M.bind (mulM more54 t5.1) fun y66 => M.ok (y65 + y66)) fun y69 => M.bind (mulM many49 more54) fun y70 => M.ok (y69 - y70)) fun y72 => M.ok (decide (y71 = y72))) fun c82 => if c82 = true then M.bind (pushM s53 (many49, more54, ())) fun found74 => M.ok found74 else M.ok s53
theorem eq_f_tops_of_l1 (t5 : (Int × Int × Unit)) (endsums10 : (List Int)) (picksums26 : (List Int)) (many49 : Int) : r_f_tops_of_l1 t5 endsums10 picksums26 many49 = f_tops_of_l1 t5 endsums10 picksums26 many49 := by funext s53 more54; first | (simp only [r_f_tops_of_l1, f_tops_of_l1, M.bind_assoc, M.bok, c_by_count, c_measured, c_running_sums, c_scores_of]; done) | (simp only [r_f_tops_of_l1, f_tops_of_l1, M.bind_assoc, M.bok, c_by_count, c_measured, c_running_sums, c_scores_of]; rfl)
def r_f_tops_of_l2 (t5 : (Int × Int × Unit)) (endsums10 : (List Int)) (picksums26 : (List Int)) : ((List (Int × Int × Unit))) → Int → M ((List (Int × Int × Unit))) := fun s48 many49 => M.bind (M.bind (M.bind (M.ok t5.2.1) fun y50 => M.bind (M.ok (1 : Int)) fun y51 => M.ok (y50 + y51)) fun y52 => rangeM 0 y52) fun xs83 => M.bind (forM (r_f_tops_of_l1 t5 endsums10 picksums26 many49) s48 xs83) fun (s84 : ((List (Int × Int × Unit)))) => M.ok s84
def f_tops_of_l2 (t5 : (Int × Int × Unit)) (endsums10 : (List Int)) (picksums26 : (List Int)) : ((List (Int × Int × Unit))) → Int → M ((List (Int × Int × Unit))) := fun s48 many49 => M.bind (rangeM 0 (t5.2.1 + (1 : Int))) fun xs83 => M.bind (forM (f_tops_of_l1 t5 endsums10 picksums26 many49) s48 xs83) fun (s84 : ((List (Int × Int × Unit)))) => M.ok s84
theorem eq_f_tops_of_l2 (t5 : (Int × Int × Unit)) (endsums10 : (List Int)) (picksums26 : (List Int)) : r_f_tops_of_l2 t5 endsums10 picksums26 = f_tops_of_l2 t5 endsums10 picksums26 := by funext s48 many49; first | (simp only [r_f_tops_of_l2, f_tops_of_l2, M.bind_assoc, M.bok, eq_f_tops_of_l1, c_by_count, c_measured, c_running_sums, c_scores_of]; done) | (simp only [r_f_tops_of_l2, f_tops_of_l2, M.bind_assoc, M.bok, eq_f_tops_of_l1, c_by_count, c_measured, c_running_sums, c_scores_of]; rfl)
def q_tops_of (cloth1 : (List Tx)) : M (List (Int × Int × Unit)) := M.bind (M.bind (M.bind (M.ok cloth1) fun y2 => M.bind (M.ok ()) fun y3 => M.ok (y2, y3)) c_measured) fun t5 => M.bind (M.bind (M.bind (M.ok cloth1) fun y7 => M.bind (M.ok ()) fun y8 => M.ok (y7, y8)) c_scores_of) fun counts6 => M.bind (M.bind (M.bind (M.ok counts6) fun y22 => M.bind (M.bind (M.bind (M.bind (M.ok counts6) fun y15 => M.bind (M.bind (M.ok (0 : Int)) fun y13 => M.bind (M.bind (M.ok t5.1) fun y11 => M.bind (M.ok ()) fun y12 => M.ok (y11, y12)) fun y14 => M.ok (y13, y14)) fun y16 => M.ok (y15, y16)) c_by_count) fun y20 => M.bind (M.ok ()) fun y21 => M.ok (y20, y21)) fun y23 => M.ok (y22, y23)) c_running_sums) fun endsums10 => M.bind (M.bind (M.bind (M.ok counts6) fun y40 => M.bind (M.bind (M.bind (M.bind (M.ok counts6) fun y33 => M.bind (M.bind (M.ok t5.1) fun y31 => M.bind (M.bind (M.bind (M.ok t5.1) fun y27 => M.bind (M.ok t5.2.1) fun y28 => M.ok (y27 + y28)) fun y29 => M.bind (M.ok ()) fun y30 => M.ok (y29, y30)) fun y32 => M.ok (y31, y32)) fun y34 => M.ok (y33, y34)) c_by_count) fun y38 => M.bind (M.ok ()) fun y39 => M.ok (y38, y39)) fun y41 => M.ok (y40, y41)) c_running_sums) fun picksums26 => M.bind (M.ok []) fun found44 => M.bind (M.bind (M.bind (M.ok t5.1) fun y45 => M.bind (M.ok (1 : Int)) fun y46 => M.ok (y45 + y46)) fun y47 => rangeM 0 y47) fun xs85 => M.bind (forM (r_f_tops_of_l2 t5 endsums10 picksums26) found44 xs85) fun (s86 : ((List (Int × Int × Unit)))) => M.ok s86
def f_tops_of (cloth1 : (List Tx)) : M (List (Int × Int × Unit)) := M.bind (f_measured cloth1) fun t5 => M.bind (f_scores_of cloth1) fun counts6 => M.bind (M.bind (f_by_count counts6 (0 : Int) t5.1) fun y25 => f_running_sums counts6 y25) fun endsums10 => M.bind (M.bind (f_by_count counts6 t5.1 (t5.1 + t5.2.1)) fun y43 => f_running_sums counts6 y43) fun picksums26 => let found44 : (List (Int × Int × Unit)) := []; M.bind (rangeM 0 (t5.1 + (1 : Int))) fun xs85 => M.bind (forM (f_tops_of_l2 t5 endsums10 picksums26) found44 xs85) fun (s86 : ((List (Int × Int × Unit)))) => M.ok s86
def r_tops_of (d : ((List Tx) × Unit)) : M (List (Int × Int × Unit)) := q_tops_of d.1
def c_tops_of (d : ((List Tx) × Unit)) : M (List (Int × Int × Unit)) := f_tops_of d.1
theorem eq_tops_of : r_tops_of = c_tops_of := by funext d; first | (simp only [r_tops_of, c_tops_of, q_tops_of, f_tops_of, M.bind_assoc, M.bok, eq_f_tops_of_l1, eq_f_tops_of_l2, c_by_count, c_measured, c_running_sums, c_scores_of]; done) | (simp only [r_tops_of, c_tops_of, q_tops_of, f_tops_of, M.bind_assoc, M.bok, eq_f_tops_of_l1, eq_f_tops_of_l2, c_by_count, c_measured, c_running_sums, c_scores_of]; rfl)
theorem bb_tops_of {p : Pr} (X : Facts p) {g : G} (ok : OkS p (defScope s_tops_of) N_tops_of V_tops_of G_tops_of 2 g) (hX : g.LX = List.replicate N_tops_of.length sAny) (cloth1 : (List Tx)) : EvB g [(sV false (tList tStr) cloth1), sAny, sAny, sAny, sAny, sAny, sAny, sAny, sAny] (defBody s_tops_of) (fun r => .rtL false (tTup (aCons tInt (aCons tInt aNil))) r) (q_tops_of cloth1) := (evb_asg ok (wkX hX rfl) (ev_call (md' := .sh) ok.toOk (fn_measured X) (by decide) (j := 0) rfl .sh (eva_cons (md := .sh) (ev_vsh ok.toOk (i := 0) (j := 0) rfl rfl rfl) eva_nil)) (evg_tup ok.toOk (lenS (lenS len0)) (evgs_cons (evg_name ok (i := 1) (j := 1) rfl rfl) fun _ => (evgs_cons (evg_name ok (i := 2) (j := 2) rfl rfl) fun _ => evgs_nil))) fun t5 => (evb_set ok (i := 3) (j := 3) rfl rfl (wkX hX rfl) .sh (ev_ofL (evl_call (md' := .sh) ok.toOk (fn_scores_of X) (by decide) (j := 1) rfl .sh (eva_cons (md := .sh) (ev_vsh ok.toOk (i := 0) (j := 0) rfl rfl rfl) eva_nil))) fun counts6 => (evb_set ok (i := 4) (j := 4) rfl rfl (wkX hX rfl) .sh (ev_ofL (evl_call (md' := .sh) ok.toOk (fn_running_sums X) (by decide) (j := 3) rfl .sh (eva_cons (md := .sh) (ev_vsh ok.toOk (i := 3) (j := 3) rfl rfl rfl) (eva_cons (md := .sh) (ev_ofL (evl_call (md' := .sh) ok.toOk (fn_by_count X) (by decide) (j := 2) rfl .sh (eva_cons (md := .sh) (ev_vsh ok.toOk (i := 3) (j := 3) rfl rfl rfl) (eva_cons (md := .sh) (ev_int (md := .sh)) (eva_cons (md := .sh) (ev_vsh ok.toOk (i := 1) (j := 1) rfl rfl rfl) eva_nil))))) eva_nil)))) fun endsums10 => (evb_set ok (i := 5) (j := 5) rfl rfl (wkX hX rfl) .sh (ev_ofL (evl_call (md' := .sh) ok.toOk (fn_running_sums X) (by decide) (j := 3) rfl .sh (eva_cons (md := .sh) (ev_vsh ok.toOk (i := 3) (j := 3) rfl rfl rfl) (eva_cons (md := .sh) (ev_ofL (evl_call (md' := .sh) ok.toOk (fn_by_count X) (by decide) (j := 2) rfl .sh (eva_cons (md := .sh) (ev_vsh ok.toOk (i := 3) (j := 3) rfl rfl rfl) (eva_cons (md := .sh) (ev_vsh ok.toOk (i := 1) (j := 1) rfl rfl rfl) (eva_cons (md := .sh) (ev_add (md' := .sh) ok.toOk (ev_vsh ok.toOk (i := 1) (j := 1) rfl rfl rfl) (ev_vsh ok.toOk (i := 2) (j := 2) rfl rfl rfl)) eva_nil))))) eva_nil)))) fun picksums26 => (evb_own ok (i := 6) (j := 6) rfl rfl (wkX hX rfl) .sh (evl_nil (md := .sh) (S := (tTup (aCons tInt (aCons tInt aNil))))) fun found44 => (evb_for (LF := (fun (s48 : ((List (Int × Int × Unit)))) => [(sV false (tList tStr) cloth1), (sV false tInt t5.1), (sV false tInt t5.2.1), (sV false (tList tInt) counts6), (sV false (tList tInt) endsums10), (sV false (tList tInt) picksums26), (sOwn false (tTup (aCons tInt (aCons tInt aNil))) s48), sAny, sAny])) (s0 := found44) ok (wkX hX rfl) (evi_range1 ok.toOk (j := 4) rfl X.g_range (ev_add (md' := .sh) ok.toOk (ev_vsh ok.toOk (i := 1) (j := 1) rfl rfl rfl) (ev_int (md := .sh)))) (Wk.s (Wk.s (Wk.s (Wk.s (Wk.s (Wk.s (Wk.s (Wk.s (Wk.s Wk.n))))))))) (fun _ => evg_name ok (i := 7) (j := 7) rfl rfl) (fun s48 many49 => (evb_for (LF := (fun (s53 : ((List (Int × Int × Unit)))) => [(sV false (tList tStr) cloth1), (sV false tInt t5.1), (sV false tInt t5.2.1), (sV false (tList tInt) counts6), (sV false (tList tInt) endsums10), (sV false (tList tInt) picksums26), (sOwn false (tTup (aCons tInt (aCons tInt aNil))) s53), (sV false tInt many49), sAny])) (s0 := s48) ok (wkX hX rfl) (evi_range1 ok.toOk (j := 4) rfl X.g_range (ev_add (md' := .sh) ok.toOk (ev_vsh ok.toOk (i := 2) (j := 2) rfl rfl rfl) (ev_int (md := .sh)))) (Wk.s (Wk.s (Wk.s (Wk.s (Wk.s (Wk.s (Wk.s (Wk.s (Wk.s Wk.n))))))))) (fun _ => evg_name ok (i := 8) (j := 8) rfl rfl) (fun s53 more54 => (evb_ifl (wkX hX rfl) (evt_c ok.toOk (c_eq s_int) (ev_add (md' := .sh) ok.toOk (ev_ixQ ok.toOk sq_l (ev_vsh ok.toOk (i := 4) (j := 4) rfl rfl rfl) (ev_vsh ok.toOk (i := 7) (j := 7) rfl rfl rfl)) (ev_ixQ ok.toOk sq_l (ev_vsh ok.toOk (i := 5) (j := 5) rfl rfl rfl) (ev_vsh ok.toOk (i := 8) (j := 8) rfl rfl rfl))) (ev_subt (md' := .sh) ok.toOk (ev_add (md' := .sh) ok.toOk (ev_mul (md' := .sh) ok.toOk (ev_vsh ok.toOk (i := 7) (j := 7) rfl rfl rfl) (ev_vsh ok.toOk (i := 2) (j := 2) rfl rfl rfl)) (ev_mul (md' := .sh) ok.toOk (ev_vsh ok.toOk (i := 8) (j := 8) rfl rfl rfl) (ev_vsh ok.toOk (i := 1) (j := 1) rfl rfl rfl))) (ev_mul (md' := .sh) ok.toOk (ev_vsh ok.toOk (i := 7) (j := 7) rfl rfl rfl) (ev_vsh ok.toOk (i := 8) (j := 8) rfl rfl rfl)))) (evb_append ok (wkX hX rfl) (i := 6) (j := 6) rfl rfl rfl .sh (ev_tup (fun d vs R h => by rw [(lenS (lenS len0)) h]; decide) (eva_cons (ev_vsh ok.toOk (i := 7) (j := 7) rfl rfl rfl) (eva_cons (ev_vsh ok.toOk (i := 8) (j := 8) rfl rfl rfl) eva_nil))) fun found74 => (evb_go (by rfl) (Wk.s (Wk.s (Wk.s (Wk.s (Wk.s (Wk.s (Wk.s (Wk.s (Wk.a Wk.n))))))))))) (evb_go (by rfl) (Wk.s (Wk.s (Wk.s (Wk.s (Wk.s (Wk.s (Wk.s (Wk.s (Wk.a Wk.n)))))))))))) fun s84 => (evb_go (by rfl) (Wk.s (Wk.s (Wk.s (Wk.s (Wk.s (Wk.s (Wk.s (Wk.a (Wk.s Wk.n)))))))))))) fun s86 => (evb_retOwn ok.toOk (i := 6) (j := 6) rfl rfl rfl (.inl rfl) (by rfl))))))))
theorem b_tops_of {p : Pr} (X : Facts p) : Body p s_tops_of N_tops_of V_tops_of G_tops_of 2 (fun (d : ((List Tx) × Unit)) => [(sV false (tList tStr) d.1), sAny, sAny, sAny, sAny, sAny, sAny, sAny, sAny]) (fun r => .rtL false (tTup (aCons tInt (aCons tInt aNil))) r) r_tops_of := fun g ok hX d => bb_tops_of X ok hX d.1
theorem fn_tops_of {p : Pr} (X : Facts p) : Fn p 3 "tops_of" ["cloth"] (spM p (aCons (tList tStr) aNil) (fun r => .rtL false (tTup (aCons tInt (aCons tInt aNil))) r) c_tops_of) := by
  obtain ⟨f, fd, hF, hm⟩ := X.d_tops_of
  exact ⟨f, fd, eq_tops_of ▸ fn_rtL (m := 8) hF sc_tops_of (.cons .nil) rfl rfl (b_tops_of X), hm, hF.kp, hF.bindsN fun _ _ _ _ _ _ us hl => match us, hl with | [_], _ => rfl⟩
abbrev s_layers_of : Stmt := (topS 14)
abbrev N_layers_of : List Str := ["cloth", "ends", "picks", "counts", "end_line", "pick_line", "found", "done", "reach", "layer"]
abbrev V_layers_of : List Str := ["cloth", "ends", "picks", "counts", "end_line", "pick_line", "found", "done", "reach", "layer"]
abbrev G_layers_of : List Str := ["measured", "scores_of", "by_count", "tops_of", "sorted"]
theorem sc_layers_of : Sc s_layers_of N_layers_of V_layers_of ["cloth"] G_layers_of := ⟨⟨rfl, rfl, rfl, by decide +kernel, rfl, by decide +kernel, by decide +kernel⟩, by decide +kernel, by decide +kernel, by decide +kernel⟩
def r_f_layers_of_l1 (endline10 : (List Int)) (pickline20 : (List Int)) : ((List (List Int)) × (Int × Int × Unit)) → (Int × Int × Unit) → M ((List (List Int)) × (Int × Int × Unit)) := fun s47 reach48 => M.bind (M.bind (M.bind (M.ok endline10) fun y54 => M.bind (M.bind (M.bind (M.ok s47.2) fun y50 => M.ok y50.1) fun y51 => M.ok (some y51)) fun y55 => M.bind (M.bind (M.bind (M.ok reach48) fun y52 => M.ok y52.1) fun y53 => M.ok (some y53)) fun y56 => M.ok (cutL y54 y55 y56)) fun y64 => M.bind (M.bind (M.ok pickline20) fun y61 => M.bind (M.bind (M.bind (M.ok s47.2) fun y57 => M.ok y57.2.1) fun y58 => M.ok (some y58)) fun y62 => M.bind (M.bind (M.bind (M.ok reach48) fun y59 => M.ok y59.2.1) fun y60 => M.ok (some y60)) fun y63 => M.ok (cutL y61 y62 y63)) fun y65 => catL y64 y65) fun layer49 => M.bind (M.bind (M.ok layer49) fun y67 => M.ok (sortI y67)) fun y68 => M.bind (pushM s47.1 y68) fun found66 => M.bind (M.ok reach48) fun done69 => M.ok (found66, done69)
def f_layers_of_l1 (endline10 : (List Int)) (pickline20 : (List Int)) : ((List (List Int)) × (Int × Int × Unit)) → (Int × Int × Unit) → M ((List (List Int)) × (Int × Int × Unit)) := fun s47 reach48 => M.bind (catL (cutL endline10 (some s47.2.1) (some reach48.1)) (cutL pickline20 (some s47.2.2.1) (some reach48.2.1))) fun layer49 => M.bind (pushM s47.1 (sortI layer49)) fun found66 => let done69 : (Int × Int × Unit) := reach48; M.ok (found66, done69)
theorem eq_f_layers_of_l1 (endline10 : (List Int)) (pickline20 : (List Int)) : r_f_layers_of_l1 endline10 pickline20 = f_layers_of_l1 endline10 pickline20 := by funext s47 reach48; first | (simp only [r_f_layers_of_l1, f_layers_of_l1, M.bind_assoc, M.bok, c_by_count, c_measured, c_scores_of, c_tops_of]; done) | (simp only [r_f_layers_of_l1, f_layers_of_l1, M.bind_assoc, M.bok, c_by_count, c_measured, c_scores_of, c_tops_of]; rfl)
def q_layers_of (cloth1 : (List Tx)) : M (List (List Int)) := M.bind (M.bind (M.bind (M.ok cloth1) fun y2 => M.bind (M.ok ()) fun y3 => M.ok (y2, y3)) c_measured) fun t5 => M.bind (M.bind (M.bind (M.ok cloth1) fun y7 => M.bind (M.ok ()) fun y8 => M.ok (y7, y8)) c_scores_of) fun counts6 => M.bind (M.bind (M.bind (M.ok counts6) fun y15 => M.bind (M.bind (M.ok (0 : Int)) fun y13 => M.bind (M.bind (M.ok t5.1) fun y11 => M.bind (M.ok ()) fun y12 => M.ok (y11, y12)) fun y14 => M.ok (y13, y14)) fun y16 => M.ok (y15, y16)) c_by_count) fun endline10 => M.bind (M.bind (M.bind (M.ok counts6) fun y27 => M.bind (M.bind (M.ok t5.1) fun y25 => M.bind (M.bind (M.bind (M.ok t5.1) fun y21 => M.bind (M.ok t5.2.1) fun y22 => M.ok (y21 + y22)) fun y23 => M.bind (M.ok ()) fun y24 => M.ok (y23, y24)) fun y26 => M.ok (y25, y26)) fun y28 => M.ok (y27, y28)) c_by_count) fun pickline20 => M.bind (M.ok []) fun found32 => M.bind (M.bind (M.ok (0 : Int)) fun y36 => M.bind (M.bind (M.ok (0 : Int)) fun y34 => M.bind (M.ok ()) fun y35 => M.ok (y34, y35)) fun y37 => M.ok (y36, y37)) fun done33 => M.bind (M.bind (M.bind (M.bind (M.ok cloth1) fun y40 => M.bind (M.ok ()) fun y41 => M.ok (y40, y41)) c_tops_of) fun y44 => M.bind (M.bind (M.ok (1 : Int)) fun y43 => M.ok (some y43)) fun y45 => M.bind (M.ok (none : Option Int)) fun y46 => M.ok (cutL y44 y45 y46)) fun xs70 => M.bind (forM (r_f_layers_of_l1 endline10 pickline20) (found32, done33) xs70) fun (s71 : ((List (List Int)) × (Int × Int × Unit))) => M.ok s71.1
def f_layers_of (cloth1 : (List Tx)) : M (List (List Int)) := M.bind (f_measured cloth1) fun t5 => M.bind (f_scores_of cloth1) fun counts6 => M.bind (f_by_count counts6 (0 : Int) t5.1) fun endline10 => M.bind (f_by_count counts6 t5.1 (t5.1 + t5.2.1)) fun pickline20 => let found32 : (List (List Int)) := []; let done33 : (Int × Int × Unit) := ((0 : Int), (0 : Int), ()); M.bind (M.bind (f_tops_of cloth1) fun y44 => M.ok (cutL y44 (some (1 : Int)) none)) fun xs70 => M.bind (forM (f_layers_of_l1 endline10 pickline20) (found32, done33) xs70) fun (s71 : ((List (List Int)) × (Int × Int × Unit))) => M.ok s71.1
def r_layers_of (d : ((List Tx) × Unit)) : M (List (List Int)) := q_layers_of d.1
def c_layers_of (d : ((List Tx) × Unit)) : M (List (List Int)) := f_layers_of d.1
theorem eq_layers_of : r_layers_of = c_layers_of := by funext d; first | (simp only [r_layers_of, c_layers_of, q_layers_of, f_layers_of, M.bind_assoc, M.bok, eq_f_layers_of_l1, c_by_count, c_measured, c_scores_of, c_tops_of]; done) | (simp only [r_layers_of, c_layers_of, q_layers_of, f_layers_of, M.bind_assoc, M.bok, eq_f_layers_of_l1, c_by_count, c_measured, c_scores_of, c_tops_of]; rfl)
theorem bb_layers_of {p : Pr} (X : Facts p) {g : G} (ok : OkS p (defScope s_layers_of) N_layers_of V_layers_of G_layers_of 3 g) (hX : g.LX = List.replicate N_layers_of.length sAny) (cloth1 : (List Tx)) : EvB g [(sV false (tList tStr) cloth1), sAny, sAny, sAny, sAny, sAny, sAny, sAny, sAny, sAny] (defBody s_layers_of) (fun r => .rtL false (tList tInt) r) (q_layers_of cloth1) := (evb_asg ok (wkX hX rfl) (ev_call (md' := .sh) ok.toOk (fn_measured X) (by decide) (j := 0) rfl .sh (eva_cons (md := .sh) (ev_vsh ok.toOk (i := 0) (j := 0) rfl rfl rfl) eva_nil)) (evg_tup ok.toOk (lenS (lenS len0)) (evgs_cons (evg_name ok (i := 1) (j := 1) rfl rfl) fun _ => (evgs_cons (evg_name ok (i := 2) (j := 2) rfl rfl) fun _ => evgs_nil))) fun t5 => (evb_set ok (i := 3) (j := 3) rfl rfl (wkX hX rfl) .sh (ev_ofL (evl_call (md' := .sh) ok.toOk (fn_scores_of X) (by decide) (j := 1) rfl .sh (eva_cons (md := .sh) (ev_vsh ok.toOk (i := 0) (j := 0) rfl rfl rfl) eva_nil))) fun counts6 => (evb_set ok (i := 4) (j := 4) rfl rfl (wkX hX rfl) .sh (ev_ofL (evl_call (md' := .sh) ok.toOk (fn_by_count X) (by decide) (j := 2) rfl .sh (eva_cons (md := .sh) (ev_vsh ok.toOk (i := 3) (j := 3) rfl rfl rfl) (eva_cons (md := .sh) (ev_int (md := .sh)) (eva_cons (md := .sh) (ev_vsh ok.toOk (i := 1) (j := 1) rfl rfl rfl) eva_nil))))) fun endline10 => (evb_set ok (i := 5) (j := 5) rfl rfl (wkX hX rfl) .sh (ev_ofL (evl_call (md' := .sh) ok.toOk (fn_by_count X) (by decide) (j := 2) rfl .sh (eva_cons (md := .sh) (ev_vsh ok.toOk (i := 3) (j := 3) rfl rfl rfl) (eva_cons (md := .sh) (ev_vsh ok.toOk (i := 1) (j := 1) rfl rfl rfl) (eva_cons (md := .sh) (ev_add (md' := .sh) ok.toOk (ev_vsh ok.toOk (i := 1) (j := 1) rfl rfl rfl) (ev_vsh ok.toOk (i := 2) (j := 2) rfl rfl rfl)) eva_nil))))) fun pickline20 => (evb_own ok (i := 6) (j := 6) rfl rfl (wkX hX rfl) .sh (evl_nil (md := .sh) (S := (tList tInt))) fun found32 => (evb_set ok (i := 7) (j := 7) rfl rfl (wkX hX rfl) .sh (ev_tup (fun d vs R h => by rw [(lenS (lenS len0)) h]; decide) (eva_cons (ev_int (md := .sh)) (eva_cons (ev_int (md := .sh)) eva_nil))) fun done33 => (evb_for (LF := (fun (s47 : ((List (List Int)) × (Int × Int × Unit))) => [(sV false (tList tStr) cloth1), (sV false tInt t5.1), (sV false tInt t5.2.1), (sV false (tList tInt) counts6), (sV false (tList tInt) endline10), (sV false (tList tInt) pickline20), (sOwn false (tList tInt) s47.1), (sV false (tTup (aCons tInt (aCons tInt aNil))) s47.2), sAny, sAny])) (s0 := (found32, done33)) ok (wkX hX rfl) (evi_seq ok.toOk sq_l (ev_ofL (evl_slQ (md := .sh) ok.toOk sq_l (ev_ofL (evl_call (md' := .sh) ok.toOk (fn_tops_of X) (by decide) (j := 3) rfl .sh (eva_cons (md := .sh) (ev_vsh ok.toOk (i := 0) (j := 0) rfl rfl rfl) eva_nil))) (evo_some (ev_int (md := .sh))) evo_none))) (Wk.s (Wk.s (Wk.s (Wk.s (Wk.s (Wk.s (Wk.s (Wk.s (Wk.s (Wk.s Wk.n)))))))))) (fun _ => evg_name ok (i := 8) (j := 8) rfl rfl) (fun s47 reach48 => (evb_set ok (i := 9) (j := 9) rfl rfl (wkX hX rfl) .sh (ev_ofL (evl_cat (md := .sh) ok.toOk (ev_ofL (evl_slQ (md := .sh) ok.toOk sq_l (ev_vsh ok.toOk (i := 4) (j := 4) rfl rfl rfl) (evo_some (ev_ixA (n := 0) ok.toOk .z (ev_vsh ok.toOk (i := 7) (j := 7) rfl rfl rfl) (ev_int (md := .sh)))) (evo_some (ev_ixA (n := 0) ok.toOk .z (ev_vsh ok.toOk (i := 8) (j := 8) rfl rfl rfl) (ev_int (md := .sh)))))) (ev_ofL (evl_slQ (md := .sh) ok.toOk sq_l (ev_vsh ok.toOk (i := 5) (j := 5) rfl rfl rfl) (evo_some (ev_ixA (n := 1) ok.toOk (.s .z) (ev_vsh ok.toOk (i := 7) (j := 7) rfl rfl rfl) (ev_int (md := .sh)))) (evo_some (ev_ixA (n := 1) ok.toOk (.s .z) (ev_vsh ok.toOk (i := 8) (j := 8) rfl rfl rfl) (ev_int (md := .sh)))))))) fun layer49 => (evb_append ok (wkX hX rfl) (i := 6) (j := 6) rfl rfl rfl .sh (ev_ofL (evl_sortI (md' := .sh) ok.toOk (j := 4) rfl X.g_sorted (ev_vsh ok.toOk (i := 9) (j := 9) rfl rfl rfl))) fun found66 => (evb_set ok (i := 7) (j := 7) rfl rfl (wkX hX rfl) .sh (ev_vsh ok.toOk (i := 8) (j := 8) rfl rfl rfl) fun done69 => (evb_go (by rfl) (Wk.s (Wk.s (Wk.s (Wk.s (Wk.s (Wk.s (Wk.s (Wk.s (Wk.a (Wk.a Wk.n))))))))))))))) fun s71 => (evb_retOwn ok.toOk (i := 6) (j := 6) rfl rfl rfl (.inl rfl) (by rfl)))))))))
theorem b_layers_of {p : Pr} (X : Facts p) : Body p s_layers_of N_layers_of V_layers_of G_layers_of 3 (fun (d : ((List Tx) × Unit)) => [(sV false (tList tStr) d.1), sAny, sAny, sAny, sAny, sAny, sAny, sAny, sAny, sAny]) (fun r => .rtL false (tList tInt) r) r_layers_of := fun g ok hX d => bb_layers_of X ok hX d.1
theorem fn_layers_of {p : Pr} (X : Facts p) : Fn p 4 "layers_of" ["cloth"] (spM p (aCons (tList tStr) aNil) (fun r => .rtL false (tList tInt) r) c_layers_of) := by
  obtain ⟨f, fd, hF, hm⟩ := X.d_layers_of
  exact ⟨f, fd, eq_layers_of ▸ fn_rtL (m := 9) hF sc_layers_of (.cons .nil) rfl rfl (b_layers_of X), hm, hF.kp, hF.bindsN fun _ _ _ _ _ _ us hl => match us, hl with | [_], _ => rfl⟩
abbrev s_layer_numbers : Stmt := (topS 15)
abbrev N_layer_numbers : List Str := ["cloth", "ends", "picks", "numbers", "k", "layer", "strand"]
abbrev V_layer_numbers : List Str := ["cloth", "ends", "picks", "numbers", "k", "layer", "strand"]
abbrev G_layer_numbers : List Str := ["measured", "layers_of", "enumerate"]
theorem sc_layer_numbers : Sc s_layer_numbers N_layer_numbers V_layer_numbers ["cloth"] G_layer_numbers := ⟨⟨rfl, rfl, rfl, by decide +kernel, rfl, by decide +kernel, by decide +kernel⟩, by decide +kernel, by decide +kernel, by decide +kernel⟩
def r_f_layer_numbers_l1 (t19 : (Int × (List Int) × Unit)) : ((List Int)) → Int → M ((List Int)) := fun s20 strand21 => M.bind (M.ok t19.1) fun y22 => M.bind (M.ok strand21) fun i23 => M.bind (setM s20 i23 y22) fun numbers24 => M.ok numbers24
def f_layer_numbers_l1 (t19 : (Int × (List Int) × Unit)) : ((List Int)) → Int → M ((List Int)) := fun s20 strand21 => M.bind (setM s20 strand21 t19.1) fun numbers24 => M.ok numbers24
theorem eq_f_layer_numbers_l1 (t19 : (Int × (List Int) × Unit)) : r_f_layer_numbers_l1 t19 = f_layer_numbers_l1 t19 := by funext s20 strand21; first | (simp only [r_f_layer_numbers_l1, f_layer_numbers_l1, M.bind_assoc, M.bok, c_layers_of, c_measured]; done) | (simp only [r_f_layer_numbers_l1, f_layer_numbers_l1, M.bind_assoc, M.bok, c_layers_of, c_measured]; rfl)
def r_f_layer_numbers_l2  : ((List Int)) → (Int × (List Int) × Unit) → M ((List Int)) := fun s18 t19 => M.bind (M.ok t19.2.1) fun xs25 => M.bind (forM (r_f_layer_numbers_l1 t19) s18 xs25) fun (s26 : ((List Int))) => M.ok s26
def f_layer_numbers_l2  : ((List Int)) → (Int × (List Int) × Unit) → M ((List Int)) := fun s18 t19 => M.bind (forM (f_layer_numbers_l1 t19) s18 t19.2.1) fun (s26 : ((List Int))) => M.ok s26
theorem eq_f_layer_numbers_l2  : r_f_layer_numbers_l2  = f_layer_numbers_l2  := by funext s18 t19; first | (simp only [r_f_layer_numbers_l2, f_layer_numbers_l2, M.bind_assoc, M.bok, eq_f_layer_numbers_l1, c_layers_of, c_measured]; done) | (simp only [r_f_layer_numbers_l2, f_layer_numbers_l2, M.bind_assoc, M.bok, eq_f_layer_numbers_l1, c_layers_of, c_measured]; rfl)
def q_layer_numbers (cloth1 : (List Tx)) : M (List Int) := M.bind (M.bind (M.bind (M.ok cloth1) fun y2 => M.bind (M.ok ()) fun y3 => M.ok (y2, y3)) c_measured) fun t5 => M.bind (M.bind (M.bind (M.ok (0 : Int)) fun y7 => M.bind (M.ok []) fun y8 => M.ok (y7 :: y8)) fun y12 => M.bind (M.bind (M.ok t5.1) fun y10 => M.bind (M.ok t5.2.1) fun y11 => M.ok (y10 + y11)) fun y13 => repM y12 y13) fun numbers6 => M.bind (M.bind (M.bind (M.bind (M.ok cloth1) fun y14 => M.bind (M.ok ()) fun y15 => M.ok (y14, y15)) c_layers_of) fun y17 => M.ok (enumL y17)) fun xs27 => M.bind (forM r_f_layer_numbers_l2 numbers6 xs27) fun (s28 : ((List Int))) => M.ok s28
def f_layer_numbers (cloth1 : (List Tx)) : M (List Int) := M.bind (f_measured cloth1) fun t5 => M.bind (repM ([(0 : Int)]) (t5.1 + t5.2.1)) fun numbers6 => M.bind (M.bind (f_layers_of cloth1) fun y17 => M.ok (enumL y17)) fun xs27 => M.bind (forM f_layer_numbers_l2 numbers6 xs27) fun (s28 : ((List Int))) => M.ok s28
def r_layer_numbers (d : ((List Tx) × Unit)) : M (List Int) := q_layer_numbers d.1
def c_layer_numbers (d : ((List Tx) × Unit)) : M (List Int) := f_layer_numbers d.1
theorem eq_layer_numbers : r_layer_numbers = c_layer_numbers := by funext d; first | (simp only [r_layer_numbers, c_layer_numbers, q_layer_numbers, f_layer_numbers, M.bind_assoc, M.bok, eq_f_layer_numbers_l1, eq_f_layer_numbers_l2, c_layers_of, c_measured]; done) | (simp only [r_layer_numbers, c_layer_numbers, q_layer_numbers, f_layer_numbers, M.bind_assoc, M.bok, eq_f_layer_numbers_l1, eq_f_layer_numbers_l2, c_layers_of, c_measured]; rfl)
theorem bb_layer_numbers {p : Pr} (X : Facts p) {g : G} (ok : OkS p (defScope s_layer_numbers) N_layer_numbers V_layer_numbers G_layer_numbers 4 g) (hX : g.LX = List.replicate N_layer_numbers.length sAny) (cloth1 : (List Tx)) : EvB g [(sV false (tList tStr) cloth1), sAny, sAny, sAny, sAny, sAny, sAny] (defBody s_layer_numbers) (fun r => .rtL false tInt r) (q_layer_numbers cloth1) := (evb_asg ok (wkX hX rfl) (ev_call (md' := .sh) ok.toOk (fn_measured X) (by decide) (j := 0) rfl .sh (eva_cons (md := .sh) (ev_vsh ok.toOk (i := 0) (j := 0) rfl rfl rfl) eva_nil)) (evg_tup ok.toOk (lenS (lenS len0)) (evgs_cons (evg_name ok (i := 1) (j := 1) rfl rfl) fun _ => (evgs_cons (evg_name ok (i := 2) (j := 2) rfl rfl) fun _ => evgs_nil))) fun t5 => (evb_own ok (i := 3) (j := 3) rfl rfl (wkX hX rfl) .sh (evl_rep (md := .sh) ok.toOk (evl_lstN (n := 1) (lnS ln0) (by decide) (evs_cons (ev_int (md := .sh)) evs_nil)) (ev_add (md' := .sh) ok.toOk (ev_vsh ok.toOk (i := 1) (j := 1) rfl rfl rfl) (ev_vsh ok.toOk (i := 2) (j := 2) rfl rfl rfl))) fun numbers6 => (evb_for (LF := (fun (s18 : ((List Int))) => [(sV false (tList tStr) cloth1), (sV false tInt t5.1), (sV false tInt t5.2.1), (sOwn false tInt s18), sAny, sAny, sAny])) (s0 := numbers6) ok (wkX hX rfl) (evi_enum ok.toOk sq_l (j := 2) rfl X.g_enumerate (ev_ofL (evl_call (md' := .sh) ok.toOk (fn_layers_of X) (by decide) (j := 1) rfl .sh (eva_cons (md := .sh) (ev_vsh ok.toOk (i := 0) (j := 0) rfl rfl rfl) eva_nil)))) (Wk.s (Wk.s (Wk.s (Wk.s (Wk.s (Wk.s (Wk.s Wk.n))))))) (fun _ => evg_tup ok.toOk (lenS (lenS len0)) (evgs_cons (evg_name ok (i := 4) (j := 4) rfl rfl) fun _ => (evgs_cons (evg_name ok (i := 5) (j := 5) rfl rfl) fun _ => evgs_nil))) (fun s18 t19 => (evb_for (LF := (fun (s20 : ((List Int))) => [(sV false (tList tStr) cloth1), (sV false tInt t5.1), (sV false tInt t5.2.1), (sOwn false tInt s20), (sV false tInt t19.1), (sV false (tList tInt) t19.2.1), sAny])) (s0 := s18) ok (wkX hX rfl) (evi_seq ok.toOk sq_l (ev_vsh ok.toOk (i := 5) (j := 5) rfl rfl rfl)) (Wk.s (Wk.s (Wk.s (Wk.s (Wk.s (Wk.s (Wk.s Wk.n))))))) (fun _ => evg_name ok (i := 6) (j := 6) rfl rfl) (fun s20 strand21 => (evb_setitem ok (wkX hX rfl) (i := 3) (j := 3) rfl rfl rfl .sh (ev_vsh ok.toOk (i := 4) (j := 4) rfl rfl rfl) (ev_vsh ok.toOk (i := 6) (j := 6) rfl rfl rfl) fun numbers24 => (evb_go (by rfl) (Wk.s (Wk.s (Wk.s (Wk.s (Wk.s (Wk.s (Wk.a Wk.n)))))))))) fun s26 => (evb_go (by rfl) (Wk.s (Wk.s (Wk.s (Wk.s (Wk.a (Wk.a (Wk.s Wk.n)))))))))) fun s28 => (evb_retOwn ok.toOk (i := 3) (j := 3) rfl rfl rfl (.inl rfl) (by rfl)))))
theorem b_layer_numbers {p : Pr} (X : Facts p) : Body p s_layer_numbers N_layer_numbers V_layer_numbers G_layer_numbers 4 (fun (d : ((List Tx) × Unit)) => [(sV false (tList tStr) d.1), sAny, sAny, sAny, sAny, sAny, sAny]) (fun r => .rtL false tInt r) r_layer_numbers := fun g ok hX d => bb_layer_numbers X ok hX d.1
theorem fn_layer_numbers {p : Pr} (X : Facts p) : Fn p 5 "layer_numbers" ["cloth"] (spM p (aCons (tList tStr) aNil) (fun r => .rtL false tInt r) c_layer_numbers) := by
  obtain ⟨f, fd, hF, hm⟩ := X.d_layer_numbers
  exact ⟨f, fd, eq_layer_numbers ▸ fn_rtL (m := 6) hF sc_layer_numbers (.cons .nil) rfl rfl (b_layer_numbers X), hm, hF.kp, hF.bindsN fun _ _ _ _ _ _ us hl => match us, hl with | [_], _ => rfl⟩
abbrev s__law_whole_number : Stmt := (topS 26)
abbrev N__law_whole_number : List Str := ["found"]
abbrev V__law_whole_number : List Str := ["found"]
abbrev G__law_whole_number : List Str := ["int", "isinstance", "bool"]
theorem sc__law_whole_number : Sc s__law_whole_number N__law_whole_number V__law_whole_number ["found"] G__law_whole_number := ⟨⟨rfl, rfl, rfl, by decide +kernel, rfl, by decide +kernel, by decide +kernel⟩, by decide +kernel, by decide +kernel, by decide +kernel⟩
def q__law_whole_number (found1 : Int) : M Bool := M.ok (true && (!false))
def f_law_whole_number (found1 : Int) : M Bool := M.ok (true && (!false))
def r__law_whole_number (d : (Int × Unit)) : M Bool := q__law_whole_number d.1
def c__law_whole_number (d : (Int × Unit)) : M Bool := f_law_whole_number d.1
theorem eq__law_whole_number : r__law_whole_number = c__law_whole_number := by funext d; first | (simp only [r__law_whole_number, c__law_whole_number, q__law_whole_number, f_law_whole_number, M.bind_assoc, M.bok]; done) | (simp only [r__law_whole_number, c__law_whole_number, q__law_whole_number, f_law_whole_number, M.bind_assoc, M.bok]; rfl)
theorem bb__law_whole_number {p : Pr} (X : Facts p) {g : G} (ok : OkS p (defScope s__law_whole_number) N__law_whole_number V__law_whole_number G__law_whole_number 0 g) (hX : g.LX = List.replicate N__law_whole_number.length sAny) (found1 : Int) : EvB g [(sV false tInt found1)] (defBody s__law_whole_number) (fun r => .rt false tBool r) (q__law_whole_number found1) := (evb_ret (wkX hX rfl) .sh (by intro _; rfl) (ev_andP (pureE (m := M.bind (M.ok found1) fun y2 => M.ok true) (ev_isi (md' := .sh) (r := true) ok.toOk (j := 1) rfl X.g_isinstance i_int (by decide +kernel) (ev_vsh ok.toOk (i := 0) (j := 0) rfl rfl rfl) (ev_ty (n := "int") (md := .sh) ok.toOk (j := 0) rfl X.g_int (by decide +kernel))) rfl) (pureE (m := M.bind (M.bind (M.ok found1) fun y3 => M.ok false) fun y4 => M.ok (!y4)) (ev_one (ev_not (md' := .sh) (ev_isi (md' := .sh) (r := false) ok.toOk (j := 1) rfl X.g_isinstance i_int (by decide +kernel) (ev_vsh ok.toOk (i := 0) (j := 0) rfl rfl rfl) (ev_ty (n := "bool") (md := .sh) ok.toOk (j := 2) rfl X.g_bool (by decide +kernel))))) rfl)))
theorem b__law_whole_number {p : Pr} (X : Facts p) : Body p s__law_whole_number N__law_whole_number V__law_whole_number G__law_whole_number 0 (fun (d : (Int × Unit)) => [(sV false tInt d.1)]) (fun r => .rt false tBool r) r__law_whole_number := fun g ok hX d => bb__law_whole_number X ok hX d.1
theorem fn__law_whole_number {p : Pr} (X : Facts p) : Fn p 1 "_law_whole_number" ["found"] (spM p (aCons tInt aNil) (fun r => .rt false tBool r) c__law_whole_number) := by
  obtain ⟨f, fd, hF, hm⟩ := X.d__law_whole_number
  exact ⟨f, fd, eq__law_whole_number ▸ fn_rt (m := 0) hF sc__law_whole_number (.cons .nil) rfl rfl (b__law_whole_number X), hm, hF.kp, hF.bindsN fun _ _ _ _ _ _ us hl => match us, hl with | [_], _ => rfl⟩
abbrev s__law_seams : Stmt := (topS 25)
abbrev N__law_seams : List Str := ["layers", "shuttles", "made", "shuttle", "throws", "k", "one", "two", "j"]
abbrev V__law_seams : List Str := ["layers", "shuttles", "made", "shuttle", "throws", "k", "one", "two"]
abbrev G__law_seams : List Str := ["range", "len", "min", "max"]
theorem sc__law_seams : Sc s__law_seams N__law_seams V__law_seams ["layers", "shuttles"] G__law_seams := ⟨⟨rfl, rfl, rfl, by decide +kernel, rfl, by decide +kernel, by decide +kernel⟩, by decide +kernel, by decide +kernel, by decide +kernel⟩
def r_f_law_seams_l1 (layers1 : (List Int)) (throws7 : (List Int)) : ((List (Int × Int × Tx × Unit))) → Int → M ((List (Int × Int × Tx × Unit))) := fun s22 k23 => M.bind (M.bind (M.ok layers1) fun y27 => M.bind (M.bind (M.ok throws7) fun y25 => M.bind (M.ok k23) fun y26 => getM y25 y26) fun y28 => getM y27 y28) fun one24 => M.bind (M.bind (M.ok layers1) fun y34 => M.bind (M.bind (M.ok throws7) fun y32 => M.bind (M.bind (M.ok k23) fun y30 => M.bind (M.ok (1 : Int)) fun y31 => M.ok (y30 + y31)) fun y33 => getM y32 y33) fun y35 => getM y34 y35) fun two29 => M.bind (M.bind (M.ok one24) fun y36 => M.bind (M.ok two29) fun y37 => M.ok (!decide (y36 = y37))) fun c38 => if c38 = true then M.bind (M.bind (M.bind (M.ok one24) fun y40 => M.bind (M.ok two29) fun y41 => M.ok (min y40 y41)) fun y57 => M.bind (M.bind (M.bind (M.ok one24) fun y42 => M.bind (M.ok two29) fun y43 => M.ok (max y42 y43)) fun y55 => M.bind (M.bind (M.bind (M.bind (M.ok (tx "right")) fun y46 => M.bind (M.bind (M.ok (tx "left")) fun y44 => M.bind (M.ok []) fun y45 => M.ok (y44 :: y45)) fun y47 => M.ok (y46 :: y47)) fun y51 => M.bind (M.bind (M.ok k23) fun y50 => M.ok (y50 % (2 : Int))) fun y52 => getM y51 y52) fun y53 => M.bind (M.ok ()) fun y54 => M.ok (y53, y54)) fun y56 => M.ok (y55, y56)) fun y58 => M.ok (y57, y58)) fun y62 => M.bind (pushM s22 y62) fun made39 => M.ok made39 else M.ok s22
def f_law_seams_l1 (layers1 : (List Int)) (throws7 : (List Int)) : ((List (Int × Int × Tx × Unit))) → Int → M ((List (Int × Int × Tx × Unit))) := fun s22 k23 => M.bind (M.bind (getM throws7 k23) fun y28 => getM layers1 y28) fun one24 => M.bind (M.bind (getM throws7 (k23 + (1 : Int))) fun y35 => getM layers1 y35) fun two29 => if (!decide (one24 = two29)) = true then M.bind (M.bind (getM ([(tx "right"), (tx "left")]) (k23 % (2 : Int))) fun y61 => M.ok ((min one24 two29), (max one24 two29), y61, ())) fun y62 => M.bind (pushM s22 y62) fun made39 => M.ok made39 else M.ok s22
theorem eq_f_law_seams_l1 (layers1 : (List Int)) (throws7 : (List Int)) : r_f_law_seams_l1 layers1 throws7 = f_law_seams_l1 layers1 throws7 := by funext s22 k23; first | (simp only [r_f_law_seams_l1, f_law_seams_l1, M.bind_assoc, M.bok]; done) | (simp only [r_f_law_seams_l1, f_law_seams_l1, M.bind_assoc, M.bok]; rfl)
def r_f_law_seams_l2 (layers1 : (List Int)) (shuttles2 : (List Int)) : ((List (Int × Int × Tx × Unit))) → Int → M ((List (Int × Int × Tx × Unit))) := fun s5 shuttle6 => M.bind (M.bind (M.bind (M.bind (M.ok shuttles2) fun y8 => M.ok (y8.length : Int)) fun y9 => rangeM 0 y9) fun xs17 => compM (fun j10 => M.bind (M.bind (M.bind (M.ok shuttles2) fun y11 => M.bind (M.ok j10) fun y12 => getM y11 y12) fun y13 => M.bind (M.ok shuttle6) fun y14 => M.ok (decide (y13 = y14))) fun c15 => if c15 = true then M.bind (M.ok j10) fun y16 => M.ok (some y16) else M.ok none) xs17) fun throws7 => M.bind (M.bind (M.bind (M.bind (M.ok throws7) fun y18 => M.ok (y18.length : Int)) fun y19 => M.bind (M.ok (1 : Int)) fun y20 => M.ok (y19 - y20)) fun y21 => rangeM 0 y21) fun xs64 => M.bind (forM (r_f_law_seams_l1 layers1 throws7) s5 xs64) fun (s65 : ((List (Int × Int × Tx × Unit)))) => M.ok s65
def f_law_seams_l2 (layers1 : (List Int)) (shuttles2 : (List Int)) : ((List (Int × Int × Tx × Unit))) → Int → M ((List (Int × Int × Tx × Unit))) := fun s5 shuttle6 => M.bind (M.bind (rangeM 0 (shuttles2.length : Int)) fun xs17 => compM (fun j10 => M.bind (M.bind (getM shuttles2 j10) fun y13 => M.ok (decide (y13 = shuttle6))) fun c15 => if c15 = true then M.ok (some j10) else M.ok none) xs17) fun throws7 => M.bind (rangeM 0 ((throws7.length : Int) - (1 : Int))) fun xs64 => M.bind (forM (f_law_seams_l1 layers1 throws7) s5 xs64) fun (s65 : ((List (Int × Int × Tx × Unit)))) => M.ok s65
theorem eq_f_law_seams_l2 (layers1 : (List Int)) (shuttles2 : (List Int)) : r_f_law_seams_l2 layers1 shuttles2 = f_law_seams_l2 layers1 shuttles2 := by funext s5 shuttle6; first | (simp only [r_f_law_seams_l2, f_law_seams_l2, M.bind_assoc, M.bok, eq_f_law_seams_l1]; done) | (simp only [r_f_law_seams_l2, f_law_seams_l2, M.bind_assoc, M.bok, eq_f_law_seams_l1]; rfl)
def q__law_seams (layers1 : (List Int)) (shuttles2 : (List Int)) : M (List (Int × Int × Tx × Unit)) := M.bind (M.ok []) fun made3 => M.bind (M.bind (M.ok (8 : Int)) fun y4 => rangeM 0 y4) fun xs66 => M.bind (forM (r_f_law_seams_l2 layers1 shuttles2) made3 xs66) fun (s67 : ((List (Int × Int × Tx × Unit)))) => M.ok s67
def f_law_seams (layers1 : (List Int)) (shuttles2 : (List Int)) : M (List (Int × Int × Tx × Unit)) := let made3 : (List (Int × Int × Tx × Unit)) := []; M.bind (rangeM 0 (8 : Int)) fun xs66 => M.bind (forM (f_law_seams_l2 layers1 shuttles2) made3 xs66) fun (s67 : ((List (Int × Int × Tx × Unit)))) => M.ok s67
def r__law_seams (d : ((List Int) × (List Int) × Unit)) : M (List (Int × Int × Tx × Unit)) := q__law_seams d.1 d.2.1
def c__law_seams (d : ((List Int) × (List Int) × Unit)) : M (List (Int × Int × Tx × Unit)) := f_law_seams d.1 d.2.1
theorem eq__law_seams : r__law_seams = c__law_seams := by funext d; first | (simp only [r__law_seams, c__law_seams, q__law_seams, f_law_seams, M.bind_assoc, M.bok, eq_f_law_seams_l1, eq_f_law_seams_l2]; done) | (simp only [r__law_seams, c__law_seams, q__law_seams, f_law_seams, M.bind_assoc, M.bok, eq_f_law_seams_l1, eq_f_law_seams_l2]; rfl)
theorem bb__law_seams {p : Pr} (X : Facts p) {g : G} (ok : OkS p (defScope s__law_seams) N__law_seams V__law_seams G__law_seams 0 g) (hX : g.LX = List.replicate N__law_seams.length sAny) (layers1 : (List Int)) (shuttles2 : (List Int)) : EvB g [(sV false (tList tInt) layers1), (sV false (tList tInt) shuttles2), sAny, sAny, sAny, sAny, sAny, sAny, sAny] (defBody s__law_seams) (fun r => .rtL false (tTup (aCons tInt (aCons tInt (aCons tStr aNil)))) r) (q__law_seams layers1 shuttles2) := (evb_own ok (i := 2) (j := 2) rfl rfl (wkX hX rfl) .sh (evl_nil (md := .sh) (S := (tTup (aCons tInt (aCons tInt (aCons tStr aNil)))))) fun made3 => (evb_for (LF := (fun (s5 : ((List (Int × Int × Tx × Unit)))) => [(sV false (tList tInt) layers1), (sV false (tList tInt) shuttles2), (sOwn false (tTup (aCons tInt (aCons tInt (aCons tStr aNil)))) s5), sAny, sAny, sAny, sAny, sAny, sAny])) (s0 := made3) ok (wkX hX rfl) (evi_range1 ok.toOk (j := 0) rfl X.g_range (ev_int (md := .sh))) (Wk.s (Wk.s (Wk.s (Wk.s (Wk.s (Wk.s (Wk.s (Wk.s (Wk.s Wk.n))))))))) (fun _ => evg_name ok (i := 3) (j := 3) rfl rfl) (fun s5 shuttle6 => (evb_setC (md := .sh) (VV' := ["shuttles", "j", "shuttle"]) (GG' := []) (i := 8) (i2 := 4) ok rfl (wkX hX rfl) (by decide +kernel) (by rfl) (by decide +kernel) (evi_range1 ok.toOk (j := 0) rfl X.g_range (ev_lenQ (md' := .sh) ok.toOk sq_l (j := 1) rfl X.g_len (ev_vsh ok.toOk (i := 1) (j := 1) rfl rfl rfl))) rfl rfl no_any (by decide +kernel) (by decide +kernel) (by decide +kernel) (by decide +kernel) (fun g' okc j10 => (evpts_one (evt_c okc (c_eq s_int) (ev_ixQ okc sq_l (ev_vsh okc (i := 1) (j := 0) rfl rfl rfl) (ev_vsh okc (i := 8) (j := 1) rfl rfl rfl)) (ev_vsh okc (i := 3) (j := 2) rfl rfl rfl)))) (fun g' okc j10 => (ev_vsh okc (i := 8) (j := 1) rfl rfl rfl)) fun throws7 => (evb_for (LF := (fun (s22 : ((List (Int × Int × Tx × Unit)))) => [(sV false (tList tInt) layers1), (sV false (tList tInt) shuttles2), (sOwn false (tTup (aCons tInt (aCons tInt (aCons tStr aNil)))) s22), (sV false tInt shuttle6), (sV false (tList tInt) throws7), sAny, sAny, sAny, sAny])) (s0 := s5) ok (wkX hX rfl) (evi_range1 ok.toOk (j := 0) rfl X.g_range (ev_subt (md' := .sh) ok.toOk (ev_lenQ (md' := .sh) ok.toOk sq_l (j := 1) rfl X.g_len (ev_vsh ok.toOk (i := 4) (j := 4) rfl rfl rfl)) (ev_int (md := .sh)))) (Wk.s (Wk.s (Wk.s (Wk.s (Wk.s (Wk.s (Wk.s (Wk.s (Wk.s Wk.n))))))))) (fun _ => evg_name ok (i := 5) (j := 5) rfl rfl) (fun s22 k23 => (evb_set ok (i := 6) (j := 6) rfl rfl (wkX hX rfl) .sh (ev_ixQ ok.toOk sq_l (ev_vsh ok.toOk (i := 0) (j := 0) rfl rfl rfl) (ev_ixQ ok.toOk sq_l (ev_vsh ok.toOk (i := 4) (j := 4) rfl rfl rfl) (ev_vsh ok.toOk (i := 5) (j := 5) rfl rfl rfl))) fun one24 => (evb_set ok (i := 7) (j := 7) rfl rfl (wkX hX rfl) .sh (ev_ixQ ok.toOk sq_l (ev_vsh ok.toOk (i := 0) (j := 0) rfl rfl rfl) (ev_ixQ ok.toOk sq_l (ev_vsh ok.toOk (i := 4) (j := 4) rfl rfl rfl) (ev_add (md' := .sh) ok.toOk (ev_vsh ok.toOk (i := 5) (j := 5) rfl rfl rfl) (ev_int (md := .sh))))) fun two29 => (evb_ifl (wkX hX rfl) (evt_c ok.toOk (c_ne s_int) (ev_vsh ok.toOk (i := 6) (j := 6) rfl rfl rfl) (ev_vsh ok.toOk (i := 7) (j := 7) rfl rfl rfl)) (evb_append ok (wkX hX rfl) (i := 2) (j := 2) rfl rfl rfl .sh (ev_tup (fun d vs R h => by rw [(lenS (lenS (lenS len0))) h]; decide) (eva_cons (ev_min2 (md' := .sh) ok.toOk (j := 2) rfl X.g_min (ev_vsh ok.toOk (i := 6) (j := 6) rfl rfl rfl) (ev_vsh ok.toOk (i := 7) (j := 7) rfl rfl rfl)) (eva_cons (ev_max2 (md' := .sh) ok.toOk (j := 3) rfl X.g_max (ev_vsh ok.toOk (i := 6) (j := 6) rfl rfl rfl) (ev_vsh ok.toOk (i := 7) (j := 7) rfl rfl rfl)) (eva_cons (ev_ixQ ok.toOk sq_l (ev_ofL (evl_lstN (n := 2) (lnS (lnS ln0)) (by decide) (evs_cons (ev_str (md := .sh) (by decide +kernel)) (evs_cons (ev_str (md := .sh) (by decide +kernel)) evs_nil)))) (ev_modC (md' := .sh) ok.toOk (by decide) (ev_vsh ok.toOk (i := 5) (j := 5) rfl rfl rfl) (ev_int (md := .sh)))) eva_nil)))) fun made39 => (evb_go (by rfl) (Wk.s (Wk.s (Wk.s (Wk.s (Wk.s (Wk.a (Wk.a (Wk.a (Wk.s Wk.n))))))))))) (evb_go (by rfl) (Wk.s (Wk.s (Wk.s (Wk.s (Wk.s (Wk.a (Wk.a (Wk.a (Wk.s Wk.n)))))))))))))) fun s65 => (evb_go (by rfl) (Wk.s (Wk.s (Wk.s (Wk.a (Wk.a (Wk.s (Wk.s (Wk.s (Wk.s Wk.n))))))))))))) fun s67 => (evb_retOwn ok.toOk (i := 2) (j := 2) rfl rfl rfl (.inl rfl) (by rfl))))
theorem b__law_seams {p : Pr} (X : Facts p) : Body p s__law_seams N__law_seams V__law_seams G__law_seams 0 (fun (d : ((List Int) × (List Int) × Unit)) => [(sV false (tList tInt) d.1), (sV false (tList tInt) d.2.1), sAny, sAny, sAny, sAny, sAny, sAny, sAny]) (fun r => .rtL false (tTup (aCons tInt (aCons tInt (aCons tStr aNil)))) r) r__law_seams := fun g ok hX d => bb__law_seams X ok hX d.1 d.2.1
theorem fn__law_seams {p : Pr} (X : Facts p) : Fn p 1 "_law_seams" ["layers", "shuttles"] (spM p (aCons (tList tInt) (aCons (tList tInt) aNil)) (fun r => .rtL false (tTup (aCons tInt (aCons tInt (aCons tStr aNil)))) r) c__law_seams) := by
  obtain ⟨f, fd, hF, hm⟩ := X.d__law_seams
  exact ⟨f, fd, eq__law_seams ▸ fn_rtL (m := 7) hF sc__law_seams (.cons (.cons .nil)) rfl rfl (b__law_seams X), hm, hF.kp, hF.bindsN fun _ _ _ _ _ _ us hl => match us, hl with | [_, _], _ => rfl⟩
abbrev s_seen_shuttles : Stmt := (topS 17)
abbrev N_seen_shuttles : List Str := ["shuttles", "picks", "shuttle"]
abbrev V_seen_shuttles : List Str := ["shuttles", "picks", "shuttle"]
abbrev G_seen_shuttles : List Str := ["len", "NoShuttle"]
theorem sc_seen_shuttles : Sc s_seen_shuttles N_seen_shuttles V_seen_shuttles ["shuttles", "picks"] G_seen_shuttles := ⟨⟨rfl, rfl, rfl, by decide +kernel, rfl, by decide +kernel, by decide +kernel⟩, by decide +kernel, by decide +kernel, by decide +kernel⟩
def r_f_seen_shuttles_l1  : Unit → Int → M Unit := fun s6 shuttle7 => M.bind (M.bind (M.ok ((decide ((0 : Int) ≤ shuttle7)) && (decide (shuttle7 ≤ (7 : Int))))) fun y8 => M.ok (!y8)) fun c9 => if c9 = true then M.ex .noShuttle else M.ok ()
def f_seen_shuttles_l1  : Unit → Int → M Unit := fun s6 shuttle7 => if (!((decide ((0 : Int) ≤ shuttle7)) && (decide (shuttle7 ≤ (7 : Int))))) = true then M.ex .noShuttle else M.ok ()
theorem eq_f_seen_shuttles_l1  : r_f_seen_shuttles_l1  = f_seen_shuttles_l1  := by funext s6 shuttle7; first | (simp only [r_f_seen_shuttles_l1, f_seen_shuttles_l1, M.bind_assoc, M.bok]; done) | (simp only [r_f_seen_shuttles_l1, f_seen_shuttles_l1, M.bind_assoc, M.bok]; rfl)
def q_seen_shuttles (shuttles1 : (List Int)) (picks2 : Int) : M Unit := M.bind (M.bind (M.bind (M.ok shuttles1) fun y3 => M.ok (y3.length : Int)) fun y4 => M.bind (M.ok picks2) fun y5 => M.ok (!decide (y4 = y5))) fun c13 => if c13 = true then M.ex .noShuttle else M.bind (M.ok shuttles1) fun xs11 => M.bind (forM r_f_seen_shuttles_l1 () xs11) fun (s12 : Unit) => M.ok ()
def f_seen_shuttles (shuttles1 : (List Int)) (picks2 : Int) : M Unit := if (!decide ((shuttles1.length : Int) = picks2)) = true then M.ex .noShuttle else M.bind (forM f_seen_shuttles_l1 () shuttles1) fun (s12 : Unit) => M.ok ()
def r_seen_shuttles (d : ((List Int) × Int × Unit)) : M Unit := q_seen_shuttles d.1 d.2.1
def c_seen_shuttles (d : ((List Int) × Int × Unit)) : M Unit := f_seen_shuttles d.1 d.2.1
theorem eq_seen_shuttles : r_seen_shuttles = c_seen_shuttles := by funext d; first | (simp only [r_seen_shuttles, c_seen_shuttles, q_seen_shuttles, f_seen_shuttles, M.bind_assoc, M.bok, eq_f_seen_shuttles_l1]; done) | (simp only [r_seen_shuttles, c_seen_shuttles, q_seen_shuttles, f_seen_shuttles, M.bind_assoc, M.bok, eq_f_seen_shuttles_l1]; rfl)
theorem bb_seen_shuttles {p : Pr} (X : Facts p) {g : G} (ok : OkS p (defScope s_seen_shuttles) N_seen_shuttles V_seen_shuttles G_seen_shuttles 0 g) (hX : g.LX = List.replicate N_seen_shuttles.length sAny) (shuttles1 : (List Int)) (picks2 : Int) : EvB g [(sV false (tList tInt) shuttles1), (sV false tInt picks2), sAny] (defBody s_seen_shuttles) (fun _ => .nx (List.replicate 3 sAny)) (q_seen_shuttles shuttles1 picks2) := (evb_ifr ok (wkX hX rfl) X.x_NoShuttle (jj := 0) (j := 1) rfl (evt_c ok.toOk (c_ne s_int) (ev_lenQ (md' := .sh) ok.toOk sq_l (j := 0) rfl X.g_len (ev_vsh ok.toOk (i := 0) (j := 0) rfl rfl rfl)) (ev_vsh ok.toOk (i := 1) (j := 1) rfl rfl rfl)) (evb_for (LF := (fun (s6 : Unit) => [(sV false (tList tInt) shuttles1), (sV false tInt picks2), sAny])) (s0 := ()) ok (wkX hX rfl) (evi_seq ok.toOk sq_l (ev_vsh ok.toOk (i := 0) (j := 0) rfl rfl rfl)) (Wk.s (Wk.s (Wk.s Wk.n))) (fun _ => evg_name ok (i := 2) (j := 2) rfl rfl) (fun s6 shuttle7 => (evb_ifr ok (wkX hX rfl) X.x_NoShuttle (jj := 0) (j := 1) rfl (evt_not (evt_chainI ok.toOk ch_le ch_le (ev_int (md := .sh)) (ev_vsh ok.toOk (i := 2) (j := 2) rfl rfl rfl) (ev_int (md := .sh)) rfl rfl rfl)) (evb_go (by rfl) (Wk.s (Wk.s (Wk.a Wk.n)))))) fun s12 => (evb_nx (by rfl) (Wk.a (Wk.a (Wk.s Wk.n))))))
theorem b_seen_shuttles {p : Pr} (X : Facts p) : Body p s_seen_shuttles N_seen_shuttles V_seen_shuttles G_seen_shuttles 0 (fun (d : ((List Int) × Int × Unit)) => [(sV false (tList tInt) d.1), (sV false tInt d.2.1), sAny]) (fun _ => .nx (List.replicate 3 sAny)) r_seen_shuttles := fun g ok hX d => bb_seen_shuttles X ok hX d.1 d.2.1
theorem fn_seen_shuttles {p : Pr} (X : Facts p) : Fn p 1 "seen_shuttles" ["shuttles", "picks"] (spM p (aCons (tList tInt) (aCons tInt aNil)) (fun r => .rt false tNone r) c_seen_shuttles) := by
  obtain ⟨f, fd, hF, hm⟩ := X.d_seen_shuttles
  exact ⟨f, fd, eq_seen_shuttles ▸ fn_nx (m := 1) hF sc_seen_shuttles (.cons (.cons .nil)) rfl rfl (b_seen_shuttles X), hm, hF.kp, hF.bindsN fun _ _ _ _ _ _ us hl => match us, hl with | [_, _], _ => rfl⟩
abbrev s_turns_made : Stmt := (topS 18)
abbrev N_turns_made : List Str := ["shuttles", "last", "throws", "turns", "pick", "shuttle", "side"]
abbrev V_turns_made : List Str := ["shuttles", "last", "throws", "turns", "pick", "shuttle", "side"]
abbrev G_turns_made : List Str := ["enumerate"]
theorem sc_turns_made : Sc s_turns_made N_turns_made V_turns_made ["shuttles"] G_turns_made := ⟨⟨rfl, rfl, rfl, by decide +kernel, rfl, by decide +kernel, by decide +kernel⟩, by decide +kernel, by decide +kernel, by decide +kernel⟩
def r_f_turns_made_l1  : ((List (Key × Int)) × (List Int) × (List (Int × Int × Tx × Unit))) → (Int × Int × Unit) → M ((List (Key × Int)) × (List Int) × (List (Int × Int × Tx × Unit))) := fun s11 t12 => M.bind (M.bind (M.bind (M.ok s11.2.1) fun y13 => M.bind (M.ok t12.2.1) fun y14 => getM y13 y14) fun y15 => M.bind (M.ok (0 : Int)) fun y16 => M.ok (decide (y16 < y15))) fun c17 => M.bind (if c17 = true then M.bind (M.ok (tx "left")) fun side18 => M.bind (M.bind (M.bind (M.bind (M.ok s11.2.1) fun y19 => M.bind (M.ok t12.2.1) fun y20 => getM y19 y20) fun y21 => M.ok (y21 % (2 : Int))) fun y22 => M.bind (M.ok (1 : Int)) fun y23 => M.ok (decide (y22 = y23))) fun c24 => M.bind (if c24 = true then M.bind (M.ok (tx "right")) fun side25 => M.ok side25 else M.ok side18) fun (s26 : (Tx)) => M.bind (M.bind (M.bind (M.ok t12.2.1) fun y28 => getDM s11.1 (.inl y28)) fun y33 => M.bind (M.bind (M.ok t12.1) fun y31 => M.bind (M.bind (M.ok s26) fun y29 => M.bind (M.ok ()) fun y30 => M.ok (y29, y30)) fun y32 => M.ok (y31, y32)) fun y34 => M.ok (y33, y34)) fun y38 => M.bind (pushM s11.2.2 y38) fun turns27 => M.ok turns27 else M.ok s11.2.2) fun (s39 : ((List (Int × Int × Tx × Unit)))) => M.bind (M.ok t12.1) fun y40 => M.bind (M.ok t12.2.1) fun i41 => M.bind (dputM s11.1 (.inl i41) y40) fun last42 => M.bind (M.ok t12.2.1) fun i44 => M.bind (getM s11.2.1 i44) fun v45 => M.bind (M.ok (1 : Int)) fun y43 => M.bind (setM s11.2.1 i44 (v45 + y43)) fun throws46 => M.ok (last42, throws46, s39)
def f_turns_made_l1  : ((List (Key × Int)) × (List Int) × (List (Int × Int × Tx × Unit))) → (Int × Int × Unit) → M ((List (Key × Int)) × (List Int) × (List (Int × Int × Tx × Unit))) := fun s11 t12 => M.bind (M.bind (getM s11.2.1 t12.2.1) fun y15 => M.ok (decide ((0 : Int) < y15))) fun c17 => M.bind (if c17 = true then let side18 : Tx := (tx "left"); M.bind (M.bind (M.bind (getM s11.2.1 t12.2.1) fun y21 => M.ok (y21 % (2 : Int))) fun y22 => M.ok (decide (y22 = (1 : Int)))) fun c24 => M.bind (if c24 = true then let side25 : Tx := (tx "right"); M.ok side25 else M.ok side18) fun (s26 : (Tx)) => M.bind (M.bind (getDM s11.1 (.inl t12.2.1)) fun y35 => M.ok (y35, t12.1, s26, ())) fun y38 => M.bind (pushM s11.2.2 y38) fun turns27 => M.ok turns27 else M.ok s11.2.2) fun (s39 : ((List (Int × Int × Tx × Unit)))) => M.bind (dputM s11.1 (.inl t12.2.1) t12.1) fun last42 => M.bind (getM s11.2.1 t12.2.1) fun v45 => M.bind (setM s11.2.1 t12.2.1 (v45 + (1 : Int))) fun throws46 => M.ok (last42, throws46, s39)
theorem eq_f_turns_made_l1  : r_f_turns_made_l1  = f_turns_made_l1  := by funext s11 t12; first | (simp only [r_f_turns_made_l1, f_turns_made_l1, M.bind_assoc, M.bok]; done) | (simp only [r_f_turns_made_l1, f_turns_made_l1, M.bind_assoc, M.bok]; rfl)
def q_turns_made (shuttles1 : (List Int)) : M (List (Int × Int × Tx × Unit)) := M.bind (M.ok ([] : (List (Key × Int)))) fun last2 => M.bind (M.bind (M.bind (M.ok (0 : Int)) fun y4 => M.bind (M.ok []) fun y5 => M.ok (y4 :: y5)) fun y7 => M.bind (M.ok (8 : Int)) fun y8 => repM y7 y8) fun throws3 => M.bind (M.ok []) fun turns9 => M.bind (M.bind (M.ok shuttles1) fun y10 => M.ok (enumL y10)) fun xs47 => M.bind (forM r_f_turns_made_l1 (last2, throws3, turns9) xs47) fun (s48 : ((List (Key × Int)) × (List Int) × (List (Int × Int × Tx × Unit)))) => M.ok s48.2.2
def f_turns_made (shuttles1 : (List Int)) : M (List (Int × Int × Tx × Unit)) := let last2 : (List (Key × Int)) := []; M.bind (repM ([(0 : Int)]) (8 : Int)) fun throws3 => let turns9 : (List (Int × Int × Tx × Unit)) := []; M.bind (forM f_turns_made_l1 (last2, throws3, turns9) (enumL shuttles1)) fun (s48 : ((List (Key × Int)) × (List Int) × (List (Int × Int × Tx × Unit)))) => M.ok s48.2.2
def r_turns_made (d : ((List Int) × Unit)) : M (List (Int × Int × Tx × Unit)) := q_turns_made d.1
def c_turns_made (d : ((List Int) × Unit)) : M (List (Int × Int × Tx × Unit)) := f_turns_made d.1
theorem eq_turns_made : r_turns_made = c_turns_made := by funext d; first | (simp only [r_turns_made, c_turns_made, q_turns_made, f_turns_made, M.bind_assoc, M.bok, eq_f_turns_made_l1]; done) | (simp only [r_turns_made, c_turns_made, q_turns_made, f_turns_made, M.bind_assoc, M.bok, eq_f_turns_made_l1]; rfl)
theorem bb_turns_made {p : Pr} (X : Facts p) {g : G} (ok : OkS p (defScope s_turns_made) N_turns_made V_turns_made G_turns_made 0 g) (hX : g.LX = List.replicate N_turns_made.length sAny) (shuttles1 : (List Int)) : EvB g [(sV false (tList tInt) shuttles1), sAny, sAny, sAny, sAny, sAny, sAny] (defBody s_turns_made) (fun r => .rtL false (tTup (aCons tInt (aCons tInt (aCons tStr aNil)))) r) (q_turns_made shuttles1) := (evb_newD (S := tInt) ok (i := 1) (j := 1) rfl rfl fun last2 => (evb_own ok (i := 2) (j := 2) rfl rfl (wkX hX rfl) .sh (evl_rep (md := .sh) ok.toOk (evl_lstN (n := 1) (lnS ln0) (by decide) (evs_cons (ev_int (md := .sh)) evs_nil)) (ev_int (md := .sh))) fun throws3 => (evb_own ok (i := 3) (j := 3) rfl rfl (wkX hX rfl) .sh (evl_nil (md := .sh) (S := (tTup (aCons tInt (aCons tInt (aCons tStr aNil)))))) fun turns9 => (evb_for (LF := (fun (s11 : ((List (Key × Int)) × (List Int) × (List (Int × Int × Tx × Unit)))) => [(sV false (tList tInt) shuttles1), (sDict false tInt s11.1), (sOwn false tInt s11.2.1), (sOwn false (tTup (aCons tInt (aCons tInt (aCons tStr aNil)))) s11.2.2), sAny, sAny, sAny])) (s0 := (last2, throws3, turns9)) ok (wkX hX rfl) (evi_enum ok.toOk sq_l (j := 0) rfl X.g_enumerate (ev_vsh ok.toOk (i := 0) (j := 0) rfl rfl rfl)) (Wk.s (Wk.s (Wk.s (Wk.s (Wk.s (Wk.s (Wk.s Wk.n))))))) (fun _ => evg_tup ok.toOk (lenS (lenS len0)) (evgs_cons (evg_name ok (i := 4) (j := 4) rfl rfl) fun _ => (evgs_cons (evg_name ok (i := 5) (j := 5) rfl rfl) fun _ => evgs_nil))) (fun s11 t12 => (evb_if (LJ := (fun (s39 : ((List (Int × Int × Tx × Unit)))) => [(sV false (tList tInt) shuttles1), (sDict false tInt s11.1), (sOwn false tInt s11.2.1), (sOwn false (tTup (aCons tInt (aCons tInt (aCons tStr aNil)))) s39), (sV false tInt t12.1), (sV false tInt t12.2.1), sAny])) (wkX hX rfl) (evt_borrow (i := 2) rfl (evt_c ok.toOk c_gt (ev_ixQ ok.toOk sq_l (ev_vsh ok.toOk (i := 2) (j := 2) rfl rfl rfl) (ev_vsh ok.toOk (i := 5) (j := 5) rfl rfl rfl)) (ev_int (md := .sh)))) (evb_set ok (i := 6) (j := 6) rfl rfl (wkX hX rfl) .sh (ev_str (md := .sh) (by decide +kernel)) fun side18 => (evb_if (LJ := (fun (s26 : (Tx)) => [(sV false (tList tInt) shuttles1), (sDict false tInt s11.1), (sOwn false tInt s11.2.1), (sOwn false (tTup (aCons tInt (aCons tInt (aCons tStr aNil)))) s11.2.2), (sV false tInt t12.1), (sV false tInt t12.2.1), (sV false tStr s26)])) (wkX hX rfl) (evt_borrow (i := 2) rfl (evt_c ok.toOk (c_eq s_int) (ev_and1 (md' := .sh) ok.toOk (ev_ixQ ok.toOk sq_l (ev_vsh ok.toOk (i := 2) (j := 2) rfl rfl rfl) (ev_vsh ok.toOk (i := 5) (j := 5) rfl rfl rfl)) (ev_int (md := .sh))) (ev_int (md := .sh)))) (evb_set ok (i := 6) (j := 6) rfl rfl (wkX hX rfl) .sh (ev_str (md := .sh) (by decide +kernel)) fun side25 => (evb_nx (by rfl) (Wk.s (Wk.s (Wk.s (Wk.s (Wk.s (Wk.s (Wk.s Wk.n))))))))) (evb_nx (by rfl) (Wk.s (Wk.s (Wk.s (Wk.s (Wk.s (Wk.s (Wk.s Wk.n)))))))) fun s26 => (evb_append ok (wkX hX rfl) (i := 3) (j := 3) rfl rfl rfl .sh (ev_tup (fun d vs R h => by rw [(lenS (lenS (lenS len0))) h]; decide) (eva_cons (ev_subOwn ok.toOk (i := 1) (j := 1) rfl rfl rfl (ev_vsh ok.toOk (i := 5) (j := 5) rfl rfl rfl)) (eva_cons (ev_vsh ok.toOk (i := 4) (j := 4) rfl rfl rfl) (eva_cons (ev_vsh ok.toOk (i := 6) (j := 6) rfl rfl rfl) eva_nil)))) fun turns27 => (evb_nx (by rfl) (Wk.s (Wk.s (Wk.s (Wk.s (Wk.s (Wk.s (Wk.a Wk.n))))))))))) (evb_nx (by rfl) (Wk.s (Wk.s (Wk.s (Wk.s (Wk.s (Wk.s (Wk.s Wk.n)))))))) fun s39 => (evb_putD ok (wkX hX rfl) (i := 1) (j := 1) rfl rfl rfl .sh (ev_vsh ok.toOk (i := 4) (j := 4) rfl rfl rfl) (ev_vsh ok.toOk (i := 5) (j := 5) rfl rfl rfl) fun last42 => (evb_augI ok (wkX hX rfl) (i := 2) (j := 2) rfl rfl rfl (ev_vsh ok.toOk (i := 5) (j := 5) rfl rfl rfl) (ev_int (md := .sh)) fun throws46 => (evb_go (by rfl) (Wk.s (Wk.s (Wk.s (Wk.s (Wk.a (Wk.a (Wk.s Wk.n)))))))))))) fun s48 => (evb_retOwn ok.toOk (i := 3) (j := 3) rfl rfl rfl (.inl rfl) (by rfl))))))
theorem b_turns_made {p : Pr} (X : Facts p) : Body p s_turns_made N_turns_made V_turns_made G_turns_made 0 (fun (d : ((List Int) × Unit)) => [(sV false (tList tInt) d.1), sAny, sAny, sAny, sAny, sAny, sAny]) (fun r => .rtL false (tTup (aCons tInt (aCons tInt (aCons tStr aNil)))) r) r_turns_made := fun g ok hX d => bb_turns_made X ok hX d.1
theorem fn_turns_made {p : Pr} (X : Facts p) : Fn p 1 "turns_made" ["shuttles"] (spM p (aCons (tList tInt) aNil) (fun r => .rtL false (tTup (aCons tInt (aCons tInt (aCons tStr aNil)))) r) c_turns_made) := by
  obtain ⟨f, fd, hF, hm⟩ := X.d_turns_made
  exact ⟨f, fd, eq_turns_made ▸ fn_rtL (m := 6) hF sc_turns_made (.cons .nil) rfl rfl (b_turns_made X), hm, hF.kp, hF.bindsN fun _ _ _ _ _ _ us hl => match us, hl with | [_], _ => rfl⟩
abbrev s_seams_of : Stmt := (topS 19)
abbrev N_seams_of : List Str := ["cloth", "shuttles", "wide", "high", "layers", "seams", "pick", "later", "side", "one", "other", "seam"]
abbrev V_seams_of : List Str := ["cloth", "shuttles", "wide", "high", "layers", "seams", "pick", "later", "side", "one", "other", "seam"]
abbrev G_seams_of : List Str := ["measured", "seen_shuttles", "layer_numbers", "turns_made", "min", "max", "sorted"]
theorem sc_seams_of : Sc s_seams_of N_seams_of V_seams_of ["cloth", "shuttles"] G_seams_of := ⟨⟨rfl, rfl, rfl, by decide +kernel, rfl, by decide +kernel, by decide +kernel⟩, by decide +kernel, by decide +kernel, by decide +kernel⟩
def r_f_seams_of_l1 (t6 : (Int × Int × Unit)) (layers14 : (List Int)) : ((List (Int × Int × Tx × Unit))) → (Int × Int × Tx × Unit) → M ((List (Int × Int × Tx × Unit))) := fun s22 t23 => M.bind (M.bind (M.ok layers14) fun y27 => M.bind (M.bind (M.ok t6.1) fun y25 => M.bind (M.ok t23.1) fun y26 => M.ok (y25 + y26)) fun y28 => getM y27 y28) fun one24 => M.bind (M.bind (M.ok layers14) fun y32 => M.bind (M.bind (M.ok t6.1) fun y30 => M.bind (M.ok t23.2.1) fun y31 => M.ok (y30 + y31)) fun y33 => getM y32 y33) fun other29 => M.bind (M.bind (M.ok one24) fun y34 => M.bind (M.ok other29) fun y35 => M.ok (decide (y34 = y35))) fun c36 => if c36 = true then M.ok s22 else M.bind (M.bind (M.bind (M.ok one24) fun y38 => M.bind (M.ok other29) fun y39 => M.ok (min y38 y39)) fun y46 => M.bind (M.bind (M.bind (M.ok one24) fun y40 => M.bind (M.ok other29) fun y41 => M.ok (max y40 y41)) fun y44 => M.bind (M.bind (M.ok t23.2.2.1) fun y42 => M.bind (M.ok ()) fun y43 => M.ok (y42, y43)) fun y45 => M.ok (y44, y45)) fun y47 => M.ok (y46, y47)) fun seam37 => M.bind (M.bind (M.ok seam37) fun y51 => M.bind (M.ok s22) fun y52 => M.ok (!memD y51 y52)) fun c53 => if c53 = true then M.bind (M.ok seam37) fun y55 => M.bind (pushM s22 y55) fun seams54 => M.ok seams54 else M.ok s22
def f_seams_of_l1 (t6 : (Int × Int × Unit)) (layers14 : (List Int)) : ((List (Int × Int × Tx × Unit))) → (Int × Int × Tx × Unit) → M ((List (Int × Int × Tx × Unit))) := fun s22 t23 => M.bind (getM layers14 (t6.1 + t23.1)) fun one24 => M.bind (getM layers14 (t6.1 + t23.2.1)) fun other29 => if (decide (one24 = other29)) = true then M.ok s22 else let seam37 : (Int × Int × Tx × Unit) := ((min one24 other29), (max one24 other29), t23.2.2.1, ()); if (!memD seam37 s22) = true then M.bind (pushM s22 seam37) fun seams54 => M.ok seams54 else M.ok s22
theorem eq_f_seams_of_l1 (t6 : (Int × Int × Unit)) (layers14 : (List Int)) : r_f_seams_of_l1 t6 layers14 = f_seams_of_l1 t6 layers14 := by funext s22 t23; first | (simp only [r_f_seams_of_l1, f_seams_of_l1, M.bind_assoc, M.bok, c_layer_numbers, c_measured, c_seen_shuttles, c_turns_made]; done) | (simp only [r_f_seams_of_l1, f_seams_of_l1, M.bind_assoc, M.bok, c_layer_numbers, c_measured, c_seen_shuttles, c_turns_made]; rfl)
def q_seams_of (cloth1 : (List Tx)) (shuttles2 : (List Int)) : M (List (Int × Int × Tx × Unit)) := M.bind (M.bind (M.bind (M.ok cloth1) fun y3 => M.bind (M.ok ()) fun y4 => M.ok (y3, y4)) c_measured) fun t6 => M.bind (M.bind (M.bind (M.ok shuttles2) fun y9 => M.bind (M.bind (M.ok t6.2.1) fun y7 => M.bind (M.ok ()) fun y8 => M.ok (y7, y8)) fun y10 => M.ok (y9, y10)) c_seen_shuttles) fun u13 => M.bind (M.bind (M.bind (M.ok cloth1) fun y15 => M.bind (M.ok ()) fun y16 => M.ok (y15, y16)) c_layer_numbers) fun layers14 => M.bind (M.ok []) fun seams18 => M.bind (M.bind (M.bind (M.ok shuttles2) fun y19 => M.bind (M.ok ()) fun y20 => M.ok (y19, y20)) c_turns_made) fun xs58 => M.bind (forM (r_f_seams_of_l1 t6 layers14) seams18 xs58) fun (s59 : ((List (Int × Int × Tx × Unit)))) => M.bind (M.ok s59) fun y60 => M.ok (sortD (oTup (oCons oInt (oCons oInt (oCons oStr oNil)))) y60)
def f_seams_of (cloth1 : (List Tx)) (shuttles2 : (List Int)) : M (List (Int × Int × Tx × Unit)) := M.bind (f_measured cloth1) fun t6 => M.bind (f_seen_shuttles shuttles2 t6.2.1) fun u13 => M.bind (f_layer_numbers cloth1) fun layers14 => let seams18 : (List (Int × Int × Tx × Unit)) := []; M.bind (f_turns_made shuttles2) fun xs58 => M.bind (forM (f_seams_of_l1 t6 layers14) seams18 xs58) fun (s59 : ((List (Int × Int × Tx × Unit)))) => M.ok (sortD (oTup (oCons oInt (oCons oInt (oCons oStr oNil)))) s59)
def r_seams_of (d : ((List Tx) × (List Int) × Unit)) : M (List (Int × Int × Tx × Unit)) := q_seams_of d.1 d.2.1
def c_seams_of (d : ((List Tx) × (List Int) × Unit)) : M (List (Int × Int × Tx × Unit)) := f_seams_of d.1 d.2.1
theorem eq_seams_of : r_seams_of = c_seams_of := by funext d; first | (simp only [r_seams_of, c_seams_of, q_seams_of, f_seams_of, M.bind_assoc, M.bok, eq_f_seams_of_l1, c_layer_numbers, c_measured, c_seen_shuttles, c_turns_made]; done) | (simp only [r_seams_of, c_seams_of, q_seams_of, f_seams_of, M.bind_assoc, M.bok, eq_f_seams_of_l1, c_layer_numbers, c_measured, c_seen_shuttles, c_turns_made]; rfl)
theorem bb_seams_of {p : Pr} (X : Facts p) {g : G} (ok : OkS p (defScope s_seams_of) N_seams_of V_seams_of G_seams_of 5 g) (hX : g.LX = List.replicate N_seams_of.length sAny) (cloth1 : (List Tx)) (shuttles2 : (List Int)) : EvB g [(sV false (tList tStr) cloth1), (sV false (tList tInt) shuttles2), sAny, sAny, sAny, sAny, sAny, sAny, sAny, sAny, sAny, sAny] (defBody s_seams_of) (fun r => .rtL false (tTup (aCons tInt (aCons tInt (aCons tStr aNil)))) r) (q_seams_of cloth1 shuttles2) := (evb_asg ok (wkX hX rfl) (ev_call (md' := .sh) ok.toOk (fn_measured X) (by decide) (j := 0) rfl .sh (eva_cons (md := .sh) (ev_vsh ok.toOk (i := 0) (j := 0) rfl rfl rfl) eva_nil)) (evg_tup ok.toOk (lenS (lenS len0)) (evgs_cons (evg_name ok (i := 2) (j := 2) rfl rfl) fun _ => (evgs_cons (evg_name ok (i := 3) (j := 3) rfl rfl) fun _ => evgs_nil))) fun t6 => (evb_expr (wkX hX rfl) (ev_call (md' := .sh) ok.toOk (fn_seen_shuttles X) (by decide) (j := 1) rfl .sh (eva_cons (md := .sh) (ev_vsh ok.toOk (i := 1) (j := 1) rfl rfl rfl) (eva_cons (md := .sh) (ev_vsh ok.toOk (i := 3) (j := 3) rfl rfl rfl) eva_nil))) fun u13 => (evb_set ok (i := 4) (j := 4) rfl rfl (wkX hX rfl) .sh (ev_ofL (evl_call (md' := .sh) ok.toOk (fn_layer_numbers X) (by decide) (j := 2) rfl .sh (eva_cons (md := .sh) (ev_vsh ok.toOk (i := 0) (j := 0) rfl rfl rfl) eva_nil))) fun layers14 => (evb_own ok (i := 5) (j := 5) rfl rfl (wkX hX rfl) .sh (evl_nil (md := .sh) (S := (tTup (aCons tInt (aCons tInt (aCons tStr aNil)))))) fun seams18 => (evb_for (LF := (fun (s22 : ((List (Int × Int × Tx × Unit)))) => [(sV false (tList tStr) cloth1), (sV false (tList tInt) shuttles2), (sV false tInt t6.1), (sV false tInt t6.2.1), (sV false (tList tInt) layers14), (sOwn false (tTup (aCons tInt (aCons tInt (aCons tStr aNil)))) s22), sAny, sAny, sAny, sAny, sAny, sAny])) (s0 := seams18) ok (wkX hX rfl) (evi_seq ok.toOk sq_l (ev_ofL (evl_call (md' := .sh) ok.toOk (fn_turns_made X) (by decide) (j := 3) rfl .sh (eva_cons (md := .sh) (ev_vsh ok.toOk (i := 1) (j := 1) rfl rfl rfl) eva_nil)))) (Wk.s (Wk.s (Wk.s (Wk.s (Wk.s (Wk.s (Wk.s (Wk.s (Wk.s (Wk.s (Wk.s (Wk.s Wk.n)))))))))))) (fun _ => evg_tup ok.toOk (lenS (lenS (lenS len0))) (evgs_cons (evg_name ok (i := 6) (j := 6) rfl rfl) fun _ => (evgs_cons (evg_name ok (i := 7) (j := 7) rfl rfl) fun _ => (evgs_cons (evg_name ok (i := 8) (j := 8) rfl rfl) fun _ => evgs_nil)))) (fun s22 t23 => (evb_set ok (i := 9) (j := 9) rfl rfl (wkX hX rfl) .sh (ev_ixQ ok.toOk sq_l (ev_vsh ok.toOk (i := 4) (j := 4) rfl rfl rfl) (ev_add (md' := .sh) ok.toOk (ev_vsh ok.toOk (i := 2) (j := 2) rfl rfl rfl) (ev_vsh ok.toOk (i := 6) (j := 6) rfl rfl rfl))) fun one24 => (evb_set ok (i := 10) (j := 10) rfl rfl (wkX hX rfl) .sh (ev_ixQ ok.toOk sq_l (ev_vsh ok.toOk (i := 4) (j := 4) rfl rfl rfl) (ev_add (md' := .sh) ok.toOk (ev_vsh ok.toOk (i := 2) (j := 2) rfl rfl rfl) (ev_vsh ok.toOk (i := 7) (j := 7) rfl rfl rfl))) fun other29 => (evb_ifx (wkX hX rfl) (evt_c ok.toOk (c_eq s_int) (ev_vsh ok.toOk (i := 9) (j := 9) rfl rfl rfl) (ev_vsh ok.toOk (i := 10) (j := 10) rfl rfl rfl)) (evb_cont (L' := ((fun (s22 : ((List (Int × Int × Tx × Unit)))) => [(sV false (tList tStr) cloth1), (sV false (tList tInt) shuttles2), (sV false tInt t6.1), (sV false tInt t6.2.1), (sV false (tList tInt) layers14), (sOwn false (tTup (aCons tInt (aCons tInt (aCons tStr aNil)))) s22), sAny, sAny, sAny, sAny, sAny, sAny]) s22)) (.inr rfl) (Wk.s (Wk.s (Wk.s (Wk.s (Wk.s (Wk.s (Wk.a (Wk.a (Wk.a (Wk.a (Wk.a (Wk.s Wk.n))))))))))))) (evb_set ok (i := 11) (j := 11) rfl rfl (wkX hX rfl) .sh (ev_tup (fun d vs R h => by rw [(lenS (lenS (lenS len0))) h]; decide) (eva_cons (ev_min2 (md' := .sh) ok.toOk (j := 4) rfl X.g_min (ev_vsh ok.toOk (i := 9) (j := 9) rfl rfl rfl) (ev_vsh ok.toOk (i := 10) (j := 10) rfl rfl rfl)) (eva_cons (ev_max2 (md' := .sh) ok.toOk (j := 5) rfl X.g_max (ev_vsh ok.toOk (i := 9) (j := 9) rfl rfl rfl) (ev_vsh ok.toOk (i := 10) (j := 10) rfl rfl rfl)) (eva_cons (ev_vsh ok.toOk (i := 8) (j := 8) rfl rfl rfl) eva_nil)))) fun seam37 => (evb_ifl (wkX hX rfl) (evt_borrow (i := 5) rfl (evt_c ok.toOk (c_notinD ok.toOk (dTup (dCons dInt (dCons dInt (dCons dStr dNil)))) (by decide)) (ev_vsh ok.toOk (i := 11) (j := 11) rfl rfl rfl) (ev_vsh ok.toOk (i := 5) (j := 5) rfl rfl rfl))) (evb_append ok (wkX hX rfl) (i := 5) (j := 5) rfl rfl rfl .sh (ev_vsh ok.toOk (i := 11) (j := 11) rfl rfl rfl) fun seams54 => (evb_go (by rfl) (Wk.s (Wk.s (Wk.s (Wk.s (Wk.s (Wk.s (Wk.a (Wk.a (Wk.a (Wk.a (Wk.a (Wk.a Wk.n)))))))))))))) (evb_go (by rfl) (Wk.s (Wk.s (Wk.s (Wk.s (Wk.s (Wk.s (Wk.a (Wk.a (Wk.a (Wk.a (Wk.a (Wk.a Wk.n))))))))))))))))))) fun s59 => (evb_freeze (i := 5) rfl (evb_retL (wkX hX rfl) .sh (by intro _; rfl) (evl_sortD (md := .sh) ok.toOk (oTup (oCons oInt (oCons oInt (oCons oStr oNil)))) (by decide) st_tup (j := 6) rfl X.g_sorted (ev_vsh ok.toOk (i := 5) (j := 5) rfl rfl rfl)))))))))
theorem b_seams_of {p : Pr} (X : Facts p) : Body p s_seams_of N_seams_of V_seams_of G_seams_of 5 (fun (d : ((List Tx) × (List Int) × Unit)) => [(sV false (tList tStr) d.1), (sV false (tList tInt) d.2.1), sAny, sAny, sAny, sAny, sAny, sAny, sAny, sAny, sAny, sAny]) (fun r => .rtL false (tTup (aCons tInt (aCons tInt (aCons tStr aNil)))) r) r_seams_of := fun g ok hX d => bb_seams_of X ok hX d.1 d.2.1
theorem fn_seams_of {p : Pr} (X : Facts p) : Fn p 6 "seams_of" ["cloth", "shuttles"] (spM p (aCons (tList tStr) (aCons (tList tInt) aNil)) (fun r => .rtL false (tTup (aCons tInt (aCons tInt (aCons tStr aNil)))) r) c_seams_of) := by
  obtain ⟨f, fd, hF, hm⟩ := X.d_seams_of
  exact ⟨f, fd, eq_seams_of ▸ fn_rtL (m := 10) hF sc_seams_of (.cons (.cons .nil)) rfl rfl (b_seams_of X), hm, hF.kp, hF.bindsN fun _ _ _ _ _ _ us hl => match us, hl with | [_, _], _ => rfl⟩
abbrev s_tubes_of : Stmt := (topS 20)
abbrev N_tubes_of : List Str := ["cloth", "shuttles", "seams", "tubes", "upper", "lower", "side"]
abbrev V_tubes_of : List Str := ["cloth", "shuttles", "seams", "tubes", "upper", "lower", "side"]
abbrev G_tubes_of : List Str := ["seams_of"]
theorem sc_tubes_of : Sc s_tubes_of N_tubes_of V_tubes_of ["cloth", "shuttles"] G_tubes_of := ⟨⟨rfl, rfl, rfl, by decide +kernel, rfl, by decide +kernel, by decide +kernel⟩, by decide +kernel, by decide +kernel, by decide +kernel⟩
def r_f_tubes_of_l1 (seams3 : (List (Int × Int × Tx × Unit))) : ((List (Int × Int × Unit))) → (Int × Int × Tx × Unit) → M ((List (Int × Int × Unit))) := fun s11 t12 => M.bind (M.ok ((decide (t12.2.2.1 = (tx "left"))) && (memD (t12.1, t12.2.1, (tx "right"), ()) seams3))) fun c27 => if c27 = true then M.bind (M.bind (M.ok t12.1) fun y31 => M.bind (M.bind (M.ok t12.2.1) fun y29 => M.bind (M.ok ()) fun y30 => M.ok (y29, y30)) fun y32 => M.ok (y31, y32)) fun y35 => M.bind (pushM s11 y35) fun tubes28 => M.ok tubes28 else M.ok s11
def f_tubes_of_l1 (seams3 : (List (Int × Int × Tx × Unit))) : ((List (Int × Int × Unit))) → (Int × Int × Tx × Unit) → M ((List (Int × Int × Unit))) := fun s11 t12 => if ((decide (t12.2.2.1 = (tx "left"))) && (memD (t12.1, t12.2.1, (tx "right"), ()) seams3)) = true then M.bind (pushM s11 (t12.1, t12.2.1, ())) fun tubes28 => M.ok tubes28 else M.ok s11
theorem eq_f_tubes_of_l1 (seams3 : (List (Int × Int × Tx × Unit))) : r_f_tubes_of_l1 seams3 = f_tubes_of_l1 seams3 := by funext s11 t12; first | (simp only [r_f_tubes_of_l1, f_tubes_of_l1, M.bind_assoc, M.bok, c_seams_of]; done) | (simp only [r_f_tubes_of_l1, f_tubes_of_l1, M.bind_assoc, M.bok, c_seams_of]; rfl)
def q_tubes_of (cloth1 : (List Tx)) (shuttles2 : (List Int)) : M (List (Int × Int × Unit)) := M.bind (M.bind (M.bind (M.ok cloth1) fun y6 => M.bind (M.bind (M.ok shuttles2) fun y4 => M.bind (M.ok ()) fun y5 => M.ok (y4, y5)) fun y7 => M.ok (y6, y7)) c_seams_of) fun seams3 => M.bind (M.ok []) fun tubes10 => M.bind (M.ok seams3) fun xs37 => M.bind (forM (r_f_tubes_of_l1 seams3) tubes10 xs37) fun (s38 : ((List (Int × Int × Unit)))) => M.ok s38
def f_tubes_of (cloth1 : (List Tx)) (shuttles2 : (List Int)) : M (List (Int × Int × Unit)) := M.bind (f_seams_of cloth1 shuttles2) fun seams3 => let tubes10 : (List (Int × Int × Unit)) := []; M.bind (forM (f_tubes_of_l1 seams3) tubes10 seams3) fun (s38 : ((List (Int × Int × Unit)))) => M.ok s38
def r_tubes_of (d : ((List Tx) × (List Int) × Unit)) : M (List (Int × Int × Unit)) := q_tubes_of d.1 d.2.1
def c_tubes_of (d : ((List Tx) × (List Int) × Unit)) : M (List (Int × Int × Unit)) := f_tubes_of d.1 d.2.1
theorem eq_tubes_of : r_tubes_of = c_tubes_of := by funext d; first | (simp only [r_tubes_of, c_tubes_of, q_tubes_of, f_tubes_of, M.bind_assoc, M.bok, eq_f_tubes_of_l1, c_seams_of]; done) | (simp only [r_tubes_of, c_tubes_of, q_tubes_of, f_tubes_of, M.bind_assoc, M.bok, eq_f_tubes_of_l1, c_seams_of]; rfl)
theorem bb_tubes_of {p : Pr} (X : Facts p) {g : G} (ok : OkS p (defScope s_tubes_of) N_tubes_of V_tubes_of G_tubes_of 6 g) (hX : g.LX = List.replicate N_tubes_of.length sAny) (cloth1 : (List Tx)) (shuttles2 : (List Int)) : EvB g [(sV false (tList tStr) cloth1), (sV false (tList tInt) shuttles2), sAny, sAny, sAny, sAny, sAny] (defBody s_tubes_of) (fun r => .rtL false (tTup (aCons tInt (aCons tInt aNil))) r) (q_tubes_of cloth1 shuttles2) := (evb_set ok (i := 2) (j := 2) rfl rfl (wkX hX rfl) .sh (ev_ofL (evl_call (md' := .sh) ok.toOk (fn_seams_of X) (by decide) (j := 0) rfl .sh (eva_cons (md := .sh) (ev_vsh ok.toOk (i := 0) (j := 0) rfl rfl rfl) (eva_cons (md := .sh) (ev_vsh ok.toOk (i := 1) (j := 1) rfl rfl rfl) eva_nil)))) fun seams3 => (evb_own ok (i := 3) (j := 3) rfl rfl (wkX hX rfl) .sh (evl_nil (md := .sh) (S := (tTup (aCons tInt (aCons tInt aNil))))) fun tubes10 => (evb_for (LF := (fun (s11 : ((List (Int × Int × Unit)))) => [(sV false (tList tStr) cloth1), (sV false (tList tInt) shuttles2), (sV false (tList (tTup (aCons tInt (aCons tInt (aCons tStr aNil))))) seams3), (sOwn false (tTup (aCons tInt (aCons tInt aNil))) s11), sAny, sAny, sAny])) (s0 := tubes10) ok (wkX hX rfl) (evi_seq ok.toOk sq_l (ev_vsh ok.toOk (i := 2) (j := 2) rfl rfl rfl)) (Wk.s (Wk.s (Wk.s (Wk.s (Wk.s (Wk.s (Wk.s Wk.n))))))) (fun _ => evg_tup ok.toOk (lenS (lenS (lenS len0))) (evgs_cons (evg_name ok (i := 4) (j := 4) rfl rfl) fun _ => (evgs_cons (evg_name ok (i := 5) (j := 5) rfl rfl) fun _ => (evgs_cons (evg_name ok (i := 6) (j := 6) rfl rfl) fun _ => evgs_nil)))) (fun s11 t12 => (evb_ifl (wkX hX rfl) (EvW.t (evw_andP (pureT (m := M.bind (M.ok t12.2.2.1) fun y13 => M.bind (M.ok (tx "left")) fun y14 => M.ok (decide (y13 = y14))) (evt_c ok.toOk (c_eq s_str) (ev_vsh ok.toOk (i := 6) (j := 6) rfl rfl rfl) (ev_str (md := .sh) (by decide +kernel))) rfl) (pureW (m := M.bind (M.bind (M.ok t12.1) fun y19 => M.bind (M.bind (M.ok t12.2.1) fun y17 => M.bind (M.bind (M.ok (tx "right")) fun y15 => M.bind (M.ok ()) fun y16 => M.ok (y15, y16)) fun y18 => M.ok (y17, y18)) fun y20 => M.ok (y19, y20)) fun y24 => M.bind (M.ok seams3) fun y25 => M.ok (memD y24 y25)) (evw_and1 (evt_c ok.toOk (c_inD ok.toOk (dTup (dCons dInt (dCons dInt (dCons dStr dNil)))) (by decide)) (ev_tup (fun d vs R h => by rw [(lenS (lenS (lenS len0))) h]; decide) (eva_cons (ev_vsh ok.toOk (i := 4) (j := 4) rfl rfl rfl) (eva_cons (ev_vsh ok.toOk (i := 5) (j := 5) rfl rfl rfl) (eva_cons (ev_str (md := .sh) (by decide +kernel)) eva_nil)))) (ev_vsh ok.toOk (i := 2) (j := 2) rfl rfl rfl))) rfl))) (evb_append ok (wkX hX rfl) (i := 3) (j := 3) rfl rfl rfl .sh (ev_tup (fun d vs R h => by rw [(lenS (lenS len0)) h]; decide) (eva_cons (ev_vsh ok.toOk (i := 4) (j := 4) rfl rfl rfl) (eva_cons (ev_vsh ok.toOk (i := 5) (j := 5) rfl rfl rfl) eva_nil))) fun tubes28 => (evb_go (by rfl) (Wk.s (Wk.s (Wk.s (Wk.s (Wk.a (Wk.a (Wk.a Wk.n))))))))) (evb_go (by rfl) (Wk.s (Wk.s (Wk.s (Wk.s (Wk.a (Wk.a (Wk.a Wk.n)))))))))) fun s38 => (evb_retOwn ok.toOk (i := 3) (j := 3) rfl rfl rfl (.inl rfl) (by rfl)))))
theorem b_tubes_of {p : Pr} (X : Facts p) : Body p s_tubes_of N_tubes_of V_tubes_of G_tubes_of 6 (fun (d : ((List Tx) × (List Int) × Unit)) => [(sV false (tList tStr) d.1), (sV false (tList tInt) d.2.1), sAny, sAny, sAny, sAny, sAny]) (fun r => .rtL false (tTup (aCons tInt (aCons tInt aNil))) r) r_tubes_of := fun g ok hX d => bb_tubes_of X ok hX d.1 d.2.1
theorem fn_tubes_of {p : Pr} (X : Facts p) : Fn p 7 "tubes_of" ["cloth", "shuttles"] (spM p (aCons (tList tStr) (aCons (tList tInt) aNil)) (fun r => .rtL false (tTup (aCons tInt (aCons tInt aNil))) r) c_tubes_of) := by
  obtain ⟨f, fd, hF, hm⟩ := X.d_tubes_of
  exact ⟨f, fd, eq_tubes_of ▸ fn_rtL (m := 5) hF sc_tubes_of (.cons (.cons .nil)) rfl rfl (b_tubes_of X), hm, hF.kp, hF.bindsN fun _ _ _ _ _ _ us hl => match us, hl with | [_, _], _ => rfl⟩
abbrev s_sheets_of : Stmt := (topS 21)
abbrev N_sheets_of : List Str := ["cloth", "shuttles", "seams", "many", "marks", "upper", "lower", "side", "low", "high", "sheets", "first", "sheet", "mark", "layer"]
abbrev V_sheets_of : List Str := ["cloth", "shuttles", "seams", "many", "marks", "upper", "lower", "side", "low", "high", "sheets", "first", "sheet"]
abbrev G_sheets_of : List Str := ["seams_of", "layer_numbers", "max", "list", "range", "min", "len"]
theorem sc_sheets_of : Sc s_sheets_of N_sheets_of V_sheets_of ["cloth", "shuttles"] G_sheets_of := ⟨⟨rfl, rfl, rfl, by decide +kernel, rfl, by decide +kernel, by decide +kernel⟩, by decide +kernel, by decide +kernel, by decide +kernel⟩
def r_f_sheets_of_l1  : ((List Int)) → (Int × Int × Tx × Unit) → M ((List Int)) := fun s19 t20 => M.bind (M.bind (M.bind (M.ok s19) fun y22 => M.bind (M.ok t20.1) fun y23 => getM y22 y23) fun y26 => M.bind (M.bind (M.ok s19) fun y24 => M.bind (M.ok t20.2.1) fun y25 => getM y24 y25) fun y27 => M.ok (min y26 y27)) fun low21 => M.bind (M.bind (M.bind (M.ok s19) fun y29 => M.bind (M.ok t20.1) fun y30 => getM y29 y30) fun y33 => M.bind (M.bind (M.ok s19) fun y31 => M.bind (M.ok t20.2.1) fun y32 => getM y31 y32) fun y34 => M.ok (max y33 y34)) fun high28 => M.bind (M.bind (M.ok s19) fun xs42 => compM (fun mark36 => M.bind (M.ok true) fun c40 => if c40 = true then M.bind (M.bind (M.bind (M.ok mark36) fun y37 => M.bind (M.ok high28) fun y38 => M.ok (decide (y37 = y38))) fun c39 => if c39 = true then M.ok low21 else M.ok mark36) fun y41 => M.ok (some y41) else M.ok none) xs42) fun marks35 => M.ok marks35
def f_sheets_of_l1  : ((List Int)) → (Int × Int × Tx × Unit) → M ((List Int)) := fun s19 t20 => M.bind (M.bind (getM s19 t20.1) fun y26 => M.bind (getM s19 t20.2.1) fun y27 => M.ok (min y26 y27)) fun low21 => M.bind (M.bind (getM s19 t20.1) fun y33 => M.bind (getM s19 t20.2.1) fun y34 => M.ok (max y33 y34)) fun high28 => M.bind (compM (fun mark36 => M.bind (if (decide (mark36 = high28)) = true then M.ok low21 else M.ok mark36) fun y41 => M.ok (some y41)) s19) fun marks35 => M.ok marks35
theorem eq_f_sheets_of_l1  : r_f_sheets_of_l1  = f_sheets_of_l1  := by funext s19 t20; first | (simp only [r_f_sheets_of_l1, f_sheets_of_l1, M.bind_assoc, M.bok, c_layer_numbers, c_seams_of]; done) | (simp only [r_f_sheets_of_l1, f_sheets_of_l1, M.bind_assoc, M.bok, c_layer_numbers, c_seams_of]; rfl)
def r_f_sheets_of_l2 (many10 : Int) (s44 : ((List Int))) : ((List (List Int))) → Int → M ((List (List Int))) := fun s47 first48 => M.bind (M.bind (M.bind (M.ok many10) fun y50 => rangeM 0 y50) fun xs58 => compM (fun layer51 => M.bind (M.bind (M.bind (M.ok s44) fun y52 => M.bind (M.ok layer51) fun y53 => getM y52 y53) fun y54 => M.bind (M.ok first48) fun y55 => M.ok (decide (y54 = y55))) fun c56 => if c56 = true then M.bind (M.ok layer51) fun y57 => M.ok (some y57) else M.ok none) xs58) fun sheet49 => M.bind (M.bind (M.bind (M.ok sheet49) fun y59 => M.ok (y59.length : Int)) fun y60 => M.bind (M.ok (0 : Int)) fun y61 => M.ok (decide (y61 < y60))) fun c62 => if c62 = true then M.bind (M.ok (s47, fun (y : (List (List Int))) => y)) fun q63 => M.bind (M.ok (sheet49, fun (y : (List Int)) => y)) fun y64 => M.bind (pushM q63.1 y64.1) fun l65 => M.bind (M.ok (q63.2 l65)) fun sheets66 => M.ok sheets66 else M.ok s47
def f_sheets_of_l2 (many10 : Int) (s44 : ((List Int))) : ((List (List Int))) → Int → M ((List (List Int))) := fun s47 first48 => M.bind (M.bind (rangeM 0 many10) fun xs58 => compM (fun layer51 => M.bind (M.bind (getM s44 layer51) fun y54 => M.ok (decide (y54 = first48))) fun c56 => if c56 = true then M.ok (some layer51) else M.ok none) xs58) fun sheet49 => if (decide ((0 : Int) < (sheet49.length : Int))) = true then M.bind (pushM (s47, fun (y : (List (List Int))) => y).1 sheet49) fun l65 => let sheets66 : (List (List Int)) := (s47, fun (y : (List (List Int))) => y).2 l65; M.ok sheets66 else M.ok s47
theorem eq_f_sheets_of_l2 (many10 : Int) (s44 : ((List Int))) : r_f_sheets_of_l2 many10 s44 = f_sheets_of_l2 many10 s44 := by funext s47 first48; first | (simp only [r_f_sheets_of_l2, f_sheets_of_l2, M.bind_assoc, M.bok, eq_f_sheets_of_l1, c_layer_numbers, c_seams_of]; done) | (simp only [r_f_sheets_of_l2, f_sheets_of_l2, M.bind_assoc, M.bok, eq_f_sheets_of_l1, c_layer_numbers, c_seams_of]; rfl)
def q_sheets_of (cloth1 : (List Tx)) (shuttles2 : (List Int)) : M (List (List Int)) := M.bind (M.bind (M.bind (M.ok cloth1) fun y6 => M.bind (M.bind (M.ok shuttles2) fun y4 => M.bind (M.ok ()) fun y5 => M.ok (y4, y5)) fun y7 => M.ok (y6, y7)) c_seams_of) fun seams3 => M.bind (M.bind (M.bind (M.bind (M.bind (M.ok cloth1) fun y11 => M.bind (M.ok ()) fun y12 => M.ok (y11, y12)) c_layer_numbers) fun y14 => maxM y14) fun y15 => M.bind (M.ok (1 : Int)) fun y16 => M.ok (y15 + y16)) fun many10 => M.bind (M.bind (M.ok many10) fun y18 => rangeL 0 y18) fun marks17 => M.bind (M.ok seams3) fun xs43 => M.bind (forM r_f_sheets_of_l1 marks17 xs43) fun (s44 : ((List Int))) => M.bind (M.ok []) fun sheets45 => M.bind (M.bind (M.ok many10) fun y46 => rangeM 0 y46) fun xs68 => M.bind (forM (r_f_sheets_of_l2 many10 s44) sheets45 xs68) fun (s69 : ((List (List Int)))) => M.bind (M.ok s69) fun r70 => M.ok r70
def f_sheets_of (cloth1 : (List Tx)) (shuttles2 : (List Int)) : M (List (List Int)) := M.bind (f_seams_of cloth1 shuttles2) fun seams3 => M.bind (M.bind (M.bind (f_layer_numbers cloth1) fun y14 => maxM y14) fun y15 => M.ok (y15 + (1 : Int))) fun many10 => M.bind (rangeL 0 many10) fun marks17 => M.bind (forM f_sheets_of_l1 marks17 seams3) fun (s44 : ((List Int))) => let sheets45 : (List (List Int)) := []; M.bind (rangeM 0 many10) fun xs68 => M.bind (forM (f_sheets_of_l2 many10 s44) sheets45 xs68) fun (s69 : ((List (List Int)))) => M.ok s69
def r_sheets_of (d : ((List Tx) × (List Int) × Unit)) : M (List (List Int)) := q_sheets_of d.1 d.2.1
def c_sheets_of (d : ((List Tx) × (List Int) × Unit)) : M (List (List Int)) := f_sheets_of d.1 d.2.1
theorem eq_sheets_of : r_sheets_of = c_sheets_of := by funext d; first | (simp only [r_sheets_of, c_sheets_of, q_sheets_of, f_sheets_of, M.bind_assoc, M.bok, eq_f_sheets_of_l1, eq_f_sheets_of_l2, c_layer_numbers, c_seams_of]; done) | (simp only [r_sheets_of, c_sheets_of, q_sheets_of, f_sheets_of, M.bind_assoc, M.bok, eq_f_sheets_of_l1, eq_f_sheets_of_l2, c_layer_numbers, c_seams_of]; rfl)
theorem bb_sheets_of {p : Pr} (X : Facts p) {g : G} (ok : OkS p (defScope s_sheets_of) N_sheets_of V_sheets_of G_sheets_of 6 g) (hX : g.LX = List.replicate N_sheets_of.length sAny) (cloth1 : (List Tx)) (shuttles2 : (List Int)) : EvB g [(sV false (tList tStr) cloth1), (sV false (tList tInt) shuttles2), sAny, sAny, sAny, sAny, sAny, sAny, sAny, sAny, sAny, sAny, sAny, sAny, sAny] (defBody s_sheets_of) (fun r => oOut (wL (wL (wV tInt))) r) (q_sheets_of cloth1 shuttles2) := (evb_set ok (i := 2) (j := 2) rfl rfl (wkX hX rfl) .sh (ev_ofL (evl_call (md' := .sh) ok.toOk (fn_seams_of X) (by decide) (j := 0) rfl .sh (eva_cons (md := .sh) (ev_vsh ok.toOk (i := 0) (j := 0) rfl rfl rfl) (eva_cons (md := .sh) (ev_vsh ok.toOk (i := 1) (j := 1) rfl rfl rfl) eva_nil)))) fun seams3 => (evb_set ok (i := 3) (j := 3) rfl rfl (wkX hX rfl) .sh (ev_add (md' := .sh) ok.toOk (ev_max1 (md' := .sh) ok.toOk (j := 2) rfl X.g_max (ev_ofL (evl_call (md' := .sh) ok.toOk (fn_layer_numbers X) (by decide) (j := 1) rfl .sh (eva_cons (md := .sh) (ev_vsh ok.toOk (i := 0) (j := 0) rfl rfl rfl) eva_nil)))) (ev_int (md := .sh))) fun many10 => (evb_set ok (i := 4) (j := 4) rfl rfl (wkX hX rfl) .sh (ev_ofL (evl_listRg1 (md' := .sh) ok.toOk (j := 3) rfl X.g_list (j2 := 4) rfl X.g_range (ev_vsh ok.toOk (i := 3) (j := 3) rfl rfl rfl))) fun marks17 => (evb_for (LF := (fun (s19 : ((List Int))) => [(sV false (tList tStr) cloth1), (sV false (tList tInt) shuttles2), (sV false (tList (tTup (aCons tInt (aCons tInt (aCons tStr aNil))))) seams3), (sV false tInt many10), (sV false (tList tInt) s19), sAny, sAny, sAny, sAny, sAny, sAny, sAny, sAny, sAny, sAny])) (s0 := marks17) ok (wkX hX rfl) (evi_seq ok.toOk sq_l (ev_vsh ok.toOk (i := 2) (j := 2) rfl rfl rfl)) (Wk.s (Wk.s (Wk.s (Wk.s (Wk.s (Wk.s (Wk.s (Wk.s (Wk.s (Wk.s (Wk.s (Wk.s (Wk.s (Wk.s (Wk.s Wk.n))))))))))))))) (fun _ => evg_tup ok.toOk (lenS (lenS (lenS len0))) (evgs_cons (evg_name ok (i := 5) (j := 5) rfl rfl) fun _ => (evgs_cons (evg_name ok (i := 6) (j := 6) rfl rfl) fun _ => (evgs_cons (evg_name ok (i := 7) (j := 7) rfl rfl) fun _ => evgs_nil)))) (fun s19 t20 => (evb_set ok (i := 8) (j := 8) rfl rfl (wkX hX rfl) .sh (ev_min2 (md' := .sh) ok.toOk (j := 5) rfl X.g_min (ev_ixQ ok.toOk sq_l (ev_vsh ok.toOk (i := 4) (j := 4) rfl rfl rfl) (ev_vsh ok.toOk (i := 5) (j := 5) rfl rfl rfl)) (ev_ixQ ok.toOk sq_l (ev_vsh ok.toOk (i := 4) (j := 4) rfl rfl rfl) (ev_vsh ok.toOk (i := 6) (j := 6) rfl rfl rfl))) fun low21 => (evb_set ok (i := 9) (j := 9) rfl rfl (wkX hX rfl) .sh (ev_max2 (md' := .sh) ok.toOk (j := 2) rfl X.g_max (ev_ixQ ok.toOk sq_l (ev_vsh ok.toOk (i := 4) (j := 4) rfl rfl rfl) (ev_vsh ok.toOk (i := 5) (j := 5) rfl rfl rfl)) (ev_ixQ ok.toOk sq_l (ev_vsh ok.toOk (i := 4) (j := 4) rfl rfl rfl) (ev_vsh ok.toOk (i := 6) (j := 6) rfl rfl rfl))) fun high28 => (evb_set (hs := (sw_cell (by rw [ok.scp]; exact isCell_k (by decide +kernel)))) ok (i := 4) (j := 4) rfl rfl (wkX hX rfl) .sh (ev_ofL (evl_lc (md := .sh) (VV' := ["mark", "high", "low"]) (GG' := []) (i := 13) ok.toOk (evi_seq ok.toOk sq_l (ev_vsh ok.toOk (i := 4) (j := 4) rfl rfl rfl)) rfl rfl no_any (by decide +kernel) (by decide +kernel) (by decide +kernel) (by decide +kernel) (fun g' okc mark36 => evpts_nil) (fun g' okc mark36 => (ev_ifx (evt_c okc (c_eq s_int) (ev_vsh okc (i := 13) (j := 0) rfl rfl rfl) (ev_vsh okc (i := 9) (j := 1) rfl rfl rfl)) (ev_vsh okc (i := 8) (j := 2) rfl rfl rfl) (ev_vsh okc (i := 13) (j := 0) rfl rfl rfl))))) fun marks35 => (evb_go (by rfl) (Wk.s (Wk.s (Wk.s (Wk.s (Wk.s (Wk.a (Wk.a (Wk.a (Wk.a (Wk.a (Wk.s (Wk.s (Wk.s (Wk.s (Wk.s Wk.n)))))))))))))))))))) fun s44 => (evb_setN ok (i := 10) (j := 10) rfl rfl (.inl (wkX hX rfl)) evn_lnil fun sheets45 => (evb_for (LF := (fun (s47 : ((List (List Int)))) => [(sV false (tList tStr) cloth1), (sV false (tList tInt) shuttles2), (sV false (tList (tTup (aCons tInt (aCons tInt (aCons tStr aNil))))) seams3), (sV false tInt many10), (sV false (tList tInt) s44), sAny, sAny, sAny, sAny, sAny, (sO (wL (wL (wV tInt))) s47), sAny, sAny, sAny, sAny])) (s0 := sheets45) ok (wkX hX rfl) (evi_range1 ok.toOk (j := 4) rfl X.g_range (ev_vsh ok.toOk (i := 3) (j := 3) rfl rfl rfl)) (Wk.s (Wk.s (Wk.s (Wk.s (Wk.s (Wk.s (Wk.s (Wk.s (Wk.s (Wk.s (Wk.s (Wk.s (Wk.s (Wk.s (Wk.s Wk.n))))))))))))))) (fun _ => evg_name ok (i := 11) (j := 11) rfl rfl) (fun s47 first48 => (evb_ownC (md := .sh) (VV' := ["marks", "layer", "first"]) (GG' := []) (i := 14) (i2 := 12) ok rfl (wkX hX rfl) .sh (by decide +kernel) (by rfl) (by decide +kernel) (evi_range1 ok.toOk (j := 4) rfl X.g_range (ev_vsh ok.toOk (i := 3) (j := 3) rfl rfl rfl)) rfl rfl no_any (by decide +kernel) (by decide +kernel) (by decide +kernel) (by decide +kernel) (fun g' okc layer51 => (evpts_one (evt_c okc (c_eq s_int) (ev_ixQ okc sq_l (ev_vsh okc (i := 4) (j := 0) rfl rfl rfl) (ev_vsh okc (i := 14) (j := 1) rfl rfl rfl)) (ev_vsh okc (i := 11) (j := 2) rfl rfl rfl)))) (fun g' okc layer51 => (ev_vsh okc (i := 14) (j := 1) rfl rfl rfl)) fun sheet49 => (evb_ifl (wkX hX rfl) (evt_borrow (i := 12) rfl (evt_c ok.toOk c_gt (ev_lenQ (md' := .sh) ok.toOk sq_l (j := 6) rfl X.g_len (ev_vsh ok.toOk (i := 12) (j := 12) rfl rfl rfl)) (ev_int (md := .sh)))) (evb_asO (i := 12) rfl (evb_qAppMv ok (.inl (wkX hX rfl)) (by decide) (evp_name ok.toOk (i := 10) (j := 10) rfl rfl rfl) (evp_name ok.toOk (i := 12) (j := 12) rfl rfl rfl) fun sheets66 => (evb_go (by rfl) (Wk.s (Wk.s (Wk.s (Wk.s (Wk.s (Wk.s (Wk.s (Wk.s (Wk.s (Wk.s (Wk.s (Wk.a (Wk.s (Wk.s (Wk.s Wk.n)))))))))))))))))) (evb_go (by rfl) (Wk.s (Wk.s (Wk.s (Wk.s (Wk.s (Wk.s (Wk.s (Wk.s (Wk.s (Wk.s (Wk.s (Wk.a (Wk.a (Wk.s (Wk.s Wk.n))))))))))))))))))) fun s69 => (evb_retR (mk := fun r70 => r70) (.inl (wkX hX rfl)) (by intro _; rfl) (evr_mv ok.toOk (i := 10) (j := 10) rfl rfl rfl))))))))
theorem b_sheets_of {p : Pr} (X : Facts p) : Body p s_sheets_of N_sheets_of V_sheets_of G_sheets_of 6 (fun (d : ((List Tx) × (List Int) × Unit)) => [(sV false (tList tStr) d.1), (sV false (tList tInt) d.2.1), sAny, sAny, sAny, sAny, sAny, sAny, sAny, sAny, sAny, sAny, sAny, sAny, sAny]) (fun r => oOut (wL (wL (wV tInt))) r) r_sheets_of := fun g ok hX d => bb_sheets_of X ok hX d.1 d.2.1
theorem fn_sheets_of {p : Pr} (X : Facts p) : Fn p 7 "sheets_of" ["cloth", "shuttles"] (spM p (aCons (tList tStr) (aCons (tList tInt) aNil)) (fun r => oOut (wL (wL (wV tInt))) r) c_sheets_of) := by
  obtain ⟨f, fd, hF, hm⟩ := X.d_sheets_of
  exact ⟨f, fd, eq_sheets_of ▸ fn_rtN (m := 13) hF sc_sheets_of (.cons (.cons .nil)) rfl rfl (b_sheets_of X), hm, hF.kp, hF.bindsN fun _ _ _ _ _ _ us hl => match us, hl with | [_, _], _ => rfl⟩
abbrev s__law_all_told : Stmt := (topS 31)
abbrev N__law_all_told : List Str := ["handed", "told"]
abbrev V__law_all_told : List Str := ["handed", "told"]
abbrev G__law_all_told : List Str := ["seams_of", "tubes_of", "sheets_of"]
theorem sc__law_all_told : Sc s__law_all_told N__law_all_told V__law_all_told ["handed"] G__law_all_told := ⟨⟨rfl, rfl, rfl, by decide +kernel, rfl, by decide +kernel, by decide +kernel⟩, by decide +kernel, by decide +kernel, by decide +kernel⟩
def q__law_all_told (handed1 : ((List Tx) × (List Int) × Unit)) : M ((List (Int × Int × Tx × Unit)) × (List (Int × Int × Unit)) × (List (List Int)) × Unit) := M.bind (M.bind (M.bind (M.bind (M.bind (M.ok handed1) fun y3 => M.ok y3.1) fun y7 => M.bind (M.bind (M.bind (M.ok handed1) fun y4 => M.ok y4.2.1) fun y5 => M.bind (M.ok ()) fun y6 => M.ok (y5, y6)) fun y8 => M.ok (y7, y8)) c_seams_of) fun y21 => M.bind (M.bind (M.bind (M.bind (M.bind (M.ok handed1) fun y11 => M.ok y11.1) fun y15 => M.bind (M.bind (M.bind (M.ok handed1) fun y12 => M.ok y12.2.1) fun y13 => M.bind (M.ok ()) fun y14 => M.ok (y13, y14)) fun y16 => M.ok (y15, y16)) c_tubes_of) fun y19 => M.bind (M.ok ()) fun y20 => M.ok (y19, y20)) fun y22 => M.ok (y21, y22)) fun told2 => M.bind (M.bind (M.bind (M.bind (M.bind (M.bind (M.ok handed1) fun y25 => M.ok y25.1) fun y29 => M.bind (M.bind (M.bind (M.ok handed1) fun y26 => M.ok y26.2.1) fun y27 => M.bind (M.ok ()) fun y28 => M.ok (y27, y28)) fun y30 => M.ok (y29, y30)) c_sheets_of) fun y33 => M.bind (M.ok ()) fun y34 => M.ok (y33, y34)) fun y36 => M.ok (told2.1, told2.2.1, y36.1, ())) fun r37 => M.ok r37
def f_law_all_told (handed1 : ((List Tx) × (List Int) × Unit)) : M ((List (Int × Int × Tx × Unit)) × (List (Int × Int × Unit)) × (List (List Int)) × Unit) := M.bind (M.bind (f_seams_of handed1.1 handed1.2.1) fun y23 => M.bind (f_tubes_of handed1.1 handed1.2.1) fun y24 => M.ok (y23, y24, ())) fun told2 => M.bind (M.bind (M.bind (f_sheets_of handed1.1 handed1.2.1) fun y35 => M.ok (y35, ())) fun y36 => M.ok (told2.1, told2.2.1, y36.1, ())) fun r37 => M.ok r37
def r__law_all_told (d : (((List Tx) × (List Int) × Unit) × Unit)) : M ((List (Int × Int × Tx × Unit)) × (List (Int × Int × Unit)) × (List (List Int)) × Unit) := q__law_all_told d.1
def c__law_all_told (d : (((List Tx) × (List Int) × Unit) × Unit)) : M ((List (Int × Int × Tx × Unit)) × (List (Int × Int × Unit)) × (List (List Int)) × Unit) := f_law_all_told d.1
theorem eq__law_all_told : r__law_all_told = c__law_all_told := by funext d; first | (simp only [r__law_all_told, c__law_all_told, q__law_all_told, f_law_all_told, M.bind_assoc, M.bok, c_seams_of, c_sheets_of, c_tubes_of]; done) | (simp only [r__law_all_told, c__law_all_told, q__law_all_told, f_law_all_told, M.bind_assoc, M.bok, c_seams_of, c_sheets_of, c_tubes_of]; rfl)
theorem bb__law_all_told {p : Pr} (X : Facts p) {g : G} (ok : OkS p (defScope s__law_all_told) N__law_all_told V__law_all_told G__law_all_told 7 g) (hX : g.LX = List.replicate N__law_all_told.length sAny) (handed1 : ((List Tx) × (List Int) × Unit)) : EvB g [(sV false (tHl (aCons (tList tStr) (aCons (tList tInt) aNil))) handed1), sAny] (defBody s__law_all_told) (fun r => oOut (wHl (waCons (wL (wV (tTup (aCons tInt (aCons tInt (aCons tStr aNil)))))) (waCons (wL (wV (tTup (aCons tInt (aCons tInt aNil))))) (waCons (wL (wL (wV tInt))) waNil)))) r) (q__law_all_told handed1) := (evb_setN ok (i := 1) (j := 1) rfl rfl (.inl (wkX hX rfl)) (evn_r (evr_hl (lenWl (n := 2) (by decide) (lenWS (lenWS @lenW0))) (evra_cons ok.toOk (evr_n (evn_l (evl_call (md' := .sh) ok.toOk (fn_seams_of X) (by decide) (j := 0) rfl .sh (eva_cons (md := .sh) (ev_hlIx (n := 0) ok.toOk .z (ev_vsh ok.toOk (i := 0) (j := 0) rfl rfl rfl) (ev_int (md := .sh))) (eva_cons (md := .sh) (ev_hlIx (n := 1) ok.toOk (.s .z) (ev_vsh ok.toOk (i := 0) (j := 0) rfl rfl rfl) (ev_int (md := .sh))) eva_nil))))) (fun g okr => (evra_cons okr (evr_n (evn_l (evl_call (md' := .sh) okr (fn_tubes_of X) (by decide) (j := 1) rfl .sh (eva_cons (md := .sh) (ev_hlIx (n := 0) okr .z (ev_vsh okr (i := 0) (j := 0) rfl rfl rfl) (ev_int (md := .sh))) (eva_cons (md := .sh) (ev_hlIx (n := 1) okr (.s .z) (ev_vsh okr (i := 0) (j := 0) rfl rfl rfl) (ev_int (md := .sh))) eva_nil))))) (fun g okr => evra_nil) (by decide))) (by decide)))) fun told2 => (evb_retR (mk := fun r37 => r37) (.inl (wkX hX rfl)) (by intro _; rfl) (evr_cat3 ok.toOk (i := 1) (j := 1) rfl rfl rfl (evn_r (evr_hl (lenWl (n := 1) (by decide) (lenWS @lenW0)) (evra_cons ok.toOk (evr_n (evn_call ok.toOk (fn_sheets_of X) (by decide) (j := 2) rfl (eva_cons (md := .sh) (ev_hlIx (n := 0) ok.toOk .z (ev_vsh ok.toOk (i := 0) (j := 0) rfl rfl rfl) (ev_int (md := .sh))) (eva_cons (md := .sh) (ev_hlIx (n := 1) ok.toOk (.s .z) (ev_vsh ok.toOk (i := 0) (j := 0) rfl rfl rfl) (ev_int (md := .sh))) eva_nil)))) (fun g okr => evra_nil) (by decide)))))))
theorem b__law_all_told {p : Pr} (X : Facts p) : Body p s__law_all_told N__law_all_told V__law_all_told G__law_all_told 7 (fun (d : (((List Tx) × (List Int) × Unit) × Unit)) => [(sV false (tHl (aCons (tList tStr) (aCons (tList tInt) aNil))) d.1), sAny]) (fun r => oOut (wHl (waCons (wL (wV (tTup (aCons tInt (aCons tInt (aCons tStr aNil)))))) (waCons (wL (wV (tTup (aCons tInt (aCons tInt aNil))))) (waCons (wL (wL (wV tInt))) waNil)))) r) r__law_all_told := fun g ok hX d => bb__law_all_told X ok hX d.1
theorem fn__law_all_told {p : Pr} (X : Facts p) : Fn p 8 "_law_all_told" ["handed"] (spM p (aCons (tHl (aCons (tList tStr) (aCons (tList tInt) aNil))) aNil) (fun r => oOut (wHl (waCons (wL (wV (tTup (aCons tInt (aCons tInt (aCons tStr aNil)))))) (waCons (wL (wV (tTup (aCons tInt (aCons tInt aNil))))) (waCons (wL (wL (wV tInt))) waNil)))) r) c__law_all_told) := by
  obtain ⟨f, fd, hF, hm⟩ := X.d__law_all_told
  exact ⟨f, fd, eq__law_all_told ▸ fn_rtN (m := 1) hF sc__law_all_told (.cons .nil) rfl rfl (b__law_all_told X), hm, hF.kp, hF.bindsN fun _ _ _ _ _ _ us hl => match us, hl with | [_], _ => rfl⟩
abbrev s__law_seams_right : Stmt := (topS 27)
abbrev N__law_seams_right : List Str := ["found", "made", "seam", "k"]
abbrev V__law_seams_right : List Str := ["found", "made", "seam", "k"]
abbrev G__law_seams_right : List Str := ["list", "isinstance", "tuple", "len", "str", "_law_whole_number", "range", "all"]
theorem sc__law_seams_right : Sc s__law_seams_right N__law_seams_right V__law_seams_right ["found", "made"] G__law_seams_right := ⟨⟨rfl, rfl, rfl, by decide +kernel, rfl, by decide +kernel, by decide +kernel⟩, by decide +kernel, by decide +kernel, by decide +kernel⟩
def r_f_law_seams_right_l1 (made2 : (List (Int × Int × Tx × Unit))) : Unit → (Int × Int × Tx × Unit) → M (Fl Unit Bool) := fun s7 seam8 => M.bind (M.ok ((!true) || ((!decide ((3 : Int) = (3 : Int))) || (!true)))) fun c19 => if c19 = true then M.bind (M.ok false) fun r20 => M.ok (Fl.rt r20) else M.bind (M.bind (M.bind (M.bind (M.bind (M.bind (M.ok seam8) fun y21 => M.ok y21.1) fun y22 => M.bind (M.ok ()) fun y23 => M.ok (y22, y23)) c__law_whole_number) fun y25 => M.ok (!y25)) fun c35 => if c35 = true then M.ok true else M.bind (M.bind (M.bind (M.bind (M.bind (M.ok seam8) fun y26 => M.ok y26.2.1) fun y27 => M.bind (M.ok ()) fun y28 => M.ok (y27, y28)) c__law_whole_number) fun y30 => M.ok (!y30)) fun c33 => if c33 = true then M.ok true else M.bind (M.ok seam8) fun y31 => M.bind (M.ok made2) fun y32 => M.ok (!memD y31 y32)) fun c37 => if c37 = true then M.bind (M.ok false) fun r38 => M.ok (Fl.rt r38) else M.ok (Fl.nx ())
def f_law_seams_right_l1 (made2 : (List (Int × Int × Tx × Unit))) : Unit → (Int × Int × Tx × Unit) → M (Fl Unit Bool) := fun s7 seam8 => if ((!true) || ((!decide ((3 : Int) = (3 : Int))) || (!true))) = true then M.ok (Fl.rt false) else M.bind (M.bind (M.bind (f_law_whole_number seam8.1) fun y25 => M.ok (!y25)) fun c36 => if c36 = true then M.ok true else M.bind (M.bind (f_law_whole_number seam8.2.1) fun y30 => M.ok (!y30)) fun c34 => if c34 = true then M.ok true else M.ok (!memD seam8 made2)) fun c39 => if c39 = true then M.ok (Fl.rt false) else M.ok (Fl.nx ())
theorem eq_f_law_seams_right_l1 (made2 : (List (Int × Int × Tx × Unit))) : r_f_law_seams_right_l1 made2 = f_law_seams_right_l1 made2 := by funext s7 seam8; first | (simp only [r_f_law_seams_right_l1, f_law_seams_right_l1, M.bind_assoc, M.bok, c__law_whole_number]; done) | (simp only [r_f_law_seams_right_l1, f_law_seams_right_l1, M.bind_assoc, M.bok, c__law_whole_number]; rfl)
def r_f_law_seams_right_l2 (found1 : (List (Int × Int × Tx × Unit))) : Unit → Int → M (Fl Unit Bool) := fun s47 k48 => M.bind (M.bind (M.bind (M.bind (M.ok found1) fun y49 => M.bind (M.ok k48) fun y50 => getM y49 y50) fun y55 => M.bind (M.bind (M.ok found1) fun y53 => M.bind (M.bind (M.ok k48) fun y51 => M.bind (M.ok (1 : Int)) fun y52 => M.ok (y51 + y52)) fun y54 => getM y53 y54) fun y56 => M.ok (((oTup (oCons oInt (oCons oInt (oCons oStr oNil))))).lt y55 y56)) fun y57 => M.ok (!y57)) fun c58 => if c58 = true then M.bind (M.ok false) fun r59 => M.ok (Fl.rt r59) else M.ok (Fl.nx ())
def f_law_seams_right_l2 (found1 : (List (Int × Int × Tx × Unit))) : Unit → Int → M (Fl Unit Bool) := fun s47 k48 => M.bind (M.bind (M.bind (getM found1 k48) fun y55 => M.bind (getM found1 (k48 + (1 : Int))) fun y56 => M.ok (((oTup (oCons oInt (oCons oInt (oCons oStr oNil))))).lt y55 y56)) fun y57 => M.ok (!y57)) fun c60 => if c60 = true then M.ok (Fl.rt false) else M.ok (Fl.nx ())
theorem eq_f_law_seams_right_l2 (found1 : (List (Int × Int × Tx × Unit))) : r_f_law_seams_right_l2 found1 = f_law_seams_right_l2 found1 := by funext s47 k48; first | (simp only [r_f_law_seams_right_l2, f_law_seams_right_l2, M.bind_assoc, M.bok, eq_f_law_seams_right_l1, c__law_whole_number]; done) | (simp only [r_f_law_seams_right_l2, f_law_seams_right_l2, M.bind_assoc, M.bok, eq_f_law_seams_right_l1, c__law_whole_number]; rfl)
def q__law_seams_right (found1 : (List (Int × Int × Tx × Unit))) (made2 : (List (Int × Int × Tx × Unit))) : M Bool := M.bind (M.bind (M.bind (M.ok found1) fun y3 => M.ok true) fun y4 => M.ok (!y4)) fun c5 => if c5 = true then M.ok false else M.bind (M.ok found1) fun xs41 => M.bind (forF (r_f_law_seams_right_l1 made2) () xs41) (Fl.el (fun (s42 : Unit) => M.bind (M.bind (M.bind (M.bind (M.ok found1) fun y43 => M.ok (y43.length : Int)) fun y44 => M.bind (M.ok (1 : Int)) fun y45 => M.ok (y44 - y45)) fun y46 => rangeM 0 y46) fun xs61 => M.bind (forF (r_f_law_seams_right_l2 found1) () xs61) (Fl.el (fun (s62 : Unit) => M.bind (M.bind (M.ok made2) fun xs68 => compM (fun seam63 => M.bind (M.ok true) fun c66 => if c66 = true then M.bind (M.bind (M.ok seam63) fun y64 => M.bind (M.ok found1) fun y65 => M.ok (memD y64 y65)) fun y67 => M.ok (some y67) else M.ok none) xs68) fun y69 => M.ok (y69.all id)) fun r71 => M.ok r71)) fun r72 => M.ok r72)
def f_law_seams_right (found1 : (List (Int × Int × Tx × Unit))) (made2 : (List (Int × Int × Tx × Unit))) : M Bool := if (!true) = true then M.ok false else M.bind (forF (f_law_seams_right_l1 made2) () found1) (Fl.el (fun (s42 : Unit) => M.bind (rangeM 0 ((found1.length : Int) - (1 : Int))) fun xs61 => M.bind (forF (f_law_seams_right_l2 found1) () xs61) (Fl.el (fun (s62 : Unit) => M.bind (compM (fun seam63 => M.ok (some (memD seam63 found1))) made2) fun y69 => M.ok (y69.all id)) fun r71 => M.ok r71)) fun r72 => M.ok r72)
def r__law_seams_right (d : ((List (Int × Int × Tx × Unit)) × (List (Int × Int × Tx × Unit)) × Unit)) : M Bool := q__law_seams_right d.1 d.2.1
def c__law_seams_right (d : ((List (Int × Int × Tx × Unit)) × (List (Int × Int × Tx × Unit)) × Unit)) : M Bool := f_law_seams_right d.1 d.2.1
theorem eq__law_seams_right : r__law_seams_right = c__law_seams_right := by funext d; first | (simp only [r__law_seams_right, c__law_seams_right, q__law_seams_right, f_law_seams_right, M.bind_assoc, M.bok, eq_f_law_seams_right_l1, eq_f_law_seams_right_l2, c__law_whole_number]; done) | (simp only [r__law_seams_right, c__law_seams_right, q__law_seams_right, f_law_seams_right, M.bind_assoc, M.bok, eq_f_law_seams_right_l1, eq_f_law_seams_right_l2, c__law_whole_number]; rfl)
theorem bb__law_seams_right {p : Pr} (X : Facts p) {g : G} (ok : OkS p (defScope s__law_seams_right) N__law_seams_right V__law_seams_right G__law_seams_right 1 g) (hX : g.LX = List.replicate N__law_seams_right.length sAny) (found1 : (List (Int × Int × Tx × Unit))) (made2 : (List (Int × Int × Tx × Unit))) : EvB g [(sV false (tList (tTup (aCons tInt (aCons tInt (aCons tStr aNil))))) found1), (sV false (tList (tTup (aCons tInt (aCons tInt (aCons tStr aNil))))) made2), sAny, sAny] (defBody s__law_seams_right) (fun r => .rt false tBool r) (q__law_seams_right found1 made2) := (evb_ifx (wkX hX rfl) (evt_not (evt_of (ev_isi (md' := .sh) (r := true) ok.toOk (j := 1) rfl X.g_isinstance i_list (by decide +kernel) (ev_vsh ok.toOk (i := 0) (j := 0) rfl rfl rfl) (ev_ty (n := "list") (md := .sh) ok.toOk (j := 0) rfl X.g_list (by decide +kernel))))) (evb_ret (wkX hX rfl) .sh (by intro _; rfl) (ev_bool (md := .sh))) (evb_forF (LF := (fun (s7 : Unit) => [(sV false (tList (tTup (aCons tInt (aCons tInt (aCons tStr aNil))))) found1), (sV false (tList (tTup (aCons tInt (aCons tInt (aCons tStr aNil))))) made2), sAny, sAny])) (s0 := ()) (dr := fun r72 => r72) ok (wkX hX rfl) (evi_seq ok.toOk sq_l (ev_vsh ok.toOk (i := 0) (j := 0) rfl rfl rfl)) (Wk.s (Wk.s (Wk.s (Wk.s Wk.n)))) (fun _ => evg_name ok (i := 2) (j := 2) rfl rfl) (fun s7 seam8 => (evb_ifx (wkX hX rfl) (EvW.t (evw_orP (pureT (m := M.bind (M.bind (M.ok seam8) fun y9 => M.ok true) fun y10 => M.ok (!y10)) (evt_not (evt_of (ev_isi (md' := .sh) (r := true) ok.toOk (j := 1) rfl X.g_isinstance i_tup (by decide +kernel) (ev_vsh ok.toOk (i := 2) (j := 2) rfl rfl rfl) (ev_ty (n := "tuple") (md := .sh) ok.toOk (j := 2) rfl X.g_tuple (by decide +kernel))))) rfl) (pureW (m := M.ok ((!decide ((3 : Int) = (3 : Int))) || (!true))) (evw_orP (pureT (m := M.bind (M.bind (M.ok seam8) fun y11 => M.ok (3 : Int)) fun y12 => M.bind (M.ok (3 : Int)) fun y13 => M.ok (!decide (y12 = y13))) (evt_c ok.toOk (c_ne s_int) (ev_lenT (md' := .sh) (n := 3) ok.toOk (lenS (lenS (lenS len0))) (j := 3) rfl X.g_len (ev_vsh ok.toOk (i := 2) (j := 2) rfl rfl rfl)) (ev_int (md := .sh))) rfl) (pureW (m := M.bind (M.bind (M.bind (M.ok seam8) fun y14 => M.ok y14.2.2.1) fun y15 => M.ok true) fun y16 => M.ok (!y16)) (evw_or1 (evt_not (evt_of (ev_isi (md' := .sh) (r := true) ok.toOk (j := 1) rfl X.g_isinstance i_str (by decide +kernel) (ev_ixA (n := 2) ok.toOk (.s (.s .z)) (ev_vsh ok.toOk (i := 2) (j := 2) rfl rfl rfl) (ev_int (md := .sh))) (ev_ty (n := "str") (md := .sh) ok.toOk (j := 4) rfl X.g_str (by decide +kernel)))))) rfl)) rfl))) (evb_retF (mk := fun r20 => Fl.rt r20) (wkX hX rfl) .sh (by intro _; rfl) (ev_bool (md := .sh))) (evb_ifl (wkX hX rfl) (EvW.t (evw_or (evt_not (evt_of (ev_call (md' := .sh) ok.toOk (fn__law_whole_number X) (by decide) (j := 5) rfl .sh (eva_cons (md := .sh) (ev_ixA (n := 0) ok.toOk .z (ev_vsh ok.toOk (i := 2) (j := 2) rfl rfl rfl) (ev_int (md := .sh))) eva_nil)))) (evw_or (evt_not (evt_of (ev_call (md' := .sh) ok.toOk (fn__law_whole_number X) (by decide) (j := 5) rfl .sh (eva_cons (md := .sh) (ev_ixA (n := 1) ok.toOk (.s .z) (ev_vsh ok.toOk (i := 2) (j := 2) rfl rfl rfl) (ev_int (md := .sh))) eva_nil)))) (evw_or1 (evt_c ok.toOk (c_notinD ok.toOk (dTup (dCons dInt (dCons dInt (dCons dStr dNil)))) (by decide)) (ev_vsh ok.toOk (i := 2) (j := 2) rfl rfl rfl) (ev_vsh ok.toOk (i := 1) (j := 1) rfl rfl rfl)))))) (evb_retF (mk := fun r38 => Fl.rt r38) (wkX hX rfl) .sh (by intro _; rfl) (ev_bool (md := .sh))) (evb_go (by rfl) (Wk.s (Wk.s (Wk.a (Wk.s Wk.n)))))))) fun s42 => (evb_forF (LF := (fun (s47 : Unit) => [(sV false (tList (tTup (aCons tInt (aCons tInt (aCons tStr aNil))))) found1), (sV false (tList (tTup (aCons tInt (aCons tInt (aCons tStr aNil))))) made2), sAny, sAny])) (s0 := ()) (dr := fun r71 => r71) ok (wkX hX rfl) (evi_range1 ok.toOk (j := 6) rfl X.g_range (ev_subt (md' := .sh) ok.toOk (ev_lenQ (md' := .sh) ok.toOk sq_l (j := 3) rfl X.g_len (ev_vsh ok.toOk (i := 0) (j := 0) rfl rfl rfl)) (ev_int (md := .sh)))) (Wk.s (Wk.s (Wk.s (Wk.s Wk.n)))) (fun _ => evg_name ok (i := 3) (j := 3) rfl rfl) (fun s47 k48 => (evb_ifl (wkX hX rfl) (evt_not (evt_c ok.toOk (c_ltD ok.toOk (oTup (oCons oInt (oCons oInt (oCons oStr oNil)))) (by decide)) (ev_ixQ ok.toOk sq_l (ev_vsh ok.toOk (i := 0) (j := 0) rfl rfl rfl) (ev_vsh ok.toOk (i := 3) (j := 3) rfl rfl rfl)) (ev_ixQ ok.toOk sq_l (ev_vsh ok.toOk (i := 0) (j := 0) rfl rfl rfl) (ev_add (md' := .sh) ok.toOk (ev_vsh ok.toOk (i := 3) (j := 3) rfl rfl rfl) (ev_int (md := .sh)))))) (evb_retF (mk := fun r59 => Fl.rt r59) (wkX hX rfl) .sh (by intro _; rfl) (ev_bool (md := .sh))) (evb_go (by rfl) (Wk.s (Wk.s (Wk.s (Wk.a Wk.n))))))) fun s62 => (evb_ret (wkX hX rfl) .sh (by intro _; rfl) (ev_all (md' := .sh) ok.toOk (j := 7) rfl X.g_all (ev_ofL (evl_lc (md := .sh) (VV' := ["seam", "found"]) (GG' := []) (i := 2) ok.toOk (evi_seq ok.toOk sq_l (ev_vsh ok.toOk (i := 1) (j := 1) rfl rfl rfl)) rfl rfl no_any (by decide +kernel) (by decide +kernel) (by decide +kernel) (by decide +kernel) (fun g' okc seam63 => evpts_nil) (fun g' okc seam63 => (ev_c (md' := .sh) okc (c_inD okc (dTup (dCons dInt (dCons dInt (dCons dStr dNil)))) (by decide)) (ev_vsh okc (i := 2) (j := 0) rfl rfl rfl) (ev_vsh okc (i := 0) (j := 1) rfl rfl rfl))))))))))
theorem b__law_seams_right {p : Pr} (X : Facts p) : Body p s__law_seams_right N__law_seams_right V__law_seams_right G__law_seams_right 1 (fun (d : ((List (Int × Int × Tx × Unit)) × (List (Int × Int × Tx × Unit)) × Unit)) => [(sV false (tList (tTup (aCons tInt (aCons tInt (aCons tStr aNil))))) d.1), (sV false (tList (tTup (aCons tInt (aCons tInt (aCons tStr aNil))))) d.2.1), sAny, sAny]) (fun r => .rt false tBool r) r__law_seams_right := fun g ok hX d => bb__law_seams_right X ok hX d.1 d.2.1
theorem fn__law_seams_right {p : Pr} (X : Facts p) : Fn p 2 "_law_seams_right" ["found", "made"] (spM p (aCons (tList (tTup (aCons tInt (aCons tInt (aCons tStr aNil))))) (aCons (tList (tTup (aCons tInt (aCons tInt (aCons tStr aNil))))) aNil)) (fun r => .rt false tBool r) c__law_seams_right) := by
  obtain ⟨f, fd, hF, hm⟩ := X.d__law_seams_right
  exact ⟨f, fd, eq__law_seams_right ▸ fn_rt (m := 2) hF sc__law_seams_right (.cons (.cons .nil)) rfl rfl (b__law_seams_right X), hm, hF.kp, hF.bindsN fun _ _ _ _ _ _ us hl => match us, hl with | [_, _], _ => rfl⟩
abbrev s__law_tubes_right : Stmt := (topS 28)
abbrev N__law_tubes_right : List Str := ["found", "made", "due", "pair", "seam"]
abbrev V__law_tubes_right : List Str := ["found", "made", "due", "pair"]
abbrev G__law_tubes_right : List Str := ["list", "isinstance", "sorted", "set", "tuple", "len", "_law_whole_number"]
theorem sc__law_tubes_right : Sc s__law_tubes_right N__law_tubes_right V__law_tubes_right ["found", "made"] G__law_tubes_right := ⟨⟨rfl, rfl, rfl, by decide +kernel, rfl, by decide +kernel, by decide +kernel⟩, by decide +kernel, by decide +kernel, by decide +kernel⟩
def r_f_law_tubes_right_l1  : Unit → (Int × Int × Unit) → M (Fl Unit Bool) := fun s52 pair53 => M.bind (M.ok ((!true) || (!decide ((2 : Int) = (2 : Int))))) fun c60 => if c60 = true then M.bind (M.ok false) fun r61 => M.ok (Fl.rt r61) else M.bind (M.bind (M.bind (M.bind (M.bind (M.bind (M.ok pair53) fun y62 => M.ok y62.1) fun y63 => M.bind (M.ok ()) fun y64 => M.ok (y63, y64)) c__law_whole_number) fun y66 => M.ok (!y66)) fun c72 => if c72 = true then M.ok true else M.bind (M.bind (M.bind (M.bind (M.ok pair53) fun y67 => M.ok y67.2.1) fun y68 => M.bind (M.ok ()) fun y69 => M.ok (y68, y69)) c__law_whole_number) fun y71 => M.ok (!y71)) fun c74 => if c74 = true then M.bind (M.ok false) fun r75 => M.ok (Fl.rt r75) else M.ok (Fl.nx ())
def f_law_tubes_right_l1  : Unit → (Int × Int × Unit) → M (Fl Unit Bool) := fun s52 pair53 => if ((!true) || (!decide ((2 : Int) = (2 : Int)))) = true then M.ok (Fl.rt false) else M.bind (M.bind (M.bind (f_law_whole_number pair53.1) fun y66 => M.ok (!y66)) fun c73 => if c73 = true then M.ok true else M.bind (f_law_whole_number pair53.2.1) fun y71 => M.ok (!y71)) fun c76 => if c76 = true then M.ok (Fl.rt false) else M.ok (Fl.nx ())
theorem eq_f_law_tubes_right_l1  : r_f_law_tubes_right_l1  = f_law_tubes_right_l1  := by funext s52 pair53; first | (simp only [r_f_law_tubes_right_l1, f_law_tubes_right_l1, M.bind_assoc, M.bok, c__law_whole_number]; done) | (simp only [r_f_law_tubes_right_l1, f_law_tubes_right_l1, M.bind_assoc, M.bok, c__law_whole_number]; rfl)
def q__law_tubes_right (found1 : (List (Int × Int × Unit))) (made2 : (List (Int × Int × Tx × Unit))) : M Bool := M.bind (M.bind (M.bind (M.ok found1) fun y3 => M.ok true) fun y4 => M.ok (!y4)) fun c5 => if c5 = true then M.ok false else M.bind (M.bind (M.ok made2) fun xs32 => compM (fun seam8 => M.bind (M.bind (M.bind (M.bind (M.ok seam8) fun y9 => M.ok y9.1) fun y15 => M.bind (M.bind (M.bind (M.ok seam8) fun y10 => M.ok y10.2.1) fun y13 => M.bind (M.bind (M.ok (tx "right")) fun y11 => M.bind (M.ok ()) fun y12 => M.ok (y11, y12)) fun y14 => M.ok (y13, y14)) fun y16 => M.ok (y15, y16)) fun y20 => M.bind (M.ok made2) fun y21 => M.ok (memD y20 y21)) fun c30 => if c30 = true then M.bind (M.bind (M.bind (M.ok seam8) fun y22 => M.ok y22.1) fun y26 => M.bind (M.bind (M.bind (M.ok seam8) fun y23 => M.ok y23.2.1) fun y24 => M.bind (M.ok ()) fun y25 => M.ok (y24, y25)) fun y27 => M.ok (y26, y27)) fun y31 => M.ok (some y31) else M.ok none) xs32) fun due7 => M.bind (M.bind (M.bind (M.ok due7) fun y34 => setSortP y34) fun xs51 => compM (fun pair35 => M.bind (M.bind (M.bind (M.bind (M.ok pair35) fun y36 => M.ok y36.1) fun y42 => M.bind (M.bind (M.bind (M.ok pair35) fun y37 => M.ok y37.2.1) fun y40 => M.bind (M.bind (M.ok (tx "left")) fun y38 => M.bind (M.ok ()) fun y39 => M.ok (y38, y39)) fun y41 => M.ok (y40, y41)) fun y43 => M.ok (y42, y43)) fun y47 => M.bind (M.ok made2) fun y48 => M.ok (memD y47 y48)) fun c49 => if c49 = true then M.bind (M.ok pair35) fun y50 => M.ok (some y50) else M.ok none) xs51) fun due33 => M.bind (M.ok found1) fun xs78 => M.bind (forF r_f_law_tubes_right_l1 () xs78) (Fl.el (fun (s79 : Unit) => M.bind (M.ok found1) fun y80 => M.bind (M.ok due33) fun y81 => M.ok (decide (y80 = y81))) fun r83 => M.ok r83)
def f_law_tubes_right (found1 : (List (Int × Int × Unit))) (made2 : (List (Int × Int × Tx × Unit))) : M Bool := if (!true) = true then M.ok false else M.bind (compM (fun seam8 => if (memD (seam8.1, seam8.2.1, (tx "right"), ()) made2) = true then M.ok (some (seam8.1, seam8.2.1, ())) else M.ok none) made2) fun due7 => M.bind (M.bind (setSortP due7) fun xs51 => compM (fun pair35 => if (memD (pair35.1, pair35.2.1, (tx "left"), ()) made2) = true then M.ok (some pair35) else M.ok none) xs51) fun due33 => M.bind (forF f_law_tubes_right_l1 () found1) (Fl.el (fun (s79 : Unit) => M.ok (decide (found1 = due33))) fun r83 => M.ok r83)
def r__law_tubes_right (d : ((List (Int × Int × Unit)) × (List (Int × Int × Tx × Unit)) × Unit)) : M Bool := q__law_tubes_right d.1 d.2.1
def c__law_tubes_right (d : ((List (Int × Int × Unit)) × (List (Int × Int × Tx × Unit)) × Unit)) : M Bool := f_law_tubes_right d.1 d.2.1
theorem eq__law_tubes_right : r__law_tubes_right = c__law_tubes_right := by funext d; first | (simp only [r__law_tubes_right, c__law_tubes_right, q__law_tubes_right, f_law_tubes_right, M.bind_assoc, M.bok, eq_f_law_tubes_right_l1, c__law_whole_number]; done) | (simp only [r__law_tubes_right, c__law_tubes_right, q__law_tubes_right, f_law_tubes_right, M.bind_assoc, M.bok, eq_f_law_tubes_right_l1, c__law_whole_number]; rfl)
theorem bb__law_tubes_right {p : Pr} (X : Facts p) {g : G} (ok : OkS p (defScope s__law_tubes_right) N__law_tubes_right V__law_tubes_right G__law_tubes_right 1 g) (hX : g.LX = List.replicate N__law_tubes_right.length sAny) (found1 : (List (Int × Int × Unit))) (made2 : (List (Int × Int × Tx × Unit))) : EvB g [(sV false (tList (tTup (aCons tInt (aCons tInt aNil)))) found1), (sV false (tList (tTup (aCons tInt (aCons tInt (aCons tStr aNil))))) made2), sAny, sAny, sAny] (defBody s__law_tubes_right) (fun r => .rt false tBool r) (q__law_tubes_right found1 made2) := (evb_ifx (wkX hX rfl) (evt_not (evt_of (ev_isi (md' := .sh) (r := true) ok.toOk (j := 1) rfl X.g_isinstance i_list (by decide +kernel) (ev_vsh ok.toOk (i := 0) (j := 0) rfl rfl rfl) (ev_ty (n := "list") (md := .sh) ok.toOk (j := 0) rfl X.g_list (by decide +kernel))))) (evb_ret (wkX hX rfl) .sh (by intro _; rfl) (ev_bool (md := .sh))) (evb_setC (md := .sh) (VV' := ["seam", "made"]) (GG' := []) (i := 4) (i2 := 2) ok rfl (wkX hX rfl) (by decide +kernel) (by rfl) (by decide +kernel) (evi_seq ok.toOk sq_l (ev_vsh ok.toOk (i := 1) (j := 1) rfl rfl rfl)) rfl rfl no_any (by decide +kernel) (by decide +kernel) (by decide +kernel) (by decide +kernel) (fun g' okc seam8 => (evpts_one (evt_c okc (c_inD okc (dTup (dCons dInt (dCons dInt (dCons dStr dNil)))) (by decide)) (ev_tup (fun d vs R h => by rw [(lenS (lenS (lenS len0))) h]; decide) (eva_cons (ev_ixA (n := 0) okc .z (ev_vsh okc (i := 4) (j := 0) rfl rfl rfl) (ev_int (md := .sh))) (eva_cons (ev_ixA (n := 1) okc (.s .z) (ev_vsh okc (i := 4) (j := 0) rfl rfl rfl) (ev_int (md := .sh))) (eva_cons (ev_str (md := .sh) (by decide +kernel)) eva_nil)))) (ev_vsh okc (i := 1) (j := 1) rfl rfl rfl)))) (fun g' okc seam8 => (ev_tup (fun d vs R h => by rw [(lenS (lenS len0)) h]; decide) (eva_cons (ev_ixA (n := 0) okc .z (ev_vsh okc (i := 4) (j := 0) rfl rfl rfl) (ev_int (md := .sh))) (eva_cons (ev_ixA (n := 1) okc (.s .z) (ev_vsh okc (i := 4) (j := 0) rfl rfl rfl) (ev_int (md := .sh))) eva_nil)))) fun due7 => (evb_setC (md := .sh) (VV' := ["pair", "made"]) (GG' := []) (i := 3) (i2 := 2) ok rfl (wkX hX rfl) (by decide +kernel) (by rfl) (by decide +kernel) (evi_seq ok.toOk sq_l (ev_ofL (evl_setSortP (md := .sh) ok.toOk ok.toOk.calm (j := 2) rfl X.g_sorted (j2 := 3) rfl X.g_set (ev_vsh ok.toOk (i := 2) (j := 2) rfl rfl rfl)))) rfl rfl no_any (by decide +kernel) (by decide +kernel) (by decide +kernel) (by decide +kernel) (fun g' okc pair35 => (evpts_one (evt_c okc (c_inD okc (dTup (dCons dInt (dCons dInt (dCons dStr dNil)))) (by decide)) (ev_tup (fun d vs R h => by rw [(lenS (lenS (lenS len0))) h]; decide) (eva_cons (ev_ixA (n := 0) okc .z (ev_vsh okc (i := 3) (j := 0) rfl rfl rfl) (ev_int (md := .sh))) (eva_cons (ev_ixA (n := 1) okc (.s .z) (ev_vsh okc (i := 3) (j := 0) rfl rfl rfl) (ev_int (md := .sh))) (eva_cons (ev_str (md := .sh) (by decide +kernel)) eva_nil)))) (ev_vsh okc (i := 1) (j := 1) rfl rfl rfl)))) (fun g' okc pair35 => (ev_vsh okc (i := 3) (j := 0) rfl rfl rfl)) fun due33 => (evb_forF (LF := (fun (s52 : Unit) => [(sV false (tList (tTup (aCons tInt (aCons tInt aNil)))) found1), (sV false (tList (tTup (aCons tInt (aCons tInt (aCons tStr aNil))))) made2), (sV false (tList (tTup (aCons tInt (aCons tInt aNil)))) due33), sAny, sAny])) (s0 := ()) (dr := fun r83 => r83) ok (wkX hX rfl) (evi_seq ok.toOk sq_l (ev_vsh ok.toOk (i := 0) (j := 0) rfl rfl rfl)) (Wk.s (Wk.s (Wk.s (Wk.s (Wk.s Wk.n))))) (fun _ => evg_name ok (i := 3) (j := 3) rfl rfl) (fun s52 pair53 => (evb_ifx (wkX hX rfl) (EvW.t (evw_orP (pureT (m := M.bind (M.bind (M.ok pair53) fun y54 => M.ok true) fun y55 => M.ok (!y55)) (evt_not (evt_of (ev_isi (md' := .sh) (r := true) ok.toOk (j := 1) rfl X.g_isinstance i_tup (by decide +kernel) (ev_vsh ok.toOk (i := 3) (j := 3) rfl rfl rfl) (ev_ty (n := "tuple") (md := .sh) ok.toOk (j := 4) rfl X.g_tuple (by decide +kernel))))) rfl) (pureW (m := M.bind (M.bind (M.ok pair53) fun y56 => M.ok (2 : Int)) fun y57 => M.bind (M.ok (2 : Int)) fun y58 => M.ok (!decide (y57 = y58))) (evw_or1 (evt_c ok.toOk (c_ne s_int) (ev_lenT (md' := .sh) (n := 2) ok.toOk (lenS (lenS len0)) (j := 5) rfl X.g_len (ev_vsh ok.toOk (i := 3) (j := 3) rfl rfl rfl)) (ev_int (md := .sh)))) rfl))) (evb_retF (mk := fun r61 => Fl.rt r61) (wkX hX rfl) .sh (by intro _; rfl) (ev_bool (md := .sh))) (evb_ifl (wkX hX rfl) (EvW.t (evw_or (evt_not (evt_of (ev_call (md' := .sh) ok.toOk (fn__law_whole_number X) (by decide) (j := 6) rfl .sh (eva_cons (md := .sh) (ev_ixA (n := 0) ok.toOk .z (ev_vsh ok.toOk (i := 3) (j := 3) rfl rfl rfl) (ev_int (md := .sh))) eva_nil)))) (evw_or1 (evt_not (evt_of (ev_call (md' := .sh) ok.toOk (fn__law_whole_number X) (by decide) (j := 6) rfl .sh (eva_cons (md := .sh) (ev_ixA (n := 1) ok.toOk (.s .z) (ev_vsh ok.toOk (i := 3) (j := 3) rfl rfl rfl) (ev_int (md := .sh))) eva_nil))))))) (evb_retF (mk := fun r75 => Fl.rt r75) (wkX hX rfl) .sh (by intro _; rfl) (ev_bool (md := .sh))) (evb_go (by rfl) (Wk.s (Wk.s (Wk.s (Wk.a (Wk.s Wk.n))))))))) fun s79 => (evb_ret (wkX hX rfl) .sh (by intro _; rfl) (ev_c (md' := .sh) ok.toOk (c_eqD ok.toOk (dList (dTup (dCons dInt (dCons dInt dNil)))) (by decide)) (ev_vsh ok.toOk (i := 0) (j := 0) rfl rfl rfl) (ev_vsh ok.toOk (i := 2) (j := 2) rfl rfl rfl)))))))
theorem b__law_tubes_right {p : Pr} (X : Facts p) : Body p s__law_tubes_right N__law_tubes_right V__law_tubes_right G__law_tubes_right 1 (fun (d : ((List (Int × Int × Unit)) × (List (Int × Int × Tx × Unit)) × Unit)) => [(sV false (tList (tTup (aCons tInt (aCons tInt aNil)))) d.1), (sV false (tList (tTup (aCons tInt (aCons tInt (aCons tStr aNil))))) d.2.1), sAny, sAny, sAny]) (fun r => .rt false tBool r) r__law_tubes_right := fun g ok hX d => bb__law_tubes_right X ok hX d.1 d.2.1
theorem fn__law_tubes_right {p : Pr} (X : Facts p) : Fn p 2 "_law_tubes_right" ["found", "made"] (spM p (aCons (tList (tTup (aCons tInt (aCons tInt aNil)))) (aCons (tList (tTup (aCons tInt (aCons tInt (aCons tStr aNil))))) aNil)) (fun r => .rt false tBool r) c__law_tubes_right) := by
  obtain ⟨f, fd, hF, hm⟩ := X.d__law_tubes_right
  exact ⟨f, fd, eq__law_tubes_right ▸ fn_rt (m := 3) hF sc__law_tubes_right (.cons (.cons .nil)) rfl rfl (b__law_tubes_right X), hm, hF.kp, hF.bindsN fun _ _ _ _ _ _ us hl => match us, hl with | [_, _], _ => rfl⟩
abbrev s__law_spread : Stmt := (topS 29)
abbrev N__law_spread : List Str := ["first", "made", "count", "seen", "turn", "seam", "number"]
abbrev V__law_spread : List Str := ["first", "made", "count", "seen", "turn", "seam"]
abbrev G__law_spread : List Str := ["range"]
theorem sc__law_spread : Sc s__law_spread N__law_spread V__law_spread ["first", "made", "count"] G__law_spread := ⟨⟨rfl, rfl, rfl, by decide +kernel, rfl, by decide +kernel, by decide +kernel⟩, by decide +kernel, by decide +kernel, by decide +kernel⟩
def r_f_law_spread_l1  : ((List Bool)) → (Int × Int × Tx × Unit) → M ((List Bool)) := fun s15 seam16 => M.bind (M.bind (M.bind (M.ok s15) fun y18 => M.bind (M.bind (M.ok seam16) fun y17 => M.ok y17.1) fun y19 => getM y18 y19) fun c23 => if c23 = true then M.ok true else M.bind (M.ok s15) fun y21 => M.bind (M.bind (M.ok seam16) fun y20 => M.ok y20.2.1) fun y22 => getM y21 y22) fun c25 => if c25 = true then M.bind (M.ok true) fun y27 => M.bind (M.bind (M.ok seam16) fun y26 => M.ok y26.1) fun i28 => M.bind (setM s15 i28 y27) fun seen29 => M.bind (M.ok true) fun y31 => M.bind (M.bind (M.ok seam16) fun y30 => M.ok y30.2.1) fun i32 => M.bind (setM seen29 i32 y31) fun seen33 => M.ok seen33 else M.ok s15
def f_law_spread_l1  : ((List Bool)) → (Int × Int × Tx × Unit) → M ((List Bool)) := fun s15 seam16 => M.bind (M.bind (getM s15 seam16.1) fun c24 => if c24 = true then M.ok true else getM s15 seam16.2.1) fun c34 => if c34 = true then M.bind (setM s15 seam16.1 true) fun seen29 => M.bind (setM seen29 seam16.2.1 true) fun seen33 => M.ok seen33 else M.ok s15
theorem eq_f_law_spread_l1  : r_f_law_spread_l1  = f_law_spread_l1  := by funext s15 seam16; first | (simp only [r_f_law_spread_l1, f_law_spread_l1, M.bind_assoc, M.bok]; done) | (simp only [r_f_law_spread_l1, f_law_spread_l1, M.bind_assoc, M.bok]; rfl)
def r_f_law_spread_l2 (made2 : (List (Int × Int × Tx × Unit))) : ((List Bool)) → Int → M ((List Bool)) := fun s13 turn14 => M.bind (M.ok made2) fun xs35 => M.bind (forM r_f_law_spread_l1 s13 xs35) fun (s36 : ((List Bool))) => M.ok s36
def f_law_spread_l2 (made2 : (List (Int × Int × Tx × Unit))) : ((List Bool)) → Int → M ((List Bool)) := fun s13 turn14 => M.bind (forM f_law_spread_l1 s13 made2) fun (s36 : ((List Bool))) => M.ok s36
theorem eq_f_law_spread_l2 (made2 : (List (Int × Int × Tx × Unit))) : r_f_law_spread_l2 made2 = f_law_spread_l2 made2 := by funext s13 turn14; first | (simp only [r_f_law_spread_l2, f_law_spread_l2, M.bind_assoc, M.bok, eq_f_law_spread_l1]; done) | (simp only [r_f_law_spread_l2, f_law_spread_l2, M.bind_assoc, M.bok, eq_f_law_spread_l1]; rfl)
def q__law_spread (first1 : Int) (made2 : (List (Int × Int × Tx × Unit))) (count3 : Int) : M (List Int) := M.bind (M.bind (M.bind (M.ok count3) fun y5 => rangeM 0 y5) fun xs11 => compM (fun number6 => M.bind (M.ok true) fun c9 => if c9 = true then M.bind (M.bind (M.ok number6) fun y7 => M.bind (M.ok first1) fun y8 => M.ok (decide (y7 = y8))) fun y10 => M.ok (some y10) else M.ok none) xs11) fun seen4 => M.bind (M.bind (M.ok count3) fun y12 => rangeM 0 y12) fun xs37 => M.bind (forM (r_f_law_spread_l2 made2) seen4 xs37) fun (s38 : ((List Bool))) => M.bind (M.bind (M.ok count3) fun y39 => rangeM 0 y39) fun xs45 => compM (fun number40 => M.bind (M.bind (M.ok s38) fun y41 => M.bind (M.ok number40) fun y42 => getM y41 y42) fun c43 => if c43 = true then M.bind (M.ok number40) fun y44 => M.ok (some y44) else M.ok none) xs45
def f_law_spread (first1 : Int) (made2 : (List (Int × Int × Tx × Unit))) (count3 : Int) : M (List Int) := M.bind (M.bind (rangeM 0 count3) fun xs11 => compM (fun number6 => M.ok (some (decide (number6 = first1)))) xs11) fun seen4 => M.bind (rangeM 0 count3) fun xs37 => M.bind (forM (f_law_spread_l2 made2) seen4 xs37) fun (s38 : ((List Bool))) => M.bind (rangeM 0 count3) fun xs45 => compM (fun number40 => M.bind (getM s38 number40) fun c43 => if c43 = true then M.ok (some number40) else M.ok none) xs45
def r__law_spread (d : (Int × (List (Int × Int × Tx × Unit)) × Int × Unit)) : M (List Int) := q__law_spread d.1 d.2.1 d.2.2.1
def c__law_spread (d : (Int × (List (Int × Int × Tx × Unit)) × Int × Unit)) : M (List Int) := f_law_spread d.1 d.2.1 d.2.2.1
theorem eq__law_spread : r__law_spread = c__law_spread := by funext d; first | (simp only [r__law_spread, c__law_spread, q__law_spread, f_law_spread, M.bind_assoc, M.bok, eq_f_law_spread_l1, eq_f_law_spread_l2]; done) | (simp only [r__law_spread, c__law_spread, q__law_spread, f_law_spread, M.bind_assoc, M.bok, eq_f_law_spread_l1, eq_f_law_spread_l2]; rfl)
theorem bb__law_spread {p : Pr} (X : Facts p) {g : G} (ok : OkS p (defScope s__law_spread) N__law_spread V__law_spread G__law_spread 0 g) (hX : g.LX = List.replicate N__law_spread.length sAny) (first1 : Int) (made2 : (List (Int × Int × Tx × Unit))) (count3 : Int) : EvB g [(sV false tInt first1), (sV false (tList (tTup (aCons tInt (aCons tInt (aCons tStr aNil))))) made2), (sV false tInt count3), sAny, sAny, sAny, sAny] (defBody s__law_spread) (fun r => .rtL false tInt r) (q__law_spread first1 made2 count3) := (evb_own (hs := (sw_cell (by rw [ok.scp]; exact isCell_k (by decide +kernel)))) ok (i := 3) (j := 3) rfl rfl (wkX hX rfl) .sh (evl_lc (md := .sh) (VV' := ["number", "first"]) (GG' := []) (i := 6) ok.toOk (evi_range1 ok.toOk (j := 0) rfl X.g_range (ev_vsh ok.toOk (i := 2) (j := 2) rfl rfl rfl)) rfl rfl no_any (by decide +kernel) (by decide +kernel) (by decide +kernel) (by decide +kernel) (fun g' okc number6 => evpts_nil) (fun g' okc number6 => (ev_c (md' := .sh) okc (c_eq s_int) (ev_vsh okc (i := 6) (j := 0) rfl rfl rfl) (ev_vsh okc (i := 0) (j := 1) rfl rfl rfl)))) fun seen4 => (evb_for (LF := (fun (s13 : ((List Bool))) => [(sV false tInt first1), (sV false (tList (tTup (aCons tInt (aCons tInt (aCons tStr aNil))))) made2), (sV false tInt count3), (sOwn false tBool s13), sAny, sAny, sAny])) (s0 := seen4) ok (wkX hX rfl) (evi_range1 ok.toOk (j := 0) rfl X.g_range (ev_vsh ok.toOk (i := 2) (j := 2) rfl rfl rfl)) (Wk.s (Wk.s (Wk.s (Wk.s (Wk.s (Wk.s (Wk.s Wk.n))))))) (fun _ => evg_name ok (i := 4) (j := 4) rfl rfl) (fun s13 turn14 => (evb_for (LF := (fun (s15 : ((List Bool))) => [(sV false tInt first1), (sV false (tList (tTup (aCons tInt (aCons tInt (aCons tStr aNil))))) made2), (sV false tInt count3), (sOwn false tBool s15), (sV false tInt turn14), sAny, sAny])) (s0 := s13) ok (wkX hX rfl) (evi_seq ok.toOk sq_l (ev_vsh ok.toOk (i := 1) (j := 1) rfl rfl rfl)) (Wk.s (Wk.s (Wk.s (Wk.s (Wk.s (Wk.s (Wk.s Wk.n))))))) (fun _ => evg_name ok (i := 5) (j := 5) rfl rfl) (fun s15 seam16 => (evb_ifl (wkX hX rfl) (evt_borrow (i := 3) rfl (EvW.t (evw_or (evt_of (ev_ixQ ok.toOk sq_l (ev_vsh ok.toOk (i := 3) (j := 3) rfl rfl rfl) (ev_ixA (n := 0) ok.toOk .z (ev_vsh ok.toOk (i := 5) (j := 5) rfl rfl rfl) (ev_int (md := .sh))))) (evw_or1 (evt_of (ev_ixQ ok.toOk sq_l (ev_vsh ok.toOk (i := 3) (j := 3) rfl rfl rfl) (ev_ixA (n := 1) ok.toOk (.s .z) (ev_vsh ok.toOk (i := 5) (j := 5) rfl rfl rfl) (ev_int (md := .sh))))))))) (evb_setitem ok (wkX hX rfl) (i := 3) (j := 3) rfl rfl rfl .sh (ev_bool (md := .sh)) (ev_ixA (n := 0) ok.toOk .z (ev_vsh ok.toOk (i := 5) (j := 5) rfl rfl rfl) (ev_int (md := .sh))) fun seen29 => (evb_setitem ok (wkX hX rfl) (i := 3) (j := 3) rfl rfl rfl .sh (ev_bool (md := .sh)) (ev_ixA (n := 1) ok.toOk (.s .z) (ev_vsh ok.toOk (i := 5) (j := 5) rfl rfl rfl) (ev_int (md := .sh))) fun seen33 => (evb_go (by rfl) (Wk.s (Wk.s (Wk.s (Wk.s (Wk.s (Wk.a (Wk.s Wk.n)))))))))) (evb_go (by rfl) (Wk.s (Wk.s (Wk.s (Wk.s (Wk.s (Wk.a (Wk.s Wk.n)))))))))) fun s36 => (evb_go (by rfl) (Wk.s (Wk.s (Wk.s (Wk.s (Wk.a (Wk.s (Wk.s Wk.n)))))))))) fun s38 => (evb_retL (wkX hX rfl) .sh (by intro _; rfl) (evl_borrow (i := 3) (.inl flInt) rfl (evl_lc (md := .sh) (VV' := ["seen", "number"]) (GG' := []) (i := 6) ok.toOk (evi_range1 ok.toOk (j := 0) rfl X.g_range (ev_vsh ok.toOk (i := 2) (j := 2) rfl rfl rfl)) rfl rfl no_any (by decide +kernel) (by decide +kernel) (by decide +kernel) (by decide +kernel) (fun g' okc number40 => (evpts_one (evt_of (ev_ixQ okc sq_l (ev_vsh okc (i := 3) (j := 0) rfl rfl rfl) (ev_vsh okc (i := 6) (j := 1) rfl rfl rfl))))) (fun g' okc number40 => (ev_vsh okc (i := 6) (j := 1) rfl rfl rfl)))))))
theorem b__law_spread {p : Pr} (X : Facts p) : Body p s__law_spread N__law_spread V__law_spread G__law_spread 0 (fun (d : (Int × (List (Int × Int × Tx × Unit)) × Int × Unit)) => [(sV false tInt d.1), (sV false (tList (tTup (aCons tInt (aCons tInt (aCons tStr aNil))))) d.2.1), (sV false tInt d.2.2.1), sAny, sAny, sAny, sAny]) (fun r => .rtL false tInt r) r__law_spread := fun g ok hX d => bb__law_spread X ok hX d.1 d.2.1 d.2.2.1
theorem fn__law_spread {p : Pr} (X : Facts p) : Fn p 1 "_law_spread" ["first", "made", "count"] (spM p (aCons tInt (aCons (tList (tTup (aCons tInt (aCons tInt (aCons tStr aNil))))) (aCons tInt aNil))) (fun r => .rtL false tInt r) c__law_spread) := by
  obtain ⟨f, fd, hF, hm⟩ := X.d__law_spread
  exact ⟨f, fd, eq__law_spread ▸ fn_rtL (m := 4) hF sc__law_spread (.cons (.cons (.cons .nil))) rfl rfl (b__law_spread X), hm, hF.kp, hF.bindsN fun _ _ _ _ _ _ us hl => match us, hl with | [_, _, _], _ => rfl⟩
abbrev s__law_sheets_right : Stmt := (topS 30)
abbrev N__law_sheets_right : List Str := ["found", "made", "count", "told", "sheet", "number", "firsts"]
abbrev V__law_sheets_right : List Str := ["found", "made", "count", "told", "sheet", "number", "firsts"]
abbrev G__law_sheets_right : List Str := ["list", "isinstance", "_law_whole_number", "_law_spread", "len", "sorted"]
theorem sc__law_sheets_right : Sc s__law_sheets_right N__law_sheets_right V__law_sheets_right ["found", "made", "count"] G__law_sheets_right := ⟨⟨rfl, rfl, rfl, by decide +kernel, rfl, by decide +kernel, by decide +kernel⟩, by decide +kernel, by decide +kernel, by decide +kernel⟩
def r_f_law_sheets_right_l1 (count3 : Int) : ((List Int)) → Int → M (Fl ((List Int)) Bool) := fun s18 number19 => M.bind (M.bind (M.bind (M.bind (M.bind (M.ok number19) fun y20 => M.bind (M.ok ()) fun y21 => M.ok (y20, y21)) c__law_whole_number) fun y23 => M.ok (!y23)) fun c28 => if c28 = true then M.ok true else M.ok ((!((decide ((0 : Int) ≤ number19)) && (decide (number19 < count3)))) || (decide (number19 ∈ s18)))) fun c30 => if c30 = true then M.bind (M.ok false) fun r31 => M.ok (Fl.rt r31) else M.bind (M.ok number19) fun y33 => M.bind (pushM s18 y33) fun told32 => M.ok (Fl.nx told32)
def f_law_sheets_right_l1 (count3 : Int) : ((List Int)) → Int → M (Fl ((List Int)) Bool) := fun s18 number19 => M.bind (M.bind (M.bind (f_law_whole_number number19) fun y23 => M.ok (!y23)) fun c29 => if c29 = true then M.ok true else M.ok ((!((decide ((0 : Int) ≤ number19)) && (decide (number19 < count3)))) || (decide (number19 ∈ s18)))) fun c34 => if c34 = true then M.ok (Fl.rt false) else M.bind (pushM s18 number19) fun told32 => M.ok (Fl.nx told32)
theorem eq_f_law_sheets_right_l1 (count3 : Int) : r_f_law_sheets_right_l1 count3 = f_law_sheets_right_l1 count3 := by funext s18 number19; first | (simp only [r_f_law_sheets_right_l1, f_law_sheets_right_l1, M.bind_assoc, M.bok, c__law_spread, c__law_whole_number]; done) | (simp only [r_f_law_sheets_right_l1, f_law_sheets_right_l1, M.bind_assoc, M.bok, c__law_spread, c__law_whole_number]; rfl)
def r_f_law_sheets_right_l2 (made2 : (List (Int × Int × Tx × Unit))) (count3 : Int) : ((List Int)) → (List Int) → M (Fl ((List Int)) Bool) := fun s9 sheet10 => M.bind (M.ok ((!true) || (decide (sheet10 = ([]))))) fun c16 => if c16 = true then M.bind (M.ok false) fun r17 => M.ok (Fl.rt r17) else M.bind (M.ok sheet10) fun xs35 => M.bind (forF (r_f_law_sheets_right_l1 count3) s9 xs35) (Fl.el (fun (s36 : ((List Int))) => M.bind (M.bind (M.ok sheet10) fun y48 => M.bind (M.bind (M.bind (M.bind (M.ok sheet10) fun y37 => M.bind (M.ok (0 : Int)) fun y38 => getM y37 y38) fun y43 => M.bind (M.bind (M.ok made2) fun y41 => M.bind (M.bind (M.ok count3) fun y39 => M.bind (M.ok ()) fun y40 => M.ok (y39, y40)) fun y42 => M.ok (y41, y42)) fun y44 => M.ok (y43, y44)) c__law_spread) fun y49 => M.ok (!decide (y48 = y49))) fun c50 => if c50 = true then M.bind (M.ok false) fun r51 => M.ok (Fl.rt r51) else M.ok (Fl.nx s36)) fun r53 => M.ok (Fl.rt r53))
def f_law_sheets_right_l2 (made2 : (List (Int × Int × Tx × Unit))) (count3 : Int) : ((List Int)) → (List Int) → M (Fl ((List Int)) Bool) := fun s9 sheet10 => if ((!true) || (decide (sheet10 = ([])))) = true then M.ok (Fl.rt false) else M.bind (forF (f_law_sheets_right_l1 count3) s9 sheet10) (Fl.el (fun (s36 : ((List Int))) => M.bind (M.bind (M.bind (getM sheet10 (0 : Int)) fun y45 => f_law_spread y45 made2 count3) fun y49 => M.ok (!decide (sheet10 = y49))) fun c52 => if c52 = true then M.ok (Fl.rt false) else M.ok (Fl.nx s36)) fun r53 => M.ok (Fl.rt r53))
theorem eq_f_law_sheets_right_l2 (made2 : (List (Int × Int × Tx × Unit))) (count3 : Int) : r_f_law_sheets_right_l2 made2 count3 = f_law_sheets_right_l2 made2 count3 := by funext s9 sheet10; first | (simp only [r_f_law_sheets_right_l2, f_law_sheets_right_l2, M.bind_assoc, M.bok, eq_f_law_sheets_right_l1, c__law_spread, c__law_whole_number]; done) | (simp only [r_f_law_sheets_right_l2, f_law_sheets_right_l2, M.bind_assoc, M.bok, eq_f_law_sheets_right_l1, c__law_spread, c__law_whole_number]; rfl)
def q__law_sheets_right (found1 : (List (List Int))) (made2 : (List (Int × Int × Tx × Unit))) (count3 : Int) : M Bool := M.bind (M.bind (M.bind (M.ok found1) fun y4 => M.ok true) fun y5 => M.ok (!y5)) fun c6 => if c6 = true then M.ok false else M.bind (M.ok []) fun told8 => M.bind (M.ok found1) fun xs55 => M.bind (forF (r_f_law_sheets_right_l2 made2 count3) told8 xs55) (Fl.el (fun (s56 : ((List Int))) => M.bind (M.bind (M.ok found1) fun xs63 => compM (fun sheet58 => M.bind (M.ok true) fun c61 => if c61 = true then M.bind (M.bind (M.ok sheet58) fun y59 => M.bind (M.ok (0 : Int)) fun y60 => getM y59 y60) fun y62 => M.ok (some y62) else M.ok none) xs63) fun firsts57 => M.ok ((decide ((s56.length : Int) = count3)) && (decide (firsts57 = (sortI firsts57))))) fun r72 => M.ok r72)
def f_law_sheets_right (found1 : (List (List Int))) (made2 : (List (Int × Int × Tx × Unit))) (count3 : Int) : M Bool := if (!true) = true then M.ok false else let told8 : (List Int) := []; M.bind (forF (f_law_sheets_right_l2 made2 count3) told8 found1) (Fl.el (fun (s56 : ((List Int))) => M.bind (compM (fun sheet58 => M.bind (getM sheet58 (0 : Int)) fun y62 => M.ok (some y62)) found1) fun firsts57 => M.ok ((decide ((s56.length : Int) = count3)) && (decide (firsts57 = (sortI firsts57))))) fun r72 => M.ok r72)
def r__law_sheets_right (d : ((List (List Int)) × (List (Int × Int × Tx × Unit)) × Int × Unit)) : M Bool := q__law_sheets_right d.1 d.2.1 d.2.2.1
def c__law_sheets_right (d : ((List (List Int)) × (List (Int × Int × Tx × Unit)) × Int × Unit)) : M Bool := f_law_sheets_right d.1 d.2.1 d.2.2.1
theorem eq__law_sheets_right : r__law_sheets_right = c__law_sheets_right := by funext d; first | (simp only [r__law_sheets_right, c__law_sheets_right, q__law_sheets_right, f_law_sheets_right, M.bind_assoc, M.bok, eq_f_law_sheets_right_l1, eq_f_law_sheets_right_l2, c__law_spread, c__law_whole_number]; done) | (simp only [r__law_sheets_right, c__law_sheets_right, q__law_sheets_right, f_law_sheets_right, M.bind_assoc, M.bok, eq_f_law_sheets_right_l1, eq_f_law_sheets_right_l2, c__law_spread, c__law_whole_number]; rfl)
theorem bb__law_sheets_right {p : Pr} (X : Facts p) {g : G} (ok : OkS p (defScope s__law_sheets_right) N__law_sheets_right V__law_sheets_right G__law_sheets_right 1 g) (hX : g.LX = List.replicate N__law_sheets_right.length sAny) (found1 : (List (List Int))) (made2 : (List (Int × Int × Tx × Unit))) (count3 : Int) : EvB g [(sV false (tList (tList tInt)) found1), (sV false (tList (tTup (aCons tInt (aCons tInt (aCons tStr aNil))))) made2), (sV false tInt count3), sAny, sAny, sAny, sAny] (defBody s__law_sheets_right) (fun r => .rt false tBool r) (q__law_sheets_right found1 made2 count3) := (evb_ifx (wkX hX rfl) (evt_not (evt_of (ev_isi (md' := .sh) (r := true) ok.toOk (j := 1) rfl X.g_isinstance i_list (by decide +kernel) (ev_vsh ok.toOk (i := 0) (j := 0) rfl rfl rfl) (ev_ty (n := "list") (md := .sh) ok.toOk (j := 0) rfl X.g_list (by decide +kernel))))) (evb_ret (wkX hX rfl) .sh (by intro _; rfl) (ev_bool (md := .sh))) (evb_own ok (i := 3) (j := 3) rfl rfl (wkX hX rfl) .sh (evl_nil (md := .sh) (S := tInt)) fun told8 => (evb_forF (LF := (fun (s9 : ((List Int))) => [(sV false (tList (tList tInt)) found1), (sV false (tList (tTup (aCons tInt (aCons tInt (aCons tStr aNil))))) made2), (sV false tInt count3), (sOwn false tInt s9), sAny, sAny, sAny])) (s0 := told8) (dr := fun r72 => r72) ok (wkX hX rfl) (evi_seq ok.toOk sq_l (ev_vsh ok.toOk (i := 0) (j := 0) rfl rfl rfl)) (Wk.s (Wk.s (Wk.s (Wk.s (Wk.s (Wk.s (Wk.s Wk.n))))))) (fun _ => evg_name ok (i := 4) (j := 4) rfl rfl) (fun s9 sheet10 => (evb_ifx (wkX hX rfl) (EvW.t (evw_orP (pureT (m := M.bind (M.bind (M.ok sheet10) fun y11 => M.ok true) fun y12 => M.ok (!y12)) (evt_not (evt_of (ev_isi (md' := .sh) (r := true) ok.toOk (j := 1) rfl X.g_isinstance i_list (by decide +kernel) (ev_vsh ok.toOk (i := 4) (j := 4) rfl rfl rfl) (ev_ty (n := "list") (md := .sh) ok.toOk (j := 0) rfl X.g_list (by decide +kernel))))) rfl) (pureW (m := M.bind (M.ok sheet10) fun y13 => M.bind (M.ok []) fun y14 => M.ok (decide (y13 = y14))) (evw_or1 (evt_c ok.toOk (c_eqD ok.toOk (dList dInt) (by decide)) (ev_vsh ok.toOk (i := 4) (j := 4) rfl rfl rfl) (ev_ofL (evl_nil (md := .sh) (S := tInt))))) rfl))) (evb_retF (mk := fun r17 => Fl.rt r17) (wkX hX rfl) .sh (by intro _; rfl) (ev_bool (md := .sh))) (evb_forF (LF := (fun (s18 : ((List Int))) => [(sV false (tList (tList tInt)) found1), (sV false (tList (tTup (aCons tInt (aCons tInt (aCons tStr aNil))))) made2), (sV false tInt count3), (sOwn false tInt s18), (sV false (tList tInt) sheet10), sAny, sAny])) (s0 := s9) (dr := fun r53 => Fl.rt r53) ok (wkX hX rfl) (evi_seq ok.toOk sq_l (ev_vsh ok.toOk (i := 4) (j := 4) rfl rfl rfl)) (Wk.s (Wk.s (Wk.s (Wk.s (Wk.s (Wk.s (Wk.s Wk.n))))))) (fun _ => evg_name ok (i := 5) (j := 5) rfl rfl) (fun s18 number19 => (evb_ifx (wkX hX rfl) (evt_borrow (i := 3) rfl (EvW.t (evw_or (evt_not (evt_of (ev_call (md' := .sh) ok.toOk (fn__law_whole_number X) (by decide) (j := 2) rfl .sh (eva_cons (md := .sh) (ev_vsh ok.toOk (i := 5) (j := 5) rfl rfl rfl) eva_nil)))) (evw_orP (pureT (m := M.bind (M.ok ((decide ((0 : Int) ≤ number19)) && (decide (number19 < count3)))) fun y24 => M.ok (!y24)) (evt_not (evt_chainI ok.toOk ch_le ch_lt (ev_int (md := .sh)) (ev_vsh ok.toOk (i := 5) (j := 5) rfl rfl rfl) (ev_vsh ok.toOk (i := 2) (j := 2) rfl rfl rfl) rfl rfl rfl)) rfl) (pureW (m := M.bind (M.ok number19) fun y25 => M.bind (M.ok s18) fun y26 => M.ok (decide (y25 ∈ y26))) (evw_or1 (evt_c ok.toOk (c_in ok.toOk.K f_int) (ev_vsh ok.toOk (i := 5) (j := 5) rfl rfl rfl) (ev_vsh ok.toOk (i := 3) (j := 3) rfl rfl rfl))) rfl))))) (evb_retF (mk := fun r31 => Fl.rt r31) (wkX hX rfl) .sh (by intro _; rfl) (ev_bool (md := .sh))) (evb_append ok (wkX hX rfl) (i := 3) (j := 3) rfl rfl rfl .sh (ev_vsh ok.toOk (i := 5) (j := 5) rfl rfl rfl) fun told32 => (evb_go (by rfl) (Wk.s (Wk.s (Wk.s (Wk.s (Wk.s (Wk.a (Wk.s Wk.n))))))))))) fun s36 => (evb_ifl (wkX hX rfl) (evt_c ok.toOk (c_neD ok.toOk (dList dInt) (by decide)) (ev_vsh ok.toOk (i := 4) (j := 4) rfl rfl rfl) (ev_ofL (evl_call (md' := .sh) ok.toOk (fn__law_spread X) (by decide) (j := 3) rfl .sh (eva_cons (md := .sh) (ev_ixQ ok.toOk sq_l (ev_vsh ok.toOk (i := 4) (j := 4) rfl rfl rfl) (ev_int (md := .sh))) (eva_cons (md := .sh) (ev_vsh ok.toOk (i := 1) (j := 1) rfl rfl rfl) (eva_cons (md := .sh) (ev_vsh ok.toOk (i := 2) (j := 2) rfl rfl rfl) eva_nil)))))) (evb_retF (mk := fun r51 => Fl.rt r51) (wkX hX rfl) .sh (by intro _; rfl) (ev_bool (md := .sh))) (evb_go (by rfl) (Wk.s (Wk.s (Wk.s (Wk.s (Wk.a (Wk.s (Wk.s Wk.n)))))))))))) fun s56 => (evb_setC (md := .sh) (VV' := ["sheet"]) (GG' := []) (i := 4) (i2 := 6) ok rfl (wkX hX rfl) (by decide +kernel) (by rfl) (by decide +kernel) (evi_seq ok.toOk sq_l (ev_vsh ok.toOk (i := 0) (j := 0) rfl rfl rfl)) rfl rfl no_any (by decide +kernel) (by decide +kernel) (by decide +kernel) (by decide +kernel) (fun g' okc sheet58 => evpts_nil) (fun g' okc sheet58 => (ev_ixQ okc sq_l (ev_vsh okc (i := 4) (j := 0) rfl rfl rfl) (ev_int (md := .sh)))) fun firsts57 => (evb_ret (wkX hX rfl) .sh (by intro _; rfl) (ev_borrow (i := 3) (.inl flBool) rfl (ev_andP (pureE (m := M.bind (M.bind (M.ok s56) fun y64 => M.ok (y64.length : Int)) fun y65 => M.bind (M.ok count3) fun y66 => M.ok (decide (y65 = y66))) (ev_c (md' := .sh) ok.toOk (c_eq s_int) (ev_lenQ (md' := .sh) ok.toOk sq_l (j := 4) rfl X.g_len (ev_vsh ok.toOk (i := 3) (j := 3) rfl rfl rfl)) (ev_vsh ok.toOk (i := 2) (j := 2) rfl rfl rfl)) rfl) (pureE (m := M.bind (M.ok firsts57) fun y68 => M.bind (M.bind (M.ok firsts57) fun y67 => M.ok (sortI y67)) fun y69 => M.ok (decide (y68 = y69))) (ev_one (ev_c (md' := .sh) ok.toOk (c_eqD ok.toOk (dList dInt) (by decide)) (ev_vsh ok.toOk (i := 6) (j := 6) rfl rfl rfl) (ev_ofL (evl_sortI (md' := .sh) ok.toOk (j := 5) rfl X.g_sorted (ev_vsh ok.toOk (i := 6) (j := 6) rfl rfl rfl))))) rfl))))))))
theorem b__law_sheets_right {p : Pr} (X : Facts p) : Body p s__law_sheets_right N__law_sheets_right V__law_sheets_right G__law_sheets_right 1 (fun (d : ((List (List Int)) × (List (Int × Int × Tx × Unit)) × Int × Unit)) => [(sV false (tList (tList tInt)) d.1), (sV false (tList (tTup (aCons tInt (aCons tInt (aCons tStr aNil))))) d.2.1), (sV false tInt d.2.2.1), sAny, sAny, sAny, sAny]) (fun r => .rt false tBool r) r__law_sheets_right := fun g ok hX d => bb__law_sheets_right X ok hX d.1 d.2.1 d.2.2.1
theorem fn__law_sheets_right {p : Pr} (X : Facts p) : Fn p 2 "_law_sheets_right" ["found", "made", "count"] (spM p (aCons (tList (tList tInt)) (aCons (tList (tTup (aCons tInt (aCons tInt (aCons tStr aNil))))) (aCons tInt aNil))) (fun r => .rt false tBool r) c__law_sheets_right) := by
  obtain ⟨f, fd, hF, hm⟩ := X.d__law_sheets_right
  exact ⟨f, fd, eq__law_sheets_right ▸ fn_rt (m := 4) hF sc__law_sheets_right (.cons (.cons (.cons .nil))) rfl rfl (b__law_sheets_right X), hm, hF.kp, hF.bindsN fun _ _ _ _ _ _ us hl => match us, hl with | [_, _, _], _ => rfl⟩
abbrev s_law : Stmt := (topS 32)
abbrev N_law : List Str := ["script", "numbers", "wide", "high", "layered", "given", "span", "shuttles", "layers", "number", "count", "handed", "made", "told", "kept", "sheet", "rows", "j"]
abbrev V_law : List Str := ["script", "numbers", "wide", "high", "layered", "given", "span", "shuttles", "layers", "number", "count", "handed", "made", "told", "kept", "sheet", "rows"]
abbrev G_law : List Str := ["_law_numbers", "_law_cloth", "range", "list", "layer_numbers", "isinstance", "len", "_law_whole_number", "max", "sorted", "set", "_law_seams", "_law_all_told", "_law_seams_right", "_law_tubes_right", "_law_sheets_right"]
theorem sc_law : Sc s_law N_law V_law ["script"] G_law := ⟨⟨rfl, rfl, rfl, by decide +kernel, rfl, by decide +kernel, by decide +kernel⟩, by decide +kernel, by decide +kernel, by decide +kernel⟩
def r_f_law_l1  : Unit → Int → M (Fl Unit Bool) := fun s97 number98 => M.bind (M.bind (M.bind (M.bind (M.ok number98) fun y99 => M.bind (M.ok ()) fun y100 => M.ok (y99, y100)) c__law_whole_number) fun y102 => M.ok (!y102)) fun c103 => if c103 = true then M.bind (M.ok false) fun r104 => M.ok (Fl.rt r104) else M.ok (Fl.nx ())
def f_law_l1  : Unit → Int → M (Fl Unit Bool) := fun s97 number98 => M.bind (M.bind (f_law_whole_number number98) fun y102 => M.ok (!y102)) fun c105 => if c105 = true then M.ok (Fl.rt false) else M.ok (Fl.nx ())
theorem eq_f_law_l1  : r_f_law_l1  = f_law_l1  := by funext s97 number98; first | (simp only [r_f_law_l1, f_law_l1, M.bind_assoc, M.bok, c__law_all_told, c__law_cloth, c__law_numbers, c__law_seams, c__law_seams_right, c__law_sheets_right, c__law_tubes_right, c__law_whole_number, c_layer_numbers]; done) | (simp only [r_f_law_l1, f_law_l1, M.bind_assoc, M.bok, c__law_all_told, c__law_cloth, c__law_numbers, c__law_seams, c__law_seams_right, c__law_sheets_right, c__law_tubes_right, c__law_whole_number, c_layer_numbers]; rfl)
def q_law (script1 : (List Int)) : M Bool := M.bind (M.bind (M.bind (M.ok script1) fun y5 => M.bind (M.bind (M.ok (63 : Int)) fun y3 => M.bind (M.ok ()) fun y4 => M.ok (y3, y4)) fun y6 => M.ok (y5, y6)) c__law_numbers) fun numbers2 => M.bind (M.bind (M.ok (1 : Int)) fun y13 => M.bind (M.bind (M.bind (M.ok numbers2) fun y10 => M.bind (M.ok (1 : Int)) fun y11 => getM y10 y11) fun y12 => M.ok (y12 % (6 : Int))) fun y14 => M.ok (y13 + y14)) fun wide9 => M.bind (M.bind (M.ok (1 : Int)) fun y19 => M.bind (M.bind (M.bind (M.ok numbers2) fun y16 => M.bind (M.ok (2 : Int)) fun y17 => getM y16 y17) fun y18 => M.ok (y18 % (12 : Int))) fun y20 => M.ok (y19 + y20)) fun high15 => M.bind (M.ok (1 : Int)) fun layered21 => M.bind (M.bind (M.bind (M.bind (M.ok numbers2) fun y22 => M.bind (M.ok (3 : Int)) fun y23 => getM y22 y23) fun y24 => M.ok (y24 % (3 : Int))) fun y25 => M.bind (M.ok (0 : Int)) fun y26 => M.ok (decide (y26 < y25))) fun c27 => M.bind (if c27 = true then M.bind (M.bind (M.ok (2 : Int)) fun y32 => M.bind (M.bind (M.bind (M.ok numbers2) fun y29 => M.bind (M.ok (0 : Int)) fun y30 => getM y29 y30) fun y31 => M.ok (y31 % (11 : Int))) fun y33 => M.ok (y32 + y33)) fun layered28 => M.ok layered28 else M.ok layered21) fun (s34 : (Int)) => M.bind (M.bind (M.bind (M.ok numbers2) fun y42 => M.bind (M.bind (M.ok wide9) fun y40 => M.bind (M.bind (M.ok high15) fun y38 => M.bind (M.bind (M.ok s34) fun y36 => M.bind (M.ok ()) fun y37 => M.ok (y36, y37)) fun y39 => M.ok (y38, y39)) fun y41 => M.ok (y40, y41)) fun y43 => M.ok (y42, y43)) c__law_cloth) fun given35 => M.bind (M.bind (M.bind (M.ok (1 : Int)) fun y55 => M.bind (M.bind (M.ok (2 : Int)) fun y53 => M.bind (M.bind (M.ok (3 : Int)) fun y51 => M.bind (M.bind (M.ok (8 : Int)) fun y49 => M.bind (M.ok []) fun y50 => M.ok (y49 :: y50)) fun y52 => M.ok (y51 :: y52)) fun y54 => M.ok (y53 :: y54)) fun y56 => M.ok (y55 :: y56)) fun y64 => M.bind (M.bind (M.bind (M.ok numbers2) fun y61 => M.bind (M.ok (7 : Int)) fun y62 => getM y61 y62) fun y63 => M.ok (y63 % (4 : Int))) fun y65 => getM y64 y65) fun span48 => M.bind (M.bind (M.bind (M.ok high15) fun y67 => rangeM 0 y67) fun xs82 => compM (fun j68 => M.bind (M.ok true) fun c80 => if c80 = true then M.bind (M.bind (M.bind (M.bind (M.ok numbers2) fun y75 => M.bind (M.bind (M.ok (8 : Int)) fun y73 => M.bind (M.bind (M.bind (M.bind (M.ok j68) fun y69 => M.ok ((3 : Int) * y69)) fun y70 => M.bind (M.ok (2 : Int)) fun y71 => M.ok (y70 + y71)) fun y72 => M.ok (y72 % (55 : Int))) fun y74 => M.ok (y73 + y74)) fun y76 => getM y75 y76) fun y77 => M.ok (y77 / (5 : Int))) fun y78 => M.bind (M.ok span48) fun y79 => modM y78 y79) fun y81 => M.ok (some y81) else M.ok none) xs82) fun shuttles66 => M.bind (M.bind (M.bind (M.ok given35) fun y84 => M.bind (M.ok ()) fun y85 => M.ok (y84, y85)) c_layer_numbers) fun layers83 => M.bind (M.ok ((!true) || (!decide ((layers83.length : Int) = (wide9 + high15))))) fun c95 => if c95 = true then M.ok false else M.bind (M.ok layers83) fun xs106 => M.bind (forF r_f_law_l1 () xs106) (Fl.el (fun (s107 : Unit) => M.bind (M.bind (M.bind (M.ok layers83) fun y109 => maxM y109) fun y110 => M.bind (M.ok (1 : Int)) fun y111 => M.ok (y110 + y111)) fun count108 => M.bind (M.bind (M.bind (M.ok layers83) fun y112 => setSortI y112) fun y114 => M.bind (M.bind (M.ok count108) fun y113 => rangeL 0 y113) fun y115 => M.ok (!decide (y114 = y115))) fun c116 => if c116 = true then M.ok false else M.bind (M.bind (M.ok given35) fun y121 => M.bind (M.bind (M.ok shuttles66) fun y119 => M.bind (M.ok ()) fun y120 => M.ok (y119, y120)) fun y122 => M.ok (y121, y122)) fun handed118 => M.bind (M.bind (M.bind (M.bind (M.ok layers83) fun y127 => M.bind (M.bind (M.ok wide9) fun y126 => M.ok (some y126)) fun y128 => M.bind (M.ok (none : Option Int)) fun y129 => M.ok (cutL y127 y128 y129)) fun y132 => M.bind (M.bind (M.ok shuttles66) fun y130 => M.bind (M.ok ()) fun y131 => M.ok (y130, y131)) fun y133 => M.ok (y132, y133)) c__law_seams) fun made125 => M.bind (M.bind (M.bind (M.ok handed118) fun y137 => M.bind (M.ok ()) fun y138 => M.ok (y137, y138)) c__law_all_told) fun told136 => M.bind (M.bind (M.bind (M.bind (M.bind (M.bind (M.ok told136) fun y140 => M.ok y140.1) fun y143 => M.bind (M.bind (M.ok made125) fun y141 => M.bind (M.ok ()) fun y142 => M.ok (y141, y142)) fun y144 => M.ok (y143, y144)) c__law_seams_right) fun y147 => M.ok (!y147)) fun c156 => if c156 = true then M.ok true else M.bind (M.bind (M.bind (M.bind (M.ok told136) fun y148 => M.ok y148.2.1) fun y151 => M.bind (M.bind (M.ok made125) fun y149 => M.bind (M.ok ()) fun y150 => M.ok (y149, y150)) fun y152 => M.ok (y151, y152)) c__law_tubes_right) fun y155 => M.ok (!y155)) fun c158 => if c158 = true then M.ok false else M.bind (M.bind (M.bind (M.bind (M.bind (M.ok told136) fun y160 => M.ok y160.2.2.1) fun y165 => M.bind (M.bind (M.ok made125) fun y163 => M.bind (M.bind (M.ok count108) fun y161 => M.bind (M.ok ()) fun y162 => M.ok (y161, y162)) fun y164 => M.ok (y163, y164)) fun y166 => M.ok (y165, y166)) c__law_sheets_right) fun y170 => M.ok (!y170)) fun c171 => if c171 = true then M.ok false else M.bind (M.bind (M.bind (M.bind (M.ok (told136, fun (y : ((List (Int × Int × Tx × Unit)) × (List (Int × Int × Unit)) × (List (List Int)) × Unit)) => y)) fun y174 => M.ok (y174.1.1, fun (y : (List (Int × Int × Tx × Unit))) => y174.2 (y, y174.1.2))) fun q175 => M.ok q175.1) fun y187 => M.bind (M.bind (M.bind (M.bind (M.ok (told136, fun (y : ((List (Int × Int × Tx × Unit)) × (List (Int × Int × Unit)) × (List (List Int)) × Unit)) => y)) fun y176 => M.ok (y176.1.2.1, fun (y : (List (Int × Int × Unit))) => y176.2 (y176.1.1, (y, y176.1.2.2)))) fun q177 => M.ok q177.1) fun y185 => M.bind (M.bind (M.bind (M.bind (M.ok told136) fun y178 => M.ok y178.2.2.1) fun xs182 => compM (fun sheet179 => M.bind (M.ok true) fun c180 => if c180 = true then M.bind (M.ok sheet179) fun y181 => M.ok (some y181) else M.ok none) xs182) fun y183 => M.bind (M.ok ()) fun y184 => M.ok (y183, y184)) fun y186 => M.ok (y185, y186)) fun y188 => M.ok (y187, y188)) fun kept173 => M.bind (M.bind (M.ok (told136, fun (y : ((List (Int × Int × Tx × Unit)) × (List (Int × Int × Unit)) × (List (List Int)) × Unit)) => y)) fun y193 => M.ok (y193.1.2.2.1, fun (y : (List (List Int))) => y193.2 (y193.1.1, (y193.1.2.1, (y, y193.1.2.2.2))))) fun q194 => M.bind (walkF (fun z => pushM z (0 : Int)) q194.1) fun l195 => M.bind (M.ok (q194.2 l195)) fun told196 => M.bind (M.ok ([told196.1.map fun _ => (), told196.2.1.map fun _ => (), told196.2.2.1.map fun _ => ()], fun (y : List (List Unit)) => y)) fun q206 => M.bind (walkF (fun (z : List Unit) => pushM z ()) q206.1) fun l207 => M.bind (M.ok (q206.2 l207)) fun told208 => M.bind (M.bind (M.bind (M.bind (M.ok handed118) fun y209 => M.bind (M.ok ()) fun y210 => M.ok (y209, y210)) c__law_all_told) fun y212 => M.bind (M.ok kept173) fun y213 => M.ok (decide (y212 = y213))) fun c222 => if c222 = true then M.bind (M.ok handed118) fun y220 => M.bind (M.bind (M.ok given35) fun y216 => M.bind (M.bind (M.ok shuttles66) fun y214 => M.bind (M.ok ()) fun y215 => M.ok (y214, y215)) fun y217 => M.ok (y216, y217)) fun y221 => M.ok (decide (y220 = y221)) else M.ok false) fun r228 => M.ok r228)
def f_law (script1 : (List Int)) : M Bool := M.bind (f_law_numbers script1 (63 : Int)) fun numbers2 => M.bind (M.bind (M.bind (getM numbers2 (1 : Int)) fun y12 => M.ok (y12 % (6 : Int))) fun y14 => M.ok ((1 : Int) + y14)) fun wide9 => M.bind (M.bind (M.bind (getM numbers2 (2 : Int)) fun y18 => M.ok (y18 % (12 : Int))) fun y20 => M.ok ((1 : Int) + y20)) fun high15 => let layered21 : Int := (1 : Int); M.bind (M.bind (M.bind (getM numbers2 (3 : Int)) fun y24 => M.ok (y24 % (3 : Int))) fun y25 => M.ok (decide ((0 : Int) < y25))) fun c27 => M.bind (if c27 = true then M.bind (M.bind (M.bind (getM numbers2 (0 : Int)) fun y31 => M.ok (y31 % (11 : Int))) fun y33 => M.ok ((2 : Int) + y33)) fun layered28 => M.ok layered28 else M.ok layered21) fun (s34 : (Int)) => M.bind (f_law_cloth numbers2 wide9 high15 s34) fun given35 => M.bind (M.bind (M.bind (getM numbers2 (7 : Int)) fun y63 => M.ok (y63 % (4 : Int))) fun y65 => getM ([(1 : Int), (2 : Int), (3 : Int), (8 : Int)]) y65) fun span48 => M.bind (M.bind (rangeM 0 high15) fun xs82 => compM (fun j68 => M.bind (M.bind (M.bind (getM numbers2 ((8 : Int) + ((((3 : Int) * j68) + (2 : Int)) % (55 : Int)))) fun y77 => M.ok (y77 / (5 : Int))) fun y78 => modM y78 span48) fun y81 => M.ok (some y81)) xs82) fun shuttles66 => M.bind (f_layer_numbers given35) fun layers83 => if ((!true) || (!decide ((layers83.length : Int) = (wide9 + high15)))) = true then M.ok false else M.bind (forF f_law_l1 () layers83) (Fl.el (fun (s107 : Unit) => M.bind (M.bind (maxM layers83) fun y110 => M.ok (y110 + (1 : Int))) fun count108 => M.bind (M.bind (setSortI layers83) fun y114 => M.bind (rangeL 0 count108) fun y115 => M.ok (!decide (y114 = y115))) fun c227 => if c227 = true then M.ok false else let handed118 : ((List Tx) × (List Int) × Unit) := (given35, shuttles66, ()); M.bind (f_law_seams (cutL layers83 (some wide9) none) shuttles66) fun made125 => M.bind (f_law_all_told handed118) fun told136 => M.bind (M.bind (M.bind (f_law_seams_right told136.1 made125) fun y147 => M.ok (!y147)) fun c157 => if c157 = true then M.ok true else M.bind (f_law_tubes_right told136.2.1 made125) fun y155 => M.ok (!y155)) fun c226 => if c226 = true then M.ok false else M.bind (M.bind (f_law_sheets_right told136.2.2.1 made125 count108) fun y170 => M.ok (!y170)) fun c225 => if c225 = true then M.ok false else M.bind (M.bind (compM (fun sheet179 => M.ok (some sheet179)) told136.2.2.1) fun y191 => M.ok ((((told136, fun (y : ((List (Int × Int × Tx × Unit)) × (List (Int × Int × Unit)) × (List (List Int)) × Unit)) => y).1.1, fun (y : (List (Int × Int × Tx × Unit))) => (told136, fun (y : ((List (Int × Int × Tx × Unit)) × (List (Int × Int × Unit)) × (List (List Int)) × Unit)) => y).2 (y, (told136, fun (y : ((List (Int × Int × Tx × Unit)) × (List (Int × Int × Unit)) × (List (List Int)) × Unit)) => y).1.2)).1), (((told136, fun (y : ((List (Int × Int × Tx × Unit)) × (List (Int × Int × Unit)) × (List (List Int)) × Unit)) => y).1.2.1, fun (y : (List (Int × Int × Unit))) => (told136, fun (y : ((List (Int × Int × Tx × Unit)) × (List (Int × Int × Unit)) × (List (List Int)) × Unit)) => y).2 ((told136, fun (y : ((List (Int × Int × Tx × Unit)) × (List (Int × Int × Unit)) × (List (List Int)) × Unit)) => y).1.1, (y, (told136, fun (y : ((List (Int × Int × Tx × Unit)) × (List (Int × Int × Unit)) × (List (List Int)) × Unit)) => y).1.2.2))).1), y191, ())) fun kept173 => M.bind (walkF (fun z => pushM z (0 : Int)) ((told136, fun (y : ((List (Int × Int × Tx × Unit)) × (List (Int × Int × Unit)) × (List (List Int)) × Unit)) => y).1.2.2.1, fun (y : (List (List Int))) => (told136, fun (y : ((List (Int × Int × Tx × Unit)) × (List (Int × Int × Unit)) × (List (List Int)) × Unit)) => y).2 ((told136, fun (y : ((List (Int × Int × Tx × Unit)) × (List (Int × Int × Unit)) × (List (List Int)) × Unit)) => y).1.1, ((told136, fun (y : ((List (Int × Int × Tx × Unit)) × (List (Int × Int × Unit)) × (List (List Int)) × Unit)) => y).1.2.1, (y, (told136, fun (y : ((List (Int × Int × Tx × Unit)) × (List (Int × Int × Unit)) × (List (List Int)) × Unit)) => y).1.2.2.2)))).1) fun l195 => let told196 : ((List (Int × Int × Tx × Unit)) × (List (Int × Int × Unit)) × (List (List Int)) × Unit) := ((told136, fun (y : ((List (Int × Int × Tx × Unit)) × (List (Int × Int × Unit)) × (List (List Int)) × Unit)) => y).1.2.2.1, fun (y : (List (List Int))) => (told136, fun (y : ((List (Int × Int × Tx × Unit)) × (List (Int × Int × Unit)) × (List (List Int)) × Unit)) => y).2 ((told136, fun (y : ((List (Int × Int × Tx × Unit)) × (List (Int × Int × Unit)) × (List (List Int)) × Unit)) => y).1.1, ((told136, fun (y : ((List (Int × Int × Tx × Unit)) × (List (Int × Int × Unit)) × (List (List Int)) × Unit)) => y).1.2.1, (y, (told136, fun (y : ((List (Int × Int × Tx × Unit)) × (List (Int × Int × Unit)) × (List (List Int)) × Unit)) => y).1.2.2.2)))).2 l195; M.bind (walkF (fun (z : List Unit) => pushM z ()) [told196.1.map fun _ => (), told196.2.1.map fun _ => (), told196.2.2.1.map fun _ => ()]) fun told208 => M.bind (M.bind (f_law_all_told handed118) fun y212 => M.ok (decide (y212 = kept173))) fun c223 => if c223 = true then M.ok (decide (handed118 = (given35, shuttles66, ()))) else M.ok false) fun r228 => M.ok r228)
def r_law (d : ((List Int) × Unit)) : M Bool := q_law d.1
def c_law (d : ((List Int) × Unit)) : M Bool := f_law d.1
theorem eq_law : r_law = c_law := by funext d; first | (simp only [r_law, c_law, q_law, f_law, M.bind_assoc, M.bok, eq_f_law_l1, c__law_all_told, c__law_cloth, c__law_numbers, c__law_seams, c__law_seams_right, c__law_sheets_right, c__law_tubes_right, c__law_whole_number, c_layer_numbers]; done) | (simp only [r_law, c_law, q_law, f_law, M.bind_assoc, M.bok, eq_f_law_l1, c__law_all_told, c__law_cloth, c__law_numbers, c__law_seams, c__law_seams_right, c__law_sheets_right, c__law_tubes_right, c__law_whole_number, c_layer_numbers]; rfl)
theorem bb_law {p : Pr} (X : Facts p) {g : G} (ok : OkS p (defScope s_law) N_law V_law G_law 8 g) (hX : g.LX = List.replicate N_law.length sAny) (script1 : (List Int)) : EvB g [(sV false (tListK p.K tInt) script1), sAny, sAny, sAny, sAny, sAny, sAny, sAny, sAny, sAny, sAny, sAny, sAny, sAny, sAny, sAny, sAny, sAny] (defBody s_law) (fun r => .rt false tBool r) (q_law script1) := (evb_set ok (i := 1) (j := 1) rfl rfl (wkX hX rfl) .sh (ev_ofL (evl_call (md' := .sh) ok.toOk (fn__law_numbers X) (by decide) (j := 0) rfl .sh (eva_cons (md := .sh) (ev_vsh ok.toOk (i := 0) (j := 0) rfl rfl rfl) (eva_cons (md := .sh) (ev_int (md := .sh)) eva_nil)))) fun numbers2 => (evb_set ok (i := 2) (j := 2) rfl rfl (wkX hX rfl) .sh (ev_add (md' := .sh) ok.toOk (ev_int (md := .sh)) (ev_modC (md' := .sh) ok.toOk (by decide) (ev_ixQ ok.toOk sq_l (ev_vsh ok.toOk (i := 1) (j := 1) rfl rfl rfl) (ev_int (md := .sh))) (ev_int (md := .sh)))) fun wide9 => (evb_set ok (i := 3) (j := 3) rfl rfl (wkX hX rfl) .sh (ev_add (md' := .sh) ok.toOk (ev_int (md := .sh)) (ev_modC (md' := .sh) ok.toOk (by decide) (ev_ixQ ok.toOk sq_l (ev_vsh ok.toOk (i := 1) (j := 1) rfl rfl rfl) (ev_int (md := .sh))) (ev_int (md := .sh)))) fun high15 => (evb_set ok (i := 4) (j := 4) rfl rfl (wkX hX rfl) .sh (ev_int (md := .sh)) fun layered21 => (evb_if (LJ := (fun (s34 : (Int)) => [(sV false (tListK p.K tInt) script1), (sV false (tList tInt) numbers2), (sV false tInt wide9), (sV false tInt high15), (sV false tInt s34), sAny, sAny, sAny, sAny, sAny, sAny, sAny, sAny, sAny, sAny, sAny, sAny, sAny])) (wkX hX rfl) (evt_c ok.toOk c_gt (ev_modC (md' := .sh) ok.toOk (by decide) (ev_ixQ ok.toOk sq_l (ev_vsh ok.toOk (i := 1) (j := 1) rfl rfl rfl) (ev_int (md := .sh))) (ev_int (md := .sh))) (ev_int (md := .sh))) (evb_set ok (i := 4) (j := 4) rfl rfl (wkX hX rfl) .sh (ev_add (md' := .sh) ok.toOk (ev_int (md := .sh)) (ev_modC (md' := .sh) ok.toOk (by decide) (ev_ixQ ok.toOk sq_l (ev_vsh ok.toOk (i := 1) (j := 1) rfl rfl rfl) (ev_int (md := .sh))) (ev_int (md := .sh)))) fun layered28 => (evb_nx (by rfl) (Wk.s (Wk.s (Wk.s (Wk.s (Wk.s (Wk.s (Wk.s (Wk.s (Wk.s (Wk.s (Wk.s (Wk.s (Wk.s (Wk.s (Wk.s (Wk.s (Wk.s (Wk.s Wk.n)))))))))))))))))))) (evb_nx (by rfl) (Wk.s (Wk.s (Wk.s (Wk.s (Wk.s (Wk.s (Wk.s (Wk.s (Wk.s (Wk.s (Wk.s (Wk.s (Wk.s (Wk.s (Wk.s (Wk.s (Wk.s (Wk.s Wk.n))))))))))))))))))) fun s34 => (evb_set ok (i := 5) (j := 5) rfl rfl (wkX hX rfl) .sh (ev_ofL (evl_call (md' := .sh) ok.toOk (fn__law_cloth X) (by decide) (j := 1) rfl .sh (eva_cons (md := .sh) (ev_vsh ok.toOk (i := 1) (j := 1) rfl rfl rfl) (eva_cons (md := .sh) (ev_vsh ok.toOk (i := 2) (j := 2) rfl rfl rfl) (eva_cons (md := .sh) (ev_vsh ok.toOk (i := 3) (j := 3) rfl rfl rfl) (eva_cons (md := .sh) (ev_vsh ok.toOk (i := 4) (j := 4) rfl rfl rfl) eva_nil)))))) fun given35 => (evb_set ok (i := 6) (j := 6) rfl rfl (wkX hX rfl) .sh (ev_ixQ ok.toOk sq_l (ev_ofL (evl_lstN (n := 4) (lnS (lnS (lnS (lnS ln0)))) (by decide) (evs_cons (ev_int (md := .sh)) (evs_cons (ev_int (md := .sh)) (evs_cons (ev_int (md := .sh)) (evs_cons (ev_int (md := .sh)) evs_nil)))))) (ev_modC (md' := .sh) ok.toOk (by decide) (ev_ixQ ok.toOk sq_l (ev_vsh ok.toOk (i := 1) (j := 1) rfl rfl rfl) (ev_int (md := .sh))) (ev_int (md := .sh)))) fun span48 => (evb_setC (md := .sh) (VV' := ["numbers", "j", "span"]) (GG' := []) (i := 17) (i2 := 7) ok rfl (wkX hX rfl) (by decide +kernel) (by rfl) (by decide +kernel) (evi_range1 ok.toOk (j := 2) rfl X.g_range (ev_vsh ok.toOk (i := 3) (j := 3) rfl rfl rfl)) rfl rfl no_any (by decide +kernel) (by decide +kernel) (by decide +kernel) (by decide +kernel) (fun g' okc j68 => evpts_nil) (fun g' okc j68 => (ev_mod (md' := .sh) okc (ev_divC (md' := .sh) okc (by decide) (by decide) (ev_ixQ okc sq_l (ev_vsh okc (i := 1) (j := 0) rfl rfl rfl) (ev_add (md' := .sh) okc (ev_int (md := .sh)) (ev_modC (md' := .sh) okc (by decide) (ev_add (md' := .sh) okc (ev_mulL (md' := .sh) okc (by decide) (ev_int (md := .sh)) (ev_vsh okc (i := 17) (j := 1) rfl rfl rfl)) (ev_int (md := .sh))) (ev_int (md := .sh))))) (ev_int (md := .sh))) (ev_vsh okc (i := 6) (j := 2) rfl rfl rfl))) fun shuttles66 => (evb_set ok (i := 8) (j := 8) rfl rfl (wkX hX rfl) .sh (ev_ofL (evl_call (md' := .sh) ok.toOk (fn_layer_numbers X) (by decide) (j := 4) rfl .sh (eva_cons (md := .sh) (ev_ofL (evl_copyQ (md := .sh) ok.toOk sq_l (j := 3) rfl X.g_list (ev_vsh ok.toOk (i := 5) (j := 5) rfl rfl rfl))) eva_nil))) fun layers83 => (evb_ifx (wkX hX rfl) (EvW.t (evw_orP (pureT (m := M.bind (M.bind (M.ok layers83) fun y87 => M.ok true) fun y88 => M.ok (!y88)) (evt_not (evt_of (ev_isi (md' := .sh) (r := true) ok.toOk (j := 5) rfl X.g_isinstance i_list (by decide +kernel) (ev_vsh ok.toOk (i := 8) (j := 8) rfl rfl rfl) (ev_ty (n := "list") (md := .sh) ok.toOk (j := 3) rfl X.g_list (by decide +kernel))))) rfl) (pureW (m := M.bind (M.bind (M.ok layers83) fun y89 => M.ok (y89.length : Int)) fun y92 => M.bind (M.bind (M.ok wide9) fun y90 => M.bind (M.ok high15) fun y91 => M.ok (y90 + y91)) fun y93 => M.ok (!decide (y92 = y93))) (evw_or1 (evt_c ok.toOk (c_ne s_int) (ev_lenQ (md' := .sh) ok.toOk sq_l (j := 6) rfl X.g_len (ev_vsh ok.toOk (i := 8) (j := 8) rfl rfl rfl)) (ev_add (md' := .sh) ok.toOk (ev_vsh ok.toOk (i := 2) (j := 2) rfl rfl rfl) (ev_vsh ok.toOk (i := 3) (j := 3) rfl rfl rfl)))) rfl))) (evb_ret (wkX hX rfl) .sh (by intro _; rfl) (ev_bool (md := .sh))) (evb_forF (LF := (fun (s97 : Unit) => [(sV false (tListK p.K tInt) script1), (sV false (tList tInt) numbers2), (sV false tInt wide9), (sV false tInt high15), (sV false tInt s34), (sV false (tList tStr) given35), (sV false tInt span48), (sV false (tList tInt) shuttles66), (sV false (tList tInt) layers83), sAny, sAny, sAny, sAny, sAny, sAny, sAny, sAny, sAny])) (s0 := ()) (dr := fun r228 => r228) ok (wkX hX rfl) (evi_seq ok.toOk sq_l (ev_vsh ok.toOk (i := 8) (j := 8) rfl rfl rfl)) (Wk.s (Wk.s (Wk.s (Wk.s (Wk.s (Wk.s (Wk.s (Wk.s (Wk.s (Wk.s (Wk.s (Wk.s (Wk.s (Wk.s (Wk.s (Wk.s (Wk.s (Wk.s Wk.n)))))))))))))))))) (fun _ => evg_name ok (i := 9) (j := 9) rfl rfl) (fun s97 number98 => (evb_ifl (wkX hX rfl) (evt_not (evt_of (ev_call (md' := .sh) ok.toOk (fn__law_whole_number X) (by decide) (j := 7) rfl .sh (eva_cons (md := .sh) (ev_vsh ok.toOk (i := 9) (j := 9) rfl rfl rfl) eva_nil)))) (evb_retF (mk := fun r104 => Fl.rt r104) (wkX hX rfl) .sh (by intro _; rfl) (ev_bool (md := .sh))) (evb_go (by rfl) (Wk.s (Wk.s (Wk.s (Wk.s (Wk.s (Wk.s (Wk.s (Wk.s (Wk.s (Wk.a (Wk.s (Wk.s (Wk.s (Wk.s (Wk.s (Wk.s (Wk.s (Wk.s Wk.n))))))))))))))))))))) fun s107 => (evb_set ok (i := 10) (j := 10) rfl rfl (wkX hX rfl) .sh (ev_add (md' := .sh) ok.toOk (ev_max1 (md' := .sh) ok.toOk (j := 8) rfl X.g_max (ev_vsh ok.toOk (i := 8) (j := 8) rfl rfl rfl)) (ev_int (md := .sh))) fun count108 => (evb_ifx (wkX hX rfl) (evt_c ok.toOk (c_neD ok.toOk (dList dInt) (by decide)) (ev_ofL (evl_setSortI (md' := .sh) ok.toOk ok.toOk.calm (j := 9) rfl X.g_sorted (j2 := 10) rfl X.g_set (ev_vsh ok.toOk (i := 8) (j := 8) rfl rfl rfl))) (ev_ofL (evl_listRg1 (md' := .sh) ok.toOk (j := 3) rfl X.g_list (j2 := 2) rfl X.g_range (ev_vsh ok.toOk (i := 10) (j := 10) rfl rfl rfl)))) (evb_ret (wkX hX rfl) .sh (by intro _; rfl) (ev_bool (md := .sh))) (evb_set ok (i := 11) (j := 11) rfl rfl (wkX hX rfl) .sh (ev_hl (fun d vs R h => by rw [(lenS (lenS len0)) h]; decide) (eva_cons (ev_ofL (evl_copyQ (md := .sh) ok.toOk sq_l (j := 3) rfl X.g_list (ev_vsh ok.toOk (i := 5) (j := 5) rfl rfl rfl))) (eva_cons (ev_ofL (evl_copyQ (md := .sh) ok.toOk sq_l (j := 3) rfl X.g_list (ev_vsh ok.toOk (i := 7) (j := 7) rfl rfl rfl))) eva_nil))) fun handed118 => (evb_set ok (i := 12) (j := 12) rfl rfl (wkX hX rfl) .sh (ev_ofL (evl_call (md' := .sh) ok.toOk (fn__law_seams X) (by decide) (j := 11) rfl .sh (eva_cons (md := .sh) (ev_ofL (evl_slQ (md := .sh) ok.toOk sq_l (ev_vsh ok.toOk (i := 8) (j := 8) rfl rfl rfl) (evo_some (ev_vsh ok.toOk (i := 2) (j := 2) rfl rfl rfl)) evo_none)) (eva_cons (md := .sh) (ev_vsh ok.toOk (i := 7) (j := 7) rfl rfl rfl) eva_nil)))) fun made125 => (evb_setN ok (i := 13) (j := 13) rfl rfl (.inl (wkX hX rfl)) (evn_call ok.toOk (fn__law_all_told X) (by decide) (j := 12) rfl (eva_cons (md := .sh) (ev_vsh ok.toOk (i := 11) (j := 11) rfl rfl rfl) eva_nil)) fun told136 => (evb_ifx (wkX hX rfl) (evt_borrowP (i := 13) rfl (EvW.t (evw_or (evt_not (evt_of (ev_call (md' := .sh) ok.toOk (fn__law_seams_right X) (by decide) (j := 13) rfl .sh (eva_cons (md := .sh) (ev_hlIx (n := 0) ok.toOk .z (ev_vsh ok.toOk (i := 13) (j := 13) rfl rfl rfl) (ev_int (md := .sh))) (eva_cons (md := .sh) (ev_vsh ok.toOk (i := 12) (j := 12) rfl rfl rfl) eva_nil))))) (evw_or1 (evt_not (evt_of (ev_call (md' := .sh) ok.toOk (fn__law_tubes_right X) (by decide) (j := 14) rfl .sh (eva_cons (md := .sh) (ev_hlIx (n := 1) ok.toOk (.s .z) (ev_vsh ok.toOk (i := 13) (j := 13) rfl rfl rfl) (ev_int (md := .sh))) (eva_cons (md := .sh) (ev_vsh ok.toOk (i := 12) (j := 12) rfl rfl rfl) eva_nil))))))))) (evb_ret (wkX hX rfl) .sh (by intro _; rfl) (ev_bool (md := .sh))) (evb_ifx (wkX hX rfl) (evt_borrowP (i := 13) rfl (evt_not (evt_of (ev_call (md' := .sh) ok.toOk (fn__law_sheets_right X) (by decide) (j := 15) rfl .sh (eva_cons (md := .sh) (ev_hlIx (n := 2) ok.toOk (.s (.s .z)) (ev_vsh ok.toOk (i := 13) (j := 13) rfl rfl rfl) (ev_int (md := .sh))) (eva_cons (md := .sh) (ev_vsh ok.toOk (i := 12) (j := 12) rfl rfl rfl) (eva_cons (md := .sh) (ev_vsh ok.toOk (i := 10) (j := 10) rfl rfl rfl) eva_nil))))))) (evb_ret (wkX hX rfl) .sh (by intro _; rfl) (ev_bool (md := .sh))) (evb_set ok (i := 14) (j := 14) rfl rfl (wkX hX rfl) .sh (ev_hl (fun d vs R h => by rw [(lenS (lenS (lenS len0))) h]; decide) (eva_cons (ev_ofL (evl_copyP ok.toOk (j := 3) rfl X.g_list (evp_hl ok.toOk .z (evp_name ok.toOk (i := 13) (j := 13) rfl rfl rfl) (ev_int (md := .sh))))) (eva_cons (ev_ofL (evl_copyP ok.toOk (j := 3) rfl X.g_list (evp_hl ok.toOk (.s .z) (evp_name ok.toOk (i := 13) (j := 13) rfl rfl rfl) (ev_int (md := .sh))))) (eva_cons (ev_ofN (evn_borrowP (i := 13) (fw_l (fw_l (fw_v flInt))) rfl (evn_lc (VV' := ["sheet"]) (GG' := ["list"]) (i := 15) ok.toOk (evi_seq ok.toOk sq_l (ev_hlIx (n := 2) ok.toOk (.s (.s .z)) (ev_vsh ok.toOk (i := 13) (j := 13) rfl rfl rfl) (ev_int (md := .sh)))) rfl rfl no_any (by decide +kernel) (by decide +kernel) (by decide +kernel) (by decide +kernel) (fun g' okc sheet179 => evpts_nil) (fw_l (fw_v flInt)) (fun g' okc sheet179 => (evn_l (evl_copyQ (md := .sh) okc sq_l (j := 0) rfl X.g_list (ev_vsh okc (i := 15) (j := 0) rfl rfl rfl))))))) eva_nil)))) fun kept173 => (evb_forA ok hX (i := 13) (evp_hl ok.toOk (.s (.s .z)) (evp_name ok.toOk (i := 13) (j := 13) rfl rfl rfl) (ev_int (md := .sh))) (i2 := 15) (j2 := 15) rfl rfl (by decide) rfl rfl (fun _ => evn_v (ev_int (md := .sh))) fun told196 => (evb_junk3 (i := 13) rfl (evb_forA ok hX (i := 13) (evp_name ok.toOk (i := 13) (j := 13) rfl rfl rfl) (i2 := 16) (j2 := 16) rfl rfl (by decide) rfl rfl (fun _ => evn_any (ev_tup (fun d vs R h => by rw [(lenS (lenS (lenS len0))) h]; decide) (eva_cons (ev_int (md := .sh)) (eva_cons (ev_int (md := .sh)) (eva_cons (ev_str (md := .sh) (by decide +kernel)) eva_nil))))) fun told208 => (evb_ret (wkX hX rfl) .sh (by intro _; rfl) (ev_and (ev_c (md' := .sh) ok.toOk (c_eqD ok.toOk (dHl (dCons (dList (dTup (dCons dInt (dCons dInt (dCons dStr dNil))))) (dCons (dList (dTup (dCons dInt (dCons dInt dNil)))) (dCons (dList (dList dInt)) dNil)))) (by decide)) (ev_ofN (evn_call ok.toOk (fn__law_all_told X) (by decide) (j := 12) rfl (eva_cons (md := .sh) (ev_vsh ok.toOk (i := 11) (j := 11) rfl rfl rfl) eva_nil))) (ev_vsh ok.toOk (i := 14) (j := 14) rfl rfl rfl)) (ev_one (ev_c (md' := .sh) ok.toOk (c_eqD ok.toOk (dHl (dCons (dList dStr) (dCons (dList dInt) dNil))) (by decide)) (ev_vsh ok.toOk (i := 11) (j := 11) rfl rfl rfl) (ev_hl (fun d vs R h => by rw [(lenS (lenS len0)) h]; decide) (eva_cons (ev_vsh ok.toOk (i := 5) (j := 5) rfl rfl rfl) (eva_cons (ev_vsh ok.toOk (i := 7) (j := 7) rfl rfl rfl) eva_nil)))))))))))))))))))))))))))))
theorem b_law {p : Pr} (X : Facts p) : Body p s_law N_law V_law G_law 8 (fun (d : ((List Int) × Unit)) => [(sV false (tListK p.K tInt) d.1), sAny, sAny, sAny, sAny, sAny, sAny, sAny, sAny, sAny, sAny, sAny, sAny, sAny, sAny, sAny, sAny, sAny]) (fun r => .rt false tBool r) r_law := fun g ok hX d => bb_law X ok hX d.1
theorem fnok_law {p : Pr} (X : Facts p) {f : Addr} {fd : FuncData} (hF : FunD p.K "law" "law" (defArgs s_law) (defBody s_law) (defScope s_law) [] [] f fd) : FnOk p.P p.w p.K p.mg p.base (L2.CX p.P p.w) 9 f fd ["script"] (spM p (aCons (tListK p.K tInt) aNil) (fun r => .rt false tBool r) c_law) := eq_law ▸ fn_rt (m := 17) hF sc_law (.cons .nil) rfl rfl (b_law X)
theorem measured_ok {rows : List Tx} {w h : Nat} (hc : Cloth rows w h) : f_measured rows = .ok ((w : Int), (h : Int), ()) := by
  obtain ⟨hh, ww, sg, w1, w2, h1, h2⟩ := hc
  have hl : rows ≠ [] := fun e => by subst e; simp at hh; omega
  obtain ⟨r0, rs, rfl⟩ := List.exists_cons_of_ne_nil hl
  have e0 : r0.length = w := ww r0 List.mem_cons_self
  refine oke ?_
  unfold f_measured
  refine okif (fun c => ?_) fun _ => ?_
  · simp only [Bool.or_eq_true, decide_eq_true_eq] at c; omega
  refine okb (P := (· = (w : Int))) ?_ fun wd e => ?_
  · rw [show getM (r0 :: rs) 0 = .ok r0 from getM_at (by omega) rfl]
    exact okv (by omega)
  subst e
  refine okif (fun c => ?_) fun _ => ?_
  · simp only [Bool.or_eq_true, decide_eq_true_eq] at c; omega
  refine okb (P := fun _ => True) (ok_forI (fun _ => True) trivial fun text ht s _ => ?_) fun _ _ => okv (by rw [hh])
  unfold f_measured_l2
  refine okif (fun c => ?_) fun _ => ?_
  · have := ww text ht
    simp only [Bool.not_eq_true', decide_eq_false_iff_not] at c; omega
  refine okb (P := fun _ => True) (ok_forI (fun _ => True) trivial fun sign hs s _ => ?_) fun _ _ => okv trivial
  unfold f_measured_l1
  refine okif (fun c => ?_) fun _ => okv trivial
  obtain ⟨n, hn, rfl⟩ := List.mem_map.mp hs
  rw [tx_hash, tx_dot] at c
  rcases sg text ht n hn with e | e <;> subst e <;> simp at c
def sgn (rows : List Tx) (j k : Int) : Nat := ((rows[j.toNat]?.getD [])[k.toNat]?).getD 0
def ovB (rows : List Tx) (w : Int) (a b : Int) : Bool := if a < w ∧ w ≤ b then sgn rows (b - w) a == 35 else if b < w ∧ w ≤ a then sgn rows (a - w) b == 46 else false
theorem sgn_or {rows : List Tx} {w h : Nat} (hc : Cloth rows w h) {j k : Int} (j0 : 0 ≤ j) (j1 : j < h) (k0 : 0 ≤ k) (k1 : k < w) : sgn rows j k = 35 ∨ sgn rows j k = 46 := by
  have hj : j.toNat < rows.length := by have := hc.hh; omega
  have hm : rows[j.toNat] ∈ rows := List.getElem_mem hj
  have hw := hc.ww _ hm
  have hk : k.toNat < rows[j.toNat].length := by omega
  have e : sgn rows j k = rows[j.toNat][k.toNat] := by
    unfold sgn
    rw [List.getElem?_eq_getElem hj]
    show (rows[j.toNat][k.toNat]?).getD 0 = _
    rw [List.getElem?_eq_getElem hk]; rfl
  rw [e]
  exact hc.sg _ hm _ (List.getElem_mem hk)
/-- two strands that cross: just one lies over -/
theorem ovB_not {rows : List Tx} {w h : Nat} (hc : Cloth rows w h) {a b : Int} (a0 : 0 ≤ a) (a1 : a < w) (b0 : (w : Int) ≤ b) (b1 : b < (w : Int) + h) : ovB rows w b a = !ovB rows w a b := by
  unfold ovB
  rw [if_neg (by omega), if_pos (by omega), if_pos (by omega)]
  rcases sgn_or hc (j := b - w) (k := a) (by omega) (by omega) a0 a1 with e | e <;> rw [e] <;> rfl
/-- over how many picks an end lies -/
def cntE (rows : List Tx) (e : Nat) : Nat := (rows.filter fun r => decide (r[e]? = some 35)).length
theorem scores_ok {rows : List Tx} {w h : Nat} (hc : Cloth rows w h) : f_scores_of rows = .ok ((List.range w).map (fun e => (cntE rows e : Int)) ++ rows.map fun r => (r.count 46 : Int)) := by
  refine oke ?_
  unfold f_scores_of
  rw [measured_ok hc, M.bind_ok]
  have hh := hc.hh
  have hw2 := hc.w2
  have hh2 := hc.h2
  show Okm (M.bind (rangeM 0 (w : Int)) _) _
  refine okb ok_range fun xs e => ?_
  subst e
  rw [show ((w : Int) - 0).toNat = w by omega]
  refine okb (ok_forR (fun i (s : List Int) => s = (List.range i).map (fun e => (cntE rows e : Int))) rfl fun i s hi e => ?_) fun s e => ?_
  · subst e
    unfold f_scores_of_l1
    refine okb (P := (· = (cntE rows i : Int))) ?_ fun y e => ?_
    · rw [comp_eq (g := fun r => if r[i]? = some 35 then some r else none) (by omega) fun r hr => ?_]
      · refine okv ?_
        show ((List.filterMap _ rows).length : Int) = _
        unfold cntE
        congr 1
        clear hc hh
        induction rows with
        | nil => rfl
        | cons r rs ih =>
          rw [List.filterMap_cons, List.filter_cons]
          by_cases hq : r[i]? = some 35
          · simp [hq, ih]
          · simp [hq, ih]
      · have hrl := hc.ww r hr
        have hlt : i < r.length := by omega
        rw [show getS r (0 + (i : Int)) = .ok [r[i]] from by rw [Int.zero_add]; exact getS_nat (by simp [hlt])]
        simp only [M.bind_ok, tx_hash]
        by_cases hq : r[i] = 35
        · simp [hq, hlt]
        · simp [hq, hlt]
    · subst e
      refine okb (ok_push (by simp; omega)) fun s e => okv ?_
      subst e
      rw [List.range_succ, List.map_append]; rfl
  · subst e
    show Okm (M.bind (rangeM 0 (h : Int)) _) _
    refine okb ok_range fun xs e => ?_
    subst e
    rw [show ((h : Int) - 0).toNat = h by omega]
    refine okb (ok_forR (fun i (s : List Int) => s = (List.range w).map (fun e => (cntE rows e : Int)) ++ (rows.take i).map fun r => (r.count 46 : Int)) (by simp) fun i s hi e => ?_) fun s e => okv ?_
    · subst e
      unfold f_scores_of_l2
      have hlt : i < rows.length := by omega
      rw [show getM rows (0 + (i : Int)) = .ok rows[i] from by rw [Int.zero_add]; exact getM_nat (by simp [hlt])]
      rw [tx_dot]
      refine okb (P := (· = (rows[i].count 46 : Int))) (okv rfl) fun y e => ?_
      subst e
      refine okb (ok_push (by simp; omega)) fun s e => okv ?_
      subst e
      rw [List.take_add_one, List.getElem?_eq_getElem hlt, List.map_append, List.append_assoc]
      rfl
    · subst e
      rw [← hh, List.take_length]
section
variable {ov : Int → Int → Bool}
theorem sum_map_add {α : Type} (f g : α → Nat) : ∀ l : List α, (l.map fun x => f x + g x).sum = (l.map f).sum + (l.map g).sum
  | [] => rfl
  | a :: r => by simp only [List.map_cons, List.sum_cons, sum_map_add f g r]; omega
theorem sum_map_congr {α : Type} {f g : α → Nat} : ∀ {l : List α}, (∀ x ∈ l, f x = g x) → (l.map f).sum = (l.map g).sum
  | [], _ => rfl
  | a :: r, h => by simp only [List.map_cons, List.sum_cons]; rw [h a List.mem_cons_self, sum_map_congr fun x hx => h x (List.mem_cons_of_mem _ hx)]
theorem sum_ind1 {α : Type} (p : α → Bool) : ∀ l : List α, (l.map fun x => if p x = true then 1 else 0).sum = l.countP p
  | [] => rfl
  | a :: r => by rw [List.map_cons, List.sum_cons, List.countP_cons, sum_ind1 p r]; omega
theorem countP_not' {α : Type} (p : α → Bool) : ∀ l : List α, l.countP p + l.countP (fun x => !p x) = l.length
  | [] => rfl
  | a :: r => by
    have := countP_not' p r
    rw [List.countP_cons, List.countP_cons, List.length_cons]
    cases p a <;> simp <;> omega
/-- each crossing once -/
theorem dbl : ∀ (S T : List Int), (∀ a ∈ S, ∀ b ∈ T, ov b a = !ov a b) → (S.map fun a => T.countP (ov a)).sum + (T.map fun b => S.countP (ov b)).sum = S.length * T.length
  | [], T, _ => by
    have : ∀ l : List Int, (l.map fun _ => 0).sum = 0 := fun l => by induction l with
      | nil => rfl
      | cons a r ih => rw [List.map_cons, List.sum_cons, ih]
    simp only [List.map_nil, List.sum_nil, List.countP_nil, List.length_nil, Nat.zero_mul, Nat.zero_add]
    exact this T
  | a :: S, T, h => by
    have ih := dbl S T fun x hx => h x (List.mem_cons_of_mem _ hx)
    have e1 : (T.map fun b => (a :: S).countP (ov b)).sum = (T.map fun b => S.countP (ov b)).sum + T.countP (fun b => ov b a) := by
      rw [← sum_ind1 (fun b => ov b a) T, ← sum_map_add]
      refine sum_map_congr fun b hb => ?_
      rw [List.countP_cons]
    have e2 : T.countP (fun b => ov b a) = T.countP (fun b => !ov a b) := List.countP_congr fun b hb => by rw [h a List.mem_cons_self b hb]
    have e3 := countP_not' (ov a) T
    rw [e1, e2, List.map_cons, List.sum_cons, List.length_cons, Nat.succ_mul]
    omega
/-- at most all -/
theorem sum_le (S T : List Int) : (S.map fun a => T.countP (ov a)).sum ≤ S.length * T.length ∧ ((S.map fun a => T.countP (ov a)).sum = S.length * T.length ↔ ∀ a ∈ S, ∀ b ∈ T, ov a b = true) := by
  induction S with
  | nil => simp
  | cons a S ih =>
    have h1 : T.countP (ov a) ≤ T.length := List.countP_le_length
    rw [List.map_cons, List.sum_cons, List.length_cons, Nat.succ_mul]
    refine ⟨by omega, fun e => ?_, fun h => ?_⟩
    · have e1 : T.countP (ov a) = T.length := by omega
      have e2 := ih.2.mp (by omega)
      intro x hx b hb
      rcases List.mem_cons.mp hx with rfl | hx
      · exact List.countP_eq_length.mp e1 b hb
      · exact e2 x hx b hb
    · have e1 : T.countP (ov a) = T.length := List.countP_eq_length.mpr fun b hb => h a List.mem_cons_self b hb
      have e2 := ih.2.mpr fun x hx => h x (List.mem_cons_of_mem _ hx)
      omega
/-- a set of ends S and picks T lies over the other ends S' and picks T' -/
def ClosedL (ov : Int → Int → Bool) (S S' T T' : List Int) : Prop := (∀ a ∈ S, ∀ b ∈ T', ov a b = true) ∧ ∀ b ∈ T, ∀ a ∈ S', ov b a = true
theorem closed_iff {S S' T T' : List Int} (hx : ∀ a ∈ S ++ S', ∀ b ∈ T ++ T', ov b a = !ov a b) :
    (S.map fun a => (T ++ T').countP (ov a)).sum + (T.map fun b => (S ++ S').countP (ov b)).sum ≤ S.length * T.length + S.length * T'.length + T.length * S'.length ∧
    ((S.map fun a => (T ++ T').countP (ov a)).sum + (T.map fun b => (S ++ S').countP (ov b)).sum = S.length * T.length + S.length * T'.length + T.length * S'.length ↔ ClosedL ov S S' T T') := by
  have e1 : (S.map fun a => (T ++ T').countP (ov a)).sum = (S.map fun a => T.countP (ov a)).sum + (S.map fun a => T'.countP (ov a)).sum := by
    rw [← sum_map_add]; exact sum_map_congr fun a _ => List.countP_append
  have e2 : (T.map fun b => (S ++ S').countP (ov b)).sum = (T.map fun b => S.countP (ov b)).sum + (T.map fun b => S'.countP (ov b)).sum := by
    rw [← sum_map_add]; exact sum_map_congr fun a _ => List.countP_append
  have d := dbl S T fun a ha b hb => hx a (List.mem_append_left _ ha) b (List.mem_append_left _ hb)
  obtain ⟨l1, l2⟩ := sum_le (ov := ov) S T'
  obtain ⟨m1, m2⟩ := sum_le (ov := ov) T S'
  rw [e1, e2]
  refine ⟨by omega, fun e => ⟨l2.mp (by omega), m2.mp (by omega)⟩, fun ⟨c1, c2⟩ => ?_⟩
  have a1 := l2.mpr c1
  have a2 := m2.mpr c2
  omega
end
theorem countP_up {α : Type} (p : α → Bool) (d : α) : ∀ (l : List α) (lo : Int), (upFrom lo l.length).countP (fun b => p (l[(b - lo).toNat]?.getD d)) = l.countP p
  | [], lo => rfl
  | a :: r, lo => by
    rw [List.length_cons, upFrom, List.countP_cons, List.countP_cons, ← countP_up p d r (lo + 1)]
    congr 1
    · refine List.countP_congr fun b hb => ?_
      have := upFrom_mem.mp hb
      rw [show (b - lo).toNat = (b - (lo + 1)).toNat + 1 by omega, List.getElem?_cons_succ]
    · rw [show (lo - lo).toNat = 0 by omega]; rfl
theorem Cloth.pos {rows : List Tx} {w h : Nat} (hc : Cloth rows w h) : 1 ≤ w ∧ w ≤ 40 ∧ 1 ≤ h ∧ h ≤ 40 ∧ rows.length = h := ⟨hc.w1, hc.w2, hc.h1, hc.h2, hc.hh⟩
/-- the counts of a cloth's strands -/
def cntL (rows : List Tx) (w : Nat) : List Int := (List.range w).map (fun e => (cntE rows e : Int)) ++ rows.map fun r => (r.count 46 : Int)
/-- over how many strands a strand lies -/
def scN (rows : List Tx) (w h : Nat) (a : Int) : Nat := if a < w then (upFrom w h).countP (ovB rows w a) else (upFrom 0 w).countP (ovB rows w a)
theorem cntL_len {rows : List Tx} {w h : Nat} (hc : Cloth rows w h) : (cntL rows w).length = w + h := by unfold cntL; have := hc.hh; simp; omega
theorem cntL_at {rows : List Tx} {w h : Nat} (hc : Cloth rows w h) {a : Int} (a0 : 0 ≤ a) (a1 : a < (w : Int) + h) : (cntL rows w)[a.toNat]? = some (scN rows w h a : Int) := by
  have hh := hc.hh
  unfold cntL scN
  by_cases c : a < w
  · rw [if_pos c, List.getElem?_append_left (by simp; omega), List.getElem?_map, List.getElem?_range (by omega)]
    show some ((cntE rows a.toNat : Nat) : Int) = _
    refine congrArg (fun n : Nat => some (n : Int)) ?_
    unfold cntE
    rw [← List.countP_eq_length_filter, ← countP_up (fun r : Tx => decide (r[a.toNat]? = some 35)) [] rows w, hh]
    refine List.countP_congr fun b hb => ?_
    have hb := upFrom_mem.mp hb
    unfold ovB
    rw [if_pos (by omega)]
    have hs := sgn_or hc (j := b - w) (k := a) (by omega) (by omega) a0 c
    unfold sgn at hs ⊢
    cases q : (rows[(b - (w : Int)).toNat]?.getD [])[a.toNat]? with
    | none => rw [q] at hs; simp at hs
    | some c' => rw [decide_eq_true_eq]; simp
  · rw [if_neg c, List.getElem?_append_right (by simp; omega), List.getElem?_map]
    have hlt : a.toNat - ((List.range w).map fun e => (cntE rows e : Int)).length < rows.length := by simp; omega
    rw [List.getElem?_eq_getElem hlt]
    show some ((List.count 46 (rows[a.toNat - ((List.range w).map fun e => (cntE rows e : Int)).length]'hlt) : Nat) : Int) = _
    refine congrArg (fun n : Nat => some (n : Int)) ?_
    have hw := hc.ww _ (List.getElem_mem hlt)
    rw [List.count_eq_countP, ← countP_up (fun c : Nat => c == 46) 0 _ 0, hw]
    refine List.countP_congr fun b hb => ?_
    have hb := upFrom_mem.mp hb
    unfold ovB
    rw [if_neg (by omega), if_pos (by omega)]
    unfold sgn
    rw [show (a - (w : Int)).toNat = a.toNat - ((List.range w).map fun e => (cntE rows e : Int)).length by simp, List.getElem?_eq_getElem hlt]
    show _ ↔ (((rows[a.toNat - ((List.range w).map fun e => (cntE rows e : Int)).length])[b.toNat]?).getD 0 == 46) = true
    rw [Int.sub_zero]
theorem sortKey_perm (cs : List Int) (lo hi : Int) : (sortKey cs lo hi).Perm (upFrom lo (hi - lo).toNat) := List.mergeSort_perm _ _
/-- the ends, the picks, those that lie over more come first -/
def eL (rows : List Tx) (w : Nat) : List Int := sortKey (cntL rows w) 0 w
def pL (rows : List Tx) (w h : Nat) : List Int := sortKey (cntL rows w) w (w + h)
section
variable {rows : List Tx} {w h : Nat}
theorem eL_perm : (eL rows w).Perm (upFrom 0 w) := by have := sortKey_perm (cntL rows w) 0 w; rwa [show ((w : Int) - 0).toNat = w by omega] at this
theorem pL_perm : (pL rows w h).Perm (upFrom w h) := by have := sortKey_perm (cntL rows w) w (w + h); rwa [show ((w : Int) + h - w).toNat = h by omega] at this
theorem eL_len : (eL rows w).length = w := by rw [eL_perm.length_eq, upFrom_len]
theorem pL_len : (pL rows w h).length = h := by rw [pL_perm.length_eq, upFrom_len]
theorem eL_mem {a : Int} : a ∈ eL rows w ↔ 0 ≤ a ∧ a < w := by rw [eL_perm.mem_iff, upFrom_mem]; omega
theorem pL_mem {a : Int} : a ∈ pL rows w h ↔ (w : Int) ≤ a ∧ a < (w : Int) + h := by rw [pL_perm.mem_iff, upFrom_mem]
theorem cross (hc : Cloth rows w h) : ∀ a ∈ eL rows w, ∀ b ∈ pL rows w h, ovB rows w b a = !ovB rows w a b := fun a ha b hb => by
  have h1 := eL_mem.mp ha
  have h2 := pL_mem.mp hb
  exact ovB_not hc h1.1 h1.2 h2.1 h2.2
theorem scN_end {a : Int} (ha : a ∈ eL rows w) : scN rows w h a = (pL rows w h).countP (ovB rows w a) := by
  unfold scN
  rw [if_pos (eL_mem.mp ha).2, pL_perm.countP_eq]
theorem scN_pick {b : Int} (hb : b ∈ pL rows w h) : scN rows w h b = (eL rows w).countP (ovB rows w b) := by
  unfold scN
  rw [if_neg (by have := (pL_mem.mp hb).1; omega), eL_perm.countP_eq]
/-- the first s ends and the first t picks lie over all others -/
def Top (rows : List Tx) (w h : Nat) (s t : Nat) : Prop := ClosedL (ovB rows w) ((eL rows w).take s) ((eL rows w).drop s) ((pL rows w h).take t) ((pL rows w h).drop t)
/-- sets of ends and picks, by the sum of their counts -/
theorem set_iff (hc : Cloth rows w h) {S S' T T' : List Int} (he : (S ++ S').Perm (eL rows w)) (hp : (T ++ T').Perm (pL rows w h)) :
    (S.map (scN rows w h)).sum + (T.map (scN rows w h)).sum + S.length * T.length ≤ S.length * h + T.length * w ∧
    ((S.map (scN rows w h)).sum + (T.map (scN rows w h)).sum + S.length * T.length = S.length * h + T.length * w ↔ ClosedL (ovB rows w) S S' T T') := by
  have le := he.length_eq
  have lp := hp.length_eq
  rw [List.length_append, eL_len] at le
  rw [List.length_append, pL_len] at lp
  obtain ⟨k1, k2⟩ := closed_iff (ov := ovB rows w) (S := S) (S' := S') (T := T) (T' := T') fun a ha b hb => cross hc a (he.mem_iff.mp ha) b (hp.mem_iff.mp hb)
  have e1 : (S.map (scN rows w h)).sum = (S.map fun a => (T ++ T').countP (ovB rows w a)).sum := sum_map_congr fun a ha => by rw [scN_end (he.mem_iff.mp (List.mem_append_left _ ha)), hp.countP_eq]
  have e2 : (T.map (scN rows w h)).sum = (T.map fun b => (S ++ S').countP (ovB rows w b)).sum := sum_map_congr fun b hb => by rw [scN_pick (hp.mem_iff.mp (List.mem_append_left _ hb)), he.countP_eq]
  rw [e1, e2]
  have m1 : S.length * h = S.length * T.length + S.length * T'.length := by rw [← lp, Nat.mul_add]
  have m2 : T.length * w = S.length * T.length + T.length * S'.length := by rw [← le, Nat.mul_add, Nat.mul_comm T.length S.length]
  rw [m1, m2]
  refine ⟨by omega, ?_⟩
  rw [← k2]
  omega
theorem top_iff (hc : Cloth rows w h) {s t : Nat} (hs : s ≤ w) (ht : t ≤ h) : (((eL rows w).take s).map (scN rows w h)).sum + (((pL rows w h).take t).map (scN rows w h)).sum + s * t = s * h + t * w ↔ Top rows w h s t := by
  have k := (set_iff hc (S := (eL rows w).take s) (S' := (eL rows w).drop s) (T := (pL rows w h).take t) (T' := (pL rows w h).drop t) (by rw [List.take_append_drop]) (by rw [List.take_append_drop])).2
  rw [List.length_take, List.length_take, eL_len, pL_len, Nat.min_eq_left hs, Nat.min_eq_left ht] at k
  exact k
theorem top_zero : Top rows w h 0 0 := ⟨fun a ha => by simp at ha, fun b hb => by simp at hb⟩
theorem top_all : Top rows w h w h := ⟨fun a _ b hb => by rw [List.drop_of_length_le (by rw [pL_len]; exact Nat.le_refl _)] at hb; simp at hb, fun b _ a ha => by rw [List.drop_of_length_le (by rw [eL_len]; exact Nat.le_refl _)] at ha; simp at ha⟩
theorem eL_at {s : Nat} (hs : s < w) : ∃ a, (eL rows w)[s]? = some a := ⟨(eL rows w)[s]'(by rw [eL_len]; exact hs), List.getElem?_eq_getElem _⟩
theorem pL_at {t : Nat} (ht : t < h) : ∃ b, (pL rows w h)[t]? = some b := ⟨(pL rows w h)[t]'(by rw [pL_len]; exact ht), List.getElem?_eq_getElem _⟩
theorem mem_take_of {α : Type} {l : List α} {i n : Nat} {x : α} (h : l[i]? = some x) (hi : i < n) : x ∈ l.take n := List.mem_iff_getElem?.mpr ⟨i, by rw [List.getElem?_take_of_lt hi]; exact h⟩
theorem mem_drop_of {α : Type} {l : List α} {i n : Nat} {x : α} (h : l[i]? = some x) (hi : n ≤ i) : x ∈ l.drop n := List.mem_iff_getElem?.mpr ⟨i - n, by rw [List.getElem?_drop, show n + (i - n) = i by omega]; exact h⟩
theorem of_mem_take {α : Type} {l : List α} {n : Nat} {x : α} (h : x ∈ l.take n) : ∃ i, i < n ∧ l[i]? = some x := by
  obtain ⟨i, hi⟩ := List.mem_iff_getElem?.mp h
  by_cases q : i < n
  · rw [List.getElem?_take_of_lt q] at hi; exact ⟨i, q, hi⟩
  · rw [List.getElem?_take_eq_none (by omega)] at hi; cases hi
/-- two tops: one is in the other -/
theorem top_chain (hc : Cloth rows w h) {s t s' t' : Nat} (h1 : Top rows w h s t) (h2 : Top rows w h s' t') (hs : s < s') (hs' : s' ≤ w) (ht : t ≤ h) : t ≤ t' := by
  refine Nat.le_of_not_lt fun q => ?_
  obtain ⟨a, ha⟩ := eL_at (rows := rows) (w := w) (s := s) (by omega)
  obtain ⟨b, hb⟩ := pL_at (rows := rows) (w := w) (h := h) (t := t') (by omega)
  have g1 := h1.2 b (mem_take_of hb q) a (mem_drop_of ha (Nat.le_refl _))
  have g2 := h2.1 a (mem_take_of ha hs) b (mem_drop_of hb (Nat.le_refl _))
  rw [cross hc a (List.mem_of_getElem? ha) b (List.mem_of_getElem? hb), g2] at g1
  cases g1
end
def preI (l : List Int) : List Int := (List.range (l.length + 1)).map fun i => (l.take i).sum
theorem preI_len {l : List Int} : (preI l).length = l.length + 1 := by unfold preI; simp
theorem preI_snoc (l : List Int) (x : Int) : preI (l ++ [x]) = preI l ++ [l.sum + x] := by
  unfold preI
  rw [List.length_append, List.length_singleton, List.range_succ, List.map_append]
  congr 1
  · refine List.map_congr_left fun i hi => ?_
    rw [List.mem_range] at hi
    rw [List.take_append_of_le_length (by omega)]
  · rw [List.map_singleton, List.take_of_length_le (by simp), List.sum_append]; simp
theorem preI_last (l : List Int) : (preI l).getLast? = some l.sum := by
  unfold preI
  rw [List.range_succ, List.map_append, List.map_singleton, List.getLast?_concat, List.take_length]
theorem preI_at (l : List Int) {i : Nat} (h : i ≤ l.length) : (preI l)[i]? = some (l.take i).sum := by
  unfold preI
  rw [List.getElem?_map, List.getElem?_range (by omega)]; rfl
theorem runs_ok {cs line : List Int} (hl : line.length < 100000) (h : ∀ a ∈ line, 0 ≤ a ∧ a < cs.length) : f_running_sums cs line = .ok (preI (line.map fun a => cs[a.toNat]?.getD 0)) := by
  refine oke ?_
  unfold f_running_sums
  show Okm (M.bind (forM (f_running_sums_l1 cs) [0] line) _) _
  refine okb (ok_for (fun i (s : List Int) => s = preI ((line.take i).map fun a => cs[a.toNat]?.getD 0)) (by simp; rfl) fun i a s ha e => ?_) fun s e => okv (by rw [e, List.take_length])
  subst e
  have hlt := (List.getElem?_eq_some_iff.mp ha).1
  obtain ⟨h0, h1⟩ := h a (List.mem_of_getElem? ha)
  unfold f_running_sums_l1
  rw [getM_last (preI_last _)]
  refine okb (P := (· = ((line.take i).map fun a => cs[a.toNat]?.getD 0).sum + cs[a.toNat]?.getD 0)) ?_ fun y e => ?_
  · rw [M.bind_ok]
    refine okb (ok_get h0 h1) fun v hv => okv ?_
    rw [hv]; rfl
  · subst e
    refine okb (ok_push (by rw [preI_len, List.length_map, List.length_take]; omega)) fun s e => okv ?_
    rw [e, List.take_succ, ha, List.map_append, ← preI_snoc]
    rfl
/-- the condition that is asked -/
def TopC (rows : List Tx) (w h s t : Nat) : Prop := (((eL rows w).take s).map (scN rows w h)).sum + (((pL rows w h).take t).map (scN rows w h)).sum + s * t = s * h + t * w
instance {rows : List Tx} {w h s t : Nat} : Decidable (TopC rows w h s t) := by unfold TopC; infer_instance
abbrev P2 := Int × Int × Unit
def p2 (s t : Nat) : P2 := ((s : Int), (t : Int), ())
/-- a row of the tops -/
def tlRow (rows : List Tx) (w h : Nat) (s n : Nat) : List P2 := ((List.range n).filter fun t => decide (TopC rows w h s t)).map (p2 s)
/-- the tops -/
def tl (rows : List Tx) (w h : Nat) (m : Nat) : List P2 := (List.range m).flatMap fun s => tlRow rows w h s (h + 1)
def PE (rows : List Tx) (w h : Nat) : List Int := preI ((eL rows w).map fun a => (scN rows w h a : Int))
def PP (rows : List Tx) (w h : Nat) : List Int := preI ((pL rows w h).map fun a => (scN rows w h a : Int))
theorem sum_cast (f : Int → Nat) : ∀ l : List Int, (l.map fun a => (f a : Int)).sum = ((l.map f).sum : Nat)
  | [] => rfl
  | a :: r => by rw [List.map_cons, List.sum_cons, sum_cast f r, List.map_cons, List.sum_cons]; omega
section
variable {rows : List Tx} {w h : Nat}
theorem tlRow_len {s n : Nat} : (tlRow rows w h s n).length ≤ n := by
  unfold tlRow
  rw [List.length_map]
  exact Nat.le_trans (List.length_filter_le _ _) (by rw [List.length_range]; exact Nat.le_refl _)
theorem tl_succ {m : Nat} : tl rows w h (m + 1) = tl rows w h m ++ tlRow rows w h m (h + 1) := by
  unfold tl; rw [List.range_succ, List.flatMap_append]; simp
theorem tl_len : ∀ {m : Nat}, (tl rows w h m).length ≤ m * (h + 1)
  | 0 => by simp [tl]
  | m + 1 => by rw [tl_succ, List.length_append, Nat.succ_mul]; have := tl_len (m := m); have := tlRow_len (rows := rows) (w := w) (h := h) (s := m) (n := h + 1); omega
theorem tlRow_succ {s n : Nat} : tlRow rows w h s (n + 1) = tlRow rows w h s n ++ if TopC rows w h s n then [p2 s n] else [] := by
  unfold tlRow
  rw [List.range_succ, List.filter_append, List.map_append]
  congr 1
  by_cases c : TopC rows w h s n <;> simp [c]
theorem PE_at {s : Nat} (hs : s ≤ w) : getM (PE rows w h) (s : Int) = .ok ((((eL rows w).take s).map (scN rows w h)).sum : Nat) := by
  refine getM_nat ?_
  unfold PE
  rw [preI_at _ (by rw [List.length_map, eL_len]; exact hs), ← List.map_take, sum_cast]
theorem PP_at {t : Nat} (ht : t ≤ h) : getM (PP rows w h) (t : Int) = .ok ((((pL rows w h).take t).map (scN rows w h)).sum : Nat) := by
  refine getM_nat ?_
  unfold PP
  rw [preI_at _ (by rw [List.length_map, pL_len]; exact ht), ← List.map_take, sum_cast]
theorem topC_int {s t : Nat} : TopC rows w h s t ↔ ((((eL rows w).take s).map (scN rows w h)).sum : Nat) + ((((pL rows w h).take t).map (scN rows w h)).sum : Nat) = (s : Int) * (h : Int) + (t : Int) * (w : Int) - (s : Int) * (t : Int) := by
  unfold TopC
  constructor
  · intro e
    have : ((((((eL rows w).take s).map (scN rows w h)).sum + (((pL rows w h).take t).map (scN rows w h)).sum + s * t : Nat)) : Int) = ((s * h + t * w : Nat) : Int) := by rw [e]
    push_cast at this
    omega
  · intro e
    have : ((((((eL rows w).take s).map (scN rows w h)).sum + (((pL rows w h).take t).map (scN rows w h)).sum + s * t : Nat)) : Int) = ((s * h + t * w : Nat) : Int) := by
      push_cast
      omega
    exact Int.ofNat.inj this
/-- two nested loops that gather the tops -/
theorem tops_loop {f2 : List P2 → Int → M (List P2)} {f1 : Int → List P2 → Int → M (List P2)} (hw : w ≤ 40) (hh : h ≤ 40)
    (e2 : ∀ s k, f2 s k = M.bind (rangeM 0 ((h : Int) + 1)) fun xs => M.bind (forM (f1 k) s xs) fun s => M.ok s)
    (e1 : ∀ (s t : Nat), s ≤ w → t ≤ h → ∀ acc : List P2, acc.length < 10000 → f1 (s : Int) acc (t : Int) = .ok (if TopC rows w h s t then acc ++ [p2 s t] else acc)) :
    forM f2 [] (upFrom 0 (w + 1)) = .ok (tl rows w h (w + 1)) := by
  refine oke (ok_forR (fun i (s : List P2) => s = tl rows w h i) rfl fun i s hi e => ?_)
  subst e
  rw [e2]
  refine okb (ok_range) fun xs e => ?_
  subst e
  rw [show ((h : Int) + 1 - 0).toNat = h + 1 by omega]
  refine okb (ok_forR (fun j (s : List P2) => s = tl rows w h i ++ tlRow rows w h i j) (by simp [tlRow]) fun j s hj e => ?_) fun s e => okv (by rw [e, ← tl_succ])
  subst e
  rw [Int.zero_add, Int.zero_add, e1 i j (by omega) (by omega) _ ?_]
  · refine okv ?_
    rw [tlRow_succ]
    by_cases c : TopC rows w h i j <;> simp [c]
  · rw [List.length_append]
    have h1 := tl_len (rows := rows) (w := w) (h := h) (m := i)
    have h2 := tlRow_len (rows := rows) (w := w) (h := h) (s := i) (n := j)
    have h3 : i * (h + 1) ≤ 40 * (40 + 1) := Nat.mul_le_mul (by omega) (by omega)
    omega
theorem natAbs_lt {n : Nat} (h : n ≤ 40) : ((n : Int)).natAbs < 2 ^ 64 := by
  have : n < 2 ^ 64 := by omega
  simpa using this
theorem tops_ok (hc : Cloth rows w h) : f_tops_of rows = .ok (tl rows w h (w + 1)) := by
  have hw2 := hc.w2
  have hh2 := hc.h2
  have hcl := cntL_len hc
  unfold f_tops_of
  rw [measured_ok hc, M.bind_ok, show f_scores_of rows = .ok (cntL rows w) from scores_ok hc, M.bind_ok]
  show (M.bind (M.bind (sortKeyM (cntL rows w) 0 (w : Int)) _) _) = _
  have s1 : sortKeyM (cntL rows w) 0 (w : Int) = .ok (eL rows w) := if_pos ⟨by omega, by omega, by omega, by omega, by omega⟩
  have s2 : sortKeyM (cntL rows w) (w : Int) ((w : Int) + (h : Int)) = .ok (pL rows w h) := if_pos ⟨by omega, by omega, by omega, by omega, by omega⟩
  rw [s1, M.bind_ok, runs_ok (by rw [eL_len]; omega) fun a ha => by have := eL_mem.mp ha; omega, M.bind_ok]
  show (M.bind (M.bind (sortKeyM (cntL rows w) (w : Int) ((w : Int) + (h : Int))) _) _) = _
  rw [s2, M.bind_ok, runs_ok (by rw [pL_len]; omega) fun a ha => by have := pL_mem.mp ha; omega, M.bind_ok]
  have p1 : (eL rows w).map (fun a => (cntL rows w)[a.toNat]?.getD 0) = (eL rows w).map fun a => (scN rows w h a : Int) := List.map_congr_left fun a ha => by
    have := eL_mem.mp ha
    rw [cntL_at hc this.1 (by omega)]; rfl
  have p2' : (pL rows w h).map (fun a => (cntL rows w)[a.toNat]?.getD 0) = (pL rows w h).map fun a => (scN rows w h a : Int) := List.map_congr_left fun a ha => by
    have := pL_mem.mp ha
    rw [cntL_at hc (by omega) this.2]; rfl
  rw [p1, p2']
  show M.bind (rangeM 0 ((w : Int) + 1)) _ = _
  rw [range_eq, M.bind_ok, show ((w : Int) + 1 - 0).toNat = w + 1 by omega]
  show M.bind (forM (f_tops_of_l2 ((w : Int), (h : Int), ()) (PE rows w h) (PP rows w h)) [] _) _ = _
  rw [tops_loop (f2 := f_tops_of_l2 ((w : Int), (h : Int), ()) (PE rows w h) (PP rows w h)) (f1 := f_tops_of_l1 ((w : Int), (h : Int), ()) (PE rows w h) (PP rows w h)) hw2 hh2 (fun s k => rfl) fun s t hs ht acc ha => ?_]
  · rfl
  · refine oke ?_
    unfold f_tops_of_l1
    refine okb (P := (· = decide (TopC rows w h s t))) ?_ fun c e => ?_
    · rw [PE_at hs, PP_at ht]
      refine okb (P := (· = (((((eL rows w).take s).map (scN rows w h)).sum : Nat) : Int) + ((((pL rows w h).take t).map (scN rows w h)).sum : Nat))) (okv rfl) fun y e => ?_
      subst e
      refine okb (P := (· = (s : Int) * (h : Int) + (t : Int) * (w : Int) - (s : Int) * (t : Int))) ?_ fun y e => okv ?_
      · refine okb (okb (ok_mul 64 64 (natAbs_lt (by omega)) (natAbs_lt (by omega))) fun a e1 => okb (P := (· = (t : Int) * (w : Int))) (ok_mul 64 64 (natAbs_lt (by omega)) (natAbs_lt (by omega))) fun b e2 => okv (P := (· = (s : Int) * (h : Int) + (t : Int) * (w : Int))) ?_) fun y e => okb (ok_mul 64 64 (natAbs_lt (by omega)) (natAbs_lt (by omega))) fun b e2 => okv ?_
        · rw [e1, e2]
        · rw [e, e2]
      · subst e
        rw [decide_eq_decide]
        exact topC_int.symm
    · subst e
      by_cases c : TopC rows w h s t
      · simp only [c, decide_true, if_true]
        refine okb (ok_push (by omega)) fun s e => okv ?_
        rw [e]; rfl
      · simp only [c, decide_false, Bool.false_eq_true, if_false]
        exact okv rfl
def Lex (p q : P2) : Prop := p.1 < q.1 ∨ (p.1 = q.1 ∧ p.2.1 < q.2.1)
theorem mem_tl (hc : Cloth rows w h) {x : P2} : x ∈ tl rows w h (w + 1) ↔ ∃ s t, s ≤ w ∧ t ≤ h ∧ x = p2 s t ∧ Top rows w h s t := by
  unfold tl tlRow
  simp only [List.mem_flatMap, List.mem_range, List.mem_map, List.mem_filter, decide_eq_true_eq]
  constructor
  · rintro ⟨s, hs, t, ⟨ht, hT⟩, rfl⟩
    exact ⟨s, t, by omega, by omega, rfl, (top_iff hc (by omega) (by omega)).mp hT⟩
  · rintro ⟨s, t, hs, ht, rfl, hT⟩
    exact ⟨s, by omega, t, ⟨by omega, (top_iff hc hs ht).mpr hT⟩, rfl⟩
theorem tl_sorted : ∀ m, (tl rows w h m).Pairwise Lex ∧ ∀ x ∈ tl rows w h m, x.1 < (m : Int)
  | 0 => ⟨by simp [tl], by simp [tl]⟩
  | m + 1 => by
    obtain ⟨i1, i2⟩ := tl_sorted m
    have r1 : ∀ n, (tlRow rows w h m n).Pairwise Lex ∧ ∀ x ∈ tlRow rows w h m n, x.1 = (m : Int) ∧ x.2.1 < (n : Int) := fun n => by
      induction n with
      | zero => exact ⟨by simp [tlRow], by simp [tlRow]⟩
      | succ n ih =>
        rw [tlRow_succ]
        by_cases c : TopC rows w h m n
        · rw [if_pos c]
          refine ⟨List.pairwise_append.mpr ⟨ih.1, List.pairwise_singleton _ _, fun a ha b hb => ?_⟩, fun x hx => ?_⟩
          · rw [List.mem_singleton.mp hb]
            have := ih.2 a ha
            exact .inr ⟨this.1, this.2⟩
          · rcases List.mem_append.mp hx with hx | hx
            · have := ih.2 x hx; exact ⟨this.1, by omega⟩
            · rw [List.mem_singleton.mp hx]; exact ⟨rfl, by show (n : Int) < ((n + 1 : Nat) : Int); omega⟩
        · rw [if_neg c, List.append_nil]
          exact ⟨ih.1, fun x hx => by have := ih.2 x hx; exact ⟨this.1, by omega⟩⟩
    rw [tl_succ]
    refine ⟨List.pairwise_append.mpr ⟨i1, (r1 _).1, fun a ha b hb => .inl ?_⟩, fun x hx => ?_⟩
    · have := i2 a ha
      have := ((r1 _).2 b hb).1
      omega
    · rcases List.mem_append.mp hx with hx | hx
      · have := i2 x hx; omega
      · have := ((r1 _).2 x hx).1; omega
theorem tl_lt {i j : Nat} {p q : P2} (hij : i < j) (hp : (tl rows w h (w + 1))[i]? = some p) (hq : (tl rows w h (w + 1))[j]? = some q) : Lex p q := by
  obtain ⟨l1, rfl⟩ := List.getElem?_eq_some_iff.mp hp
  obtain ⟨l2, rfl⟩ := List.getElem?_eq_some_iff.mp hq
  exact List.pairwise_iff_getElem.mp (tl_sorted (w + 1)).1 i j l1 l2 hij
/-- the first top, the last top -/
theorem tl_first (hc : Cloth rows w h) : (tl rows w h (w + 1))[0]? = some (p2 0 0) := by
  have hm : p2 0 0 ∈ tl rows w h (w + 1) := (mem_tl hc).mpr ⟨0, 0, Nat.zero_le _, Nat.zero_le _, rfl, top_zero⟩
  obtain ⟨i, hi⟩ := List.mem_iff_getElem?.mp hm
  by_cases c : i = 0
  · rw [c] at hi; exact hi
  · have hl := (List.getElem?_eq_some_iff.mp hi).1
    have h0 : (tl rows w h (w + 1))[0]? = some (tl rows w h (w + 1))[0] := List.getElem?_eq_getElem (by omega)
    have lx := tl_lt (by omega) h0 hi
    obtain ⟨s, t, hs, ht, e, _⟩ := (mem_tl hc).mp (List.mem_of_getElem? h0)
    rw [e] at lx
    unfold Lex p2 at lx
    simp only at lx
    omega
theorem tl_last (hc : Cloth rows w h) : (tl rows w h (w + 1)).getLast? = some (p2 w h) := by
  have hm : p2 w h ∈ tl rows w h (w + 1) := (mem_tl hc).mpr ⟨w, h, Nat.le_refl _, Nat.le_refl _, rfl, top_all⟩
  obtain ⟨i, hi⟩ := List.mem_iff_getElem?.mp hm
  have hl := (List.getElem?_eq_some_iff.mp hi).1
  rw [List.getLast?_eq_getElem?]
  by_cases c : i = (tl rows w h (w + 1)).length - 1
  · rw [← c]; exact hi
  · have h0 : (tl rows w h (w + 1))[(tl rows w h (w + 1)).length - 1]? = some (tl rows w h (w + 1))[(tl rows w h (w + 1)).length - 1] := List.getElem?_eq_getElem (by omega)
    have lx := tl_lt (by omega) hi h0
    obtain ⟨s, t, hs, ht, e, _⟩ := (mem_tl hc).mp (List.mem_of_getElem? h0)
    rw [e] at lx
    unfold Lex p2 at lx
    simp only at lx
    omega
theorem tl_two (hc : Cloth rows w h) : 2 ≤ (tl rows w h (w + 1)).length := by
  have hw := hc.w1
  have h1 := tl_first hc
  have h2 := tl_last hc
  have hl := (List.getElem?_eq_some_iff.mp h1).1
  rw [List.getLast?_eq_getElem?] at h2
  by_cases c : (tl rows w h (w + 1)).length = 1
  · rw [c] at h2
    rw [h1] at h2
    have := congrArg (fun o => o.map fun x : P2 => x.1) h2
    simp [p2] at this
    omega
  · omega
/-- two tops that follow each other -/
theorem tl_next (hc : Cloth rows w h) {k : Nat} {p q : P2} (hp : (tl rows w h (w + 1))[k]? = some p) (hq : (tl rows w h (w + 1))[k + 1]? = some q) :
    ∃ s t s' t', p = p2 s t ∧ q = p2 s' t' ∧ s ≤ s' ∧ t ≤ t' ∧ s' ≤ w ∧ t' ≤ h ∧ Top rows w h s t ∧ Top rows w h s' t' ∧ ¬ (s' = s ∧ t' = t) ∧
      (∀ x y, s ≤ x → x ≤ s' → t ≤ y → y ≤ t' → Top rows w h x y → (x = s ∧ y = t) ∨ (x = s' ∧ y = t')) := by
  obtain ⟨s, t, hs, ht, rfl, hT⟩ := (mem_tl hc).mp (List.mem_of_getElem? hp)
  obtain ⟨s', t', hs', ht', rfl, hT'⟩ := (mem_tl hc).mp (List.mem_of_getElem? hq)
  have lx := tl_lt (Nat.lt_succ_self k) hp hq
  unfold Lex p2 at lx
  simp only at lx
  have hle : s ≤ s' := by omega
  have hlt : t ≤ t' := by
    by_cases c : s < s'
    · exact top_chain hc hT hT' c hs' ht
    · omega
  refine ⟨s, t, s', t', rfl, rfl, hle, hlt, hs', ht', hT, hT', by omega, fun x y x0 x1 y0 y1 hxy => ?_⟩
  obtain ⟨m, hm⟩ := List.mem_iff_getElem?.mp ((mem_tl hc).mpr ⟨x, y, by omega, by omega, rfl, hxy⟩)
  by_cases c1 : m < k
  · have := tl_lt c1 hm hp
    unfold Lex p2 at this
    simp only at this
    omega
  · by_cases c2 : k + 1 < m
    · have := tl_lt c2 hq hm
      unfold Lex p2 at this
      simp only at this
      omega
    · by_cases c3 : m = k
      · rw [c3, hp] at hm
        have := Option.some.inj hm
        unfold p2 at this
        simp only [Prod.mk.injEq] at this
        left; omega
      · rw [show m = k + 1 by omega, hq] at hm
        have := Option.some.inj hm
        unfold p2 at this
        simp only [Prod.mk.injEq] at this
        right; omega
end
theorem sortI_perm (l : List Int) : (sortI l).Perm l := List.mergeSort_perm _ _
theorem sortI_sorted (l : List Int) : (sortI l).Pairwise (· ≤ ·) := by
  refine (List.pairwise_mergeSort (le := fun a b => decide (a ≤ b)) (fun a b c h1 h2 => ?_) (fun a b => ?_) l).imp fun h => by simpa using h
  · simp only [decide_eq_true_eq] at *; omega
  · simp only [Bool.or_eq_true, decide_eq_true_eq]; omega
theorem sortI_strict {l : List Int} (h : l.Nodup) : (sortI l).Pairwise (· < ·) := by
  have h1 := sortI_sorted l
  have h2 : (sortI l).Nodup := (sortI_perm l).nodup_iff.mpr h
  exact (List.Pairwise.and h1 h2).imp fun {a b} ⟨x, y⟩ => by omega
theorem upFrom_nodup {lo : Int} {n : Nat} : (upFrom lo n).Nodup := by
  induction n generalizing lo with
  | zero => exact List.nodup_nil
  | succ n ih =>
    rw [upFrom]
    refine List.nodup_cons.mpr ⟨fun h => ?_, ih⟩
    have := upFrom_mem.mp h
    omega
structure Part (n : Nat) (LY : List (List Int)) : Prop where
  perm : LY.flatten.Perm (upFrom 0 n)
  ne : ∀ l ∈ LY, l ≠ []
  up : ∀ l ∈ LY, l.Pairwise (· < ·)
section
variable {n : Nat} {LY : List (List Int)}
theorem Part.mem (P : Part n LY) {x : Int} : (∃ l ∈ LY, x ∈ l) ↔ 0 ≤ x ∧ x < n := by
  rw [← List.mem_flatten, P.perm.mem_iff, upFrom_mem]; omega
theorem Part.nodup (P : Part n LY) : LY.flatten.Nodup := P.perm.nodup_iff.mpr upFrom_nodup
theorem flat_len_ne : ∀ {LY : List (List Int)}, (∀ l ∈ LY, l ≠ []) → LY.length ≤ LY.flatten.length
  | [], _ => by simp
  | l :: r, h => by
    have := flat_len_ne fun x hx => h x (List.mem_cons_of_mem _ hx)
    have := List.length_pos_iff.mpr (h l List.mem_cons_self)
    rw [List.length_cons, List.flatten_cons, List.length_append]; omega
theorem Part.len (P : Part n LY) : LY.length ≤ n := by
  have := flat_len_ne P.ne
  rw [P.perm.length_eq, upFrom_len] at this
  exact this
/-- the layer of a strand -/
def pk (LY : List (List Int)) (x : Int) : Nat := LY.findIdx fun l => decide (x ∈ l)
theorem Part.pk_eq (P : Part n LY) {k : Nat} {l : List Int} {x : Int} (hl : LY[k]? = some l) (hx : x ∈ l) : pk LY x = k := by
  obtain ⟨hk, e⟩ := List.getElem?_eq_some_iff.mp hl
  have h1 : pk LY x < LY.length := List.findIdx_lt_length_of_exists ⟨l, List.mem_of_getElem? hl, by simpa using hx⟩
  have h2 : decide (x ∈ LY[pk LY x]) = true := List.findIdx_getElem (w := h1)
  rw [decide_eq_true_eq] at h2
  have hd := (List.pairwise_flatten.mp P.nodup).2
  rcases Nat.lt_trichotomy (pk LY x) k with c | c | c
  · exact absurd rfl (List.pairwise_iff_getElem.mp hd _ _ h1 hk c x h2 x (e ▸ hx))
  · exact c
  · exact absurd rfl (List.pairwise_iff_getElem.mp hd _ _ hk h1 c x (e ▸ hx) x h2)
theorem Part.pk_get (P : Part n LY) {x : Int} (h0 : 0 ≤ x) (h1 : x < n) : ∃ l, LY[pk LY x]? = some l ∧ x ∈ l := by
  obtain ⟨l, hl, hx⟩ := P.mem.mpr ⟨h0, h1⟩
  obtain ⟨k, hk⟩ := List.mem_iff_getElem?.mp hl
  exact ⟨l, by rw [P.pk_eq hk hx]; exact hk, hx⟩
/-- a list of numbers, one for each strand -/
def vec (n : Nat) (f : Int → Int) : List Int := (upFrom 0 n).map f
theorem vec_len {f : Int → Int} : (vec n f).length = n := by unfold vec; rw [List.length_map, upFrom_len]
theorem vec_at {f : Int → Int} {x : Int} (h0 : 0 ≤ x) (h1 : x < n) : (vec n f)[x.toNat]? = some (f x) := by
  unfold vec
  rw [List.getElem?_map, upFrom_get, if_pos (by omega), show (0 : Int) + (x.toNat : Int) = x by omega]; rfl
theorem vec_get {f : Int → Int} {x : Int} (h0 : 0 ≤ x) (h1 : x < n) : getM (vec n f) x = .ok (f x) := getM_at h0 (vec_at h0 h1)
theorem vec_ext {f g : Int → Int} (h : ∀ x : Int, 0 ≤ x → x < n → f x = g x) : vec n f = vec n g := List.map_congr_left fun x hx => by
  have := upFrom_mem.mp hx
  exact h x (by omega) (by omega)
theorem vec_set {f g : Int → Int} {x v : Int} (h0 : 0 ≤ x) (h1 : x < n) (hv : g x = v) (hg : ∀ y, y ≠ x → g y = f y) : setM (vec n f) x v = .ok (vec n g) := by
  refine oke (okmono (ok_set h0 (by rw [vec_len]; exact h1)) fun s e => ?_)
  rw [e]
  refine List.ext_getElem? fun i => ?_
  rw [List.getElem?_set, vec_len]
  by_cases c : i < n
  · have e1 := vec_at (n := n) (f := g) (x := (i : Int)) (by omega) (by omega)
    rw [Int.toNat_natCast] at e1
    rw [e1]
    by_cases d : x.toNat = i
    · rw [if_pos d, if_pos (by omega), ← hv, show x = (i : Int) by omega]
    · rw [if_neg d]
      have e2 := vec_at (n := n) (f := f) (x := (i : Int)) (by omega) (by omega)
      rw [Int.toNat_natCast] at e2
      rw [e2, hg i (by omega)]
  · have e1 : (vec n g)[i]? = none := List.getElem?_eq_none (by rw [vec_len]; omega)
    have e2 : (vec n f)[i]? = none := List.getElem?_eq_none (by rw [vec_len]; omega)
    rw [e1, e2]
    by_cases d : x.toNat = i
    · omega
    · rw [if_neg d]
theorem vec_const {v : Int} : vec n (fun _ => v) = List.replicate n v := by
  unfold vec
  rw [List.eq_replicate_iff]
  exact ⟨by rw [List.length_map, upFrom_len], fun b hb => by obtain ⟨_, _, rfl⟩ := List.mem_map.mp hb; rfl⟩
/-- the numbers of the layers, as they are written in -/
def plc (LY : List (List Int)) (seen : List Int) (x : Int) : Int := if x ∈ seen then (pk LY x : Int) else 0
theorem plc_set {seen : List Int} {x : Int} {k : Nat} (h0 : 0 ≤ x) (h1 : x < n) (hk : pk LY x = k) : setM (vec n (plc LY seen)) x (k : Int) = .ok (vec n (plc LY (seen ++ [x]))) := by
  refine vec_set h0 h1 ?_ fun y hy => ?_
  · unfold plc; rw [if_pos (by simp), hk]
  · unfold plc
    by_cases c : y ∈ seen
    · rw [if_pos c, if_pos (List.mem_append_left _ c)]
    · rw [if_neg c, if_neg fun h => (List.mem_append.mp h).elim c fun h => hy (List.mem_singleton.mp h)]
theorem flat_tk {k : Nat} {l : List Int} (hl : LY[k]? = some l) : (LY.take (k + 1)).flatten = (LY.take k).flatten ++ l := by
  rw [List.take_succ, hl, List.flatten_append]; simp
theorem Part.bnd (P : Part n LY) {k : Nat} {l : List Int} {x : Int} (hl : LY[k]? = some l) (hx : x ∈ l) : 0 ≤ x ∧ x < n := P.mem.mp ⟨l, List.mem_of_getElem? hl, hx⟩
theorem plc_row (P : Part n LY) {k : Nat} {l : List Int} (hl : LY[k]? = some l) {f : List Int → Int → M (List Int)} (hf : ∀ s x, f s x = M.bind (setM s x (k : Int)) fun s => M.ok s) : forM f (vec n (plc LY (LY.take k).flatten)) l = .ok (vec n (plc LY (LY.take (k + 1)).flatten)) := by
  rw [flat_tk hl]
  refine oke (okmono (ok_for (fun i (s : List Int) => s = vec n (plc LY ((LY.take k).flatten ++ l.take i))) (by simp) fun i x s hx e => ?_) fun s e => by rw [e, List.take_length])
  subst e
  obtain ⟨b0, b1⟩ := P.bnd hl (List.mem_of_getElem? hx)
  rw [hf, plc_set b0 b1 (P.pk_eq hl (List.mem_of_getElem? hx))]
  refine okv ?_
  rw [List.append_assoc, List.take_succ, hx]; rfl
theorem plc_all (P : Part n LY) : vec n (plc LY LY.flatten) = vec n fun x => (pk LY x : Int) := vec_ext fun x h0 h1 => by
  unfold plc
  rw [if_pos]
  exact P.perm.mem_iff.mpr (upFrom_mem.mpr (by omega))
theorem plc_none : vec n (plc LY []) = List.replicate n 0 := by
  rw [← vec_const]
  exact vec_ext fun x _ _ => by unfold plc; rw [if_neg (by simp)]
theorem enumL_len {α : Type} {xs : List α} : (enumL xs).length = xs.length := by unfold enumL; rw [List.length_mapIdx]
theorem enumL_at {α : Type} {xs : List α} {k : Nat} {x : Int × α × Unit} (h : (enumL xs)[k]? = some x) : ∃ l, xs[k]? = some l ∧ x = ((k : Int), l, ()) := by
  unfold enumL at h
  rw [List.getElem?_mapIdx] at h
  obtain ⟨l, hl, e⟩ := Option.map_eq_some_iff.mp h
  exact ⟨l, hl, e.symm⟩
end
def seg (l : List Int) (a b : Nat) : List Int := (l.drop a).take (b - a)
theorem mem_seg {l : List Int} {a b : Nat} {x : Int} : x ∈ seg l a b ↔ ∃ i, a ≤ i ∧ i < b ∧ l[i]? = some x := by
  unfold seg
  constructor
  · intro h
    obtain ⟨i, hi, e⟩ := of_mem_take h
    rw [List.getElem?_drop] at e
    exact ⟨a + i, by omega, by omega, e⟩
  · rintro ⟨i, h1, h2, e⟩
    exact mem_take_of (i := i - a) (by rw [List.getElem?_drop, show a + (i - a) = i by omega]; exact e) (by omega)
theorem seg_len {l : List Int} {a b : Nat} (h1 : a ≤ b) (h2 : b ≤ l.length) : (seg l a b).length = b - a := by
  unfold seg; rw [List.length_take, List.length_drop]; omega
theorem take_seg {l : List Int} {a b : Nat} (h : a ≤ b) : l.take b = l.take a ++ seg l a b := by
  unfold seg
  rw [← List.take_append_drop a (l.take b), List.take_take, Nat.min_eq_left h, List.drop_take]
def lyOf (rows : List Tx) (w h : Nat) (p q : P2) : List Int := sortI (seg (eL rows w) p.1.toNat q.1.toNat ++ seg (pL rows w h) p.2.1.toNat q.2.1.toNat)
def lyGo (rows : List Tx) (w h : Nat) : P2 → List P2 → List (List Int)
  | _, [] => []
  | p, q :: r => lyOf rows w h p q :: lyGo rows w h q r
/-- the layers -/
def lays (rows : List Tx) (w h : Nat) : List (List Int) := lyGo rows w h (p2 0 0) (tl rows w h (w + 1)).tail
section
variable {rows : List Tx} {w h : Nat}
theorem lyGo_len : ∀ {l : List P2} {p : P2}, (lyGo rows w h p l).length = l.length
  | [], _ => rfl
  | q :: r, _ => by rw [lyGo, List.length_cons, List.length_cons, lyGo_len]
theorem lyGo_at : ∀ {l : List P2} {p : P2} {k : Nat}, (lyGo rows w h p l)[k]? = ((p :: l)[k]?).bind fun a => ((p :: l)[k + 1]?).map fun b => lyOf rows w h a b
  | [], p, k => by rw [lyGo, List.getElem?_cons_succ]; cases k <;> simp
  | q :: r, p, 0 => by simp [lyGo]
  | q :: r, p, k + 1 => by rw [lyGo, List.getElem?_cons_succ, lyGo_at]; simp only [List.getElem?_cons_succ]
theorem tl_cons (hc : Cloth rows w h) : p2 0 0 :: (tl rows w h (w + 1)).tail = tl rows w h (w + 1) := by
  have := tl_first hc
  cases e : tl rows w h (w + 1) with
  | nil => rw [e] at this; cases this
  | cons a r => rw [e] at this; cases this; rfl
theorem lays_len (hc : Cloth rows w h) : (lays rows w h).length + 1 = (tl rows w h (w + 1)).length := by
  unfold lays; rw [lyGo_len, List.length_tail]; have := tl_two hc; omega
theorem lays_at (hc : Cloth rows w h) {k : Nat} : (lays rows w h)[k]? = ((tl rows w h (w + 1))[k]?).bind fun a => ((tl rows w h (w + 1))[k + 1]?).map fun b => lyOf rows w h a b := by
  unfold lays; rw [lyGo_at, tl_cons hc]
structure LaySpec (rows : List Tx) (w h k : Nat) (l : List Int) (s t s' t' : Nat) : Prop where
  at1 : (tl rows w h (w + 1))[k]? = some (p2 s t)
  at2 : (tl rows w h (w + 1))[k + 1]? = some (p2 s' t')
  s1 : s ≤ s'
  t1 : t ≤ t'
  s2 : s' ≤ w
  t2 : t' ≤ h
  T1 : Top rows w h s t
  T2 : Top rows w h s' t'
  ne : ¬ (s' = s ∧ t' = t)
  no : ∀ x y, s ≤ x → x ≤ s' → t ≤ y → y ≤ t' → Top rows w h x y → (x = s ∧ y = t) ∨ (x = s' ∧ y = t')
  eq : l = sortI (seg (eL rows w) s s' ++ seg (pL rows w h) t t')
theorem lay_spec (hc : Cloth rows w h) {k : Nat} {l : List Int} (hl : (lays rows w h)[k]? = some l) : ∃ s t s' t', LaySpec rows w h k l s t s' t' := by
  rw [lays_at hc] at hl
  obtain ⟨p, hp, hl⟩ := Option.bind_eq_some_iff.mp hl
  obtain ⟨q, hq, hl⟩ := Option.map_eq_some_iff.mp hl
  obtain ⟨s, t, s', t', rfl, rfl, a1, a2, a3, a4, a5, a6, a7, a8⟩ := tl_next hc hp hq
  exact ⟨s, t, s', t', hp, hq, a1, a2, a3, a4, a5, a6, a7, a8, hl.symm⟩
variable {k : Nat} {l : List Int} {s t s' t' : Nat}
theorem LaySpec.mem (S : LaySpec rows w h k l s t s' t') {x : Int} : x ∈ l ↔ (∃ i, s ≤ i ∧ i < s' ∧ (eL rows w)[i]? = some x) ∨ (∃ j, t ≤ j ∧ j < t' ∧ (pL rows w h)[j]? = some x) := by
  rw [S.eq, (sortI_perm _).mem_iff, List.mem_append, mem_seg, mem_seg]
theorem LaySpec.len (S : LaySpec rows w h k l s t s' t') : l.length = (s' - s) + (t' - t) := by
  have := S.s1; have := S.t1; have := S.s2; have := S.t2
  rw [S.eq, (sortI_perm _).length_eq, List.length_append, seg_len S.s1 (by rw [eL_len]; exact S.s2), seg_len S.t1 (by rw [pL_len]; exact S.t2)]
theorem eL_nodup : (eL rows w).Nodup := eL_perm.nodup_iff.mpr upFrom_nodup
theorem pL_nodup : (pL rows w h).Nodup := pL_perm.nodup_iff.mpr upFrom_nodup
theorem seg_sub {l : List Int} {a b : Nat} : (seg l a b).Sublist l := (List.take_sublist _ _).trans (List.drop_sublist _ _)
theorem lays_flat (hc : Cloth rows w h) : ∀ k, k ≤ (lays rows w h).length → ∃ s t, (tl rows w h (w + 1))[k]? = some (p2 s t) ∧ (((lays rows w h).take k).flatten).Perm ((eL rows w).take s ++ (pL rows w h).take t)
  | 0, _ => ⟨0, 0, tl_first hc, by simp⟩
  | k + 1, hk => by
    obtain ⟨s, t, h1, h2⟩ := lays_flat hc k (by omega)
    obtain ⟨l, hl⟩ : ∃ l, (lays rows w h)[k]? = some l := ⟨_, List.getElem?_eq_getElem (by omega)⟩
    obtain ⟨a, b, s', t', S⟩ := lay_spec hc hl
    have e : p2 a b = p2 s t := Option.some.inj (S.at1.symm.trans h1)
    unfold p2 at e
    simp only [Prod.mk.injEq] at e
    have ea : a = s := by omega
    have eb : b = t := by omega
    subst ea; subst eb
    refine ⟨s', t', S.at2, ?_⟩
    rw [flat_tk hl, take_seg S.s1, take_seg S.t1, S.eq]
    refine (List.Perm.append h2 (sortI_perm _)).trans ?_
    rw [List.append_assoc, List.append_assoc]
    refine List.Perm.append_left _ ?_
    rw [← List.append_assoc, ← List.append_assoc]
    exact List.Perm.append_right _ List.perm_append_comm
theorem lays_part (hc : Cloth rows w h) : Part (w + h) (lays rows w h) := by
  refine ⟨?_, fun l hl => ?_, fun l hl => ?_⟩
  · obtain ⟨s, t, h1, h2⟩ := lays_flat hc _ (Nat.le_refl _)
    rw [List.take_length] at h2
    have hlast := tl_last hc
    rw [List.getLast?_eq_getElem?, ← lays_len hc, Nat.add_sub_cancel, h1] at hlast
    have e := Option.some.inj hlast
    unfold p2 at e
    simp only [Prod.mk.injEq] at e
    have es : s = w := by omega
    have et : t = h := by omega
    rw [es, et, List.take_of_length_le (by rw [eL_len]; exact Nat.le_refl _), List.take_of_length_le (by rw [pL_len]; exact Nat.le_refl _)] at h2
    refine h2.trans ((List.Perm.append eL_perm pL_perm).trans ?_)
    rw [show upFrom 0 (w + h) = upFrom 0 w ++ upFrom w h from ?_]
    refine List.ext_getElem? fun i => ?_
    rw [upFrom_get]
    by_cases c : i < w
    · rw [List.getElem?_append_left (by rw [upFrom_len]; exact c), upFrom_get, if_pos c, if_pos (by omega)]
    · rw [List.getElem?_append_right (by rw [upFrom_len]; omega), upFrom_get, upFrom_len]
      by_cases d : i < w + h
      · rw [if_pos d, if_pos (by omega)]; congr 1; omega
      · rw [if_neg d, if_neg (by omega)]
  · obtain ⟨k, hk⟩ := List.mem_iff_getElem?.mp hl
    obtain ⟨s, t, s', t', S⟩ := lay_spec hc hk
    have a1 := S.len
    have a2 := S.ne
    have a3 := S.s1
    have a4 := S.t1
    intro e
    rw [e, List.length_nil] at a1
    omega
  · obtain ⟨k, hk⟩ := List.mem_iff_getElem?.mp hl
    obtain ⟨s, t, s', t', S⟩ := lay_spec hc hk
    rw [S.eq]
    refine sortI_strict (List.nodup_append.mpr ⟨eL_nodup.sublist seg_sub, pL_nodup.sublist seg_sub, fun a ha b hb => ?_⟩)
    have h1 := eL_mem.mp (seg_sub.subset ha)
    have h2 := pL_mem.mp (seg_sub.subset hb)
    omega
theorem tl_mono (hc : Cloth rows w h) {i j : Nat} {s t s' t' : Nat} (hij : i ≤ j) (h1 : (tl rows w h (w + 1))[i]? = some (p2 s t)) (h2 : (tl rows w h (w + 1))[j]? = some (p2 s' t')) : s ≤ s' ∧ t ≤ t' := by
  have tp : ∀ {i s t : Nat}, (tl rows w h (w + 1))[i]? = some (p2 s t) → s ≤ w ∧ t ≤ h ∧ Top rows w h s t := fun {i s t} hi => by
    obtain ⟨a, b, h1, h2, e, hT⟩ := (mem_tl hc).mp (List.mem_of_getElem? hi)
    unfold p2 at e
    simp only [Prod.mk.injEq] at e
    rw [show s = a by omega, show t = b by omega]
    exact ⟨h1, h2, hT⟩
  by_cases c : i = j
  · subst c
    have e := Option.some.inj (h1.symm.trans h2)
    unfold p2 at e
    simp only [Prod.mk.injEq] at e
    omega
  · have lx := tl_lt (show i < j by omega) h1 h2
    unfold Lex p2 at lx
    simp only at lx
    obtain ⟨a1, a2, a3⟩ := tp h1
    obtain ⟨b1, b2, b3⟩ := tp h2
    by_cases d : s < s'
    · exact ⟨by omega, top_chain hc a3 b3 d b1 a2⟩
    · omega
theorem layers_ok (hc : Cloth rows w h) : f_layers_of rows = .ok (lays rows w h) := by
  have hw2 := hc.w2
  have hh2 := hc.h2
  have hcl := cntL_len hc
  unfold f_layers_of
  rw [measured_ok hc, M.bind_ok, show f_scores_of rows = .ok (cntL rows w) from scores_ok hc, M.bind_ok]
  have s1 : sortKeyM (cntL rows w) 0 (w : Int) = .ok (eL rows w) := if_pos ⟨by omega, by omega, by omega, by omega, by omega⟩
  have s2 : sortKeyM (cntL rows w) (w : Int) ((w : Int) + (h : Int)) = .ok (pL rows w h) := if_pos ⟨by omega, by omega, by omega, by omega, by omega⟩
  show (M.bind (sortKeyM (cntL rows w) 0 (w : Int)) fun e => M.bind (sortKeyM (cntL rows w) (w : Int) ((w : Int) + (h : Int))) _) = _
  rw [s1, M.bind_ok, s2, M.bind_ok]
  show M.bind (M.bind (f_tops_of rows) _) _ = _
  rw [tops_ok hc, M.bind_ok, M.bind_ok]
  have hcut : cutL (tl rows w h (w + 1)) (some 1) none = (tl rows w h (w + 1)).tail := by
    rw [cut_from (by omega) (by have := tl_two hc; omega)]
    exact List.drop_one
  rw [hcut]
  have hall : ∀ x ∈ (tl rows w h (w + 1)).tail, ∃ s t, s ≤ w ∧ t ≤ h ∧ x = p2 s t := fun x hx => by
    obtain ⟨s, t, h1, h2, e, _⟩ := (mem_tl hc).mp (List.mem_of_mem_tail hx)
    exact ⟨s, t, h1, h2, e⟩
  have hmono : (p2 0 0 :: (tl rows w h (w + 1)).tail).Pairwise (fun p q => p.1.toNat ≤ q.1.toNat ∧ p.2.1.toNat ≤ q.2.1.toNat) := by
    rw [tl_cons hc]
    refine List.pairwise_iff_getElem.mpr fun i j hi hj hij => ?_
    have e1 := List.getElem?_eq_getElem hi
    have e2 := List.getElem?_eq_getElem hj
    obtain ⟨s, t, _, _, f1, _⟩ := (mem_tl hc).mp (List.mem_of_getElem? e1)
    obtain ⟨s', t', _, _, f2, _⟩ := (mem_tl hc).mp (List.mem_of_getElem? e2)
    rw [f1] at e1 ⊢
    rw [f2] at e2 ⊢
    obtain ⟨m1, m2⟩ := tl_mono hc (Nat.le_of_lt hij) e1 e2
    unfold p2
    exact ⟨by simp only; omega, by simp only; omega⟩
  have hlen : (tl rows w h (w + 1)).tail.length < 10000 := by
    rw [List.length_tail]
    have h3 := tl_len (rows := rows) (w := w) (h := h) (m := w + 1)
    have h4 : (w + 1) * (h + 1) ≤ 41 * 41 := Nat.mul_le_mul (by omega) (by omega)
    omega
  have key : ∀ (L : List P2) (p : P2) (acc : List (List Int)), (∃ s t, s ≤ w ∧ t ≤ h ∧ p = p2 s t) → (∀ x ∈ L, ∃ s t, s ≤ w ∧ t ≤ h ∧ x = p2 s t) → (p :: L).Pairwise (fun p q => p.1.toNat ≤ q.1.toNat ∧ p.2.1.toNat ≤ q.2.1.toNat) → acc.length + L.length < 10000 →
      Okm (forM (f_layers_of_l1 (eL rows w) (pL rows w h)) (acc, p) L) (fun r => r.1 = acc ++ lyGo rows w h p L) := by
    intro L
    induction L with
    | nil => intro p acc _ _ _ _; exact okv (by simp [lyGo])
    | cons q r ih =>
      intro p acc hp hx hm hlen
      have hq := hx q List.mem_cons_self
      obtain ⟨s, t, a1, a2, rfl⟩ := hp
      obtain ⟨s', t', b1, b2, rfl⟩ := hq
      obtain ⟨m1, m2⟩ := List.pairwise_cons.mp hm
      have mm := m1 _ List.mem_cons_self
      have e1 : s ≤ s' := by have := mm.1; unfold p2 at this; simp only at this; omega
      have e2 : t ≤ t' := by have := mm.2; unfold p2 at this; simp only at this; omega
      show Okm (M.bind (f_layers_of_l1 (eL rows w) (pL rows w h) (acc, p2 s t) (p2 s' t')) fun s => forM (f_layers_of_l1 (eL rows w) (pL rows w h)) s r) _
      unfold f_layers_of_l1
      have c1 : cutL (eL rows w) (some (p2 s t).1) (some (p2 s' t').1) = seg (eL rows w) s s' := by
        unfold seg
        rw [show (p2 s t).1 = (s : Int) from rfl, show (p2 s' t').1 = (s' : Int) from rfl, cut_mid (by omega) (by omega) (by rw [eL_len]; omega), Int.toNat_natCast, Int.toNat_natCast]
      have c2 : cutL (pL rows w h) (some (p2 s t).2.1) (some (p2 s' t').2.1) = seg (pL rows w h) t t' := by
        unfold seg
        rw [show (p2 s t).2.1 = (t : Int) from rfl, show (p2 s' t').2.1 = (t' : Int) from rfl, cut_mid (by omega) (by omega) (by rw [pL_len]; omega), Int.toNat_natCast, Int.toNat_natCast]
      refine okb (P := fun (z : List (List Int) × P2) => z = (acc ++ [lyOf rows w h (p2 s t) (p2 s' t')], p2 s' t')) ?_ fun s e => ?_
      · show Okm (M.bind (catL (cutL (eL rows w) (some (p2 s t).1) (some (p2 s' t').1)) (cutL (pL rows w h) (some (p2 s t).2.1) (some (p2 s' t').2.1))) _) _
        rw [c1, c2]
        refine okb (ok_catL (by rw [seg_len e1 (by rw [eL_len]; omega), seg_len e2 (by rw [pL_len]; omega)]; omega)) fun ly e => ?_
        subst e
        refine okb (ok_push (by show acc.length < _; simp only [List.length_cons] at hlen; omega)) fun s e => okv ?_
        rw [e]
        unfold lyOf
        rfl
      · subst e
        refine okmono (ih _ _ ⟨s', t', b1, b2, rfl⟩ (fun x hx' => hx x (List.mem_cons_of_mem _ hx')) m2 (by simp only [List.length_append, List.length_cons, List.length_nil] at hlen ⊢; omega)) fun r e => ?_
        rw [e, List.append_assoc]; rfl
  refine oke (okb (key _ (p2 0 0) [] ⟨0, 0, Nat.zero_le _, Nat.zero_le _, rfl⟩ hall hmono (by simpa using hlen)) fun s e => okv ?_)
  rw [e]; rfl
end
section
variable {rows : List Tx} {w h : Nat}
theorem numbers_of (hc : Cloth rows w h) : f_layer_numbers rows = .ok (vec (w + h) fun x => (pk (lays rows w h) x : Int)) := by
  have P := lays_part hc
  have hl := P.len
  have w2 := hc.w2
  have h2 := hc.h2
  refine oke ?_
  unfold f_layer_numbers
  rw [measured_ok hc, M.bind_ok]
  show Okm (M.bind (repM [0] ((w : Int) + (h : Int))) _) _
  refine okb (ok_rep1 (by omega) (by omega)) fun s0 e => ?_
  subst e
  rw [layers_ok hc, M.bind_ok, M.bind_ok, show ((w : Int) + (h : Int)).toNat = w + h by omega, ← plc_none (n := w + h) (LY := lays rows w h)]
  refine okb (ok_for (fun k (s : List Int) => s = vec (w + h) (plc (lays rows w h) ((lays rows w h).take k).flatten)) rfl fun k x s hx e => ?_) fun s e => okv ?_
  · subst e
    obtain ⟨l, hl, rfl⟩ := enumL_at hx
    unfold f_layer_numbers_l2
    show Okm (M.bind (forM (f_layer_numbers_l1 ((k : Int), l, ())) _ l) _) _
    rw [plc_row P hl (f := f_layer_numbers_l1 ((k : Int), l, ())) fun s x => rfl]
    exact okv rfl
  · rw [e, enumL_len, List.take_length, plc_all P]
end
theorem numbers_ok {script : List Int} {many : Int} (hl : script.length ≤ 63) (h1 : 63 ≤ many) (h2 : many ≤ 1000) : Okm (f_law_numbers script many) (fun ns => ns.length = many.toNat ∧ ∀ x ∈ ns, 0 ≤ x ∧ x < 1000000) := by
  unfold f_law_numbers
  show Okm (M.bind (if (decide ((0 : Int) < (script.length : Int))) = true then M.bind (M.bind (M.bind (getM script (0 : Int)) fun y12 => M.ok (y12 % (2147483646 : Int))) fun y14 => M.ok ((1 : Int) + y14)) fun step9 => M.ok step9 else M.ok 1) _) _
  refine okb (P := fun _ => True) (okif (fun c => ?_) fun _ => okv trivial) fun st _ => ?_
  · rw [decide_eq_true_eq] at c
    exact okb (P := fun _ => True) (okb (P := fun _ => True) (okb (ok_get (by omega) (by omega)) fun _ _ => okv trivial) fun _ _ => okv trivial) fun _ _ => okv trivial
  refine okb ok_range fun xs e => ?_
  subst e
  refine okb (ok_forR (fun i (s : List Int × Int) => s.1.length = i ∧ ∀ x ∈ s.1, 0 ≤ x ∧ x < 1000000) ⟨rfl, fun x hx => nomatch hx⟩ fun i s hi ⟨a1, a2⟩ => ?_) fun s ⟨a1, a2⟩ => ?_
  · unfold f_law_numbers_l1
    refine okb (ok_push (by omega)) fun s' e => okv ?_
    subst e
    refine ⟨by simp [a1], fun x hx => (List.mem_append.mp hx).elim (a2 x) fun h => ?_⟩
    rw [List.mem_singleton.mp h]
    omega
  refine okb ok_range fun xs e => ?_
  subst e
  refine okb (ok_forR (fun i (s : List Int) => s.length = many.toNat ∧ ∀ x ∈ s, 0 ≤ x ∧ x < 1000000) ⟨by rw [a1]; omega, a2⟩ fun i s hi ⟨b1, b2⟩ => ?_) fun s hs => okv hs
  unfold f_law_numbers_l2
  have m0 := Int.emod_nonneg (0 + (i : Int)) (show many ≠ 0 by omega)
  have m1 := Int.emod_lt_of_pos (0 + (i : Int)) (show 0 < many by omega)
  rw [oke (ok_mod (by omega : 0 < many)), M.bind_ok]
  refine okb (P := fun v => 0 ≤ v ∧ v < (1000000 : Int)) ?_ fun v hv => ?_
  · refine okb (P := fun _ => True) (okb (ok_get m0 (by omega)) fun a _ => okb (ok_get (by omega) (by omega)) fun b _ => okv trivial) fun a _ => okv ⟨by omega, by omega⟩
  rw [M.bind_ok]
  refine okb (ok_set m0 (by omega)) fun s' e => okv ?_
  subst e
  refine ⟨by rw [List.length_set]; exact b1, fun x hx => ?_⟩
  rcases List.mem_or_eq_of_mem_set hx with hx | hx
  · exact b2 x hx
  · subst hx; exact hv
theorem dget_map {α : Type} (k k' : Key) (d : α) : ∀ ds : List (Key × α), dgetL (ds.map fun kv => if kv.1 = k then (kv.1, d) else kv) k' = (dgetL ds k').map fun x => if k' = k then d else x
  | [] => rfl
  | (q, x) :: ds => by
    have ih := dget_map k k' d ds
    unfold dgetL at ih ⊢
    rw [List.map_cons]
    by_cases a : q = k'
    · subst a
      by_cases b : q = k
      · subst b; simp [List.find?_cons]
      · simp [List.find?_cons, b]
    · by_cases b : q = k
      · subst b; simpa [List.find?_cons, a] using ih
      · simpa [List.find?_cons, a, b] using ih
theorem dget_snoc {α : Type} (k k' : Key) (d : α) : ∀ ds : List (Key × α), dgetL (ds ++ [(k, d)]) k' = match dgetL ds k' with | some x => some x | none => if k' = k then some d else none
  | [] => by
    unfold dgetL
    by_cases a : k = k'
    · subst a; simp [List.find?_cons]
    · have : ¬ k' = k := fun e => a e.symm
      simp [List.find?_cons, a, this]
  | (q, x) :: ds => by
    have ih := dget_snoc k k' d ds
    unfold dgetL at ih ⊢
    by_cases a : q = k'
    · subst a; simp [List.find?_cons]
    · simpa [List.find?_cons, a] using ih
theorem dget_any {α : Type} (k : Key) : ∀ ds : List (Key × α), (ds.any fun kv => decide (kv.1 = k)) = (dgetL ds k).isSome
  | [] => rfl
  | (q, x) :: ds => by
    have ih := dget_any k ds
    unfold dgetL at ih ⊢
    by_cases a : q = k
    · subst a; simp [List.find?_cons]
    · simpa [List.find?_cons, a] using ih
theorem dget_put {α : Type} (ds : List (Key × α)) (k k' : Key) (d : α) : dgetL (dputL ds k d) k' = if k' = k then some d else dgetL ds k' := by
  unfold dputL
  split
  · rename_i h
    rw [dget_map]
    by_cases a : k' = k
    · subst a
      rw [dget_any] at h
      obtain ⟨x, hx⟩ := Option.isSome_iff_exists.mp h
      rw [hx]; simp
    · simp [a]
  · rename_i h
    rw [dget_snoc]
    by_cases a : k' = k
    · subst a
      rw [dget_any] at h
      cases hx : dgetL ds k' with
      | none => rfl
      | some x => rw [hx] at h; exact absurd rfl h
    · simp only [a, if_false]
      cases dgetL ds k' <;> rfl
theorem dput_len {α : Type} (ds : List (Key × α)) (k : Key) (d : α) : (dputL ds k d).length ≤ ds.length + 1 := by
  unfold dputL
  split <;> simp
theorem take_count {l : List Int} {i : Nat} {x n : Int} (h : l[i]? = some x) : (l.take (i + 1)).count n = (l.take i).count n + if x = n then 1 else 0 := by
  rw [List.take_add_one, h, List.count_append]
  by_cases e : x = n
  · subst e; simp
  · simp [e]
/-- where a number stands -/
def posL (l : List Int) (n : Int) (i : Nat) : List Nat := (List.range i).filter fun k => decide (l[k]? = some n)
theorem pos_ok {l : List Int} {n : Int} : ∀ {i : Nat}, i ≤ l.length → (posL l n i).length = (l.take i).count n ∧ ∀ a k, (posL l n i)[a]? = some k → k < i ∧ l[k]? = some n ∧ (l.take k).count n = a
  | 0, _ => ⟨by simp [posL], fun a k h => by simp [posL] at h⟩
  | i + 1, hi => by
    obtain ⟨h1, h2⟩ := pos_ok (l := l) (n := n) (i := i) (by omega)
    have hx : l[i]? = some (l[i]'(by omega)) := by simp
    generalize (l[i]'(by omega)) = x at hx
    have e : posL l n (i + 1) = posL l n i ++ if x = n then [i] else [] := by
      unfold posL
      rw [List.range_succ, List.filter_append]
      congr 1
      by_cases e : x = n
      · simp [hx, e]
      · simp [hx, e]
    rw [e, take_count hx, ← h1]
    by_cases c : x = n
    · subst c
      refine ⟨by simp, fun a k hk => ?_⟩
      rw [if_pos rfl] at hk
      by_cases ha : a < (posL l x i).length
      · rw [List.getElem?_append_left ha] at hk
        obtain ⟨q1, q2, q3⟩ := h2 a k hk
        exact ⟨by omega, q2, q3⟩
      · have hk2 := (List.getElem?_eq_some_iff.mp hk).1
        simp at hk2
        have : a = (posL l x i).length := by omega
        subst this
        rw [List.getElem?_append_right (Nat.le_refl _), Nat.sub_self] at hk
        have hk : i = k := by simpa using hk
        subst hk
        exact ⟨by omega, hx, h1.symm⟩
    · refine ⟨by simp [c], fun a k hk => ?_⟩
      rw [if_neg c, List.append_nil] at hk
      obtain ⟨q1, q2, q3⟩ := h2 a k hk
      exact ⟨by omega, q2, q3⟩
theorem pos_comp {l : List Int} {n : Int} : ∀ i : Nat, (upFrom 0 i).filterMap (fun k : Int => if l[k.toNat]? = some n then some k else none) = (posL l n i).map fun k : Nat => (k : Int)
  | 0 => rfl
  | i + 1 => by
    rw [upFrom_succ', List.filterMap_append, pos_comp i]
    unfold posL
    rw [List.range_succ, List.filter_append, List.map_append]
    congr 1
    rw [Int.zero_add]
    by_cases e : l[i]? = some n
    · simp [e]
    · simp [e]
theorem mem_posL {l : List Int} {n : Int} {i k : Nat} : k ∈ posL l n i ↔ k < i ∧ l[k]? = some n := by
  unfold posL
  rw [List.mem_filter, List.mem_range, decide_eq_true_eq]
theorem posL_rank {l : List Int} {n : Int} {k : Nat} (hk : l[k]? = some n) : (posL l n l.length)[(l.take k).count n]? = some k := by
  have hlt := (List.getElem?_eq_some_iff.mp hk).1
  obtain ⟨a, ha⟩ := List.mem_iff_getElem?.mp (mem_posL.mpr ⟨hlt, hk⟩)
  have := ((pos_ok (l := l) (n := n) (Nat.le_refl _)).2 a k ha).2.2
  rw [this]; exact ha
theorem posL_len {l : List Int} {n : Int} : (posL l n l.length).length = l.count n := by
  have := (pos_ok (l := l) (n := n) (Nat.le_refl _)).1
  rwa [List.take_length] at this
abbrev Trn : Type := Int × Int × Tx × Unit
def sideT (m : Nat) : Tx := if m % 2 = 1 then tx "right" else tx "left"
def turnAt (sh : List Int) (j : Nat) : Option Trn :=
  if 0 < (sh.take j).count (sh[j]?.getD 0) then some ((((posL sh (sh[j]?.getD 0) sh.length)[(sh.take j).count (sh[j]?.getD 0) - 1]?.getD 0 : Nat) : Int), (j : Int), sideT ((sh.take j).count (sh[j]?.getD 0)), ()) else none
def turnsL (sh : List Int) (i : Nat) : List Trn := (List.range i).filterMap (turnAt sh)
theorem turnsL_succ {sh : List Int} {i : Nat} : turnsL sh (i + 1) = turnsL sh i ++ (turnAt sh i).toList := by
  unfold turnsL
  rw [List.range_succ, List.filterMap_append]
  cases h : turnAt sh i <;> simp [h]
theorem turnsL_len {sh : List Int} {i : Nat} : (turnsL sh i).length ≤ i := by
  unfold turnsL
  exact Nat.le_trans (List.length_filterMap_le _ _) (by simp)
theorem sh_key {x y : Int} (h : x ≠ y) : ¬ (Sum.inl x : Key) = .inl y := fun z => h (Sum.inl.inj z)
theorem turns_ok {sh : List Int} (h8 : ∀ x ∈ sh, 0 ≤ x ∧ x ≤ 7) (hl : sh.length ≤ 40) : f_turns_made sh = .ok (turnsL sh sh.length) := by
  refine oke ?_
  unfold f_turns_made
  show Okm (M.bind (repM [(0 : Int)] (8 : Int)) _) _
  rw [oke (ok_rep1 (by omega) (by omega)), M.bind_ok]
  show Okm (M.bind (forM f_turns_made_l1 ([], List.replicate 8 (0 : Int), []) (enumL sh)) _) _
  refine okb (ok_for (fun i (s : List (Key × Int) × List Int × List Trn) => (∀ x : Int, dgetL s.1 (.inl x) = if (sh.take i).count x = 0 then none else some (((posL sh x sh.length)[(sh.take i).count x - 1]?.getD 0 : Nat) : Int)) ∧ s.1.length ≤ i ∧ s.2.1.length = 8 ∧ (∀ x : Nat, x < 8 → s.2.1[x]? = some (((sh.take i).count (x : Int) : Nat) : Int)) ∧ s.2.2 = turnsL sh i) ⟨fun x => by simp [dgetL], Nat.le_refl _, rfl, fun x hx => ?_, rfl⟩ fun i t s ht ⟨a1, a2, a3, a4, a5⟩ => ?_) fun s ⟨_, _, _, _, a5⟩ => okv ?_
  · rw [List.take_zero, List.count_nil]
    show (List.replicate 8 (0 : Int))[x]? = some 0
    rw [List.getElem?_replicate, if_pos hx]
  · obtain ⟨x, hx, rfl⟩ := enumL_at ht
    have hb := h8 x (List.mem_of_getElem? hx)
    have hil := (List.getElem?_eq_some_iff.mp hx).1
    have g4 := a4 x.toNat (by omega)
    rw [show ((x.toNat : Nat) : Int) = x by omega] at g4
    have tl := turnsL_len (sh := sh) (i := i)
    unfold f_turns_made_l1
    show Okm (M.bind (M.bind (getM s.2.1 x) fun y => M.ok (decide ((0 : Int) < y))) _) _
    rw [getM_at hb.1 g4, M.bind_ok, M.bind_ok]
    have eA : turnAt sh i = if 0 < (sh.take i).count x then some ((((posL sh x sh.length)[(sh.take i).count x - 1]?.getD 0 : Nat) : Int), (i : Int), sideT ((sh.take i).count x), ()) else none := by
      unfold turnAt; rw [hx]; rfl
    refine okb (P := (· = turnsL sh (i + 1))) ?_ fun tr e => ?_
    · refine okif (fun c => ?_) fun c => ?_
      · rw [decide_eq_true_eq] at c
        show Okm (M.bind (M.bind (M.bind (M.ok (((sh.take i).count x : Nat) : Int)) fun y => M.ok (y % 2)) fun y => M.ok (decide (y = 1))) _) _
        rw [M.bind_ok, M.bind_ok, M.bind_ok]
        refine okb (P := (· = sideT ((sh.take i).count x))) (okif (fun q => ?_) fun q => ?_) fun sd e => ?_
        · rw [decide_eq_true_eq] at q
          exact okv (by show tx "right" = _; unfold sideT; rw [if_pos (by omega)])
        · rw [decide_eq_false_iff_not] at q
          exact okv (by unfold sideT; rw [if_neg (by omega)])
        subst e
        have gd : getDM s.1 (.inl x) = .ok (((posL sh x sh.length)[(sh.take i).count x - 1]?.getD 0 : Nat) : Int) := by
          unfold getDM
          rw [a1 x, if_neg (by omega)]
        show Okm (M.bind (M.bind (getDM s.1 (.inl x)) _) _) _
        rw [gd, M.bind_ok, M.bind_ok, a5]
        refine okb (ok_push (by omega)) fun tr e => okv ?_
        rw [e, turnsL_succ, eA, if_pos (by omega)]; rfl
      · rw [decide_eq_false_iff_not] at c
        refine okv ?_
        rw [a5, turnsL_succ, eA, if_neg (by omega)]; simp
    · subst e
      refine okb (m := dputM _ _ _) (P := (· = dputL s.1 (.inl x) (i : Int))) ?_ fun d e => ?_
      · unfold dputM
        rw [if_pos (Nat.lt_of_le_of_lt (show s.1.length ≤ 1000 by omega) (by decide))]
        exact okv rfl
      subst e
      rw [M.bind_ok]
      refine okb (ok_set (xs := s.2.1) (i := x) hb.1 (by omega)) fun th e => okv ?_
      subst e
      have ln := dput_len s.1 (.inl x) (i : Int)
      refine ⟨fun y => ?_, by show (dputL s.1 (.inl x) (i : Int)).length ≤ _; omega, by show (s.2.1.set _ _).length = _; rw [List.length_set]; exact a3, fun y hy => ?_, rfl⟩
      · show dgetL (dputL s.1 (.inl x) (i : Int)) (.inl y) = _
        rw [dget_put, take_count hx]
        by_cases z : y = x
        · subst z
          rw [if_pos rfl, if_pos rfl, if_neg (by omega), show (sh.take i).count y + 1 - 1 = (sh.take i).count y by omega, posL_rank hx]; rfl
        · have z' : ¬ x = y := fun q => z q.symm
          rw [if_neg (sh_key z)]
          simp only [if_neg z', Nat.add_zero]
          exact a1 y
      · show (s.2.1.set x.toNat (((sh.take i).count x : Nat) + 1 : Int))[y]? = _
        rw [take_count hx]
        by_cases z : x = (y : Int)
        · subst z
          rw [if_pos rfl, Int.toNat_natCast, List.getElem?_set_self (by omega)]
          push_cast; rfl
        · rw [if_neg z, Nat.add_zero, List.getElem?_set_ne (by omega)]; exact a4 y hy
  · rw [a5, enumL_len]
def seamOf (picks : List Int) (t : Trn) : Option Trn :=
  if picks[t.1.toNat]?.getD 0 = picks[t.2.1.toNat]?.getD 0 then none else some (min (picks[t.1.toNat]?.getD 0) (picks[t.2.1.toNat]?.getD 0), max (picks[t.1.toNat]?.getD 0) (picks[t.2.1.toNat]?.getD 0), t.2.2.1, ())
def IsSeam (picks sh : List Int) (x : Trn) : Prop := ∃ t ∈ turnsL sh sh.length, seamOf picks t = some x
theorem turn_in {sh : List Int} {t : Trn} (h : t ∈ turnsL sh sh.length) : ∃ (x : Int) (m j k : Nat), x ∈ sh ∧ (posL sh x sh.length)[m]? = some k ∧ (posL sh x sh.length)[m + 1]? = some j ∧ t = ((k : Int), (j : Int), sideT (m + 1), ()) ∧ k < sh.length ∧ j < sh.length := by
  unfold turnsL at h
  obtain ⟨j, hj, e⟩ := List.mem_filterMap.mp h
  rw [List.mem_range] at hj
  obtain ⟨x, hx⟩ : ∃ x, sh[j]? = some x := ⟨_, List.getElem?_eq_getElem hj⟩
  unfold turnAt at e
  rw [hx] at e
  simp only [Option.getD_some] at e
  split at e
  · rename_i hm
    have hr := posL_rank hx
    have hrl := (List.getElem?_eq_some_iff.mp hr).1
    obtain ⟨k, hk⟩ : ∃ k, (posL sh x sh.length)[(sh.take j).count x - 1]? = some k := ⟨_, List.getElem?_eq_getElem (by omega)⟩
    have := (pos_ok (l := sh) (n := x) (i := sh.length) (Nat.le_refl _)).2 _ k hk
    refine ⟨x, (sh.take j).count x - 1, j, k, List.mem_of_getElem? hx, hk, by rw [show (sh.take j).count x - 1 + 1 = (sh.take j).count x by omega]; exact hr, ?_, this.1, hj⟩
    rw [hk] at e
    rw [show (sh.take j).count x - 1 + 1 = (sh.take j).count x by omega]
    exact (Option.some.inj e).symm
  · cases e
theorem in_turn {sh : List Int} {x : Int} {m j k : Nat} (hk : (posL sh x sh.length)[m]? = some k) (hj : (posL sh x sh.length)[m + 1]? = some j) : (((k : Int), (j : Int), sideT (m + 1), ()) : Trn) ∈ turnsL sh sh.length := by
  have h := (pos_ok (l := sh) (n := x) (i := sh.length) (Nat.le_refl _)).2 _ j hj
  unfold turnsL
  refine List.mem_filterMap.mpr ⟨j, List.mem_range.mpr h.1, ?_⟩
  unfold turnAt
  rw [h.2.1]
  simp only [Option.getD_some]
  rw [h.2.2, if_pos (by omega), show m + 1 - 1 = m by omega, hk]
  rfl
abbrev ltT : Trn → Trn → Bool := (oTup (oCons oInt (oCons oInt (oCons oStr oNil)))).lt
theorem str_irr (s : Tx) : ¬ s < s := List.lt_irrefl s
theorem str_mid {a b c : Tx} (h : c < a) : c < b ∨ b < a := by
  by_cases q : c < b
  · exact .inl q
  · by_cases r : b < a
    · exact .inr r
    · exact absurd h (List.not_lt.mpr (List.le_trans (List.not_lt.mp r) (List.not_lt.mp q)))
theorem str_tri {a b : Tx} (h1 : ¬ a < b) (h2 : ¬ b < a) : a = b := List.le_antisymm (List.not_lt.mp h2) (List.not_lt.mp h1)
theorem str_asym {a b : Tx} (h1 : a < b) : ¬ b < a := List.lt_asymm h1
theorem ltT_iff {a b : Trn} : ltT a b = true ↔ a.1 < b.1 ∨ (a.1 = b.1 ∧ (a.2.1 < b.2.1 ∨ (a.2.1 = b.2.1 ∧ a.2.2.1 < b.2.2.1))) := by
  show (if a.1 = b.1 then (if a.2.1 = b.2.1 then (if a.2.2.1 = b.2.2.1 then false else decide (a.2.2.1 < b.2.2.1)) else decide (a.2.1 < b.2.1)) else decide (a.1 < b.1)) = true ↔ _
  by_cases h1 : a.1 = b.1
  · rw [if_pos h1]
    by_cases h2 : a.2.1 = b.2.1
    · rw [if_pos h2]
      by_cases h3 : a.2.2.1 = b.2.2.1
      · rw [if_pos h3, h1, h2, h3]
        simp [str_irr]
      · rw [if_neg h3, h1, h2]
        simp
    · rw [if_neg h2, h1]
      simp [h2]
  · rw [if_neg h1]
    simp [h1]
theorem ltT_mid {a b c : Trn} (h : ltT c a = true) : ltT c b = true ∨ ltT b a = true := by
  rw [ltT_iff] at h ⊢
  rw [ltT_iff]
  by_cases q1 : c.1 < b.1
  · exact .inl (.inl q1)
  by_cases q2 : b.1 < a.1
  · exact .inr (.inl q2)
  have e1 : c.1 = b.1 := by rcases h with h | ⟨h, _⟩ <;> omega
  have e2 : b.1 = a.1 := by rcases h with h | ⟨h, _⟩ <;> omega
  rcases h with h | ⟨_, h⟩
  · omega
  by_cases r1 : c.2.1 < b.2.1
  · exact .inl (.inr ⟨e1, .inl r1⟩)
  by_cases r2 : b.2.1 < a.2.1
  · exact .inr (.inr ⟨e2, .inl r2⟩)
  have f1 : c.2.1 = b.2.1 := by rcases h with h | ⟨h, _⟩ <;> omega
  have f2 : b.2.1 = a.2.1 := by rcases h with h | ⟨h, _⟩ <;> omega
  rcases h with h | ⟨_, h⟩
  · omega
  rcases str_mid (b := b.2.2.1) h with z | z
  · exact .inl (.inr ⟨e1, .inr ⟨f1, z⟩⟩)
  · exact .inr (.inr ⟨e2, .inr ⟨f2, z⟩⟩)
theorem ltT_asym {a b : Trn} (h : ltT a b = true) : ltT b a = false := by
  cases z : ltT b a with
  | false => rfl
  | true =>
    rw [ltT_iff] at h z
    exfalso
    rcases h with h | ⟨e, h | ⟨f, h⟩⟩ <;> rcases z with z | ⟨e', z | ⟨f', z⟩⟩ <;> first | omega | exact str_asym h z
theorem ltT_tri {a b : Trn} (h1 : ltT a b = false) (h2 : ltT b a = false) : a = b := by
  have n1 : ¬ (ltT a b = true) := by rw [h1]; exact Bool.false_ne_true
  have n2 : ¬ (ltT b a = true) := by rw [h2]; exact Bool.false_ne_true
  rw [ltT_iff] at n1 n2
  obtain ⟨a1, a2, a3, a4⟩ := a
  obtain ⟨b1, b2, b3, b4⟩ := b
  simp only at n1 n2
  have e1 : a1 = b1 := by
    rcases Int.lt_trichotomy a1 b1 with z | z | z
    · exact absurd (.inl z) n1
    · exact z
    · exact absurd (.inl z) n2
  subst e1
  have e2 : a2 = b2 := by
    rcases Int.lt_trichotomy a2 b2 with z | z | z
    · exact absurd (.inr ⟨rfl, .inl z⟩) n1
    · exact z
    · exact absurd (.inr ⟨rfl, .inl z⟩) n2
  subst e2
  have e3 : a3 = b3 := str_tri (fun z => n1 (.inr ⟨rfl, .inr ⟨rfl, z⟩⟩)) (fun z => n2 (.inr ⟨rfl, .inr ⟨rfl, z⟩⟩))
  subst e3
  rfl
theorem sortT_ok (l : List Trn) (hn : l.Nodup) : (sortD (oTup (oCons oInt (oCons oInt (oCons oStr oNil)))) l).Perm l ∧ (sortD (oTup (oCons oInt (oCons oInt (oCons oStr oNil)))) l).Pairwise (fun a b => ltT a b = true) := by
  have p : (sortD (oTup (oCons oInt (oCons oInt (oCons oStr oNil)))) l).Perm l := List.mergeSort_perm _ _
  refine ⟨p, ?_⟩
  have h1 : (sortD (oTup (oCons oInt (oCons oInt (oCons oStr oNil)))) l).Pairwise (fun a b => (!ltT b a) = true) := List.pairwise_mergeSort (fun a b c h1 h2 => ?_) (fun a b => ?_) l
  · have hn' := p.nodup_iff.mpr hn
    refine (h1.and hn').imp fun {a b} ⟨q1, q2⟩ => ?_
    cases z : ltT a b with
    | true => rfl
    | false => exact absurd (ltT_tri z (by simpa using q1)) q2
  · cases z : ltT c a with
    | false => rfl
    | true =>
      rcases ltT_mid (b := b) z with q | q
      · rw [q] at h2; cases h2
      · rw [q] at h1; cases h1
  · cases z : ltT b a with
    | false => rfl
    | true => rw [ltT_asym z]; rfl
section
variable {picks : List Int} {found : List Tx} {w h : Nat}
theorem seen_sh_ok {sh : List Int} {n : Nat} (h8 : ∀ x ∈ sh, 0 ≤ x ∧ x ≤ 7) (hl : sh.length = n) : f_seen_shuttles sh (n : Int) = .ok () := by
  refine oke ?_
  unfold f_seen_shuttles
  rw [if_neg (by simp [hl])]
  refine okb (P := fun _ => True) (ok_forI (fun _ => True) trivial fun x hx s _ => ?_) fun _ _ => okv rfl
  unfold f_seen_shuttles_l1
  have := h8 x hx
  refine okif (fun c => ?_) fun _ => okv trivial
  exfalso
  rw [Bool.not_eq_true', Bool.and_eq_false_iff, decide_eq_false_iff_not, decide_eq_false_iff_not] at c
  omega
theorem seams_gen (hc : Cloth found w h) (hpl : picks.length = h) (hp : ∀ (j : Nat) (u : Int), picks[j]? = some u → (vec (w + h) fun y => (pk (lays found w h) y : Int))[w + j]? = some u) {sh : List Int} (h8 : ∀ x ∈ sh, 0 ≤ x ∧ x ≤ 7) (hsl : sh.length = picks.length) :
    Okm (f_seams_of found sh) (fun r => r.Pairwise (fun a b => ltT a b = true) ∧ (∀ x, x ∈ r ↔ IsSeam picks sh x) ∧ r.length ≤ 40) := by
  have p2 := hc.h2
  unfold f_seams_of
  rw [measured_ok hc, M.bind_ok]
  show Okm (M.bind (f_seen_shuttles sh (h : Int)) _) _
  rw [seen_sh_ok h8 (hsl.trans hpl), M.bind_ok, numbers_of hc, M.bind_ok]
  show Okm (M.bind (f_turns_made sh) _) _
  rw [turns_ok h8 (by omega), M.bind_ok]
  have tl := turnsL_len (sh := sh) (i := sh.length)
  refine okb (ok_for (fun i (s : List Trn) => s.Nodup ∧ (∀ x, x ∈ s ↔ ∃ t ∈ (turnsL sh sh.length).take i, seamOf picks t = some x) ∧ s.length ≤ i) ⟨List.nodup_nil, fun x => by simp, Nat.le_refl _⟩ fun i t s ht ⟨a1, a2, a3⟩ => ?_) fun s ⟨a1, a2, a3⟩ => ?_
  · have til := (List.getElem?_eq_some_iff.mp ht).1
    obtain ⟨x, m, j, k, _, _, _, e, hk, hj⟩ := turn_in (List.mem_of_getElem? ht)
    have e1 : t.1 = (k : Int) := by rw [e]
    have e2 : t.2.1 = (j : Int) := by rw [e]
    obtain ⟨u, hu⟩ : ∃ u, picks[k]? = some u := ⟨_, List.getElem?_eq_getElem (by omega)⟩
    obtain ⟨v, hv⟩ : ∃ u, picks[j]? = some u := ⟨_, List.getElem?_eq_getElem (by omega)⟩
    have g1 := hp k u hu
    have g2 := hp j v hv
    have es : seamOf picks t = if u = v then none else some (min u v, max u v, t.2.2.1, ()) := by
      unfold seamOf
      rw [e1, e2, Int.toNat_natCast, Int.toNat_natCast, hu, hv]; rfl
    have step : ∀ x, (∃ t' ∈ (turnsL sh sh.length).take (i + 1), seamOf picks t' = some x) ↔ (∃ t' ∈ (turnsL sh sh.length).take i, seamOf picks t' = some x) ∨ seamOf picks t = some x := fun x => by
      rw [List.take_add_one, ht]
      simp only [Option.toList_some, List.mem_append, List.mem_singleton]
      constructor
      · rintro ⟨t', q | q, h⟩
        · exact .inl ⟨t', q, h⟩
        · exact .inr (q ▸ h)
      · rintro (⟨t', q, h⟩ | h)
        · exact ⟨t', .inl q, h⟩
        · exact ⟨t, .inr rfl, h⟩
    unfold f_seams_of_l1
    show Okm (M.bind (getM _ ((w : Int) + t.1)) _) _
    rw [e1, e2, show (w : Int) + (k : Int) = ((w + k : Nat) : Int) by omega, getM_nat g1, M.bind_ok]
    show Okm (M.bind (getM _ ((w : Int) + (j : Int))) _) _
    rw [show (w : Int) + (j : Int) = ((w + j : Nat) : Int) by omega, getM_nat g2, M.bind_ok]
    refine okif (fun c => ?_) fun c => ?_
    · rw [decide_eq_true_eq] at c
      refine okv ⟨a1, fun x => ?_, by omega⟩
      rw [step x, es, if_pos c, a2 x]; simp
    · rw [decide_eq_false_iff_not] at c
      rw [if_neg c] at es
      show Okm (if (!memD (min u v, max u v, t.2.2.1, ()) s) = true then M.bind (pushM s (min u v, max u v, t.2.2.1, ())) fun f => M.ok f else M.ok s) _
      refine okif (fun q => ?_) fun q => ?_
      · have q : (min u v, max u v, t.2.2.1, ()) ∉ s := by unfold memD at q; simpa using q
        refine okb (ok_push (by omega)) fun f e => okv ?_
        subst e
        refine ⟨List.nodup_append.mpr ⟨a1, by simp, fun a ha b hb => fun z => q (by rw [List.mem_singleton] at hb; subst hb; rw [← z]; exact ha)⟩, fun x => ?_, by simp; omega⟩
        rw [step x, es, List.mem_append, List.mem_singleton, a2 x]
        constructor
        · rintro (h | h)
          · exact .inl h
          · exact .inr (by rw [h])
        · rintro (h | h)
          · exact .inl h
          · exact .inr (Option.some.inj h).symm
      · have q : (min u v, max u v, t.2.2.1, ()) ∈ s := by unfold memD at q; simpa using q
        refine okv ⟨a1, fun x => ?_, by omega⟩
        rw [step x, es]
        constructor
        · exact fun h => .inl ((a2 x).mp h)
        · rintro (h | h)
          · exact (a2 x).mpr h
          · rw [← Option.some.inj h]; exact q
  · rw [List.take_length] at a2
    obtain ⟨s1, s2⟩ := sortT_ok s a1
    exact okv ⟨s2, fun x => s1.mem_iff.trans (a2 x), by have := s1.length_eq; omega⟩
theorem seam_bd {sh : List Int} (hsl : sh.length = picks.length) {x : Trn} (hx : IsSeam picks sh x) : ∃ u ∈ picks, ∃ v ∈ picks, x.1 = min u v ∧ x.2.1 = max u v := by
  obtain ⟨t, ht, e⟩ := hx
  obtain ⟨y, m, j, k, _, _, _, et, hk, hj⟩ := turn_in ht
  obtain ⟨u, hu⟩ : ∃ u, picks[k]? = some u := ⟨_, List.getElem?_eq_getElem (by omega)⟩
  obtain ⟨v, hv⟩ : ∃ u, picks[j]? = some u := ⟨_, List.getElem?_eq_getElem (by omega)⟩
  rw [et] at e
  unfold seamOf at e
  simp only [Int.toNat_natCast] at e
  rw [hu, hv] at e
  simp only [Option.getD_some] at e
  split at e
  · cases e
  · rw [← Option.some.inj e]
    exact ⟨u, List.mem_of_getElem? hu, v, List.mem_of_getElem? hv, rfl, rfl⟩
/-- the picks' layers -/
def pkL (rows : List Tx) (w h : Nat) : List Int := (vec (w + h) fun y => (pk (lays rows w h) y : Int)).drop w
theorem pkL_len : (pkL found w h).length = h := by unfold pkL; rw [List.length_drop, vec_len]; omega
theorem pkL_at (j : Nat) (u : Int) (hu : (pkL found w h)[j]? = some u) : (vec (w + h) fun y => (pk (lays found w h) y : Int))[w + j]? = some u := by
  unfold pkL at hu
  rwa [List.getElem?_drop] at hu
theorem vec_bd (hc : Cloth found w h) {u : Int} (hu : u ∈ vec (w + h) fun y => (pk (lays found w h) y : Int)) : 0 ≤ u ∧ u < (lays found w h).length := by
  unfold vec at hu
  obtain ⟨x, hx, rfl⟩ := List.mem_map.mp hu
  rw [upFrom_mem] at hx
  obtain ⟨l, hl, _⟩ := (lays_part hc).pk_get (x := x) (by omega) (by omega)
  have := (List.getElem?_eq_some_iff.mp hl).1
  exact ⟨by omega, by omega⟩
theorem maxM_ok {l : List Int} (hl : l ≠ []) : ∃ m, maxM l = .ok m ∧ m ∈ l ∧ ∀ x ∈ l, x ≤ m := by
  cases l with
  | nil => exact absurd rfl hl
  | cons x r =>
    obtain ⟨h1, h2, h3⟩ := foldl_max_le r x
    refine ⟨r.foldl max x, rfl, ?_, fun y hy => ?_⟩
    · rcases h3 with h | h
      · rw [h]; exact List.mem_cons_self
      · exact List.mem_cons_of_mem _ h
    · rcases List.mem_cons.mp hy with e | hy
      · rw [e]; exact h1
      · exact h2 y hy
end
theorem cnt_succ {sh : List Int} {i : Nat} : (sh.countP fun y => decide (y < ((i + 1 : Nat) : Int))) = (sh.countP fun y => decide (y < (i : Int))) + sh.count (i : Int) := by
  induction sh with
  | nil => rfl
  | cons x r ih =>
    rw [List.countP_cons, List.countP_cons, List.count_cons, ih]
    have e : ∀ k : Nat, (if decide (x < (k : Int)) = true then 1 else 0 : Nat) = if x < (k : Int) then 1 else 0 := fun k => by simp
    have e2 : (if (x == (i : Int)) = true then 1 else 0 : Nat) = if x = (i : Int) then 1 else 0 := by simp
    rw [e, e, e2]
    split <;> split <;> split <;> omega
section
variable {picks : List Int}
/-- the law's own seams -/
theorem made39 {sh : List Int} (h8 : ∀ x ∈ sh, 0 ≤ x ∧ x ≤ 7) (hl : sh.length ≤ 12) (hsl : sh.length = picks.length) : Okm (f_law_seams picks sh) (fun r => (∀ x, x ∈ r ↔ IsSeam picks sh x) ∧ r.length ≤ 12) := by
  unfold f_law_seams
  show Okm (M.bind (rangeM 0 (8 : Int)) _) _
  rw [range_eq, M.bind_ok]
  refine okb (ok_forR (n := 8) (fun i (s : List Trn) => (∀ x, x ∈ s ↔ ∃ t ∈ turnsL sh sh.length, (∃ m j k : Nat, ∃ y : Int, y < i ∧ (posL sh y sh.length)[m]? = some k ∧ (posL sh y sh.length)[m + 1]? = some j ∧ t = ((k : Int), (j : Int), sideT (m + 1), ())) ∧ seamOf picks t = some x) ∧ s.length ≤ sh.countP fun y => decide (y < ((i : Nat) : Int))) ⟨fun x => ?_, by simp⟩ fun i s hi ⟨a1, a2⟩ => ?_) fun s ⟨a1, a2⟩ => okv ⟨fun x => ?_, Nat.le_trans a2 (Nat.le_trans List.countP_le_length hl)⟩
  · constructor
    · intro h; cases h
    · rintro ⟨t, ht, ⟨m, j, k, y, hy, hk, _, _⟩, _⟩
      exfalso
      have := (pos_ok (l := sh) (n := y) (i := sh.length) (Nat.le_refl _)).2 _ k hk
      have := h8 y (List.mem_of_getElem? this.2.1)
      omega
  · unfold f_law_seams_l2
    rw [range_eq, M.bind_ok, show ((sh.length : Int) - 0).toNat = sh.length by omega, show (0 : Int) + (i : Int) = (i : Int) by omega]
    rw [comp_eq (g := fun j => if sh[j.toNat]? = some (i : Int) then some j else none) (by rw [upFrom_len]; omega) fun j hj => ?_]
    · rw [pos_comp, M.bind_ok, List.length_map]
      have pl : (posL sh (i : Int) sh.length).length ≤ 40 := by
        rw [posL_len]; exact Nat.le_trans List.count_le_length (by omega)
      rw [range_eq, M.bind_ok, show (((posL sh (i : Int) sh.length).length : Int) - 1 - 0).toNat = (posL sh (i : Int) sh.length).length - 1 by omega]
      refine okb (ok_forR (fun a (r : List Trn) => (∀ x, x ∈ r ↔ x ∈ s ∨ ∃ m, m < a ∧ ∃ j k : Nat, (posL sh (i : Int) sh.length)[m]? = some k ∧ (posL sh (i : Int) sh.length)[m + 1]? = some j ∧ seamOf picks ((k : Int), (j : Int), sideT (m + 1), ()) = some x) ∧ r.length ≤ s.length + a) ⟨fun x => by simp, Nat.le_refl _⟩ fun a r ha ⟨b1, b2⟩ => ?_) fun r ⟨b1, b2⟩ => okv ⟨fun x => ?_, by rw [cnt_succ]; have := posL_len (l := sh) (n := (i : Int)); omega⟩
      · obtain ⟨k, hk⟩ : ∃ k, (posL sh (i : Int) sh.length)[a]? = some k := ⟨_, List.getElem?_eq_getElem (by omega)⟩
        obtain ⟨j, hj⟩ : ∃ k, (posL sh (i : Int) sh.length)[a + 1]? = some k := ⟨_, List.getElem?_eq_getElem (by omega)⟩
        have pk := (pos_ok (l := sh) (n := (i : Int)) (i := sh.length) (Nat.le_refl _)).2 _ k hk
        have pj := (pos_ok (l := sh) (n := (i : Int)) (i := sh.length) (Nat.le_refl _)).2 _ j hj
        obtain ⟨u, hu⟩ : ∃ u, picks[k]? = some u := ⟨_, List.getElem?_eq_getElem (by omega)⟩
        obtain ⟨v, hv⟩ : ∃ u, picks[j]? = some u := ⟨_, List.getElem?_eq_getElem (by omega)⟩
        have es : ∀ sd, seamOf picks ((k : Int), (j : Int), sd, ()) = if u = v then none else some (min u v, max u v, sd, ()) := fun sd => by
          unfold seamOf
          simp only [Int.toNat_natCast]
          rw [hu, hv]; rfl
        have gk : ((posL sh (i : Int) sh.length).map fun k : Nat => (k : Int))[a]? = some (k : Int) := by rw [List.getElem?_map, hk]; rfl
        have gj : ((posL sh (i : Int) sh.length).map fun k : Nat => (k : Int))[a + 1]? = some (j : Int) := by rw [List.getElem?_map, hj]; rfl
        have step : ∀ x, (x ∈ s ∨ ∃ m, m < a + 1 ∧ ∃ j k : Nat, (posL sh (i : Int) sh.length)[m]? = some k ∧ (posL sh (i : Int) sh.length)[m + 1]? = some j ∧ seamOf picks ((k : Int), (j : Int), sideT (m + 1), ()) = some x) ↔ x ∈ r ∨ seamOf picks ((k : Int), (j : Int), sideT (a + 1), ()) = some x := fun x => by
          rw [b1 x]
          constructor
          · rintro (h | ⟨m, hm, j', k', q1, q2, q3⟩)
            · exact .inl (.inl h)
            · by_cases z : m = a
              · subst z
                rw [hk] at q1; cases q1
                rw [hj] at q2; cases q2
                exact .inr q3
              · exact .inl (.inr ⟨m, by omega, j', k', q1, q2, q3⟩)
          · rintro ((h | ⟨m, hm, q⟩) | h)
            · exact .inl h
            · exact .inr ⟨m, by omega, q⟩
            · exact .inr ⟨a, by omega, j, k, hk, hj, h⟩
        unfold f_law_seams_l1
        rw [show (0 : Int) + (a : Int) = (a : Int) by omega, getM_nat gk, M.bind_ok, getM_nat hu, M.bind_ok, show (a : Int) + 1 = ((a + 1 : Nat) : Int) by omega, getM_nat gj, M.bind_ok, getM_nat hv, M.bind_ok]
        refine okif (fun c => ?_) fun c => ?_
        · have c : ¬ u = v := by simpa using c
          have sd : getM [tx "right", tx "left"] ((a : Int) % 2) = .ok (sideT (a + 1)) := by
            unfold sideT
            by_cases z : a % 2 = 0
            · rw [if_pos (by omega), show (a : Int) % 2 = 0 by omega]; exact getM_at (by decide) rfl
            · rw [if_neg (by omega), show (a : Int) % 2 = 1 by omega]; exact getM_at (by decide) rfl
          rw [sd, M.bind_ok, M.bind_ok]
          have hr : s.length ≤ 12 := Nat.le_trans a2 (Nat.le_trans List.countP_le_length hl)
          refine okb (ok_push (by omega)) fun f e => okv ?_
          subst e
          refine ⟨fun x => ?_, by simp; omega⟩
          rw [step x, es, if_neg c, List.mem_append, List.mem_singleton]
          constructor
          · rintro (h | h)
            · exact .inl h
            · exact .inr (by rw [h])
          · rintro (h | h)
            · exact .inl h
            · exact .inr (Option.some.inj h).symm
        · have c : u = v := by simpa using c
          refine okv ⟨fun x => ?_, by omega⟩
          rw [step x, es, if_pos c]; simp
      · rw [b1 x, a1 x]
        constructor
        · rintro (⟨t, ht, ⟨m, j, k, y, hy, q⟩, h⟩ | ⟨m, hm, j, k, q1, q2, q3⟩)
          · exact ⟨t, ht, ⟨m, j, k, y, by omega, q⟩, h⟩
          · exact ⟨_, in_turn q1 q2, ⟨m, j, k, (i : Int), by omega, q1, q2, rfl⟩, q3⟩
        · rintro ⟨t, ht, ⟨m, j, k, y, hy, q1, q2, q3⟩, h⟩
          by_cases z : y < (i : Int)
          · exact .inl ⟨t, ht, ⟨m, j, k, y, z, q1, q2, q3⟩, h⟩
          · have : y = (i : Int) := by omega
            subst this
            rw [q3] at h
            have := (List.getElem?_eq_some_iff.mp q2).1
            exact .inr ⟨m, by omega, j, k, q1, q2, h⟩
    · rw [upFrom_mem] at hj
      obtain ⟨v, hv⟩ : ∃ v, sh[j.toNat]? = some v := ⟨_, List.getElem?_eq_getElem (by omega)⟩
      rw [getM_at (by omega) hv, M.bind_ok, M.bind_ok, hv]
      by_cases z : v = (i : Int)
      · subst z; simp
      · simp [z]
  · rw [a1 x]
    unfold IsSeam
    constructor
    · rintro ⟨t, ht, _, h⟩; exact ⟨t, ht, h⟩
    · rintro ⟨t, ht, h⟩
      obtain ⟨y, m, j, k, hy, q1, q2, q3, _⟩ := turn_in ht
      have := h8 y hy
      exact ⟨t, ht, ⟨m, j, k, y, by omega, q1, q2, q3⟩, h⟩
theorem right_ok {found made : List Trn} (h1 : found.Pairwise (fun a b => ltT a b = true)) (h2 : ∀ x, x ∈ found ↔ x ∈ made) (l1 : found.length ≤ 1000) (l2 : made.length ≤ 1000) : f_law_seams_right found made = .ok true := by
  refine oke ?_
  unfold f_law_seams_right
  rw [if_neg (by simp)]
  refine okel (N := fun _ => True) (R := fun _ => False) (okmono (ok_forF (fun _ _ => True) (fun _ => False) trivial fun i x u hi _ => ?_) fun r hr => by cases r <;> exact hr) (fun u _ => ?_) fun r h => h.elim
  · unfold f_law_seams_right_l1
    rw [if_neg (by simp)]
    have hx := (h2 x).mp (List.mem_of_getElem? hi)
    have wn : ∀ n : Int, f_law_whole_number n = .ok true := fun n => rfl
    rw [wn, wn]
    simp only [M.bind_ok]
    rw [if_neg (by simp), if_neg (by simp)]
    simp only [M.bind_ok]
    rw [if_neg (by unfold memD; simp [hx])]
    exact okv trivial
  · rw [range_eq, M.bind_ok, show ((found.length : Int) - 1 - 0).toNat = found.length - 1 by omega]
    refine okel (N := fun _ => True) (R := fun _ => False) (okmono (ok_forFR (fun _ _ => True) (fun _ => False) trivial fun i u hi _ => ?_) fun r hr => by cases r <;> exact hr) (fun u _ => ?_) fun r h => h.elim
    · obtain ⟨a, ha⟩ : ∃ a, found[i]? = some a := ⟨_, List.getElem?_eq_getElem (by omega)⟩
      obtain ⟨b, hb⟩ : ∃ a, found[i + 1]? = some a := ⟨_, List.getElem?_eq_getElem (by omega)⟩
      have hab : ltT a b = true := by
        obtain ⟨q1, e1⟩ := List.getElem?_eq_some_iff.mp ha
        obtain ⟨q2, e2⟩ := List.getElem?_eq_some_iff.mp hb
        rw [← e1, ← e2]
        exact List.pairwise_iff_getElem.mp h1 i (i + 1) q1 q2 (Nat.lt_succ_self i)
      unfold f_law_seams_right_l2
      rw [show (0 : Int) + (i : Int) = (i : Int) by omega, getM_nat ha, M.bind_ok, show (i : Int) + 1 = ((i + 1 : Nat) : Int) by omega, getM_nat hb, M.bind_ok]
      show Okm (M.bind (M.bind (M.ok (ltT a b)) fun y => M.ok (!y)) _) _
      rw [hab, M.bind_ok, M.bind_ok, if_neg (by simp)]
      exact okv trivial
    · rw [comp_map (g := fun _ => true) (by omega) fun x hx => ?_]
      · exact okv (by simp)
      · rw [show memD x found = true by unfold memD; simp [(h2 x).mpr hx]]
end
def tubeL (r : List Trn) : List PrI := r.filterMap fun t => if t.2.2.1 = tx "left" ∧ (t.1, t.2.1, tx "right", ()) ∈ r then some (t.1, t.2.1, ()) else none
theorem insS_len {α : Type} {lt : α → α → Bool} {x : α} : ∀ {l : List α}, (insS lt x l).length ≤ l.length + 1
  | [] => Nat.le_refl _
  | y :: r => by
    unfold insS
    split
    · simp
    · split
      · have := insS_len (lt := lt) (x := x) (l := r); simp; omega
      · simp
theorem srtS_len {α : Type} {lt : α → α → Bool} : ∀ {l : List α}, (srtS lt l).length ≤ l.length
  | [] => Nat.le_refl _
  | x :: r => by
    have := insS_len (lt := lt) (x := x) (l := srtS lt r)
    have := srtS_len (lt := lt) (l := r)
    rw [srtS, List.length_cons]
    omega
theorem memD_i {α : Type} [DecidableEq α] {x : α} {xs : List α} : memD x xs = true ↔ x ∈ xs := by unfold memD; exact decide_eq_true_iff
theorem tubes_gen {found : List Tx} {sh : List Int} {r : List Trn} (hs : f_seams_of found sh = .ok r) (hl : r.length ≤ 40) : f_tubes_of found sh = .ok (tubeL r) := by
  refine oke ?_
  unfold f_tubes_of
  rw [hs, M.bind_ok]
  dsimp only
  refine okb (ok_for (fun i (s : List PrI) => s = (r.take i).filterMap (fun t => if t.2.2.1 = tx "left" ∧ (t.1, t.2.1, tx "right", ()) ∈ r then some (t.1, t.2.1, ()) else none)) rfl fun i t s ht e => ?_) fun s e => okv (by rw [e, List.take_length]; rfl)
  subst e
  have hil := (List.getElem?_eq_some_iff.mp ht).1
  have hlen := List.length_filterMap_le (fun t : Trn => if t.2.2.1 = tx "left" ∧ (t.1, t.2.1, tx "right", ()) ∈ r then some ((t.1, t.2.1, ()) : PrI) else none) (r.take i)
  rw [List.length_take] at hlen
  rw [List.take_add_one, ht, Option.toList_some, List.filterMap_append]
  unfold f_tubes_of_l1
  by_cases c : t.2.2.1 = tx "left" ∧ (t.1, t.2.1, tx "right", ()) ∈ r
  · rw [if_pos (by rw [decide_eq_true c.1, memD_i.mpr c.2]; rfl)]
    refine okb (ok_push (by omega)) fun s e => okv ?_
    rw [e]
    simp [c]
  · rw [if_neg (by rw [Bool.and_eq_true, decide_eq_true_eq, memD_i]; exact c)]
    refine okv ?_
    simp [c]
theorem tube_mem {r : List Trn} {y : PrI} : y ∈ tubeL r ↔ (y.1, y.2.1, tx "left", ()) ∈ r ∧ (y.1, y.2.1, tx "right", ()) ∈ r := by
  unfold tubeL
  rw [List.mem_filterMap]
  constructor
  · rintro ⟨⟨a, b, c, _⟩, ht, e⟩
    simp only at e
    split at e
    · rename_i h
      cases e
      rw [← h.1]
      exact ⟨ht, by rw [h.1] at *; exact h.2⟩
    · cases e
  · rintro ⟨h1, h2⟩
    exact ⟨_, h1, by show (if tx "left" = tx "left" ∧ _ then _ else _) = _; rw [if_pos ⟨rfl, h2⟩]⟩
theorem tube_pw {r : List Trn} (h : r.Pairwise fun a b => ltT a b = true) : (tubeL r).Pairwise fun a b => ltP a b = true := by
  unfold tubeL
  rw [List.pairwise_filterMap]
  refine h.imp fun {a b} hab x hx y hy => ?_
  split at hx
  · rename_i c1
    split at hy
    · rename_i c2
      cases hx; cases hy
      rw [ltT_iff] at hab
      refine decide_eq_true ?_
      rcases hab with q | ⟨q, z | ⟨z, w⟩⟩
      · exact .inl q
      · exact .inr ⟨q, z⟩
      · rw [c1.1, c2.1] at w
        exact absurd w (str_irr _)
    · cases hy
  · cases hx
theorem tubes_right {r made : List Trn} (h1 : r.Pairwise fun a b => ltT a b = true) (h2 : ∀ x, x ∈ r ↔ x ∈ made) (l1 : r.length ≤ 40) (l2 : made.length ≤ 12) (hb : ∀ x ∈ made, 0 ≤ x.1 ∧ x.1 < 64 ∧ 0 ≤ x.2.1 ∧ x.2.1 < 64) : f_law_tubes_right (tubeL r) made = .ok true := by
  refine oke ?_
  unfold f_law_tubes_right
  rw [if_neg (by simp)]
  let g : Trn → Option PrI := fun t => if (t.1, t.2.1, tx "right", ()) ∈ made then some (t.1, t.2.1, ()) else none
  rw [comp_eq (g := g) (by omega) fun t ht => by
    show (if memD _ made = true then _ else _) = _
    by_cases c : (t.1, t.2.1, tx "right", ()) ∈ made
    · rw [if_pos (memD_i.mpr c)]; simp only [g]; rw [if_pos c]
    · rw [if_neg fun z => c (memD_i.mp z)]; simp only [g]; rw [if_neg c], M.bind_ok]
  have gl : (made.filterMap g).length ≤ 12 := Nat.le_trans (List.length_filterMap_le _ _) l2
  have gm : ∀ y : PrI, y ∈ made.filterMap g ↔ (∃ sd, (y.1, y.2.1, sd, ()) ∈ made) ∧ (y.1, y.2.1, tx "right", ()) ∈ made := fun y => by
    rw [List.mem_filterMap]
    constructor
    · rintro ⟨⟨a, b, c, _⟩, ht, e⟩
      simp only [g] at e
      split at e
      · rename_i h
        cases e
        exact ⟨⟨c, ht⟩, h⟩
      · cases e
    · rintro ⟨⟨sd, h⟩, h3⟩
      exact ⟨_, h, by simp only [g]; rw [if_pos h3]⟩
  have es : setSortP (made.filterMap g) = .ok (srtS ltP (made.filterMap g)) := by
    unfold setSortP
    refine if_pos ⟨by omega, List.all_eq_true.mpr fun y hy => ?_⟩
    obtain ⟨⟨sd, h⟩, _⟩ := (gm y).mp hy
    have := hb _ h
    exact decide_eq_true this
  rw [es, M.bind_ok]
  have sl : (srtS ltP (made.filterMap g)).length ≤ 12 := Nat.le_trans srtS_len gl
  let f : PrI → Option PrI := fun y => if (y.1, y.2.1, tx "left", ()) ∈ made then some y else none
  rw [comp_eq (g := f) (by omega) fun t ht => by
    show (if memD _ made = true then _ else _) = _
    by_cases c : (t.1, t.2.1, tx "left", ()) ∈ made
    · rw [if_pos (memD_i.mpr c)]; simp only [f]; rw [if_pos c]
    · rw [if_neg fun z => c (memD_i.mp z)]; simp only [f]; rw [if_neg c], M.bind_ok]
  refine okel (N := fun _ => True) (R := fun _ => False) (okmono (ok_forF (fun _ _ => True) (fun _ => False) trivial fun i x u hi _ => ?_) fun r hr => by cases r <;> exact hr) (fun u _ => ?_) fun r h => h.elim
  · unfold f_law_tubes_right_l1
    rw [if_neg (by simp)]
    have wn : ∀ n : Int, f_law_whole_number n = .ok true := fun n => rfl
    rw [wn, wn]
    simp only [M.bind_ok]
    rw [if_neg (by simp)]
    simp only [M.bind_ok]
    exact okv trivial
  · refine okv (decide_eq_true ?_)
    refine srt_uniq slt_P (tube_pw h1) ?_ fun y => ?_
    · rw [List.pairwise_filterMap]
      refine (srtS_pw slt_P).imp fun {a b} hab x hx y hy => ?_
      simp only [f] at hx hy
      split at hx
      · split at hy
        · cases hx; cases hy; exact hab
        · cases hy
      · cases hx
    · rw [tube_mem, h2, h2, List.mem_filterMap]
      constructor
      · rintro ⟨q1, q2⟩
        refine ⟨y, (srtS_mem slt_P).mpr ((gm y).mpr ⟨⟨_, q1⟩, q2⟩), ?_⟩
        simp only [f]
        rw [if_pos q1]
      · rintro ⟨z, hz, e⟩
        simp only [f] at e
        split at e
        · rename_i c
          cases e
          exact ⟨c, ((gm _).mp ((srtS_mem slt_P).mp hz)).2⟩
        · cases e
theorem fmI {α : Type} {p : α → Bool} {l : List α} : l.filterMap (fun x => if p x = true then some x else none) = l.filter p := by
  induction l with
  | nil => rfl
  | cons x r ih =>
    rw [List.filterMap_cons, List.filter_cons]
    cases p x <;> simp [ih]
inductive Con (E : Int → Int → Prop) (x : Int) : Int → Prop where
  | refl : Con E x x
  | fwd {y z} : Con E x y → E y z → Con E x z
  | bck {y z} : Con E x y → E z y → Con E x z
theorem Con.trans {E : Int → Int → Prop} {x y z : Int} (h : Con E x y) (k : Con E y z) : Con E x z := by
  induction k with
  | refl => exact h
  | fwd _ e ih => exact ih.fwd e
  | bck _ e ih => exact ih.bck e
theorem Con.symm {E : Int → Int → Prop} {x y : Int} (h : Con E x y) : Con E y x := by
  induction h with
  | refl => exact .refl
  | fwd _ e ih => exact (Con.refl.bck e).trans ih
  | bck _ e ih => exact (Con.refl.fwd e).trans ih
def Ed (r : List Trn) (a b : Int) : Prop := ∃ sd, (a, b, sd, ()) ∈ r
/-- each seam's ends are numbers of layers -/
def InB (r : List Trn) (n : Nat) : Prop := ∀ x ∈ r, 0 ≤ x.1 ∧ x.1 < n ∧ 0 ≤ x.2.1 ∧ x.2.1 < n
/-- the marks: the least of those that hang together, at last -/
structure Mk (r : List Trn) (n i : Nat) (m : Int → Int) : Prop where
  le : ∀ x : Int, 0 ≤ x → x < n → 0 ≤ m x ∧ m x ≤ x
  con : ∀ x : Int, 0 ≤ x → x < n → Con (Ed r) x (m x)
  idm : ∀ x : Int, 0 ≤ x → x < n → m (m x) = m x
  eq : ∀ t ∈ r.take i, m t.1 = m t.2.1
theorem marks39 {r : List Trn} {n : Nat} (hb : InB r n) (hr : r.length ≤ 40) (hn : n ≤ 1000) : Okm (forM f_sheets_of_l1 (vec n fun x => x) r) (fun s => ∃ m, s = vec n m ∧ Mk r n r.length m) := by
  refine ok_for (fun i (s : List Int) => ∃ m, s = vec n m ∧ Mk r n i m) ⟨_, rfl, fun x h0 _ => ⟨h0, Int.le_refl _⟩, fun x _ _ => .refl, fun x _ _ => rfl, fun t ht => by simp at ht⟩ fun i t s ht ⟨m, e, h⟩ => ?_
  subst e
  have htm := List.mem_of_getElem? ht
  obtain ⟨b1, b2, b3, b4⟩ := hb t htm
  have hed : Ed r t.1 t.2.1 := ⟨t.2.2.1, htm⟩
  unfold f_sheets_of_l1
  rw [vec_get b1 b2, M.bind_ok, vec_get b3 b4, M.bind_ok, M.bind_ok]
  simp only [M.bind_ok]
  have hcmp : compM (fun mark36 => M.bind (if (decide (mark36 = max (m t.1) (m t.2.1))) = true then M.ok (min (m t.1) (m t.2.1)) else M.ok mark36) fun y41 => M.ok (some y41)) (vec n m) = .ok (vec n fun x => if m x = max (m t.1) (m t.2.1) then min (m t.1) (m t.2.1) else m x) := by
    rw [comp_map (g := fun k => if k = max (m t.1) (m t.2.1) then min (m t.1) (m t.2.1) else k) (by rw [vec_len]; omega) fun k _ => ?_]
    · unfold vec
      rw [List.map_map]; rfl
    · by_cases c : k = max (m t.1) (m t.2.1)
      · rw [if_pos (decide_eq_true c), M.bind_ok, if_pos c]
      · rw [if_neg (by simpa using c), M.bind_ok, if_neg c]
  rw [hcmp, M.bind_ok]
  have l1 := h.le _ b1 b2
  have l2 := h.le _ b3 b4
  have c1 := h.con _ b1 b2
  have c2 := h.con _ b3 b4
  have i1 := h.idm _ b1 b2
  have i2 := h.idm _ b3 b4
  have cc : Con (Ed r) (max (m t.1) (m t.2.1)) (min (m t.1) (m t.2.1)) := by
    have q : Con (Ed r) (m t.1) (m t.2.1) := c1.symm.trans ((Con.refl.fwd hed).trans c2)
    rcases Int.le_total (m t.1) (m t.2.1) with z | z
    · rw [Int.max_eq_right z, Int.min_eq_left z]; exact q.symm
    · rw [Int.max_eq_left z, Int.min_eq_right z]; exact q
  have il : m (min (m t.1) (m t.2.1)) = min (m t.1) (m t.2.1) := by
    rcases Int.le_total (m t.1) (m t.2.1) with z | z
    · rw [Int.min_eq_left z]; exact i1
    · rw [Int.min_eq_right z]; exact i2
  refine okv ⟨_, rfl, fun x h0 h1 => ?_, fun x h0 h1 => ?_, fun x h0 h1 => ?_, fun u hu => ?_⟩
  · have := h.le x h0 h1
    split <;> omega
  · split
    · rename_i c
      have := h.con x h0 h1
      rw [c] at this
      exact this.trans cc
    · exact h.con x h0 h1
  · by_cases c : m x = max (m t.1) (m t.2.1)
    · rw [if_pos c, il]
      split <;> rfl
    · rw [if_neg c, h.idm x h0 h1, if_neg c]
  · rw [List.take_add_one, ht] at hu
    simp only [Option.toList_some, List.mem_append, List.mem_singleton] at hu
    rcases hu with hu | rfl
    · rw [h.eq u hu]
    · split <;> split <;> omega
section
variable {r : List Trn} {n : Nat} {m : Int → Int}
theorem Mk.iff (h : Mk r n r.length m) (hb : InB r n) {x y : Int} (x0 : 0 ≤ x) (x1 : x < n) (y0 : 0 ≤ y) (y1 : y < n) : m x = m y ↔ Con (Ed r) x y := by
  constructor
  · intro e
    have q1 := h.con x x0 x1
    have q2 := h.con y y0 y1
    rw [e] at q1
    exact q1.trans q2.symm
  · intro c
    have he := h.eq
    rw [List.take_length] at he
    have : ∀ z, Con (Ed r) x z → m x = m z := fun z c => by
      induction c with
      | refl => rfl
      | fwd _ e ih => obtain ⟨sd, q⟩ := e; rw [ih]; exact he _ q
      | bck _ e ih => obtain ⟨sd, q⟩ := e; rw [ih]; exact (he _ q).symm
    exact this y c
/-- those with a mark -/
def clsL (m : Int → Int) (n : Nat) (k : Int) : List Int := (upFrom 0 n).filter fun x => decide (m x = k)
def fstL (m : Int → Int) (n : Nat) : List Int := (upFrom 0 n).filter fun x => decide (m x = x)
def shtL (m : Int → Int) (n : Nat) : List (List Int) := (fstL m n).map (clsL m n)
theorem cls_mem {k x : Int} : x ∈ clsL m n k ↔ (0 ≤ x ∧ x < n) ∧ m x = k := by
  unfold clsL
  rw [List.mem_filter, upFrom_mem, decide_eq_true_eq]
  constructor
  · rintro ⟨q, e⟩; exact ⟨by omega, e⟩
  · rintro ⟨q, e⟩; exact ⟨by omega, e⟩
theorem fst_mem {x : Int} : x ∈ fstL m n ↔ (0 ≤ x ∧ x < n) ∧ m x = x := by
  unfold fstL
  rw [List.mem_filter, upFrom_mem, decide_eq_true_eq]
  constructor
  · rintro ⟨q, e⟩; exact ⟨by omega, e⟩
  · rintro ⟨q, e⟩; exact ⟨by omega, e⟩
theorem up_pw : ∀ (n : Nat) (lo : Int), (upFrom lo n).Pairwise (· < ·)
  | 0, lo => .nil
  | n + 1, lo => by
    rw [upFrom]
    refine List.pairwise_cons.mpr ⟨fun y hy => ?_, up_pw n _⟩
    have := upFrom_mem.mp hy
    omega
theorem cls_pw {k : Int} : (clsL m n k).Pairwise (· < ·) := (up_pw _ _).filter _
theorem fst_pw : (fstL m n).Pairwise (· < ·) := (up_pw _ _).filter _
theorem cls_len {k : Int} : (clsL m n k).length ≤ n := Nat.le_trans (List.length_filter_le _ _) (by rw [upFrom_len]; exact Nat.le_refl _)
theorem fst_len : (fstL m n).length ≤ n := Nat.le_trans (List.length_filter_le _ _) (by rw [upFrom_len]; exact Nat.le_refl _)
theorem cls_hd (h : Mk r n r.length m) {k : Int} (hk : k ∈ fstL m n) : (clsL m n k)[0]? = some k := by
  obtain ⟨⟨k0, k1⟩, k2⟩ := fst_mem.mp hk
  have hm : k ∈ clsL m n k := cls_mem.mpr ⟨⟨k0, k1⟩, k2⟩
  cases e : clsL m n k with
  | nil => rw [e] at hm; cases hm
  | cons a l =>
    have ha : a ∈ clsL m n k := by rw [e]; exact List.mem_cons_self
    obtain ⟨⟨a0, a1⟩, a2⟩ := cls_mem.mp ha
    have := (h.le a a0 a1).2
    have pw := cls_pw (m := m) (n := n) (k := k)
    rw [e] at pw hm
    rcases List.mem_cons.mp hm with z | z
    · rw [z]; rfl
    · have := (List.pairwise_cons.mp pw).1 k z
      omega
theorem sheets39 {found : List Tx} {sh : List Int} {LV : List Int} (hs : f_seams_of found sh = .ok r) (hl : f_layer_numbers found = .ok LV) (hm : maxM LV = .ok ((n : Int) - 1)) (hb : InB r n) (hr : r.length ≤ 40) (hn : n ≤ 1000) : Okm (f_sheets_of found sh) (fun s => ∃ m, s = shtL m n ∧ Mk r n r.length m) := by
  unfold f_sheets_of
  rw [hs, M.bind_ok, hl, M.bind_ok, hm, M.bind_ok, M.bind_ok]
  have erg : rangeL 0 ((n : Int) - 1 + 1) = .ok (vec n fun x => x) := by
    unfold rangeL
    rw [if_pos ⟨by omega, by omega, by omega, by omega, by omega⟩]
    unfold vec
    rw [List.map_id', show ((n : Int) - 1 + 1 - 0).toNat = n by omega]
  rw [erg, M.bind_ok]
  refine okb (marks39 hb hr hn) fun s ⟨m, e, h⟩ => ?_
  subst e
  dsimp only
  rw [range_eq, M.bind_ok, show ((n : Int) - 1 + 1 - 0).toNat = n by omega]
  have hcls : ∀ first : Int, (M.bind (rangeM 0 ((n : Int) - 1 + 1)) fun xs => compM (fun layer => M.bind (M.bind (getM (vec n m) layer) fun y => M.ok (decide (y = first))) fun c => if c = true then M.ok (some layer) else M.ok none) xs) = .ok (clsL m n first) := fun first => by
    rw [range_eq, M.bind_ok, show ((n : Int) - 1 + 1 - 0).toNat = n by omega]
    rw [comp_eq (g := fun x => if decide (m x = first) = true then some x else none) (by rw [upFrom_len]; omega) fun x hx => ?_]
    · exact congrArg M.ok (fmI (p := fun x => decide (m x = first)))
    · rw [upFrom_mem] at hx
      rw [vec_get (by omega) (by omega), M.bind_ok, M.bind_ok]
      cases decide (m x = first) <;> rfl
  refine okb (ok_forR (fun i (s : List (List Int)) => s = ((upFrom 0 i).filter fun x => decide (m x = x)).map (clsL m n)) rfl fun i s hi e => ?_) fun s e => okv ⟨m, e, h⟩
  subst e
  unfold f_sheets_of_l2
  rw [hcls, M.bind_ok, Int.zero_add]
  have eu : upFrom 0 (i + 1) = upFrom 0 i ++ [(i : Int)] := by
    have : ∀ (k : Nat) (lo : Int), upFrom lo (k + 1) = upFrom lo k ++ [lo + k] := fun k => by
      induction k with
      | zero => intro lo; simp [upFrom]
      | succ k ih =>
        intro lo
        rw [upFrom, ih, upFrom, List.cons_append]
        congr 3
        push_cast
        omega
    rw [this, Int.zero_add]
  rw [eu, List.filter_append, List.map_append]
  have ll : (((upFrom 0 i).filter fun x => decide (m x = x)).map (clsL m n)).length ≤ i := by rw [List.length_map]; exact Nat.le_trans (List.length_filter_le _ _) (by rw [upFrom_len]; exact Nat.le_refl _)
  by_cases c : m (i : Int) = (i : Int)
  · have hk : (i : Int) ∈ clsL m n (i : Int) := cls_mem.mpr ⟨⟨by omega, by omega⟩, c⟩
    have hp := List.length_pos_of_mem hk
    rw [if_pos (decide_eq_true (by omega))]
    dsimp only
    refine okb (ok_push (by omega)) fun s e => okv ?_
    rw [e]
    simp [c]
  · have hz : clsL m n (i : Int) = [] := by
      cases e : clsL m n (i : Int) with
      | nil => rfl
      | cons a l =>
        have ha : a ∈ clsL m n (i : Int) := by rw [e]; exact List.mem_cons_self
        obtain ⟨⟨a0, a1⟩, a2⟩ := cls_mem.mp ha
        have := h.idm a a0 a1
        rw [a2] at this
        exact absurd this c
    rw [hz, if_neg (by simp)]
    exact okv (by simp [c])
end
def vecB (n : Nat) (f : Int → Bool) : List Bool := (upFrom 0 n).map f
section
variable {n : Nat} {f g : Int → Bool} {made r : List Trn}
theorem vecB_len : (vecB n f).length = n := by unfold vecB; rw [List.length_map, upFrom_len]
theorem vecB_get {x : Int} (h0 : 0 ≤ x) (h1 : x < n) : getM (vecB n f) x = .ok (f x) := getM_at h0 (by
  unfold vecB
  rw [List.getElem?_map, upFrom_get, if_pos (by omega), show (0 : Int) + (x.toNat : Int) = x by omega]; rfl)
theorem vecB_set {x : Int} {v : Bool} (h0 : 0 ≤ x) (h1 : x < n) : setM (vecB n f) x v = .ok (vecB n fun y => if y = x then v else f y) := by
  rw [oke (ok_set (xs := vecB n f) h0 (by rw [vecB_len]; exact h1))]
  congr 1
  refine List.ext_getElem? fun p => ?_
  have hg : ∀ k : Int → Bool, (vecB n k)[p]? = if p < n then some (k (p : Int)) else none := fun k => by
    unfold vecB
    rw [List.getElem?_map, upFrom_get]
    by_cases c : p < n
    · rw [if_pos c, if_pos c, Int.zero_add]; rfl
    · rw [if_neg c, if_neg c]; rfl
  rw [hg]
  by_cases q : x.toNat = p
  · subst q
    rw [List.getElem?_set_self (by rw [vecB_len]; omega), if_pos (by omega), if_pos (by omega)]
  · rw [List.getElem?_set_ne q, hg]
    have : ¬ (p : Int) = x := by omega
    rw [if_neg this]
/-- how many are seen -/
def cntB (n : Nat) (f : Int → Bool) : Nat := (upFrom 0 n).countP f
theorem cntB_le : cntB n f ≤ n := Nat.le_trans List.countP_le_length (by rw [upFrom_len]; exact Nat.le_refl _)
theorem cntB_lt (h : ∀ x, 0 ≤ x → x < (n : Int) → f x = true → g x = true) {z : Int} (z0 : 0 ≤ z) (z1 : z < n) (hf : f z = false) (hg : g z = true) : cntB n f + 1 ≤ cntB n g := by
  have key : ∀ l : List Int, (∀ x ∈ l, f x = true → g x = true) → z ∈ l → l.countP f + 1 ≤ l.countP g := fun l => by
    induction l with
    | nil => intro _ hz; cases hz
    | cons a l ih =>
      intro hl hz
      have mono : l.countP f ≤ l.countP g := List.countP_mono_left fun x hx => hl x (List.mem_cons_of_mem _ hx)
      rw [List.countP_cons, List.countP_cons]
      rcases List.mem_cons.mp hz with e | hz
      · subst e
        rw [hf, hg]
        simp
        omega
      · have := ih (fun x hx => hl x (List.mem_cons_of_mem _ hx)) hz
        have ha := hl a List.mem_cons_self
        cases q1 : f a <;> cases q2 : g a <;> simp <;> first | omega | (rw [ha q1] at q2; cases q2)
  exact key _ (fun x hx => by rw [upFrom_mem] at hx; exact h x (by omega) (by omega)) (upFrom_mem.mpr (by omega))
def Clsd (made : List Trn) (f : Int → Bool) : Prop := ∀ t ∈ made, (f t.1 || f t.2.1) = true → f t.1 = true ∧ f t.2.1 = true
theorem round39 (hb : InB made n) {first : Int} (hl : made.length ≤ 12) (hs : ∀ x, 0 ≤ x → x < (n : Int) → f x = true → Con (Ed made) first x) : Okm (forM f_law_spread_l1 (vecB n f) made) (fun s => ∃ g, s = vecB n g ∧ (∀ x, f x = true → g x = true) ∧ (∀ x, 0 ≤ x → x < (n : Int) → g x = true → Con (Ed made) first x) ∧ (Clsd made f → ∀ x, g x = f x) ∧ ((∀ x, 0 ≤ x → x < (n : Int) → g x = f x) → Clsd made f)) := by
  refine okmono (ok_for (fun i (s : List Bool) => ∃ g, s = vecB n g ∧ (∀ x, f x = true → g x = true) ∧ (∀ x, 0 ≤ x → x < (n : Int) → g x = true → Con (Ed made) first x) ∧ (Clsd made f → ∀ x, g x = f x) ∧ ∀ t ∈ made.take i, (f t.1 || f t.2.1) = true → g t.1 = true ∧ g t.2.1 = true) ⟨f, rfl, fun x h => h, hs, fun _ _ => rfl, fun t ht => by simp at ht⟩ fun i t s ht ⟨g, e, a1, a2, a3, a4⟩ => ?_) fun s ⟨g, e, a1, a2, a3, a4⟩ => ⟨g, e, a1, a2, a3, fun hg t ht ho => ?_⟩
  · subst e
    have htm := List.mem_of_getElem? ht
    obtain ⟨b1, b2, b3, b4⟩ := hb t htm
    have hed : Ed made t.1 t.2.1 := ⟨t.2.2.1, htm⟩
    unfold f_law_spread_l1
    rw [vecB_get b1 b2, M.bind_ok]
    have eo : (if g t.1 = true then M.ok true else getM (vecB n g) t.2.1) = .ok (g t.1 || g t.2.1) := by
      cases q : g t.1 with
      | true => rw [if_pos rfl]; rfl
      | false => rw [if_neg Bool.false_ne_true, vecB_get b3 b4]; rfl
    rw [eo, M.bind_ok]
    refine okif (fun c => ?_) fun c => okv ⟨g, rfl, a1, a2, a3, fun u hu ho => ?_⟩
    · rw [vecB_set b1 b2, M.bind_ok, vecB_set b3 b4, M.bind_ok]
      have hcon : Con (Ed made) first t.1 ∧ Con (Ed made) first t.2.1 := by
        rcases Bool.or_eq_true_iff.mp c with c | c
        · have := a2 _ b1 b2 c; exact ⟨this, this.fwd hed⟩
        · have := a2 _ b3 b4 c; exact ⟨this.bck hed, this⟩
      refine okv ⟨_, rfl, fun x hx => ?_, fun x h0 h1 hx => ?_, fun hc x => ?_, fun u hu ho => ?_⟩
      · have := a1 x hx
        split
        · rfl
        · split
          · rfl
          · exact this
      · split at hx
        · rename_i e; rw [e]; exact hcon.2
        · split at hx
          · rename_i e; rw [e]; exact hcon.1
          · exact a2 x h0 h1 hx
      · have hg := a3 hc
        rw [hg, hg] at c
        have := hc t htm c
        split
        · rename_i e; rw [e, this.2]
        · split
          · rename_i e; rw [e, this.1]
          · exact hg x
      · rw [List.take_add_one, ht] at hu
        simp only [Option.toList_some, List.mem_append, List.mem_singleton] at hu
        rcases hu with hu | rfl
        · have := a4 u hu ho
          constructor
          · split
            · rfl
            · split
              · rfl
              · exact this.1
          · split
            · rfl
            · split
              · rfl
              · exact this.2
        · constructor
          · split
            · rfl
            · rw [if_pos rfl]
          · rw [if_pos rfl]
    · rw [List.take_add_one, ht] at hu
      simp only [Option.toList_some, List.mem_append, List.mem_singleton] at hu
      rcases hu with hu | rfl
      · exact a4 u hu ho
      · exfalso
        rw [Bool.or_eq_false_iff] at c
        rcases Bool.or_eq_true_iff.mp ho with z | z
        · have := a1 _ z; rw [c.1] at this; cases this
        · have := a1 _ z; rw [c.2] at this; cases this
  · rw [List.take_length] at a4
    obtain ⟨b1, b2, b3, b4⟩ := hb t ht
    have := a4 t ht ho
    rw [hg _ b1 b2, hg _ b3 b4] at this
    exact this
theorem clsd_con {made : List Trn} {f : Int → Bool} (h : Clsd made f) {a x : Int} (ha : f a = true) (c : Con (Ed made) a x) : f x = true := by
  induction c with
  | refl => exact ha
  | fwd _ e ih => obtain ⟨sd, q⟩ := e; exact (h _ q (by show (f _ || f _) = true; rw [ih]; rfl)).2
  | bck _ e ih => obtain ⟨sd, q⟩ := e; exact (h _ q (by show (f _ || f _) = true; rw [ih, Bool.or_true])).1
theorem spread39 (hb : InB made n) (hl : made.length ≤ 12) (hn : n ≤ 1000) {first : Int} (f0 : 0 ≤ first) (f1 : first < n) : Okm (f_law_spread first made (n : Int)) (fun s => ∃ p : Int → Bool, s = (upFrom 0 n).filter p ∧ ∀ x, 0 ≤ x → x < (n : Int) → (p x = true ↔ Con (Ed made) first x)) := by
  unfold f_law_spread
  rw [range_eq, M.bind_ok, show ((n : Int) - 0).toNat = n by omega]
  rw [comp_map (g := fun x => decide (x = first)) (by rw [upFrom_len]; omega) fun x _ => rfl, M.bind_ok, M.bind_ok]
  refine okb (ok_forR (fun i (s : List Bool) => ∃ f, s = vecB n f ∧ f first = true ∧ (∀ x, 0 ≤ x → x < (n : Int) → f x = true → Con (Ed made) first x) ∧ (Clsd made f ∨ i + 1 ≤ cntB n f)) ⟨fun x => decide (x = first), rfl, decide_eq_true rfl, fun x _ _ hx => by rw [of_decide_eq_true hx]; exact .refl, .inr ?_⟩ fun i s hi ⟨f, e, a1, a2, a3⟩ => ?_) fun s ⟨f, e, a1, a2, a3⟩ => ?_
  · have := cntB_lt (n := n) (f := fun _ => false) (g := fun x => decide (x = first)) (fun x _ _ h => nomatch h) f0 f1 rfl (decide_eq_true rfl)
    omega
  · subst e
    unfold f_law_spread_l2
    refine okb (round39 hb hl a2) fun s ⟨g, e, b1, b2, b3, b4⟩ => okv ⟨g, e, b1 _ a1, b2, ?_⟩
    rcases a3 with c | c
    · have := b3 c
      rw [funext this]
      exact .inl c
    · by_cases q : ∀ x, 0 ≤ x → x < (n : Int) → g x = f x
      · have cl := b4 q
        have := b3 cl
        rw [funext this]
        exact .inl cl
      · refine .inr ?_
        obtain ⟨z, hz⟩ := Classical.not_forall.mp q
        obtain ⟨z0, hz⟩ := Classical.not_imp.mp hz
        obtain ⟨z1, hz⟩ := Classical.not_imp.mp hz
        have hf : f z = false := by
          cases e1 : f z with
          | false => rfl
          | true => rw [b1 z e1, e1] at hz; exact absurd rfl hz
        have hg : g z = true := by
          cases e2 : g z with
          | true => rfl
          | false => rw [hf, e2] at hz; exact absurd rfl hz
        have := cntB_lt (n := n) (fun x _ _ => b1 x) z0 z1 hf hg
        omega
  · subst e
    have hc : Clsd made f := by
      rcases a3 with c | c
      · exact c
      · have := cntB_le (n := n) (f := f)
        omega
    rw [M.bind_ok]
    rw [comp_eq (g := fun x => if f x = true then some x else none) (by rw [upFrom_len]; omega) fun x hx => ?_]
    · exact okv ⟨f, fmI, fun x h0 h1 => ⟨a2 x h0 h1, clsd_con hc a1⟩⟩
    · rw [upFrom_mem] at hx
      rw [vecB_get (by omega) (by omega), M.bind_ok]
      cases f x <;> rfl
end
section
variable {n : Nat} {made r : List Trn} {m : Int → Int}
theorem sheets_right (h : Mk r n r.length m) (hb : InB r n) (hbm : InB made n) (hrm : ∀ x, x ∈ r ↔ x ∈ made) (hl : made.length ≤ 12) (hn : n ≤ 1000) : f_law_sheets_right (shtL m n) made (n : Int) = .ok true := by
  have hE : ∀ a b, Ed r a b ↔ Ed made a b := fun a b => ⟨fun ⟨sd, q⟩ => ⟨sd, (hrm _).mp q⟩, fun ⟨sd, q⟩ => ⟨sd, (hrm _).mpr q⟩⟩
  have hC : Ed r = Ed made := by funext a b; exact propext (hE a b)
  have wn : ∀ n : Int, f_law_whole_number n = .ok true := fun n => rfl
  have fl := fst_len (m := m) (n := n)
  refine oke ?_
  unfold f_law_sheets_right
  rw [if_neg (by simp)]
  dsimp only
  have hnd : (shtL m n).flatten.Nodup ∧ ∀ x, x ∈ (shtL m n).flatten ↔ 0 ≤ x ∧ x < (n : Int) := by
    constructor
    · unfold shtL
      have key : ∀ l : List Int, l.Nodup → (l.map (clsL m n)).flatten.Nodup := fun l => by
        induction l with
        | nil => intro _; simp
        | cons a l ih =>
          intro hl
          obtain ⟨h1, h2⟩ := List.nodup_cons.mp hl
          rw [List.map_cons, List.flatten_cons]
          refine List.nodup_append.mpr ⟨cls_pw.imp fun q => by omega, ih h2, fun x hx y hy e => ?_⟩
          subst e
          obtain ⟨c, hc, hy⟩ := List.mem_flatten.mp hy
          obtain ⟨b, hb, rfl⟩ := List.mem_map.mp hc
          have e1 := (cls_mem.mp hx).2
          have e2 := (cls_mem.mp hy).2
          rw [← e1, e2] at h1
          exact h1 hb
      exact key _ (fst_pw.imp fun q => by omega)
    · intro x
      unfold shtL
      rw [List.mem_flatten]
      constructor
      · rintro ⟨c, hc, hx⟩
        obtain ⟨b, hb, rfl⟩ := List.mem_map.mp hc
        exact (cls_mem.mp hx).1
      · rintro ⟨x0, x1⟩
        have := h.le x x0 x1
        exact ⟨clsL m n (m x), List.mem_map.mpr ⟨m x, fst_mem.mpr ⟨⟨by omega, by omega⟩, h.idm x x0 x1⟩, rfl⟩, cls_mem.mpr ⟨⟨x0, x1⟩, rfl⟩⟩
  have htk : ∀ i, ((shtL m n).take i).flatten.Sublist (shtL m n).flatten := fun i => by
    conv => rhs; rw [← List.take_append_drop i (shtL m n), List.flatten_append]
    exact List.sublist_append_left _ _
  have hlenF : (shtL m n).flatten.length = n := by
    have p1 : (shtL m n).flatten.Perm (upFrom 0 n) := (List.perm_ext_iff_of_nodup hnd.1 upFrom_nodup).mpr fun x => by rw [hnd.2, upFrom_mem]; constructor <;> (intro q; omega)
    rw [p1.length_eq, upFrom_len]
  refine okel (N := fun s => s = (shtL m n).flatten) (R := fun _ => False) (okmono (ok_forF (fun i (s : List Int) => s = ((shtL m n).take i).flatten) (fun _ => False) rfl fun i sheet s hi e => ?_) fun q hq => by
    cases q with
    | nx s => exact (show s = ((shtL m n).take (shtL m n).length).flatten from hq).trans (by rw [List.take_length])
    | rt v => exact hq) (fun s e => ?_) fun q h => h.elim
  · subst e
    obtain ⟨k, hk, rfl⟩ : ∃ k, k ∈ fstL m n ∧ sheet = clsL m n k := by
      have := List.mem_of_getElem? hi
      obtain ⟨k, hk, e⟩ := List.mem_map.mp this
      exact ⟨k, hk, e.symm⟩
    obtain ⟨⟨k0, k1⟩, k2⟩ := fst_mem.mp hk
    have hd := cls_hd h hk
    have cl := cls_len (m := m) (n := n) (k := k)
    have hnx : ((shtL m n).take (i + 1)).flatten = ((shtL m n).take i).flatten ++ clsL m n k := by
      rw [List.take_add_one, hi]; simp
    have hndi : (((shtL m n).take i).flatten ++ clsL m n k).Nodup := by rw [← hnx]; exact hnd.1.sublist (htk _)
    have htl : ((shtL m n).take i).flatten.length ≤ n := by have := (htk i).length_le; omega
    unfold f_law_sheets_right_l2
    rw [if_neg (by
      have : clsL m n k ≠ [] := fun e => by rw [e] at hd; simp at hd
      simp [this])]
    refine okel (N := fun s => s = ((shtL m n).take (i + 1)).flatten) (R := fun _ => False) (okmono (ok_forF (fun j (s : List Int) => s = ((shtL m n).take i).flatten ++ (clsL m n k).take j) (fun _ => False) (by simp) fun j x s hj e => ?_) fun q hq => by
      cases q with
      | nx s => exact (show s = ((shtL m n).take i).flatten ++ (clsL m n k).take (clsL m n k).length from hq).trans (by rw [List.take_length, hnx])
      | rt v => exact hq) (fun s e => ?_) fun q h => h.elim
    · subst e
      have hx := List.mem_of_getElem? hj
      obtain ⟨⟨x0, x1⟩, x2⟩ := cls_mem.mp hx
      have hjl := (List.getElem?_eq_some_iff.mp hj).1
      have hno : x ∉ ((shtL m n).take i).flatten ++ (clsL m n k).take j := fun hm => by
        obtain ⟨_, n2, n3⟩ := List.nodup_append.mp hndi
        rcases List.mem_append.mp hm with z | z
        · exact n3 x z x hx rfl
        · obtain ⟨j', hj', e'⟩ := List.getElem_of_mem z
          rw [List.length_take] at hj'
          rw [List.getElem_take] at e'
          have := (List.getElem?_inj (by omega) n2).mp (((List.getElem?_eq_getElem (by omega)).trans (congrArg some e')).trans hj.symm : (clsL m n k)[j']? = (clsL m n k)[j]?)
          omega
      unfold f_law_sheets_right_l1
      rw [wn]
      simp only [M.bind_ok]
      rw [if_neg (by simp), M.bind_ok, if_neg (by
        rw [decide_eq_true x0, decide_eq_true x1, decide_eq_false hno]
        simp)]
      refine okb (ok_push (by rw [List.length_append, List.length_take]; omega)) fun s e => okv ?_
      show s = ((shtL m n).take i).flatten ++ (clsL m n k).take (j + 1)
      rw [e, List.take_add_one, hj, Option.toList_some, List.append_assoc]
    · subst e
      rw [getM_at (i := 0) (by omega) hd, M.bind_ok]
      refine okb (P := (· = false)) ?_ fun c ec => ?_
      · refine okb (spread39 hbm hl hn k0 k1) fun t ⟨p, e, hp⟩ => okv ?_
        rw [e]
        have : clsL m n k = (upFrom 0 n).filter p := by
          unfold clsL
          refine List.filter_congr fun x hx => ?_
          rw [upFrom_mem] at hx
          have a1 := h.iff hb (x := k) (y := x) k0 k1 (by omega) (by omega)
          have a2 := hp x (by omega) (by omega)
          rw [← hC, ← a1, k2] at a2
          cases q : p x with
          | true => exact decide_eq_true (a2.mp q).symm
          | false => exact decide_eq_false fun z => by rw [a2.mpr z.symm] at q; cases q
        rw [this]
        simp
      · subst ec
        rw [if_neg Bool.false_ne_true]
        exact okv rfl
  · subst e
    rw [comp_eq (g := fun c : List Int => some (c[0]?.getD 0)) (by unfold shtL; rw [List.length_map]; omega) fun c hc => ?_, M.bind_ok]
    · have ef : (shtL m n).filterMap (fun c : List Int => some (c[0]?.getD 0)) = fstL m n := by
        rw [List.filterMap_eq_map']
        unfold shtL
        rw [List.map_map]
        conv => rhs; rw [← List.map_id (fstL m n)]
        refine List.map_congr_left fun k hk => ?_
        show ((clsL m n k)[0]?).getD 0 = k
        rw [cls_hd h hk]; rfl
      rw [ef]
      refine okv ?_
      rw [hlenF]
      have es : sortI (fstL m n) = fstL m n := by
        unfold sortI
        exact List.mergeSort_of_pairwise (fst_pw.imp fun q => decide_eq_true (by omega))
      rw [es]
      simp
    · obtain ⟨k, hk, rfl⟩ := List.mem_map.mp hc
      rw [getM_at (i := 0) (by omega) (cls_hd h hk), M.bind_ok, cls_hd h hk]; rfl
end
theorem cloth39 {ns : List Int} (h63 : ns.length = 63) {w h lay : Int} (w1 : 1 ≤ w) (w2 : w ≤ 40) (h1 : 1 ≤ h) (h2 : h ≤ 40) (l1 : 1 ≤ lay) (l2 : lay ≤ 20) : Okm (f_law_cloth ns w h lay) (fun rows => Cloth rows w.toNat h.toNat) := by
  unfold f_law_cloth
  rw [range_eq, M.bind_ok, show (h - 0).toNat = h.toNat by omega]
  refine okb (ok_forR (fun i (rows : List Tx) => rows.length = i ∧ ∀ r ∈ rows, r.length = w.toNat ∧ ∀ c ∈ r, c = 35 ∨ c = 46) ⟨rfl, fun r h => nomatch h⟩ fun j rows hj ⟨a1, a2⟩ => ?_) fun rows ⟨a1, a2⟩ => okv ⟨by omega, fun r hr => (a2 r hr).1, fun r hr => (a2 r hr).2, by omega, by omega, by omega, by omega⟩
  unfold f_law_cloth_l2
  rw [range_eq, M.bind_ok, show (w - 0).toNat = w.toNat by omega]
  refine okb (ok_forR (fun k (t : Tx) => t.length = k ∧ ∀ c ∈ t, c = 35 ∨ c = 46) ⟨by rw [tx_nil]; rfl, by rw [tx_nil]; exact fun c h => nomatch h⟩ fun k t hk ⟨b1, b2⟩ => ?_) fun t ⟨b1, b2⟩ => ?_
  · unfold f_law_cloth_l1
    dsimp only
    have at55 : ∀ x : Int, Okm (getM ns ((8 : Int) + x % 55)) (fun _ => True) := fun x => by
      have q0 := Int.emod_nonneg x (show (55 : Int) ≠ 0 by decide)
      have q1 := Int.emod_lt_of_pos x (show (0 : Int) < 55 by decide)
      exact okmono (ok_get (by omega) (by omega)) fun _ _ => trivial
    refine okb (P := fun b => 0 ≤ b ∧ b < 2) (okb (P := fun _ => True) (okb (at55 _) fun y _ => ?_) fun y _ => okv ⟨Int.emod_nonneg _ (by decide), Int.emod_lt_of_pos _ (by decide)⟩) fun bit hbit => ?_
    · exact okmono (ok_div (by omega) (by omega)) fun _ _ => trivial
    refine okb (P := fun b => 0 ≤ b ∧ b < 2) (okif (fun c => ?_) fun c => okv hbit) fun bit hbit => ?_
    · refine okb (P := fun _ => True) (okb (P := fun _ => True) (okb (at55 _) fun y _ => okv trivial) fun y _ => okmono (ok_mod (by omega)) fun _ _ => trivial) fun up _ => ?_
      refine okb (P := fun _ => True) (okb (P := fun _ => True) (okb (at55 _) fun y _ => okv trivial) fun y _ => okmono (ok_mod (by omega)) fun _ _ => trivial) fun low _ => ?_
      refine okif (fun _ => ?_) fun _ => okv hbit
      cases decide (up < low) <;> exact okv ⟨by decide, by decide⟩
    · have e2 : tx ".#" = [46, 35] := by decide +kernel
      rw [e2]
      have : Okm (getS [46, 35] bit) (fun s => s = [46] ∨ s = [35]) := by
        rcases (show bit = 0 ∨ bit = 1 by omega) with e | e <;> subst e
        · rw [getS_at (c := 46) (by decide) rfl]; exact okv (.inl rfl)
        · rw [getS_at (c := 35) (by decide) rfl]; exact okv (.inr rfl)
      refine okb (okb this fun s hs => okmono (ok_cat (by rcases hs with e | e <;> subst e <;> simp <;> omega)) fun z e => (⟨s, hs, e⟩ : ∃ s, (s = [46] ∨ s = [35]) ∧ z = t ++ s)) fun z ⟨s, hs, e⟩ => okv ?_
      subst e
      rcases hs with e | e <;> subst e
      · exact ⟨by simp [b1], fun c hc => (List.mem_append.mp hc).elim (b2 c) fun q => .inr (List.mem_singleton.mp q)⟩
      · exact ⟨by simp [b1], fun c hc => (List.mem_append.mp hc).elim (b2 c) fun q => .inl (List.mem_singleton.mp q)⟩
  · refine okb (ok_push (by omega)) fun rows' e => okv ?_
    subst e
    refine ⟨by simp [a1], fun r hr => ?_⟩
    rcases List.mem_append.mp hr with q | q
    · exact a2 r q
    · rw [List.mem_singleton.mp q]
      exact ⟨by omega, b2⟩
theorem law_math : ∀ ns : List Int, ns.length ≤ 63 → c_law (ns, ()) = .ok true := by
  intro script hl
  refine oke ?_
  show Okm (f_law script) _
  unfold f_law
  refine okb (numbers_ok hl (by omega) (by omega)) fun ns ⟨n1, n2⟩ => ?_
  have hns : ns.length = 63 := by rw [n1]; rfl
  have at_ : ∀ i : Int, 0 ≤ i → i < 63 → Okm (getM ns i) (fun _ => True) := fun i h0 h1 => okmono (ok_get h0 (by omega)) fun _ _ => trivial
  refine okb (P := fun m => 1 ≤ m ∧ m ≤ 6) (okb (P := fun y => 0 ≤ y ∧ y < 6) (okb (at_ 1 (by decide) (by decide)) fun y _ => okv ⟨Int.emod_nonneg _ (by decide), Int.emod_lt_of_pos _ (by decide)⟩) fun y hy => okv ⟨by omega, by omega⟩) fun wide ⟨w1, w2⟩ => ?_
  refine okb (P := fun m => 1 ≤ m ∧ m ≤ 12) (okb (P := fun y => 0 ≤ y ∧ y < 12) (okb (at_ 2 (by decide) (by decide)) fun y _ => okv ⟨Int.emod_nonneg _ (by decide), Int.emod_lt_of_pos _ (by decide)⟩) fun y hy => okv ⟨by omega, by omega⟩) fun high ⟨h1, h2⟩ => ?_
  dsimp only
  refine okb (P := fun _ => True) (okb (P := fun _ => True) (okb (at_ 3 (by decide) (by decide)) fun y _ => okv trivial) fun y _ => okv trivial) fun c _ => ?_
  refine okb (P := fun m => 1 ≤ m ∧ m ≤ 20) (okif (fun _ => ?_) fun _ => okv ⟨by decide, by decide⟩) fun lay ⟨l1, l2⟩ => ?_
  · refine okb (P := fun m => 1 ≤ m ∧ m ≤ 20) (okb (P := fun y => 0 ≤ y ∧ y < 11) (okb (at_ 0 (by decide) (by decide)) fun y _ => okv ⟨Int.emod_nonneg _ (by decide), Int.emod_lt_of_pos _ (by decide)⟩) fun y hy => okv ⟨by omega, by omega⟩) fun y hy => okv hy
  refine okb (cloth39 hns w1 (by omega) h1 (by omega) l1 l2) fun rows hc => ?_
  refine okb (P := fun s => 1 ≤ s ∧ s ≤ 8) (okb (P := fun y => 0 ≤ y ∧ y < 4) (okb (at_ 7 (by decide) (by decide)) fun y _ => okv ⟨Int.emod_nonneg _ (by decide), Int.emod_lt_of_pos _ (by decide)⟩) fun y hy => okmono (ok_get hy.1 hy.2) fun s hs => by
    have := List.mem_of_getElem? hs
    simp at this
    omega) fun span ⟨s1, s2⟩ => ?_
  rw [range_eq, M.bind_ok, show (high - 0).toNat = high.toNat by omega]
  refine okb (ok_comp (fun (_ : Int) (x : Int) => 0 ≤ x ∧ x ≤ 7) (by rw [upFrom_len]; omega) fun j hj => ?_) fun sh ⟨sl, sb⟩ => ?_
  · rw [upFrom_mem] at hj
    have q0 := Int.emod_nonneg ((3 : Int) * j + 2) (show (55 : Int) ≠ 0 by decide)
    have q1 := Int.emod_lt_of_pos ((3 : Int) * j + 2) (show (0 : Int) < 55 by decide)
    refine okb (P := fun y => 0 ≤ y ∧ y ≤ 7) (okb (P := fun _ => True) (okb (at_ _ (by omega) (by omega)) fun y _ => okv trivial) fun y _ => okmono (ok_mod (by omega)) fun z e => by
      have m0 := Int.emod_nonneg y (show span ≠ 0 by omega)
      have m1 := Int.emod_lt_of_pos y (show 0 < span by omega)
      rw [e]; omega) fun y hy => okv ⟨y, rfl, hy⟩
  rw [upFrom_len] at sl
  have h8 : ∀ x ∈ sh, 0 ≤ x ∧ x ≤ 7 := fun x hx => by
    obtain ⟨i, hi⟩ := List.mem_iff_getElem?.mp hx
    have hlt := (List.getElem?_eq_some_iff.mp hi).1
    exact sb i ((0 : Int) + i) x (by rw [upFrom_get, if_pos (by omega)]) hi
  have hsl : sh.length = high.toNat := sl
  obtain ⟨w, rfl⟩ := Int.eq_ofNat_of_zero_le (a := wide) (by omega)
  obtain ⟨h, rfl⟩ := Int.eq_ofNat_of_zero_le (a := high) (by omega)
  rw [Int.toNat_natCast, Int.toNat_natCast] at hc
  rw [Int.toNat_natCast] at hsl
  have P := lays_part hc
  have hLP := P.len
  rw [numbers_of hc, M.bind_ok]
  have hvl : (vec (w + h) fun y => (pk (lays rows w h) y : Int)).length = w + h := vec_len
  have hvb : ∀ u ∈ vec (w + h) (fun y => (pk (lays rows w h) y : Int)), 0 ≤ u ∧ u < ((lays rows w h).length : Int) := fun u hu => vec_bd hc hu
  have hall : ∀ k : Nat, k < (lays rows w h).length → (k : Int) ∈ vec (w + h) (fun y => (pk (lays rows w h) y : Int)) := fun k hk => by
    have hk' : (lays rows w h)[k]? = some (lays rows w h)[k] := List.getElem?_eq_getElem hk
    have hne := P.ne _ (List.mem_of_getElem? hk')
    obtain ⟨x, hx⟩ := List.exists_mem_of_ne_nil _ hne
    have hb := P.mem.mp ⟨_, List.mem_of_getElem? hk', hx⟩
    unfold vec
    refine List.mem_map.mpr ⟨x, upFrom_mem.mpr (by omega), ?_⟩
    rw [P.pk_eq hk' hx]
  have hnum := numbers_of hc
  have hpl : (pkL rows w h) = (vec (w + h) fun y => (pk (lays rows w h) y : Int)).drop w := rfl
  have pkl : (pkL rows w h).length = h := pkL_len
  generalize vec (w + h) (fun y => (pk (lays rows w h) y : Int)) = LV at *
  generalize en : (lays rows w h).length = n at *
  rw [if_neg (by rw [hvl]; simp)]
  have wn : ∀ n : Int, f_law_whole_number n = .ok true := fun n => rfl
  refine okel (N := fun _ => True) (R := fun _ => False) (okmono (ok_forF (fun _ _ => True) (fun _ => False) trivial fun i x u hi _ => ?_) fun r hr => by cases r <;> exact hr) (fun u _ => ?_) fun r h => h.elim
  · unfold f_law_l1
    rw [wn]
    simp only [M.bind_ok]
    rw [if_neg (by simp)]
    exact okv trivial
  have hLne : LV ≠ [] := fun e => by rw [e] at hvl; simp at hvl; omega
  obtain ⟨mx, em, m1, m2⟩ := maxM_ok hLne
  have mb := hvb mx m1
  have hmx : mx = (n : Int) - 1 := by
    have := m2 _ (hall (n - 1) (by omega))
    omega
  subst hmx
  rw [em, M.bind_ok, M.bind_ok, show (n : Int) - 1 + 1 = (n : Int) by omega]
  have hn18 : n ≤ 18 := by omega
  have es : setSortI LV = .ok (upFrom 0 n) := by
    unfold setSortI
    rw [if_pos (by omega)]
    congr 1
    refine srt_uniq slt_I (srtS_pw slt_I) ((up_pw n 0).imp fun q => decide_eq_true q) fun k => ?_
    rw [srtS_mem slt_I, upFrom_mem]
    constructor
    · intro hk; have := hvb k hk; omega
    · intro hk
      have := hall k.toNat (by omega)
      rwa [show ((k.toNat : Nat) : Int) = k by omega] at this
  have erg : rangeL 0 (n : Int) = .ok (upFrom 0 n) := by
    unfold rangeL
    rw [if_pos ⟨by omega, by omega, by omega, by omega, by omega⟩, Int.sub_zero, Int.toNat_natCast]
  rw [es, M.bind_ok, erg, M.bind_ok, M.bind_ok, if_neg (by simp)]
  have ecut : cutL LV (some (w : Int)) none = pkL rows w h := by
    rw [hpl]
    have hwl : w ≤ LV.length := by omega
    unfold cutL
    rw [HT.sIx_nat, HT.sIx_none, Nat.min_eq_left hwl]
    exact List.take_of_length_le (by rw [List.length_drop]; exact Nat.le_refl _)
  rw [ecut]
  have hshp : sh.length = (pkL rows w h).length := by rw [pkl, hsl]
  refine okb (made39 (picks := pkL rows w h) h8 (by omega) hshp) fun made ⟨q1, q2⟩ => ?_
  obtain ⟨r, er, r1, r2, r3⟩ : ∃ r, f_seams_of rows sh = .ok r ∧ r.Pairwise (fun a b => ltT a b = true) ∧ (∀ x, x ∈ r ↔ IsSeam (pkL rows w h) sh x) ∧ r.length ≤ 40 := by
    obtain ⟨r, e, q⟩ := seams_gen hc pkL_len pkL_at h8 hshp
    exact ⟨r, e, q⟩
  have hb : ∀ x, IsSeam (pkL rows w h) sh x → 0 ≤ x.1 ∧ x.1 < n ∧ 0 ≤ x.2.1 ∧ x.2.1 < n := fun x hx => by
    obtain ⟨u, hu, v, hv, e1, e2⟩ := seam_bd hshp hx
    have b1 := hvb u (by rw [hpl] at hu; exact List.mem_of_mem_drop hu)
    have b2 := hvb v (by rw [hpl] at hv; exact List.mem_of_mem_drop hv)
    rw [e1, e2]
    omega
  have hbr : InB r n := fun x hx => hb x ((r2 x).mp hx)
  have hbm : InB made n := fun x hx => hb x ((q1 x).mp hx)
  have hrm : ∀ x, x ∈ r ↔ x ∈ made := fun x => (r2 x).trans (q1 x).symm
  obtain ⟨s, esh, m, esm, hm⟩ := sheets39 (found := rows) (sh := sh) er hnum em hbr r3 (by omega)
  subst esm
  have etold : f_law_all_told (rows, sh, ()) = .ok (r, tubeL r, shtL m n, ()) := by
    unfold f_law_all_told
    dsimp only
    rw [er, M.bind_ok, tubes_gen er r3, M.bind_ok, M.bind_ok, esh]
    rfl
  rw [etold, M.bind_ok]
  dsimp only
  rw [right_ok r1 hrm (by omega) (by omega), M.bind_ok, M.bind_ok, if_neg (by simp), tubes_right r1 hrm r3 q2 (fun x hx => by have := hbm x hx; omega), M.bind_ok, M.bind_ok, if_neg (by simp), sheets_right hm hbr hbm hrm q2 (by omega), M.bind_ok, M.bind_ok, if_neg (by simp)]
  have hsn : (shtL m n).length ≤ n := by unfold shtL; rw [List.length_map]; exact fst_len
  have htl : (tubeL r).length ≤ 40 := Nat.le_trans (List.length_filterMap_le _ _) r3
  rw [comp_map (g := fun x : List Int => x) (by omega) fun x _ => rfl, List.map_id', M.bind_ok, M.bind_ok]
  have hwalk : ∀ {γ : Type} {F : γ → M γ} {l : List γ}, (∀ x ∈ l, ∃ y, F x = .ok y) → ∃ l', walkF F l = .ok l' := fun {γ F l} h => by
    induction l with
    | nil => exact ⟨[], rfl⟩
    | cons x l ih =>
      obtain ⟨y, ey⟩ := h x List.mem_cons_self
      obtain ⟨l', el⟩ := ih fun z hz => h z (List.mem_cons_of_mem _ hz)
      refine ⟨y :: l', ?_⟩
      show (F x).bind _ = _
      rw [ey]
      show (walkF F l).bind _ = _
      rw [el]; rfl
  obtain ⟨l', el⟩ := hwalk (F := fun z : List Int => pushM z (0 : Int)) (l := shtL m n) fun c hc => by
    obtain ⟨k, hk, rfl⟩ := List.mem_map.mp hc
    have := cls_len (m := m) (n := n) (k := k)
    exact ⟨_, oke (ok_push (by omega))⟩
  have hl' : l'.length ≤ 18 := by
    have : ∀ {γ : Type} {F : γ → M γ} {l l' : List γ}, walkF F l = .ok l' → l'.length = l.length := fun {γ F l} => by
      induction l with
      | nil => intro l' e; cases e; rfl
      | cons x l ih =>
        intro l' e
        have e : (F x).bind (fun y => (walkF F l).bind fun q => .ok (y :: q)) = .ok l' := e
        cases hx : F x with
        | ok y =>
          rw [hx] at e
          have e : (walkF F l).bind (fun q => M.ok (y :: q)) = .ok l' := e
          cases hy : walkF F l with
          | ok q =>
            rw [hy] at e
            cases e
            simp [ih hy]
          | ex c => rw [hy] at e; cases e
          | no => rw [hy] at e; cases e
        | ex c => rw [hx] at e; cases e
        | no => rw [hx] at e; cases e
    have := this el
    omega
  rw [show walkF _ (shtL m n) = _ from el, M.bind_ok]
  obtain ⟨l2, el2⟩ := hwalk (F := fun z : List Unit => pushM z ()) (l := [r.map fun _ => (), (tubeL r).map fun _ => (), l'.map fun _ => ()]) fun c hc => by
    refine ⟨_, oke (ok_push ?_)⟩
    simp only [List.mem_cons, List.not_mem_nil, or_false] at hc
    rcases hc with e | e | e <;> subst e <;> rw [List.length_map] <;> omega
  rw [show walkF _ [r.map fun _ => (), (tubeL r).map fun _ => (), l'.map fun _ => ()] = _ from el2, M.bind_ok]
  rw [M.bind_ok, M.bind_ok, if_pos (decide_eq_true rfl)]
  exact okv (decide_eq_true rfl)
theorem facts_of {K : PySem.W.Frag} {h : Heap} {mg : Str → Option Value} {P : Program} {w : World} {base : Heap} (X : K.In h) (G : h.Ns mainGlobals mg) (c : He.SaysD fas dds K) (TB : LamX.TabB base mg (He.cT K ("by_count", none)).1 (He.cT K ("by_count", none)).2) : Facts ⟨P, w, K, mg, base, fun c => He.ga K (ecName c), some (He.cT K ("by_count", none)).2⟩ where
  g_all := He.free_ok X G (c.fact 22 (f := .free "all") rfl)
  g_bool := He.free_ok X G (c.fact 23 (f := .free "bool") rfl)
  g_enumerate := He.free_ok X G (c.fact 24 (f := .free "enumerate") rfl)
  g_int := He.free_ok X G (c.fact 25 (f := .free "int") rfl)
  g_isinstance := He.free_ok X G (c.fact 26 (f := .free "isinstance") rfl)
  g_len := He.free_ok X G (c.fact 27 (f := .free "len") rfl)
  g_list := He.free_ok X G (c.fact 28 (f := .free "list") rfl)
  g_max := He.free_ok X G (c.fact 29 (f := .free "max") rfl)
  g_min := He.free_ok X G (c.fact 30 (f := .free "min") rfl)
  g_range := He.free_ok X G (c.fact 31 (f := .free "range") rfl)
  g_set := He.free_ok X G (c.fact 32 (f := .free "set") rfl)
  g_sorted := He.free_ok X G (c.fact 33 (f := .free "sorted") rfl)
  g_str := He.free_ok X G (c.fact 34 (f := .free "str") rfl)
  g_tuple := He.free_ok X G (c.fact 35 (f := .free "tuple") rfl)
  c_MOST_STRANDS := He.int_ok X G (c.fact 36 (f := .int "MOST_STRANDS" 40) rfl)
  x_NoCloth := exF X G rfl (c.fact 37 (f := .glo "NoCloth") rfl) (c.fact 38 (f := .exc "NoCloth") rfl)
  x_NoShuttle := exF X G rfl (c.fact 39 (f := .glo "NoShuttle") rfl) (c.fact 40 (f := .exc "NoShuttle") rfl)
  d__law_numbers := by
    obtain ⟨fd, F⟩ := c.def_ 0 (d := ⟨("_law_numbers", none), "_law_numbers", "_law_numbers", defArgs (topS 23), defBody (topS 23), defScope (topS 23), [], []⟩) rfl
    exact ⟨_, fd, F, He.glo_ok X G (c.fact 0 (f := .glo "_law_numbers") rfl)⟩
  d__law_cloth := by
    obtain ⟨fd, F⟩ := c.def_ 1 (d := ⟨("_law_cloth", none), "_law_cloth", "_law_cloth", defArgs (topS 24), defBody (topS 24), defScope (topS 24), [], []⟩) rfl
    exact ⟨_, fd, F, He.glo_ok X G (c.fact 1 (f := .glo "_law_cloth") rfl)⟩
  d_measured := by
    obtain ⟨fd, F⟩ := c.def_ 2 (d := ⟨("measured", none), "measured", "measured", defArgs (topS 7), defBody (topS 7), defScope (topS 7), [], []⟩) rfl
    exact ⟨_, fd, F, He.glo_ok X G (c.fact 2 (f := .glo "measured") rfl)⟩
  d_scores_of := by
    obtain ⟨fd, F⟩ := c.def_ 3 (d := ⟨("scores_of", none), "scores_of", "scores_of", defArgs (topS 9), defBody (topS 9), defScope (topS 9), [], []⟩) rfl
    exact ⟨_, fd, F, He.glo_ok X G (c.fact 3 (f := .glo "scores_of") rfl)⟩
  d_by_count := by
    obtain ⟨fd, F⟩ := c.def_ 4 (d := ⟨("by_count", none), "by_count", "by_count", defArgs (topS 11), defBody (topS 11), defScope (topS 11), [], []⟩) rfl
    exact ⟨_, fd, F, He.glo_ok X G (c.fact 4 (f := .glo "by_count") rfl), _, _, code_of (q := ("by_count", none)) F, rfl, TB⟩
  d_running_sums := by
    obtain ⟨fd, F⟩ := c.def_ 5 (d := ⟨("running_sums", none), "running_sums", "running_sums", defArgs (topS 12), defBody (topS 12), defScope (topS 12), [], []⟩) rfl
    exact ⟨_, fd, F, He.glo_ok X G (c.fact 5 (f := .glo "running_sums") rfl)⟩
  d_tops_of := by
    obtain ⟨fd, F⟩ := c.def_ 6 (d := ⟨("tops_of", none), "tops_of", "tops_of", defArgs (topS 13), defBody (topS 13), defScope (topS 13), [], []⟩) rfl
    exact ⟨_, fd, F, He.glo_ok X G (c.fact 6 (f := .glo "tops_of") rfl)⟩
  d_layers_of := by
    obtain ⟨fd, F⟩ := c.def_ 7 (d := ⟨("layers_of", none), "layers_of", "layers_of", defArgs (topS 14), defBody (topS 14), defScope (topS 14), [], []⟩) rfl
    exact ⟨_, fd, F, He.glo_ok X G (c.fact 7 (f := .glo "layers_of") rfl)⟩
  d_layer_numbers := by
    obtain ⟨fd, F⟩ := c.def_ 8 (d := ⟨("layer_numbers", none), "layer_numbers", "layer_numbers", defArgs (topS 15), defBody (topS 15), defScope (topS 15), [], []⟩) rfl
    exact ⟨_, fd, F, He.glo_ok X G (c.fact 8 (f := .glo "layer_numbers") rfl)⟩
  d__law_whole_number := by
    obtain ⟨fd, F⟩ := c.def_ 9 (d := ⟨("_law_whole_number", none), "_law_whole_number", "_law_whole_number", defArgs (topS 26), defBody (topS 26), defScope (topS 26), [], []⟩) rfl
    exact ⟨_, fd, F, He.glo_ok X G (c.fact 9 (f := .glo "_law_whole_number") rfl)⟩
  d__law_seams := by
    obtain ⟨fd, F⟩ := c.def_ 10 (d := ⟨("_law_seams", none), "_law_seams", "_law_seams", defArgs (topS 25), defBody (topS 25), defScope (topS 25), [], []⟩) rfl
    exact ⟨_, fd, F, He.glo_ok X G (c.fact 10 (f := .glo "_law_seams") rfl)⟩
  d_seen_shuttles := by
    obtain ⟨fd, F⟩ := c.def_ 11 (d := ⟨("seen_shuttles", none), "seen_shuttles", "seen_shuttles", defArgs (topS 17), defBody (topS 17), defScope (topS 17), [], []⟩) rfl
    exact ⟨_, fd, F, He.glo_ok X G (c.fact 11 (f := .glo "seen_shuttles") rfl)⟩
  d_turns_made := by
    obtain ⟨fd, F⟩ := c.def_ 12 (d := ⟨("turns_made", none), "turns_made", "turns_made", defArgs (topS 18), defBody (topS 18), defScope (topS 18), [], []⟩) rfl
    exact ⟨_, fd, F, He.glo_ok X G (c.fact 12 (f := .glo "turns_made") rfl)⟩
  d_seams_of := by
    obtain ⟨fd, F⟩ := c.def_ 13 (d := ⟨("seams_of", none), "seams_of", "seams_of", defArgs (topS 19), defBody (topS 19), defScope (topS 19), [], []⟩) rfl
    exact ⟨_, fd, F, He.glo_ok X G (c.fact 13 (f := .glo "seams_of") rfl)⟩
  d_tubes_of := by
    obtain ⟨fd, F⟩ := c.def_ 14 (d := ⟨("tubes_of", none), "tubes_of", "tubes_of", defArgs (topS 20), defBody (topS 20), defScope (topS 20), [], []⟩) rfl
    exact ⟨_, fd, F, He.glo_ok X G (c.fact 14 (f := .glo "tubes_of") rfl)⟩
  d_sheets_of := by
    obtain ⟨fd, F⟩ := c.def_ 15 (d := ⟨("sheets_of", none), "sheets_of", "sheets_of", defArgs (topS 21), defBody (topS 21), defScope (topS 21), [], []⟩) rfl
    exact ⟨_, fd, F, He.glo_ok X G (c.fact 15 (f := .glo "sheets_of") rfl)⟩
  d__law_all_told := by
    obtain ⟨fd, F⟩ := c.def_ 16 (d := ⟨("_law_all_told", none), "_law_all_told", "_law_all_told", defArgs (topS 31), defBody (topS 31), defScope (topS 31), [], []⟩) rfl
    exact ⟨_, fd, F, He.glo_ok X G (c.fact 16 (f := .glo "_law_all_told") rfl)⟩
  d__law_seams_right := by
    obtain ⟨fd, F⟩ := c.def_ 17 (d := ⟨("_law_seams_right", none), "_law_seams_right", "_law_seams_right", defArgs (topS 27), defBody (topS 27), defScope (topS 27), [], []⟩) rfl
    exact ⟨_, fd, F, He.glo_ok X G (c.fact 17 (f := .glo "_law_seams_right") rfl)⟩
  d__law_tubes_right := by
    obtain ⟨fd, F⟩ := c.def_ 18 (d := ⟨("_law_tubes_right", none), "_law_tubes_right", "_law_tubes_right", defArgs (topS 28), defBody (topS 28), defScope (topS 28), [], []⟩) rfl
    exact ⟨_, fd, F, He.glo_ok X G (c.fact 18 (f := .glo "_law_tubes_right") rfl)⟩
  d__law_spread := by
    obtain ⟨fd, F⟩ := c.def_ 19 (d := ⟨("_law_spread", none), "_law_spread", "_law_spread", defArgs (topS 29), defBody (topS 29), defScope (topS 29), [], []⟩) rfl
    exact ⟨_, fd, F, He.glo_ok X G (c.fact 19 (f := .glo "_law_spread") rfl)⟩
  d__law_sheets_right := by
    obtain ⟨fd, F⟩ := c.def_ 20 (d := ⟨("_law_sheets_right", none), "_law_sheets_right", "_law_sheets_right", defArgs (topS 30), defBody (topS 30), defScope (topS 30), [], []⟩) rfl
    exact ⟨_, fd, F, He.glo_ok X G (c.fact 20 (f := .glo "_law_sheets_right") rfl)⟩
  d_law := by
    obtain ⟨fd, F⟩ := c.def_ 21 (d := ⟨("law", none), "law", "law", defArgs (topS 32), defBody (topS 32), defScope (topS 32), [], []⟩) rfl
    exact ⟨_, fd, F, He.glo_ok X G (c.fact 21 (f := .glo "law") rfl)⟩
abbrev lawD : He.DefD := ⟨("law", none), "law", "law", defArgs (topS 32), defBody (topS 32), defScope (topS 32), [], []⟩
end Hd
open PySem PySem.W PySem.Calls PyProof.Rows
set_option maxHeartbeats 0
theorem PySem.Challenge.cw_heddle_k39_whole_seams_and_sheets_holds : PySem.Challenge.rw_heddle_k39_whole_seams_and_sheets.Holds := by
  w_on; o_law
  refine HandSHeadRun.head_any (r := OpenLaw.row PySem.Challenge.rw_heddle_k39_whole_seams_and_sheets) (q := view (OpenLaw.row PySem.Challenge.rw_heddle_k39_whole_seams_and_sheets).prog [32]) (H := Hd.hk) (ob := Hd.ob) (M := 3000) (loose := Hd.loose) (d := HandSHeadRun.topDef (OpenLaw.row PySem.Challenge.rw_heddle_k39_whole_seams_and_sheets).prog 32) (kwd := []) Hd.ob_eq
    (by kernel_rfl) (fun s => by kernel_rfl) Hd.run (by kernel_rfl) (by kernel_rfl) (by kernel_rfl) (by rfl) (by first | assumption | decide +kernel) (by decide +kernel) ⟨rfl, rfl, rfl, rfl, rfl, by decide +kernel⟩ ?hw ?hc
  case hw => w_witness2
  case hc =>
    refine Hd.law_endT (l := PySem.Challenge.rw_heddle_k39_whole_seams_and_sheets) (k := 9) (cl := Hd.c_law) rfl (by kernel_rfl) ⟨rfl, by decide, by decide⟩ ?F Hd.law_math
    intro w mg fa h Y G hmg0
    obtain ⟨K, KX, cX⟩ := Y
    have c := cX.t.d
    have hmg : mg ("law" : PySem.Str) = some (.ref fa) := by
      have e : (HandSHeadRun.topDef (OpenLaw.row PySem.Challenge.rw_heddle_k39_whole_seams_and_sheets).prog 32).name = ("law" : PySem.Str) := by kernel_rfl
      rw [← e]
      exact hmg0
    obtain ⟨fd, hF⟩ := c.def_ 21 (d := Hd.lawD) rfl
    have hm := He.glo_ok KX G (c.fact 21 (f := .glo "law") rfl)
    have e := hm.symm.trans hmg
    cases e
    have mem : (("by_count", none) : He.Defn) ∈ ([("by_count", none)] : List He.Defn) := List.mem_singleton_self _
    exact ⟨K, fd, fun c => He.ga K (Hd.ecName c), (He.cT K ("by_count", none)).1, (He.cT K ("by_count", none)).2, KX, cX.empty _ mem, cX.out _ mem, PySem.W.codeHd_of_K KX (cX.hd _ mem), fun s v => Hd.L2_bindsA hF s v, fun base TB => Hd.fnok_law (Hd.facts_of KX G c TB) hF⟩
