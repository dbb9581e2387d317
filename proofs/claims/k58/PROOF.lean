import PyProof.Rows.All
import Wide.All
import OpenK.AllK
import Wide.FinOn
import HandS.Base
import HandS.Call
import HandS.List
import HandS.Comp
import HandS.Ends
import HandS.Dict
import HandS.Iter
import HandS.Text
import HandS.Words
import HandS.WordsList
import HandS.Exc
import HandS.TryOnly
import HandS.ExcOwn
import HandS.Defaults
import HandS.Lambda
import HandS.Flow
import HandS.RaiseOp
import HandS.TryElse
import HandS.Wide
import HandS.StrMore
import HandS.StrSplit
import HandS.WordsExc
import HandS.Strs
import HandS.IsInst
import HandS.SetFor
import KE.KStateDown
import HandS.Head0
import HandS.Head1
import HandS.Head2
import HandS.HeadEnd
import HandS.HeadHook1
import HandS.HeadHook2
import PyProof.Rows.RegReprOcc
import PyProof.StrOps2
import HandS.ExcIs
import HandS.TryMany
import KE.KExcMore
import HandS.Deep
import PyProof.Draws
import PyProof.EnumMake
import PyProof.LongRange
import KE.GoesZip
import KE.GoesMore
import HandS.RevTup
import HandS.Small
import HandS.Conv
import HandS.Rev
import KE.SortKeyHeap
import HandS.Nested
import HandS.Sort
import HandS.HeadWalk
import HandS.HeadHook4
import HandS.More
import HandS.WideBits
import PyProof.ListIndexNeg
import KE.DataCmp
import KE.SortData
import HandS.Codes
import KE.KDictDisplayH
import HandS.ClsMeth
import HandS.NoneIn
import PySem.Challenge.RW_heddle_k58_texts_that_are_no_patterns
set_option Elab.async false
set_option linter.all false
set_option maxRecDepth 100000
set_option maxHeartbeats 0
set_option exponentiation.threshold 20000
set_option synthInstance.maxSize 1000
namespace Hd
open PySem PySem.Spec L2
/-- the classes of refusals -/
inductive Ec where
  | weave | noRow | tooLarge | noCloth | noDraft | noStrand | noDeed | noLaying | noShuttle | noColour | noBlock | noPattern | unknown | twice
  deriving DecidableEq, Repr
/-- what a piece of the program comes to: a value, a refusal, or nothing that is promised here -/
inductive M (α : Type) where
  | ok (a : α)
  | ex (c : Ec)
  | no
def M.bind {α β : Type} : M α → (α → M β) → M β
  | .ok a, f => f a
  | .ex c, _ => .ex c
  | .no, _ => .no
/-- where nothing can be let out -/
def M.nox {α : Type} : M α → M α
  | .ok a => .ok a
  | _ => .no
@[simp] theorem M.bind_ok {α β : Type} (a : α) (f : α → M β) : M.bind (.ok a) f = f a := rfl
@[simp] theorem M.bind_ex {α β : Type} (c : Ec) (f : α → M β) : M.bind (.ex c) f = .ex c := rfl
@[simp] theorem M.bind_no {α β : Type} (f : α → M β) : M.bind .no f = .no := rfl
@[simp] theorem M.nox_ok {α : Type} (a : α) : M.nox (.ok a) = .ok a := rfl
/-- all but the tables of code objects -/
def nt : HO → Bool
  | .tbl _ => false
  | _ => true
def cl (H : Hp) : Hp := fun a => match H a with
  | some (.tbl _) => none
  | x => x
theorem cl_of {H : Hp} {a : Addr} {o : HO} (h : H a = some o) (n : nt o = true := by rfl) : cl H a = some o := by
  unfold cl; rw [h]; cases o <;> first | rfl | cases n
theorem cl_raw {H : Hp} {a : Addr} {o : HO} (h : cl H a = some o) : H a = some o := by
  unfold cl at h; split at h <;> first | exact h | cases h
theorem cl_nt {H : Hp} {a : Addr} {o : HO} (h : cl H a = some o) : nt o = true := by
  unfold cl at h
  split at h
  · cases h
  · rename_i x hx
    cases o <;> first | rfl | exact absurd h (hx _)
theorem cl_none {H : Hp} {a : Addr} (h : H a = none) : cl H a = none := by unfold cl; rw [h]
theorem cl_upd_ne {H : Hp} {a q : Addr} {o : HO} (h : a ≠ q) : cl (upd H q o) a = cl H a := by unfold cl; rw [upd_ne h]
/-- the one lambda of the program: its name -/
def lamQ : Str := "by_count.<locals>.<lambda>"
/-- a later heap: tables may have grown -/
structure Same (H H' : Hp) : Prop where
  keep : ∀ a o, H a = some o → nt o = true → H' a = some o
  fr : ∀ a, H' a = none → H a = none
  tab : ∀ P, LamX.TabS H P lamQ → LamX.TabS H' P lamQ
theorem Same.of {H H' : Hp} (h : L2.Same H H') : Same H H' := ⟨fun a o e _ => h a o e, fun a e => h.free e, fun P t => t.ext h⟩
theorem Same.refl (H : Hp) : Same H H := .of (L2.Same.refl H)
theorem Same.trans {H H1 H2 : Hp} (a : Same H H1) (b : Same H1 H2) : Same H H2 := ⟨fun x o e n => b.keep x o (a.keep x o e n) n, fun x e => a.fr x (b.fr x e), fun P t => b.tab P (a.tab P t)⟩
theorem Same.free {H H' : Hp} (s : Same H H') {l : Addr} (h : H' l = none) : H l = none := s.fr l h
theorem Same.cl {H H' : Hp} (s : Same H H') : L2.Same (cl H) (cl H') := fun a o e => cl_of (s.keep a o (cl_raw e) (cl_nt e)) (cl_nt e)
/-- a thing of one's own is written -/
theorem Same.wr {H0 H : Hp} {q : Addr} {o u : HO} (s : Same H0 H) (n0 : H0 q = none) (hq : H q = some u) (hu : ∀ φ, u ≠ .ext φ) (hn : nt u = true) : Same H0 (upd H q o) := by
  refine ⟨fun a o' e n => ?_, fun a e => ?_, fun P t => ?_⟩
  · rw [upd_ne (ne_of_none e n0)]; exact s.keep a o' e n
  · by_cases z : a = q
    · rw [z, upd_same] at e; cases e
    · rw [upd_ne z] at e; exact s.fr a e
  · obtain ⟨ps, h1, h2, h3⟩ := s.tab P t
    have np : P ≠ q := fun z => by rw [z, hq] at h1; cases h1; cases hn
    refine ⟨ps, by rw [upd_ne np]; exact h1, h2, fun pos cv hc => ?_⟩
    obtain ⟨c, e1, e2⟩ := h3 pos cv hc
    have nc : c ≠ q := fun z => by rw [z, hq] at e2; exact hu _ (Option.some.inj e2)
    exact ⟨c, e1, by rw [upd_ne nc]; exact e2⟩
/-- what may be read -/
abbrev RdR := Addr → HO → Prop
/-- data of a kind, and how a value of the program stands for it -/
structure Ty (α : Type) where
  rep : α → V → RdR → Prop
  mono : ∀ {d v} {R R' : RdR}, rep d v R → (∀ a o, R a o → R' a o) → rep d v R'
inductive Reps {α : Type} (T : Ty α) (R : RdR) : List α → List V → Prop where
  | nil : Reps T R [] []
  | cons {d ds v vs} : T.rep d v R → Reps T R ds vs → Reps T R (d :: ds) (v :: vs)
section
variable {α : Type} {T : Ty α} {R R' : RdR} {ds es : List α} {vs ws : List V}
theorem Reps.mono (h : Reps T R ds vs) (s : ∀ a o, R a o → R' a o) : Reps T R' ds vs := by
  induction h with
  | nil => exact .nil
  | cons r _ ih => exact .cons (T.mono r s) ih
theorem Reps.length (h : Reps T R ds vs) : ds.length = vs.length := by
  induction h with
  | nil => rfl
  | cons _ _ ih => simp [ih]
theorem Reps.append (h : Reps T R ds vs) (k : Reps T R es ws) : Reps T R (ds ++ es) (vs ++ ws) := by
  induction h with
  | nil => exact k
  | cons r _ ih => exact .cons r ih
theorem Reps.get (h : Reps T R ds vs) : ∀ {i : Nat} {d : α}, ds[i]? = some d → ∃ v, vs[i]? = some v ∧ T.rep d v R := by
  induction h with
  | nil => intro i d e; simp at e
  | cons r _ ih =>
    intro i d e
    cases i with
    | zero => simp at e; subst e; exact ⟨_, rfl, r⟩
    | succ i => obtain ⟨v, e1, r1⟩ := ih (i := i) (d := d) (by simpa using e); exact ⟨v, by simpa using e1, r1⟩
theorem Reps.set {d : α} {v : V} (h : Reps T R ds vs) (r : T.rep d v R) : ∀ (i : Nat), Reps T R (ds.set i d) (vs.set i v) := by
  induction h with
  | nil => intro i; exact .nil
  | cons q t ih =>
    intro i
    cases i with
    | zero => exact .cons r t
    | succ i => exact .cons q (ih i)
theorem Reps.take (h : Reps T R ds vs) : ∀ n, Reps T R (ds.take n) (vs.take n) := by
  induction h with
  | nil => intro n; simp; exact .nil
  | cons r _ ih => intro n; cases n with
    | zero => exact .nil
    | succ n => exact .cons r (ih n)
theorem Reps.drop (h : Reps T R ds vs) : ∀ n, Reps T R (ds.drop n) (vs.drop n) := by
  induction h with
  | nil => intro n; simp; exact .nil
  | cons r t ih => intro n; cases n with
    | zero => exact .cons r t
    | succ n => exact ih n
end
def tInt : Ty Int := ⟨fun n v _ => v = .int n, fun h _ => h⟩
def tBool : Ty Bool := ⟨fun b v _ => v = .bl b, fun h _ => h⟩
/-- a text, as its signs -/
abbrev Tx := List Nat
def toS (x : Tx) : Str := ⟨x.toArray⟩
/-- short enough, of signs -/
def OkTx (x : Tx) : Prop := x.length ≤ sizeLine ∧ ∀ c ∈ x, c < 0x110000
def tStr : Ty Tx := ⟨fun x v _ => v = .str (toS x) ∧ OkTx x, fun h _ => h⟩
def tNone : Ty Unit := ⟨fun _ v _ => v = .non, fun h _ => h⟩
def tOpt {α : Type} (T : Ty α) : Ty (Option α) := ⟨fun d v R => match d with | none => v = .non | some d => T.rep d v R ∧ v ≠ .non, fun {d v R R'} h s => by
  cases d with
  | none => exact h
  | some d => exact ⟨T.mono h.1 s, h.2⟩⟩
def tList {α : Type} (T : Ty α) : Ty (List α) := ⟨fun ds v R => ∃ a vs, v = .ref a ∧ R a (.lst vs) ∧ Reps T R ds vs, fun ⟨a, vs, e, r, h⟩ s => ⟨a, vs, e, s _ _ r, h.mono s⟩⟩
/-- the written items of a list, an argument list, a tuple -/
structure Ar (δ : Type) where
  rep : δ → List V → RdR → Prop
  mono : ∀ {d vs} {R R' : RdR}, rep d vs R → (∀ a o, R a o → R' a o) → rep d vs R'
def aNil : Ar Unit := ⟨fun _ vs _ => vs = [], fun h _ => h⟩
def aCons {α β : Type} (T : Ty α) (A : Ar β) : Ar (α × β) := ⟨fun d vs R => ∃ v r, vs = v :: r ∧ T.rep d.1 v R ∧ A.rep d.2 r R, fun ⟨v, r, e, h1, h2⟩ s => ⟨v, r, e, T.mono h1 s, A.mono h2 s⟩⟩
/-- a tuple of written items -/
def tTup {δ : Type} (A : Ar δ) : Ty δ := ⟨fun d v R => ∃ a vs, v = .ref a ∧ R a (.tup vs) ∧ A.rep d vs R, fun ⟨a, vs, e, r, h⟩ s => ⟨a, vs, e, s _ _ r, A.mono h s⟩⟩
/-- all items of one kind -/
def aAll {α : Type} (T : Ty α) : Ar (List α) := ⟨fun ds vs R => Reps T R ds vs, fun h s => h.mono s⟩
/-- a tuple of the written part -/
def KObj (K : PySem.W.Frag) (a : Addr) : HO → Prop
  | .tup xs => ∃ (o : Obj) (its : Array Value) (n : Nat), K.lookup a = some o ∧ o.cls = .type "tuple" ∧ o.data = .seq its n ∧ its.size ≤ sizeLine ∧ Vals xs its.toList
  | _ => False
/-- a def's frame: the heap it began with; the callers' own things, which its arguments don't reach -/
structure Fm where
  K : PySem.W.Frag
  H0 : Hp
  z : Addr → Prop
/-- how new a thing is: sh: it may be shared; f0: made since the def began; fx: made since the expression began -/
inductive Md where | sh | f0 | fx
/-- a value of the table of a code object, as a value of the program (used for marks only) -/
def decV : Value → V
  | .int i _ => .int i
  | .str x _ => .str x
  | _ => .non
/-- how else a thing may be there that is read as o: frozen; a tuple of ints and texts that is no written one is read by a mark too -/
def Alt (o u : HO) : Prop := (nt o = true ∧ ∃ f, u = .frz f o) ∨ ∃ ps : Array Value, o = .tbl ps ∧ u = .tup (ps.toList.map decV)
def Rd (H : Hp) (a : Addr) (o : HO) : Prop := H a = some o ∨ ∃ f : {u : HO // Alt o u}, H a = some f.1
def RD (fm : Fm) (own : List Addr) (H : Hp) : RdR := fun a o => (Rd (cl H) a o ∧ a ∉ own ∧ ¬ fm.z a) ∨ KObj fm.K a o
/-- .. at H' behind an expression that began at H -/
def RX (fm : Fm) (own : List Addr) (H H' : Hp) : Md → RdR
  | .sh => RD fm own H'
  | .f0 => fun a o => cl H' a = some o ∧ a ∉ own ∧ ¬ fm.z a ∧ fm.H0 a = none
  | .fx => fun a o => cl H' a = some o ∧ a ∉ own ∧ ¬ fm.z a ∧ fm.H0 a = none ∧ H a = none
theorem Rd.clo {H : Hp} {a : Addr} {o : HO} (r : L2.Rd H a o) (n : nt o = true := by rfl) : Rd (cl H) a o := r.imp (fun h => cl_of h n) fun ⟨f, h⟩ => ⟨⟨.frz f o, .inl ⟨n, f, rfl⟩⟩, cl_of h⟩
theorem Rd.raw {H : Hp} {a : Addr} {o : HO} (r : Rd (cl H) a o) (n : nt o = true := by rfl) : L2.Rd H a o := by
  rcases r with r | ⟨⟨u, x⟩, r⟩
  · exact .inl (cl_raw r)
  · rcases x with ⟨_, f, e⟩ | ⟨ps, e, _⟩
    · exact .inr ⟨f, by rw [← e]; exact cl_raw r⟩
    · rw [e] at n; cases n
/-- the mark of a tuple of ints and texts -/
theorem Rd.mark {H : Hp} {a : Addr} {ps : Array Value} (r : Rd (cl H) a (.tbl ps)) : H a = some (.tup (ps.toList.map decV)) := by
  rcases r with r | ⟨⟨u, x⟩, r⟩
  · cases cl_nt r
  · rcases x with ⟨n, f, e⟩ | ⟨ps', e, e'⟩
    · cases n
    · cases e; rw [← e']; exact cl_raw r
theorem Rd.same {H H' : Hp} {a : Addr} {o : HO} (s : Same H H') (r : Rd (cl H) a o) : Rd (cl H') a o := by
  rcases r with r | ⟨f, r⟩
  · exact .inl (s.cl _ _ r)
  · exact .inr ⟨f, s.cl _ _ r⟩
theorem Rd.some {H : Hp} {a : Addr} {o : HO} (r : Rd H a o) : H a ≠ none := by
  rcases r with r | ⟨f, r⟩ <;> rw [r] <;> exact fun e => by cases e
theorem Rd.there {H : Hp} {a : Addr} {o : HO} (r : Rd (cl H) a o) : H a ≠ none := fun e => Rd.some r (cl_none e)
theorem RD.same {fm : Fm} {own : List Addr} {H H' : Hp} (s : Same H H') : ∀ a o, RD fm own H a o → RD fm own H' a o := fun _ _ r => r.imp (fun ⟨r, h⟩ => ⟨Rd.same s r, h⟩) id
theorem RX.same {fm : Fm} {own : List Addr} {H H1 H2 : Hp} {md : Md} (s : Same H1 H2) : ∀ a o, RX fm own H H1 md a o → RX fm own H H2 md a o := fun a o r => by
  cases md with
  | sh => exact RD.same s a o r
  | f0 => exact ⟨s.cl _ _ r.1, r.2⟩
  | fx => exact ⟨s.cl _ _ r.1, r.2⟩
/-- from a later beginning -/
theorem RX.later {fm : Fm} {own : List Addr} {H H1 H2 : Hp} {md : Md} (s : Same H H1) : ∀ a o, RX fm own H1 H2 md a o → RX fm own H H2 md a o := fun a o r => by
  cases md with
  | sh => exact r
  | f0 => exact r
  | fx => exact ⟨r.1, r.2.1, r.2.2.1, r.2.2.2.1, s.free r.2.2.2.2⟩
theorem RX.sh {fm : Fm} {own : List Addr} {H H' : Hp} {md : Md} : ∀ a o, RX fm own H H' md a o → RX fm own H H' .sh a o := fun a o r => by
  cases md with
  | sh => exact r
  | f0 => exact .inl ⟨.inl r.1, r.2.1, r.2.2.1⟩
  | fx => exact .inl ⟨.inl r.1, r.2.1, r.2.2.1⟩
theorem RX.f0 {fm : Fm} {own : List Addr} {H H' : Hp} : ∀ a o, RX fm own H H' .fx a o → RX fm own H H' .f0 a o := fun a o r => ⟨r.1, r.2.1, r.2.2.1, r.2.2.2.1⟩
theorem RX.fx {fm : Fm} {own : List Addr} {H H' : Hp} (md : Md) : ∀ a o, RX fm own H H' .fx a o → RX fm own H H' md a o := fun a o r => by
  cases md with
  | sh => exact RX.sh a o r
  | f0 => exact RX.f0 a o r
  | fx => exact r
theorem RX.tup {fm : Fm} {own : List Addr} {H H' : Hp} {md : Md} {a : Addr} {vs : List V} (r : RX fm own H H' md a (.tup vs)) : SqT fm.K H' a vs := by
  rcases RX.sh a _ r with r | r
  · exact .inl (Rd.raw r.1)
  · exact .inr r
structure Slot where
  ok : Option V → Hp → (Bool → RdR) → List Addr → Prop
  st : ∀ {v H H' F} {R R' : Bool → RdR}, ok v H R F → (∀ b a o, R b a o → R' b a o) → (∀ p ∈ F, H' p = H p) → ok v H' R' F
  tb : ∀ {v H F} {R : Bool → RdR}, ok v H R F → ∀ p ∈ F, cl H p ≠ none
/-- nothing is known of it -/
def sAny : Slot := ⟨fun _ _ _ F => F = [], fun h _ _ => h, fun h p hp => by subst h; exact nomatch hp⟩
/-- a value (b: made since the def began) -/
def sV {α : Type} (b : Bool) (T : Ty α) (d : α) : Slot := ⟨fun v _ R F => F = [] ∧ ∃ x, v = some x ∧ T.rep d x (R b), fun ⟨e, x, h, r⟩ s _ => ⟨e, x, h, T.mono r (s b)⟩, fun ⟨e, _⟩ p hp => by subst e; exact nomatch hp⟩
/-- a list of one's own, which may be changed -/
def sOwn {α : Type} (b : Bool) (T : Ty α) (ds : List α) : Slot := ⟨fun v H R F => ∃ p xs, v = some (.ref p) ∧ F = [p] ∧ H p = some (.lst xs) ∧ Reps T (R b) ds xs,
  fun ⟨p, xs, e, f, h, r⟩ s k => ⟨p, xs, e, f, by rw [k p (by simp [f])]; exact h, r.mono (s b)⟩, fun ⟨p, xs, e, f, h, r⟩ q hq => by subst f; rw [List.mem_singleton.mp hq, cl_of h]; exact fun z => nomatch z⟩
inductive AllS (H : Hp) (R : Bool → RdR) : List Slot → L2.St → List (List Addr) → Prop where
  | nil : AllS H R [] [] []
  | cons {s L v σ F Fs} : s.ok v H R F → AllS H R L σ Fs → AllS H R (s :: L) (v :: σ) (F :: Fs)
def RB (fm : Fm) (own : List Addr) (H : Hp) (b : Bool) : RdR := RX fm own H H (if b then .f0 else .sh)
section
variable {H H' : Hp} {R R' : Bool → RdR} {L : List Slot} {σ : L2.St} {Fs : List (List Addr)}
theorem AllS.st (h : AllS H R L σ Fs) (s : ∀ b a o, R b a o → R' b a o) (k : ∀ p ∈ Fs.flatten, H' p = H p) : AllS H' R' L σ Fs := by
  induction h with
  | nil => exact .nil
  | @cons sl L v σ F Fs r t ih =>
    exact .cons (sl.st r s fun p hp => k p (by simp [hp])) (ih fun p hp => k p (by simp only [List.flatten_cons, List.mem_append]; exact .inr hp))
theorem AllS.tb (h : AllS H R L σ Fs) : ∀ p ∈ Fs.flatten, cl H p ≠ none := by
  induction h with
  | nil => intro p hp; simp at hp
  | @cons s L v σ F Fs r _ ih =>
    intro p hp
    rw [List.flatten_cons, List.mem_append] at hp
    exact hp.elim (s.tb r p) (ih p)
theorem AllS.len (h : AllS H R L σ Fs) : σ.length = L.length := by
  induction h with
  | nil => rfl
  | cons _ _ ih => simp [ih]
theorem AllS.get (h : AllS H R L σ Fs) : ∀ {i : Nat} {s : Slot}, L[i]? = some s → ∃ v F, σ[i]? = some v ∧ Fs[i]? = some F ∧ s.ok v H R F := by
  induction h with
  | nil => intro i s e; simp at e
  | cons r _ ih =>
    intro i s e
    cases i with
    | zero => simp at e; subst e; exact ⟨_, _, rfl, rfl, r⟩
    | succ i => obtain ⟨v, F, e1, e2, r1⟩ := ih (i := i) (s := s) (by simpa using e); exact ⟨v, F, by simpa using e1, by simpa using e2, r1⟩
theorem AllS.set (h : AllS H R L σ Fs) {s : Slot} {v : Option V} {F : List Addr} (r : s.ok v H R F) : ∀ (i : Nat), AllS H R (L.set i s) (σ.set i v) (Fs.set i F) := by
  induction h with
  | nil => intro i; exact .nil
  | cons q t ih =>
    intro i
    cases i with
    | zero => exact .cons r t
    | succ i => exact .cons q (ih i)
end
/-- where a def's body stands: its frame, its slots, what it owns, what is kept readable -/
structure At (fm : Fm) (kp : RdR) (L : List Slot) (σ : L2.St) (H : Hp) (own : List Addr) : Prop where
  same : Same fm.H0 H
  zin : ∀ a, fm.z a → H a ≠ none
  sl : ∃ Fs, AllS H (RB fm own H) L σ Fs ∧ own = Fs.flatten
  nd : own.Nodup
  new : ∀ p ∈ own, H p ≠ none ∧ fm.H0 p = none ∧ ¬ fm.z p
  kept : ∀ a o, kp a o → RD fm own H a o
theorem RB.same {fm : Fm} {own : List Addr} {H H' : Hp} (s : Same H H') : ∀ b a o, RB fm own H b a o → RB fm own H' b a o := fun b a o r => by
  unfold RB at r ⊢
  cases b <;> exact RX.same s a o r
section
variable {fm : Fm} {kp : RdR} {L : List Slot} {σ : L2.St} {H H' : Hp} {own : List Addr}
theorem At.ext (h : At fm kp L σ H own) (s : Same H H') : At fm kp L σ H' own := by
  obtain ⟨h1, h2, ⟨Fs, h3, e⟩, h4, h5, h6⟩ := h
  refine ⟨h1.trans s, fun a z n => h2 a z (s.free n), ⟨Fs, h3.st (RB.same s) fun p hp => ?_, e⟩, h4, fun p hp => ?_, fun a o k => RD.same s a o (h6 a o k)⟩
  · obtain ⟨q, _⟩ := h5 p (by rw [e]; exact hp)
    cases r : cl H p with
    | none => exact absurd r (h3.tb p hp)
    | some o => rw [cl_raw r]; exact s.keep _ _ (cl_raw r) (cl_nt r)
  · obtain ⟨q, q2⟩ := h5 p hp
    refine ⟨fun z => q (s.free z), q2⟩
end
/-- some slots forgotten -/
inductive Wk : List Slot → List Slot → Prop where
  | n : Wk [] []
  | s {s L L'} : Wk L L' → Wk (s :: L) (s :: L')
  | a {s L L'} : Wk L L' → Wk (s :: L) (sAny :: L')
theorem Wk.refl : ∀ L, Wk L L
  | [] => .n
  | _ :: L => .s (Wk.refl L)
theorem Wk.anys : ∀ {L : List Slot} {n : Nat}, L.length = n → Wk L (List.replicate n sAny)
  | [], _, e => by subst e; exact .n
  | _ :: L, _, e => by subst e; exact Wk.a (Wk.anys (L := L) rfl)
theorem RX.own {fm : Fm} {own own' : List Addr} {H H' : Hp} {md : Md} (k : ∀ p ∈ own', p ∈ own) : ∀ a o, RX fm own H H' md a o → RX fm own' H H' md a o := fun a o r => by
  cases md with
  | sh => exact r.imp (fun ⟨h1, h2, h3⟩ => ⟨h1, fun q => h2 (k a q), h3⟩) id
  | f0 => exact ⟨r.1, fun q => r.2.1 (k a q), r.2.2⟩
  | fx => exact ⟨r.1, fun q => r.2.1 (k a q), r.2.2⟩
theorem RB.own {fm : Fm} {own own' : List Addr} {H : Hp} (k : ∀ p ∈ own', p ∈ own) : ∀ b a o, RB fm own H b a o → RB fm own' H b a o := fun _ a o r => RX.own k a o r
theorem wk_fs {H : Hp} {R : Bool → RdR} {L L' : List Slot} (w : Wk L L') : ∀ {σ : L2.St} {Fs : List (List Addr)}, AllS H R L σ Fs → ∃ Fs', AllS H R L' σ Fs' ∧ List.Sublist Fs'.flatten Fs.flatten := by
  induction w with
  | n => intro σ Fs h; exact ⟨Fs, h, List.Sublist.refl _⟩
  | s _ ih =>
    intro σ Fs h
    cases h with
    | @cons _ _ _ _ F _ r t =>
      obtain ⟨Fs', h', k⟩ := ih t
      exact ⟨F :: Fs', .cons r h', by simpa using List.Sublist.append (List.Sublist.refl F) k⟩
  | a _ ih =>
    intro σ Fs h
    cases h with
    | @cons _ _ _ _ F _ r t =>
      obtain ⟨Fs', h', k⟩ := ih t
      exact ⟨[] :: Fs', .cons rfl h', by simpa using List.Sublist.trans k (List.sublist_append_right F _)⟩
section
variable {fm : Fm} {kp kp' : RdR} {L L' : List Slot} {σ : L2.St} {H H' : Hp} {own : List Addr}
theorem At.weak (h : At fm kp L σ H own) (w : Wk L L') : ∃ own', At fm kp L' σ H own' ∧ ∀ p ∈ own', p ∈ own := by
  obtain ⟨h1, h2, ⟨Fs, h3, rfl⟩, h4, h5, h6⟩ := h
  obtain ⟨Fs', h7, k⟩ := wk_fs w h3
  have kk : ∀ p ∈ Fs'.flatten, p ∈ Fs.flatten := fun p hp => k.subset hp
  exact ⟨_, ⟨h1, h2, ⟨Fs', h7.st (RB.own kk) fun _ _ => rfl, rfl⟩, h4.sublist k, fun p hp => h5 p (kk p hp), fun a o q => RX.own (md := .sh) (H := H) kk a o (h6 a o q)⟩, kk⟩
theorem At.keep (h : At fm kp L σ H own) (k : ∀ a o, kp' a o → kp a o) : At fm kp' L σ H own := ⟨h.same, h.zin, h.sl, h.nd, h.new, fun a o q => h.kept a o (k a o q)⟩
/-- the slots' count -/
theorem At.len (h : At fm kp L σ H own) : σ.length = L.length := by
  obtain ⟨_, h3, _⟩ := h.sl
  exact h3.len
/-- a slot that owns nothing is set to a thing that owns nothing -/
theorem set_same_nil {Fs : List (List Addr)} : ∀ {i : Nat}, Fs[i]? = some [] → (Fs.set i []).flatten = Fs.flatten := by
  induction Fs with
  | nil => intro i _; rfl
  | cons F Fs ih =>
    intro i e
    cases i with
    | zero => simp at e; subst e; rfl
    | succ i => simp only [List.set_cons_succ, List.flatten_cons]; rw [ih (by simpa using e)]
theorem set_sub {Fs : List (List Addr)} : ∀ {i : Nat}, List.Sublist (Fs.set i []).flatten Fs.flatten := by
  induction Fs with
  | nil => intro i; exact List.Sublist.refl _
  | cons F Fs ih =>
    intro i
    cases i with
    | zero => simpa using List.sublist_append_right F _
    | succ i => simpa using List.Sublist.append (List.Sublist.refl F) (ih (i := i))
theorem At.setV {i : Nat} {b : Bool} {α : Type} {T : Ty α} {d : α} {v : V} (h : At fm kp L σ H own) (r : T.rep d v (RB fm own H b)) : ∃ own', At fm kp (L.set i (sV b T d)) (σ.set i (some v)) H own' := by
  obtain ⟨h1, h2, ⟨Fs, h3, rfl⟩, h4, h5, h6⟩ := h
  have kk : ∀ p ∈ (Fs.set i []).flatten, p ∈ Fs.flatten := fun p hp => (set_sub (i := i)).subset hp
  refine ⟨_, h1, h2, ⟨Fs.set i [], (h3.st (RB.own kk) fun _ _ => rfl).set (s := sV b T d) ⟨rfl, v, rfl, T.mono r (RB.own kk b)⟩ i, rfl⟩, h4.sublist set_sub, fun p hp => h5 p (kk p hp), fun a o q => RX.own (md := .sh) (H := H) kk a o (h6 a o q)⟩
end
/-- what is wanted of a refusal -/
abbrev Wx := Ec → L2.St → Hp → Prop
structure G where
  X : Cx
  fm : Fm
  W : Wx
  LX : List Slot
/-- an expression that is worth m, told as T; md: how new it is -/
def tE (fm : Fm) (W : Wx) (L : List Slot) (md : Md) {α : Type} (T : Ty α) (m : M α) : TE := fun σ H Q => ∃ kp own, At fm kp L σ H own ∧
  match m with
  | .ok d => ∀ v H', Same H H' → T.rep d v (RX fm own H H' md) → Q v H'
  | .ex c => ∀ H', Same H H' → W c σ H'
  | .no => False
def tT (fm : Fm) (W : Wx) (L : List Slot) (m : M Bool) : TT := fun σ H Q => ∃ kp own, At fm kp L σ H own ∧
  match m with
  | .ok d => ∀ H', Same H H' → Q d H'
  | .ex c => ∀ H', Same H H' → W c σ H'
  | .no => False
def tA (fm : Fm) (W : Wx) (L : List Slot) (md : Md) {δ : Type} (A : Ar δ) (m : M δ) : TA := fun σ H Q => ∃ kp own, At fm kp L σ H own ∧
  match m with
  | .ok d => ∀ vs H', Same H H' → A.rep d vs (RX fm own H H' md) → Q vs H'
  | .ex c => ∀ H', Same H H' → W c σ H'
  | .no => False
/-- a list that the expression makes -/
def tL (fm : Fm) (W : Wx) (L : List Slot) (md : Md) {α : Type} (S : Ty α) (m : M (List α)) : TE := fun σ H Q => ∃ kp own, At fm kp L σ H own ∧
  match m with
  | .ok ds => ∀ p vs H', Same H H' → H p = none → H' p = some (.lst vs) → Reps S (RX fm (p :: own) H H' md) ds vs → Q (.ref p) H'
  | .ex c => ∀ H', Same H H' → W c σ H'
  | .no => False
def EvL (g : G) (L : List Slot) (e : Expr) (md : Md) {α : Type} (S : Ty α) (m : M (List α)) : Prop := PE g.X e (tL g.fm g.W L md S m)
def EvE (g : G) (L : List Slot) (e : Expr) (md : Md) {α : Type} (T : Ty α) (m : M α) : Prop := PE g.X e (tE g.fm g.W L md T m)
def EvT (g : G) (L : List Slot) (e : Expr) (m : M Bool) : Prop := PT g.X e (tT g.fm g.W L m)
def EvA (g : G) (L : List Slot) (es : List Expr) (md : Md) {δ : Type} (A : Ar δ) (m : M δ) : Prop := PA g.X es (tA g.fm g.W L md A m)
/-- how a block ends -/
inductive Out where
  | nx (L : List Slot)
  | ct (L : List Slot)
  | go (L : List Slot)
  | rt {ρ : Type} (md : Bool) (T : Ty ρ) (r : ρ)
  | rtL {ρ : Type} (md : Bool) (T : Ty ρ) (r : List ρ)
  /-- any other way of handing back -/
  | gen (f : Fm → VK → Prop)
  | bad
def Out.cut : Out → Out
  | .go L => .ct L
  | .nx _ => .bad
  | o => o
/-- .. of what is handed back; q: not by this one -/
def RT (fm : Fm) (H' : Hp) (b : Bool) (q : Option Addr := none) : RdR := RX fm q.toList H' H' (if b then .f0 else .sh)
def OutOk (fm : Fm) (kp : RdR) (E : Ends) : Out → Prop
  | .nx L => ∀ σ H own, At fm kp L σ H own → E.nx σ H
  | .ct L => ∀ σ H own, At fm kp L σ H own → E.ct σ H
  | .go L => ∀ σ H own, At fm kp L σ H own → E.nx σ H ∧ E.ct σ H
  | .rt md T r => ∀ v H', Same fm.H0 H' → T.rep r v (RT fm H' md) → E.rt v H'
  | .rtL md T r => ∀ p vs H', Same fm.H0 H' → ¬ fm.z p → fm.H0 p = none → H' p = some (.lst vs) → Reps T (RT fm H' md (some p)) r vs → E.rt (.ref p) H'
  | .gen f => f fm E.rt
  | .bad => False
def BOk (g : G) (kp : RdR) (E : Ends) {δ : Type} (D : δ → Out) : M δ → Prop
  | .ok d => OutOk g.fm kp E (D d)
  | .ex c => ∀ σ H own, At g.fm kp g.LX σ H own → g.W c σ H
  | .no => False
def tB (g : G) (L : List Slot) {δ : Type} (D : δ → Out) (m : M δ) : TS := fun E σ H => ∃ kp own, At g.fm kp L σ H own ∧ BOk g kp E D m
def EvB (g : G) (L : List Slot) (st : List Stmt) {δ : Type} (D : δ → Out) (m : M δ) : Prop := PSs g.X st (tB g L D m)
theorem PE.imp {X : Cx} {e : Expr} {t t' : TE} (h : PE X e t) (k : ∀ σ H Q, t' σ H Q → t σ H Q) : PE X e t' := ⟨fun pins s σ H Q I q => h.run pins s σ H Q I (k _ _ _ q)⟩
theorem PT.imp {X : Cx} {e : Expr} {t t' : TT} (h : PT X e t) (k : ∀ σ H Q, t' σ H Q → t σ H Q) : PT X e t' := ⟨fun pins s σ H Q I q => h.run pins s σ H Q I (k _ _ _ q)⟩
theorem PW.imp {X : Cx} {e : Expr} {t t' : TT} (h : PW X e t) (k : ∀ σ H Q, t' σ H Q → t σ H Q) : PW X e t' := ⟨fun wh pins s σ H Q I q => h.run wh pins s σ H Q I (k _ _ _ q)⟩
theorem PA.imp {X : Cx} {e : List Expr} {t t' : TA} (h : PA X e t) (k : ∀ σ H Q, t' σ H Q → t σ H Q) : PA X e t' := ⟨fun pos pins s σ H Q I q => h.run pos pins s σ H Q I (k _ _ _ q)⟩
theorem PSs.imp {X : Cx} {e : List Stmt} {t t' : TS} (h : PSs X e t) (k : ∀ E σ H, t' E σ H → t E σ H) : PSs X e t' := ⟨fun pins s σ H D I q => h.run pins s σ H D I (k _ _ _ q)⟩
section
variable {g : G} {L : List Slot} {e e' : Expr} {es : List Expr} {md : Md} {α β γ δ : Type} {S : Ty α} {T : Ty β} {U : Ty γ} {A : Ar δ}
/-- the end of an expression, as a wish about its worth -/
def FinE (fm : Fm) (W : Wx) (own : List Addr) (σ : L2.St) (H : Hp) (md : Md) (T : Ty β) (Q : VK) : M β → Prop
  | .ok d => ∀ v H', Same H H' → T.rep d v (RX fm own H H' md) → Q v H'
  | .ex c => ∀ H', Same H H' → W c σ H'
  | .no => False
def FinL (fm : Fm) (W : Wx) (own : List Addr) (σ : L2.St) (H : Hp) (md : Md) (T : Ty β) (Q : VK) : M (List β) → Prop
  | .ok ds => ∀ p vs H', Same H H' → H p = none → H' p = some (.lst vs) → Reps T (RX fm (p :: own) H H' md) ds vs → Q (.ref p) H'
  | .ex c => ∀ H', Same H H' → W c σ H'
  | .no => False
theorem tL_iff {fm : Fm} {W : Wx} {m : M (List β)} {σ : L2.St} {H : Hp} {Q : VK} : tL fm W L md T m σ H Q ↔ ∃ kp own, At fm kp L σ H own ∧ FinL fm W own σ H md T Q m := by
  cases m <;> exact Iff.rfl
def FinT (W : Wx) (σ : L2.St) (H : Hp) (Q : Bool → Hp → Prop) : M Bool → Prop
  | .ok d => ∀ H', Same H H' → Q d H'
  | .ex c => ∀ H', Same H H' → W c σ H'
  | .no => False
def FinA (fm : Fm) (W : Wx) (own : List Addr) (σ : L2.St) (H : Hp) (md : Md) (A : Ar δ) (Q : List V → Hp → Prop) : M δ → Prop
  | .ok d => ∀ vs H', Same H H' → A.rep d vs (RX fm own H H' md) → Q vs H'
  | .ex c => ∀ H', Same H H' → W c σ H'
  | .no => False
theorem tE_iff {fm : Fm} {W : Wx} {m : M β} {σ : L2.St} {H : Hp} {Q : VK} : tE fm W L md T m σ H Q ↔ ∃ kp own, At fm kp L σ H own ∧ FinE fm W own σ H md T Q m := by
  cases m <;> exact Iff.rfl
theorem tT_iff {fm : Fm} {W : Wx} {m : M Bool} {σ : L2.St} {H : Hp} {Q : Bool → Hp → Prop} : tT fm W L m σ H Q ↔ ∃ kp own, At fm kp L σ H own ∧ FinT W σ H Q m := by
  cases m <;> exact Iff.rfl
theorem tA_iff {fm : Fm} {W : Wx} {m : M δ} {σ : L2.St} {H : Hp} {Q : List V → Hp → Prop} : tA fm W L md A m σ H Q ↔ ∃ kp own, At fm kp L σ H own ∧ FinA fm W own σ H md A Q m := by
  cases m <;> exact Iff.rfl
/-- ends that let refusals pass -/
structure Fin (W : Wx) (σ : L2.St) (H0 : Hp) (F : M β → Prop) : Prop where
  ex : ∀ {c}, F (.ex c) → ∀ H', Same H0 H' → W c σ H'
  no : ¬ F .no
theorem finE {fm : Fm} {W : Wx} {own : List Addr} {σ : L2.St} {H : Hp} {Q : VK} : Fin W σ H (FinE fm W own σ H md T Q) := ⟨fun h => h, fun h => h⟩
theorem finL {fm : Fm} {W : Wx} {own : List Addr} {σ : L2.St} {H : Hp} {Q : VK} : Fin (β := List β) W σ H (FinL fm W own σ H md T Q) := ⟨fun h => h, fun h => h⟩
theorem finT {W : Wx} {σ : L2.St} {H : Hp} {Q : Bool → Hp → Prop} : Fin W σ H (FinT W σ H Q) := ⟨fun h => h, fun h => h⟩
theorem finA {fm : Fm} {W : Wx} {own : List Addr} {σ : L2.St} {H : Hp} {Q : List V → Hp → Prop} : Fin W σ H (FinA fm W own σ H md A Q) := ⟨fun h => h, fun h => h⟩
section
variable {fm : Fm} {W : Wx} {kp : RdR} {own : List Addr} {σ : L2.St} {H0 H : Hp} {F : M β → Prop}
/-- a sub-expression, then what follows -/
theorem sub {m : M α} {f : α → M β} {K : VK} (hF : Fin W σ H0 F) (s0 : Same H0 H) (at_ : At fm kp L σ H own) (q : F (m.bind f))
    (h : ∀ d v H1, Same H H1 → S.rep d v (RX fm own H0 H1 md) → At fm kp L σ H1 own → F (f d) → K v H1) : tE fm W L md S m σ H K := by
  refine tE_iff.mpr ⟨kp, own, at_, ?_⟩
  cases m with
  | ok d => exact fun v H1 s r => h d v H1 s (S.mono r (RX.later s0)) (at_.ext s) q
  | ex c => exact fun H' s => hF.ex q H' (s0.trans s)
  | no => exact hF.no q
theorem subT {m : M Bool} {f : Bool → M β} {K : Bool → Hp → Prop} (hF : Fin W σ H0 F) (s0 : Same H0 H) (at_ : At fm kp L σ H own) (q : F (m.bind f))
    (h : ∀ d H1, Same H H1 → At fm kp L σ H1 own → F (f d) → K d H1) : tT fm W L m σ H K := by
  refine tT_iff.mpr ⟨kp, own, at_, ?_⟩
  cases m with
  | ok d => exact fun H1 s => h d H1 s (at_.ext s) q
  | ex c => exact fun H' s => hF.ex q H' (s0.trans s)
  | no => exact hF.no q
theorem subA {m : M δ} {f : δ → M β} {K : List V → Hp → Prop} (hF : Fin W σ H0 F) (s0 : Same H0 H) (at_ : At fm kp L σ H own) (q : F (m.bind f))
    (h : ∀ d vs H1, Same H H1 → A.rep d vs (RX fm own H0 H1 md) → At fm kp L σ H1 own → F (f d) → K vs H1) : tA fm W L md A m σ H K := by
  refine tA_iff.mpr ⟨kp, own, at_, ?_⟩
  cases m with
  | ok d => exact fun vs H1 s r => h d vs H1 s (A.mono r (RX.later s0)) (at_.ext s) q
  | ex c => exact fun H' s => hF.ex q H' (s0.trans s)
  | no => exact hF.no q
end
structure Rdb (K : PySem.W.Frag) (R : RdR) (H : Hp) : Prop where
  rd : ∀ a o, R a o → nt o = true → L2.Rd H a o ∨ KObj K a o
instance {K : PySem.W.Frag} {R : RdR} {H : Hp} : CoeFun (Rdb K R H) (fun _ => ∀ a o, R a o → (n : nt o = true) → L2.Rd H a o ∨ KObj K a o) := ⟨fun rb a o h n => rb.rd a o h n⟩
/-- what an operation's answer may reach: its operands' things (unless fr), new things -/
def Nw (fr : Bool) (R : RdR) (H H' : Hp) : RdR := fun a o => (fr = false ∧ R a o) ∨ (cl H' a = some o ∧ H a = none)
def OpEnd (U : Ty γ) (fr : Bool) (R : RdR) (H : Hp) (Q : VK) : M γ → Prop
  | .ok u => ∀ v H', Same H H' → U.rep u v (Nw fr R H H') → Q v H'
  | _ => False
structure Op1 (K : PySem.W.Frag) (r : V → Hp → VK → Prop) (S : Ty α) (U : Ty γ) (f : α → M γ) (fr : Bool) : Prop where
  run : ∀ {d x R H Q}, Rdb K R H → S.rep d x R → OpEnd U fr R H Q (f d) → r x H Q
structure Op2 (K : PySem.W.Frag) (r : R2) (S : Ty α) (T : Ty β) (U : Ty γ) (f : α → β → M γ) (fr : Bool) : Prop where
  run : ∀ {d e x y R H Q}, Rdb K R H → S.rep d x R → T.rep e y R → OpEnd U fr R H Q (f d e) → r x y H Q
structure OpC (K : PySem.W.Frag) (r : List V → Hp → VK → Prop) (A : Ar δ) (U : Ty γ) (f : δ → M γ) (fr : Bool) : Prop where
  run : ∀ {d xs R H Q}, Rdb K R H → A.rep d xs R → OpEnd U fr R H Q (f d) → r xs H Q
/-- how new an answer is -/
inductive MdOk : Bool → Md → Md → Prop where
  | same {fr md} : MdOk fr md md
  | fresh {md md'} : MdOk true md md'
theorem RX.rdb {fm : Fm} {own : List Addr} {H H' : Hp} : Rdb fm.K (RX fm own H H' md) H' := ⟨fun a o r n => (RX.sh a o r).imp (fun h => Rd.raw h.1 n) id⟩
theorem Nw.rx {fm : Fm} {kp : RdR} {own : List Addr} {σ : L2.St} {H H1 H2 : Hp} {fr : Bool} {md' : Md} (hm : MdOk fr md md') (s : Same H H1) (at_ : At fm kp L σ H1 own) (s2 : Same H1 H2) :
    ∀ a o, Nw fr (RX fm own H H1 md) H1 H2 a o → RX fm own H H2 md' a o := fun a o r => by
  rcases r with ⟨e, r⟩ | ⟨r, n⟩
  · cases hm with
    | same => exact RX.same s2 a o r
    | fresh => cases e
  · refine RX.fx md' a o ⟨r, fun hp => (at_.new a hp).1 n, fun hz => at_.zin a hz n, at_.same.free n, s.free n⟩
theorem FinE.fin {fm : Fm} {W : Wx} {kp : RdR} {own : List Addr} {σ : L2.St} {H H1 : Hp} {fr : Bool} {md' : Md} {Q : VK} {m : M γ} (hm : MdOk fr md md') (s : Same H H1) (at_ : At fm kp L σ H1 own) (hne : ∀ c, m ≠ .ex c)
    (q : FinE fm W own σ H md' U Q m) : OpEnd U fr (RX fm own H H1 md) H1 Q m := by
  cases m with
  | ok u => exact fun v H' s' r => q v H' (s.trans s') (U.mono r (Nw.rx hm s at_ s'))
  | ex c => exact hne c rfl
  | no => exact q
end
end Hd
namespace Hd
open PySem PySem.Spec L2
/-- the program's fixed things -/
structure Pr where
  P : Program
  w : World
  K : PySem.W.Frag
  mg : Str → Option Value
  base : Heap
  C : Ec → Addr
  /-- where the table of the lambda's code object stands -/
  T : Option Addr
def okName (x : Str) : Bool := !(x == ("__debug__" : Str)) && !(x == ("__classdict__" : Str)) && !(x == ("__name__" : Str))
def seenB (sc : Scope) (x : Str) : Bool := okName x && (match sc.names.lookup x with | some .local => true | some .cell => true | some .free => true | _ => false)
def locB (sc : Scope) (x : Str) : Bool := match sc.names.lookup x with | some .local => true | some .cell => true | _ => false
def glB (sc : Scope) (x : Str) : Bool := okName x && (match sc.names.lookup x with | some .globalImplicit => true | _ => false)
theorem okName_d {x : Str} (h : okName x = true) : (x == ("__debug__" : Str)) = false ∧ (x == ("__classdict__" : Str)) = false ∧ x ≠ "__name__" := by
  simp only [okName, Bool.and_eq_true, Bool.not_eq_true'] at h
  refine ⟨h.1.1, h.1.2, fun e => ?_⟩
  have := h.2
  rw [e, beq_self_eq_true] at this
  cases this
theorem seenB_v {sc : Scope} {x : Str} (h : seenB sc x = true) : okName x = true ∧ Vis sc x := by
  simp only [seenB, Bool.and_eq_true] at h
  refine ⟨h.1, ?_⟩
  have q := h.2
  unfold Vis
  split at q <;> first | exact .inl (by assumption) | exact .inr (.inl (by assumption)) | exact .inr (.inr (by assumption)) | cases q
theorem locB_v {sc : Scope} {x : Str} (h : locB sc x = true) : L2.Loc sc x := by
  unfold locB at h
  unfold L2.Loc
  split at h <;> first | exact .inl (by assumption) | exact .inr (by assumption) | cases h
theorem glB_v {sc : Scope} {x : Str} (h : glB sc x = true) : okName x = true ∧ sc.names.lookup x = some .globalImplicit := by
  simp only [glB, Bool.and_eq_true] at h
  refine ⟨h.1, ?_⟩
  have q := h.2
  split at q <;> first | assumption | cases q
/-- where an expression stands: N the slots, V the names seen, Gs the global names used, k the room -/
structure Ok (p : Pr) (sc : Scope) (NN VV GG : List Str) (k : Nat) (g : G) : Prop where
  prog : g.X.prog = p.P
  w : g.X.w = p.w
  K : g.X.K = p.K
  mg : g.X.mg = p.mg
  base : g.X.base = p.base
  N : g.X.N = NN
  fmK : g.fm.K = p.K
  tab : ∀ P, p.T = some P → LamX.TabS g.fm.H0 P lamQ
  room : Room k g.X.A
  nd : NN.Nodup
  vis : ∀ {j : Nat} {x : Str}, VV[j]? = some x → Vis g.X.env.scope x ∧ okName x = true
  gl : ∀ {j : Nat} {x : Str}, GG[j]? = some x → Gl g.X x ∧ okName x = true
  tk : Takes g.X (fun cls d σ H => ∃ c, cls = .ref (p.C c) ∧ d = none ∧ g.W c σ H)
  calm : g.X.calm = true
  blk : ∀ {scope : Scope} {own : List (Str × Nat)}, blkC NN sc scope own = true → BlkOk NN g.X.env.scope scope own
section
variable {p : Pr} {sc : Scope} {NN VV GG : List Str} {k : Nat} {g : G} {L : List Slot} {a b c e e' : Expr} {es : List Expr} {md md' : Md} {α β γ δ : Type} {S : Ty α} {T : Ty β} {U : Ty γ} {A : Ar δ} {pos : Pos}
theorem RB.rx {fm : Fm} {own : List Addr} {H H' : Hp} {b : Bool} : ∀ a o, RB fm own H' b a o → RX fm own H H' (if b then .f0 else .sh) a o := fun a o r => by cases b <;> exact r
/-- a name whose slot holds d -/
theorem ev_var (ok : Ok p sc NN VV GG k g) {i j : Nat} {x : Str} {b : Bool} {d : α} (hN : NN[i]? = some x) (hV : VV[j]? = some x) (hL : L[i]? = some (sV b S d)) : EvE g L (.Name x pos) (if b then .f0 else .sh) S (.ok d) := by
  obtain ⟨hv, ho⟩ := ok.vis hV
  obtain ⟨h1, h2, _⟩ := okName_d ho
  refine PE.imp (pe_var (i := i) (by rw [ok.N]; exact hN) hv h1 h2) fun σ H Q ⟨kp, own, at_, q⟩ => ?_
  obtain ⟨Fs, hs, _⟩ := at_.sl
  obtain ⟨v, F, e1, _, _, y, rfl, r⟩ := hs.get hL
  exact ⟨y, e1, q y H (Same.refl H) (S.mono r RB.rx)⟩
theorem ev_vsh (ok : Ok p sc NN VV GG k g) {i j : Nat} {x : Str} {b : Bool} {d : α} (hN : NN[i]? = some x) (hV : VV[j]? = some x) (hL : L[i]? = some (sV b S d)) : EvE g L (.Name x pos) .sh S (.ok d) := by
  refine PE.imp (ev_var ok hN hV hL) fun σ H Q ⟨kp, own, at_, q⟩ => ⟨kp, own, at_, fun v H' s r => q v H' s (S.mono r RX.sh)⟩
/-- a kind of data without a heap -/
def Flat (S : Ty α) : Prop := ∀ {d v R R'}, S.rep d v R → S.rep d v R'
theorem Reps.flat {R R' : RdR} {ds : List α} {vs : List V} (hf : Flat S) (r : Reps S R ds vs) : Reps S R' ds vs := by
  induction r with
  | nil => exact .nil
  | cons r _ ih => exact .cons (hf r) ih
theorem ev_sh {m : M α} (h : EvE g L e md S m) : EvE g L e .sh S m :=
  PE.imp h fun σ H Q q => by
    obtain ⟨kp, own, at_, q⟩ := tE_iff.mp q
    refine tE_iff.mpr ⟨kp, own, at_, ?_⟩
    cases m with
    | ok d => exact fun v H' s r => q v H' s (S.mono r RX.sh)
    | ex c => exact q
    | no => exact q
/-- the kind told otherwise -/
theorem ev_as {m : M α} {d2 : α → β} (hr : ∀ d v R, S.rep d v R → T.rep (d2 d) v R) (h : EvE g L e md S m) : EvE g L e md T (m.bind fun d => .ok (d2 d)) :=
  PE.imp h fun σ H Q q => by
    obtain ⟨kp, own, at_, q⟩ := tE_iff.mp q
    refine tE_iff.mpr ⟨kp, own, at_, ?_⟩
    cases m with
    | ok d => exact fun v H' s r => q v H' s (hr _ _ _ r)
    | ex c => exact q
    | no => exact q
theorem ev_asP {d : α} {d2 : β} (hr : ∀ v R, S.rep d v R → T.rep d2 v R) (h : EvE g L e md S (.ok d)) : EvE g L e md T (.ok d2) :=
  PE.imp h fun σ H Q ⟨kp, own, at_, q⟩ => ⟨kp, own, at_, fun v H' s r => q v H' s (hr _ _ r)⟩
theorem ev_int {i : Int} {j} : EvE g L (.Constant (.int i) j pos) md tInt (.ok i) := PE.imp pe_int fun σ H Q ⟨kp, own, at_, q⟩ => q _ H (Same.refl H) rfl
theorem ev_bool {i : Bool} {j} : EvE g L (.Constant (.bool i) j pos) md tBool (.ok i) := PE.imp pe_bl fun σ H Q ⟨kp, own, at_, q⟩ => q _ H (Same.refl H) rfl
theorem ev_none {j} : EvE g L (.Constant .none j pos) md tNone (.ok ()) := PE.imp pe_non fun σ H Q ⟨kp, own, at_, q⟩ => q _ H (Same.refl H) rfl
theorem ev_optN {j} : EvE g L (.Constant .none j pos) md (tOpt S) (.ok none) := PE.imp pe_non fun σ H Q ⟨kp, own, at_, q⟩ => q _ H (Same.refl H) rfl
/-- a written text's signs -/
def tx (s : String) : Tx := (Str.ofString s).cps.toList
theorem toS_tx (s : String) : toS (tx s) = Str.ofString s := by
  show (⟨((Str.ofString s).cps.toList).toArray⟩ : Str) = Str.ofString s
  rw [Array.toArray_toList]
theorem toS_inj {x y : Tx} (h : toS x = toS y) : x = y := by
  have := congrArg (fun z : Str => z.cps.toList) h
  simpa [toS] using this
theorem toS_len (x : Tx) : (toS x).length = x.length := by
  show x.toArray.size = x.length
  simp
def okTxB (x : Tx) : Bool := decide (x.length ≤ 1000) && x.all fun c => decide (c < 0x110000)
theorem okTx_of {x : Tx} (h : okTxB x = true) : OkTx x := by
  simp only [okTxB, Bool.and_eq_true, decide_eq_true_eq, List.all_eq_true] at h
  exact ⟨Nat.le_trans h.1 (by decide), h.2⟩
theorem ev_str {s : String} {j} (hl : okTxB (tx s) = true) : EvE g L (.Constant (.str (Str.ofString s)) j pos) md tStr (.ok (tx s)) := PE.imp pe_str fun σ H Q ⟨kp, own, at_, q⟩ => q _ H (Same.refl H) ⟨by show _ = V.str _; rw [toS_tx], okTx_of hl⟩
/-- a constant of the module: an int or a text -/
theorem ev_glob (ok : Ok p sc NN VV GG k g) {j : Nat} {x : Str} {v : V} {u : Value} {d : α} (hG : GG[j]? = some x) (hm : p.mg x = some u) (r : RelV v u) (hr : ∀ R, S.rep d v R) : EvE g L (.Name x pos) md S (.ok d) := by
  obtain ⟨hg, ho⟩ := ok.gl hG
  exact PE.imp (pe_glob hg (by rw [ok.mg]; exact hm) r (okName_d ho).1) fun σ H Q ⟨kp, own, at_, q⟩ => q _ H (Same.refl H) (hr _)
/-- .. -/
theorem ev_op2 {op : Operator} {r : R2} {f : α → β → M γ} {fr : Bool} {m1 : M α} {m2 : M β} (ok : Ok p sc NN VV GG k g) (ho : ∀ {X : Cx}, OpR X (binaryOp op) r) (F : Op2 p.K r S T U f fr) (hne : ∀ d e c, f d e ≠ .ex c) (hm : MdOk fr md md')
    (ha : EvE g L a md S m1) (hb : EvE g L b md T m2) : EvE g L (.BinOp a op b pos) md' U (m1.bind fun d => m2.bind fun e => f d e) := by
  refine PE.imp (pe_op ho ha hb) fun σ H Q q => ?_
  obtain ⟨kp, own, at_, q⟩ := tE_iff.mp q
  refine sub finE (Same.refl H) at_ q fun d x H1 s1 r1 at1 q1 => sub finE s1 at1 q1 fun e y H2 s2 r2 at2 q2 => ?_
  rw [← ok.fmK] at F
  exact F.run (R := RX g.fm own H H2 md) RX.rdb (S.mono r1 (RX.same s2)) r2 (q2.fin hm (s1.trans s2) at2 (hne d e))
theorem ev_un {op : UnaryOp} {r : V → Hp → VK → Prop} {f : α → M γ} {fr : Bool} {m1 : M α} (ok : Ok p sc NN VV GG k g) (ho : ∀ {X : Cx}, UnR X (unaryOp op) r) (F : Op1 p.K r S U f fr) (hne : ∀ d c, f d ≠ .ex c) (hm : MdOk fr md md')
    (ha : EvE g L a md S m1) : EvE g L (.UnaryOp op a pos) md' U (m1.bind f) := by
  refine PE.imp (pe_un ho ha) fun σ H Q q => ?_
  obtain ⟨kp, own, at_, q⟩ := tE_iff.mp q
  refine sub finE (Same.refl H) at_ q fun d x H1 s1 r1 at1 q1 => ?_
  rw [← ok.fmK] at F
  exact F.run (R := RX g.fm own H H1 md) RX.rdb r1 (q1.fin hm s1 at1 (hne d))
/-- a comparison's value -/
theorem ev_cmp {op : CmpOp} {r : R2} {f : α → β → M γ} {fr : Bool} {m1 : M α} {m2 : M β} (ok : Ok p sc NN VV GG k g) (ho : OpR g.X (compareOp op) r) (F : Op2 p.K r S T U f fr) (hne : ∀ d e c, f d e ≠ .ex c) (hm : MdOk fr md md')
    (ha : EvE g L a md S m1) (hb : EvE g L b md T m2) (hk : behindInMarks op b = false := by first | exact nomark _ (by decide) (by decide) | rfl) : EvE g L (.Compare a [op] [b] pos) md' U (m1.bind fun d => m2.bind fun e => f d e) := by
  refine PE.imp (pe_cmpR ho ha hb hk) fun σ H Q q => ?_
  obtain ⟨kp, own, at_, q⟩ := tE_iff.mp q
  refine sub finE (Same.refl H) at_ q fun d x H1 s1 r1 at1 q1 => sub finE s1 at1 q1 fun e y H2 s2 r2 at2 q2 => ?_
  rw [← ok.fmK] at F
  exact F.run (R := RX g.fm own H H2 md) RX.rdb (S.mono r1 (RX.same s2)) r2 (q2.fin hm (s1.trans s2) at2 (hne d e))
/-- a comparison as a test -/
theorem evt_cmp {op : CmpOp} {r : R2} {f : α → β → M Bool} {fr : Bool} {m1 : M α} {m2 : M β} (ok : Ok p sc NN VV GG k g) (ho : OpR g.X (compareOp op) r) (F : Op2 p.K r S T tBool f fr) (hne : ∀ d e c, f d e ≠ .ex c)
    (ha : EvE g L a md S m1) (hb : EvE g L b md T m2) (hk : behindInMarks op b = false := by first | exact nomark _ (by decide) (by decide) | rfl) : EvT g L (.Compare a [op] [b] pos) (m1.bind fun d => m2.bind fun e => f d e) := by
  refine PT.imp (pt_cmpR ho ha hb hk) fun σ H Q q => ?_
  obtain ⟨kp, own, at_, q⟩ := tT_iff.mp q
  refine sub finT (Same.refl H) at_ q fun d x H1 s1 r1 at1 q1 => sub finT s1 at1 q1 fun e y H2 s2 r2 at2 q2 => ?_
  rw [← ok.fmK] at F
  refine F.run (R := RX g.fm own H H2 md) RX.rdb (S.mono r1 (RX.same s2)) r2 ?_
  cases hf : f d e with
  | ok c => rw [hf] at q2; exact fun v H' s r => ⟨c, r, q2 H' ((s1.trans s2).trans s)⟩
  | ex c => exact absurd hf (hne d e c)
  | no => rw [hf] at q2; exact q2
/-- an expression that is a bool, as a test -/
theorem evt_of {m : M Bool} (h : EvE g L e md tBool m) (he : ∀ whole, isTrue e g.X.env whole = (do let v ← whole; standAt e.pos; holding [v] (truthy v)) := by intro _; rfl) : EvT g L e m := by
  refine PT.imp (pt_val h he) fun σ H Q q => ?_
  obtain ⟨kp, own, at_, q⟩ := tT_iff.mp q
  refine tE_iff.mpr ⟨kp, own, at_, ?_⟩
  cases m with
  | ok d => exact fun v H' s r => ⟨d, r, q H' s⟩
  | ex c => exact q
  | no => exact q
theorem evt_not {m : M Bool} (h : EvT g L a m) : EvT g L (.UnaryOp .Not a pos) (m.bind fun c => .ok (!c)) := by
  refine PT.imp (pt_not h) fun σ H Q q => ?_
  obtain ⟨kp, own, at_, q⟩ := tT_iff.mp q
  exact subT finT (Same.refl H) at_ q fun d H1 s at1 q1 => q1 H1 s
/-- and, or: chains of tests -/
def EvW (g : G) (L : List Slot) (e : Expr) (m : M Bool) : Prop := PW g.X e (tT g.fm g.W L m)
theorem EvW.t {m : M Bool} (h : EvW g L e m) : EvT g L e m := PW.pt h
theorem evw_and1 {m : M Bool} (h : EvT g L a m) : EvW g L (.BoolOp .And [a] pos) m := pw_and1 h
theorem evw_or1 {m : M Bool} (h : EvT g L a m) : EvW g L (.BoolOp .Or [a] pos) m := pw_or1 h
theorem evw_and {m1 m2 : M Bool} (h : EvT g L a m1) (h2 : EvW g L (.BoolOp .And (b :: es) pos) m2) : EvW g L (.BoolOp .And (a :: b :: es) pos) (m1.bind fun c => if c = true then m2 else .ok false) := by
  refine PW.imp (pw_and h h2) fun σ H Q q => ?_
  obtain ⟨kp, own, at_, q⟩ := tT_iff.mp q
  refine subT finT (Same.refl H) at_ q fun d H1 s at1 q1 => ?_
  cases d with
  | true =>
    show tT g.fm g.W L m2 σ H1 Q
    refine tT_iff.mpr ⟨kp, own, at1, ?_⟩
    have q1 : FinT g.W σ H Q m2 := q1
    cases m2 with
    | ok d => exact fun H' s' => q1 H' (s.trans s')
    | ex c => exact fun H' s' => q1 H' (s.trans s')
    | no => exact q1
  | false => exact q1 H1 s
theorem evw_or {m1 m2 : M Bool} (h : EvT g L a m1) (h2 : EvW g L (.BoolOp .Or (b :: es) pos) m2) : EvW g L (.BoolOp .Or (a :: b :: es) pos) (m1.bind fun c => if c = true then .ok true else m2) := by
  refine PW.imp (pw_or h h2) fun σ H Q q => ?_
  obtain ⟨kp, own, at_, q⟩ := tT_iff.mp q
  refine subT finT (Same.refl H) at_ q fun d H1 s at1 q1 => ?_
  cases d with
  | false =>
    show tT g.fm g.W L m2 σ H1 Q
    refine tT_iff.mpr ⟨kp, own, at1, ?_⟩
    have q1 : FinT g.W σ H Q m2 := q1
    cases m2 with
    | ok d => exact fun H' s' => q1 H' (s.trans s')
    | ex c => exact fun H' s' => q1 H' (s.trans s')
    | no => exact q1
  | true => exact q1 H1 s
theorem if_tf {c d : Bool} : (if c = true then (.ok d : M Bool) else .ok false) = .ok (c && d) := by cases c <;> rfl
theorem if_ft {c d : Bool} : (if c = true then (.ok true : M Bool) else .ok d) = .ok (c || d) := by cases c <;> rfl
theorem evw_orP {c d : Bool} (h : EvT g L a (.ok c)) (h2 : EvW g L (.BoolOp .Or (b :: es) pos) (.ok d)) : EvW g L (.BoolOp .Or (a :: b :: es) pos) (.ok (c || d)) := by
  have q := evw_or h h2
  rwa [M.bind_ok, if_ft] at q
/-- .. as values -/
theorem ev_one {op} {m : M Bool} (h : EvE g L a md tBool m) : EvE g L (.BoolOp op [a] pos) md tBool m := pe_one h
theorem ev_and {m1 m2 : M Bool} (h : EvE g L a md tBool m1) (h2 : EvE g L (.BoolOp .And (b :: es) pos) md tBool m2) : EvE g L (.BoolOp .And (a :: b :: es) pos) md tBool (m1.bind fun c => if c = true then m2 else .ok false) := by
  refine PE.imp (pe_and h h2) fun σ H Q q => ?_
  obtain ⟨kp, own, at_, q⟩ := tE_iff.mp q
  refine sub finE (Same.refl H) at_ q fun d x H1 s r at1 q1 => ⟨d, r, ?_⟩
  cases d with
  | true =>
    refine tE_iff.mpr ⟨kp, own, at1, ?_⟩
    have q1 : FinE g.fm g.W own σ H md tBool Q m2 := q1
    cases m2 with
    | ok d => exact fun v H' s' r' => q1 v H' (s.trans s') r'
    | ex c => exact fun H' s' => q1 H' (s.trans s')
    | no => exact q1
  | false => exact q1 _ H1 s rfl
theorem ev_andP {c d : Bool} (h : EvE g L a md tBool (.ok c)) (h2 : EvE g L (.BoolOp .And (b :: es) pos) md tBool (.ok d)) : EvE g L (.BoolOp .And (a :: b :: es) pos) md tBool (.ok (c && d)) := by
  have q := ev_and h h2
  rwa [M.bind_ok, if_tf] at q
theorem ev_not {m : M Bool} (h : EvE g L a md tBool m) : EvE g L (.UnaryOp .Not a pos) md' tBool (m.bind fun c => .ok (!c)) := by
  refine PE.imp (pe_not h) fun σ H Q q => ?_
  obtain ⟨kp, own, at_, q⟩ := tE_iff.mp q
  exact sub finE (Same.refl H) at_ q fun d x H1 s r at1 q1 => ⟨d, r, q1 _ H1 s rfl⟩
theorem eva_nil : EvA g L [] md aNil (.ok ()) := PA.imp pa_nil fun σ H Q ⟨kp, own, at_, q⟩ => q [] H (Same.refl H) rfl
theorem eva_cons {m1 : M α} {m2 : M δ} (ha : EvE g L a md S m1) (hb : EvA g L es md A m2) (hs : starEach (a :: es) g.X.env = (false, eval a g.X.env) :: starEach es g.X.env := by rfl) : EvA g L (a :: es) md (aCons S A) (m1.bind fun d => m2.bind fun e => .ok (d, e)) := by
  refine PA.imp (pa_cons ha hb hs) fun σ H Q q => ?_
  obtain ⟨kp, own, at_, q⟩ := tA_iff.mp q
  exact sub finA (Same.refl H) at_ q fun d x H1 s1 r1 at1 q1 => subA finA s1 at1 q1 fun e xs H2 s2 r2 at2 q2 => q2 _ H2 (s1.trans s2) ⟨x, xs, rfl, S.mono r1 (RX.same s2), r2⟩
/-- items of one kind -/
theorem evs_nil : EvA g L [] md (aAll S) (.ok []) := PA.imp pa_nil fun σ H Q ⟨kp, own, at_, q⟩ => q [] H (Same.refl H) .nil
theorem evs_cons {m1 : M α} {m2 : M (List α)} (ha : EvE g L a md S m1) (hb : EvA g L es md (aAll S) m2) (hs : starEach (a :: es) g.X.env = (false, eval a g.X.env) :: starEach es g.X.env := by rfl) : EvA g L (a :: es) md (aAll S) (m1.bind fun d => m2.bind fun e => .ok (d :: e)) := by
  refine PA.imp (pa_cons ha hb hs) fun σ H Q q => ?_
  obtain ⟨kp, own, at_, q⟩ := tA_iff.mp q
  exact sub finA (Same.refl H) at_ q fun d x H1 s1 r1 at1 q1 => subA finA s1 at1 q1 fun e xs H2 s2 r2 at2 q2 => q2 _ H2 (s1.trans s2) (.cons (S.mono r1 (RX.same s2)) r2)
theorem newSame {H : Hp} {p : Addr} {o : HO} (h : H p = none) : Same H (upd H p o) := .of fun b u e => by rw [upd_ne (ne_of_none e h)]; exact e
theorem newRX {fm : Fm} {kp : RdR} {own : List Addr} {σ : L2.St} {H H1 : Hp} {p : Addr} {o : HO} (at_ : At fm kp L σ H1 own) (s : Same H H1) (h : H1 p = none) (n : nt o = true := by rfl) : RX fm own H (upd H1 p o) md p o :=
  RX.fx md _ _ ⟨cl_of upd_same n, fun hp => (at_.new p hp).1 h, fun hz => at_.zin p hz h, at_.same.free h, s.free h⟩
/-- a tuple of written items (few enough: by rfl) -/
theorem ev_tup {m : M δ} {x1} (hl : ∀ d vs R, A.rep d vs R → vs.length ≤ 1000) (ha : EvA g L es md A m) : EvE g L (.Tuple es x1 pos) md (tTup A) m := by
  refine PE.imp (pe_tup ha) fun σ H Q q => ?_
  obtain ⟨kp, own, at_, q⟩ := tE_iff.mp q
  refine tA_iff.mpr ⟨kp, own, at_, ?_⟩
  cases m with
  | ok d => exact fun vs H1 s1 r1 => ⟨Nat.le_trans (hl _ _ _ r1) (by decide), fun p hp => q _ _ (s1.trans (newSame hp)) ⟨p, vs, rfl, newRX (at_.ext s1) s1 hp, A.mono r1 (RX.same (newSame hp))⟩⟩
  | ex c => exact q
  | no => exact q
theorem tupL_le {ds : List α} {vs : List V} {R : RdR} (h : (aAll S).rep ds vs R) : ds.length = vs.length := Reps.length h
theorem ev_ix {r : R2} {f : α → β → M γ} {fr : Bool} {m1 : M α} {m2 : M β} (ok : Ok p sc NN VV GG k g) (ho : IxR g.X r) (F : Op2 p.K r S T U f fr) (hne : ∀ d e c, f d e ≠ .ex c) (hm : MdOk fr md md')
    (ha : EvE g L a md S m1) (hb : EvE g L b md T m2) (hs : PlainIx b := by exact fun _ _ => rfl) : EvE g L (.Subscript a b pos) md' U (m1.bind fun d => m2.bind fun e => f d e) := by
  refine PE.imp (pe_ix ho ha hb hs) fun σ H Q q => ?_
  obtain ⟨kp, own, at_, q⟩ := tE_iff.mp q
  refine sub finE (Same.refl H) at_ q fun d x H1 s1 r1 at1 q1 => sub finE s1 at1 q1 fun e y H2 s2 r2 at2 q2 => ?_
  rw [← ok.fmK] at F
  exact F.run (R := RX g.fm own H H2 md) RX.rdb (S.mono r1 (RX.same s2)) r2 (q2.fin hm (s1.trans s2) at2 (hne d e))
theorem ev_callB {x : Str} {j : Nat} {id : String} {r : List V → Hp → VK → Prop} {f : δ → M γ} {fr : Bool} {m : M δ} {pp : Pos} (ok : Ok p sc NN VV GG k g) (hc : CallR g.X (.builtin id) r) (F : OpC p.K r A U f fr) (hne : ∀ d c, f d ≠ .ex c) (hm : MdOk fr md md')
    (hG : GG[j]? = some x) (hmg : p.mg x = none) (hv : bootBuiltins x = some (.builtin id)) (ha : EvA g L (e :: es) md A m)
    (he : starEach (e :: es) g.X.env = (false, eval e g.X.env) :: starEach es g.X.env := by rfl) (hpl : (backTo pos (starEach es g.X.env)).any (·.1) = false := by rfl) : EvE g L (.Call (.Name x pp) (e :: es) [] pos) md' U (m.bind f) := by
  obtain ⟨hg, ho⟩ := ok.gl hG
  obtain ⟨h1, _, h3⟩ := okName_d ho
  refine PE.imp (pe_callB hc hg (by rw [ok.mg]; exact hmg) hv ha h3 h1 he hpl) fun σ H Q q => ?_
  obtain ⟨kp, own, at_, q⟩ := tE_iff.mp q
  refine subA finE (Same.refl H) at_ q fun d xs H1 s1 r1 at1 q1 => ?_
  rw [← ok.fmK] at F
  exact F.run (R := RX g.fm own H H1 md) RX.rdb r1 (q1.fin hm s1 at1 (hne d))
theorem ev_callTy {x : Str} {j : Nat} {id : String} {r : List V → Hp → VK → Prop} {f : δ → M γ} {fr : Bool} {m : M δ} {pp : Pos} (ok : Ok p sc NN VV GG k g) (hc : CallR g.X (.type id) r) (F : OpC p.K r A U f fr) (hne : ∀ d c, f d ≠ .ex c) (hm : MdOk fr md md')
    (hG : GG[j]? = some x) (hmg : p.mg x = none) (hv : bootBuiltins x = some (.type id)) (ha : EvA g L (e :: es) md A m)
    (he : starEach (e :: es) g.X.env = (false, eval e g.X.env) :: starEach es g.X.env := by rfl) (hpl : (backTo pos (starEach es g.X.env)).any (·.1) = false := by rfl) : EvE g L (.Call (.Name x pp) (e :: es) [] pos) md' U (m.bind f) := by
  obtain ⟨hg, ho⟩ := ok.gl hG
  obtain ⟨h1, _, h3⟩ := okName_d ho
  refine PE.imp (pe_callTy hc hg (by rw [ok.mg]; exact hmg) hv ha h3 h1 he hpl) fun σ H Q q => ?_
  obtain ⟨kp, own, at_, q⟩ := tE_iff.mp q
  refine subA finE (Same.refl H) at_ q fun d xs H1 s1 r1 at1 q1 => ?_
  rw [← ok.fmK] at F
  exact F.run (R := RX g.fm own H H1 md) RX.rdb r1 (q1.fin hm s1 at1 (hne d))
end
end Hd
namespace Hd
open PySem PySem.Spec L2
section
variable {p : Pr} {sc : Scope} {NN VV GG : List Str} {k : Nat} {g : G} {L L' : List Slot} {a b c e e' : Expr} {es : List Expr} {md md' : Md} {α β γ δ : Type} {S : Ty α} {T : Ty β} {U : Ty γ} {A : Ar δ} {pos : Pos}
theorem RX.add {fm : Fm} {own : List Addr} {H H1 : Hp} {q : Addr} {o' : HO} (hn : H1 q = none) : ∀ a o, RX fm own H H1 md a o → RX fm (q :: own) H (upd H1 q o') md a o := fun a o r => by
  have ne : H1 a ≠ none → a ≠ q := fun h e => h (by rw [e]; exact hn)
  cases md with
  | sh =>
    rcases r with ⟨r, h1, h2⟩ | r
    · have n := ne (Rd.there r)
      refine .inl ⟨?_, fun z => ?_, h2⟩
      · unfold Rd
        rw [cl_upd_ne n]
        exact r
      · rcases List.mem_cons.mp z with z | z
        · exact n z
        · exact h1 z
    · exact .inr r
  | f0 =>
    have n := ne (by rw [cl_raw r.1]; exact fun z => by cases z)
    exact ⟨by rw [cl_upd_ne n]; exact r.1, fun z => (List.mem_cons.mp z).elim n r.2.1, r.2.2⟩
  | fx =>
    have n := ne (by rw [cl_raw r.1]; exact fun z => by cases z)
    exact ⟨by rw [cl_upd_ne n]; exact r.1, fun z => (List.mem_cons.mp z).elim n r.2.1, r.2.2⟩
theorem RX.drop1 {fm : Fm} {own : List Addr} {H H1 : Hp} {q : Addr} : ∀ a o, RX fm (q :: own) H H1 md a o → RX fm own H H1 md a o := RX.own fun p hp => List.mem_cons_of_mem _ hp
theorem newRX' {fm : Fm} {kp : RdR} {own : List Addr} {σ : L2.St} {H H' : Hp} {q : Addr} {o : HO} (at_ : At fm kp L σ H own) (h : H q = none) (h' : H' q = some o) (n : nt o = true := by rfl) : RX fm own H H' md q o :=
  RX.fx md _ _ ⟨cl_of h' n, fun hp => (at_.new q hp).1 h, fun hz => at_.zin q hz h, at_.same.free h, h⟩
/-- as a value -/
theorem ev_ofL {m : M (List α)} (h : EvL g L e md S m) : EvE g L e md (tList S) m :=
  PE.imp h fun σ H Q q => by
    obtain ⟨kp, own, at_, q⟩ := tE_iff.mp q
    refine tL_iff.mpr ⟨kp, own, at_, ?_⟩
    cases m with
    | ok d => exact fun p vs H' s n h' r => q _ H' s ⟨p, vs, rfl, newRX' at_ n h', r.mono RX.drop1⟩
    | ex c => exact q
    | no => exact q
theorem evl_lst {m : M (List α)} (hl : ∀ ds, m = .ok ds → ds.length ≤ 1000) (ha : EvA g L es md (aAll S) m) : EvL g L (.List es pos) md S m := by
  refine PE.imp (pe_lst ha) fun σ H Q q => ?_
  obtain ⟨kp, own, at_, q⟩ := tL_iff.mp q
  refine tA_iff.mpr ⟨kp, own, at_, ?_⟩
  cases m with
  | ok d => exact fun vs H1 s1 r1 => ⟨Nat.le_trans (by rw [← tupL_le r1]; exact hl _ rfl) (by decide), fun p hp => q p vs _ (s1.trans (newSame hp)) (s1.free hp) upd_same (Reps.mono r1 (RX.add hp))⟩
  | ex c => exact q
  | no => exact q
theorem evl_nil : EvL g L (.List [] pos) md S (.ok []) := evl_lst (fun ds h => by cases h; exact Nat.zero_le _) evs_nil
structure OkS (p : Pr) (sc : Scope) (NN VV GG : List Str) (k : Nat) (g : G) : Prop extends Ok p sc NN VV GG k g where
  loc : ∀ {i : Nat} {x : Str}, VV[i]? = some x → L2.Loc g.X.env.scope x
  fnT : ∀ x, g.X.fn x = true
  psO : PassesOwn (model g.X.prog g.X.w) g.X.A g.X.env g.X.xe
  scp : g.X.env.scope = sc
  stk : g.X.stack = g.X.env :: g.X.outer
  frm : g.X.env.frame = some g.X.env.locals
  exn : g.X.ex = []
theorem PSs.ex {X : Cx} {ι : Type} {st : List Stmt} {t : ι → TS} (h : ∀ d, PSs X st (t d)) : PSs X st (fun E σ H => ∃ d, t d E σ H) := ⟨fun pins s σ H D I ⟨d, q⟩ => (h d).run pins s σ H D I q⟩
variable {st : List Stmt} {s0 : Stmt} {D : δ → Out} {d : δ}
theorem evb_nx (h : D d = .nx L') (w : Wk L L') : EvB g L [] D (.ok d) := by
  refine PSs.imp pss_nil fun E σ H ⟨kp, own, at_, q⟩ => ?_
  have q : OutOk g.fm kp E (D d) := q
  rw [h] at q
  obtain ⟨own', a', _⟩ := at_.weak w
  exact q σ H own' a'
theorem evb_go (h : D d = .go L') (w : Wk L L') : EvB g L [] D (.ok d) := by
  refine PSs.imp pss_nil fun E σ H ⟨kp, own, at_, q⟩ => ?_
  have q : OutOk g.fm kp E (D d) := q
  rw [h] at q
  obtain ⟨own', a', _⟩ := at_.weak w
  exact (q σ H own' a').1
theorem PSs.head {X : Cx} {t : TS} (h : PS X s0 t) : PSs X (s0 :: st) (fun E σ H => t { E with nx := fun _ _ => False } σ H) := by
  refine PSs.imp (pss_cons h (pss_never (sts := st))) fun E σ H q => q
theorem BOk.exx {kp : RdR} {E : Ends} {c : Ec} {σ : L2.St} {H : Hp} {own : List Addr} (wk : Wk L g.LX) (at_ : At g.fm kp L σ H own) (q : BOk g kp E D (.ex c)) : ∀ H', Same H H' → g.W c σ H' := fun H' s => by
  obtain ⟨own', a', _⟩ := (at_.ext s).weak wk
  exact q σ H' own' a'
/-- return e -/
inductive RtMd : Md → Bool → Prop where
  | sh {x : Md} : RtMd x false
  | f0 : RtMd .f0 true
  | fx : RtMd .fx true
theorem RtMd.rt {fm : Fm} {own : List Addr} {H H' : Hp} {bm : Bool} (h : RtMd md bm) : ∀ a o, RX fm own H H' md a o → RT fm H' bm none a o := fun a o r => by
  have r' := RX.own (own' := []) (fun _ z => nomatch z) a o r
  cases h with
  | sh =>
    have q := RX.sh a o r'
    exact q
  | f0 => exact r'
  | fx => exact RX.f0 (H := H) a o r'
theorem evb_retF {bm : Bool} {m : M α} {mk : α → δ} (wk : Wk L g.LX) (hm : RtMd md bm) (hD : ∀ d, D (mk d) = .rt bm S d) (he : EvE g L e md S m) : EvB g L (.Return (some e) pos :: st) D (m.bind fun d => .ok (mk d)) := by
  refine PSs.imp (PSs.head (ps_ret he)) fun E σ H ⟨kp, own, at_, q⟩ => ?_
  refine tE_iff.mpr ⟨kp, own, at_, ?_⟩
  cases m with
  | ok d =>
    have q : OutOk g.fm kp E (D (mk d)) := q
    rw [hD] at q
    exact fun v H' s r => q v H' (at_.same.trans s) (S.mono r hm.rt)
  | ex c => exact BOk.exx wk at_ q
  | no => exact q
theorem M.bind_id {α : Type} (m : M α) : m.bind (fun d => .ok d) = m := by cases m <;> rfl
theorem evb_ret {bm : Bool} {m : M α} {D : α → Out} (wk : Wk L g.LX) (hm : RtMd md bm) (hD : ∀ d, D d = .rt bm S d) (he : EvE g L e md S m) : EvB g L (.Return (some e) pos :: st) D m := by
  have h := evb_retF (mk := id) (st := st) (pos := pos) wk hm hD he
  rwa [show (m.bind fun d => .ok (id d)) = m from M.bind_id m] at h
theorem RX.rtL {fm : Fm} {own : List Addr} {H H' : Hp} {bm : Bool} {p : Addr} (h : RtMd md bm) : ∀ a o, RX fm (p :: own) H H' md a o → RT fm H' bm (some p) a o := fun a o r => by
  have r' := RX.own (own' := [p]) (fun x z => by rw [List.mem_singleton.mp z]; exact List.mem_cons_self) a o r
  cases h with
  | sh =>
    have q := RX.sh a o r'
    exact q
  | f0 => exact r'
  | fx => exact RX.f0 (H := H) a o r'
/-- return of a list that a slot owns -/
theorem evb_retOwn {bm b : Bool} {ds : List α} {i j : Nat} {x : Str} {D : δ → Out} {d' : δ} {npos : Pos} (ok : Ok p sc NN VV GG k g) (hN : NN[i]? = some x) (hV : VV[j]? = some x) (hL : L[i]? = some (sOwn b S ds)) (hb : b = bm ∨ Flat S ∨ bm = false) (hD : D d' = .rtL bm S ds) :
    EvB g L (.Return (some (.Name x npos)) pos :: st) D (.ok d') := by
  obtain ⟨hv, ho⟩ := ok.vis hV
  obtain ⟨h1, h2, _⟩ := okName_d ho
  refine PSs.imp (PSs.head (ps_ret (pe_var (i := i) (by rw [ok.N]; exact hN) hv h1 h2))) fun E σ H ⟨kp, own, at_, q⟩ => ?_
  obtain ⟨Fs, hs, rfl⟩ := at_.sl
  obtain ⟨v, F, e1, e2, p, vs, rfl, rfl, hp, r⟩ := hs.get hL
  have q : OutOk g.fm kp E (D d') := q
  rw [hD] at q
  have pin : p ∈ Fs.flatten := List.mem_flatten.mpr ⟨[p], List.mem_of_getElem? e2, by simp⟩
  obtain ⟨n1, n2, n3⟩ := at_.new p pin
  have rr : Reps S (RX g.fm [p] H H (if b then .f0 else .sh)) ds vs := r.mono (RX.own (own' := [p]) (fun x z => by rw [List.mem_singleton.mp z]; exact pin))
  refine ⟨_, e1, q p vs H at_.same n3 n2 hp ?_⟩
  unfold RT
  rcases hb with rfl | hf | rfl
  · exact rr
  · exact rr.flat hf
  · exact rr.mono RX.sh
inductive SlB : Md → Bool → Prop where
  | sh {x : Md} : SlB x false
  | f0 : SlB .f0 true
  | fx : SlB .fx true
theorem SlB.rb {fm : Fm} {own : List Addr} {H H' : Hp} {b : Bool} (h : SlB md b) : ∀ a o, RX fm own H H' md a o → RB fm own H' b a o := fun a o r => by
  cases h with
  | sh =>
    have q := RX.sh a o r
    exact q
  | f0 => exact r
  | fx => exact RX.f0 (H := H) a o r
variable {i j : Nat} {x : Str} {pos' : Pos}
theorem okS_fn (ok : OkS p sc NN VV GG k g) : g.X.fn x = true ∨ g.X.env.scope.names.lookup x = some .local := .inl (ok.fnT x)
theorem evb_set {b : Bool} {m : M α} {f : α → M δ} (ok : OkS p sc NN VV GG k g) (hN : NN[i]? = some x) (hV : VV[j]? = some x) (wk : Wk L g.LX) (hb : SlB md b) (he : EvE g L e md S m) (hr : ∀ d, EvB g (L.set i (sV b S d)) st D (f d))
    (hs : swapsWith e (some (.Name x pos')) pos.line g.X.env = pure false := by rfl) : EvB g L (.Assign [.Name x pos'] e pos :: st) D (m.bind f) := by
  refine PSs.imp (pss_cons (ps_set (i := i) (by rw [ok.N]; exact ok.nd) (by rw [ok.N]; exact hN) (ok.loc hV) he hs (okS_fn ok)) (PSs.ex hr)) fun E σ H ⟨kp, own, at_, q⟩ => ?_
  refine tE_iff.mpr ⟨kp, own, at_, ?_⟩
  cases m with
  | ok d =>
    intro v H' s r
    obtain ⟨own', a'⟩ := (at_.ext s).setV (i := i) (b := b) (S.mono r hb.rb)
    exact ⟨d, kp, own', a', q⟩
  | ex c => exact BOk.exx wk at_ q
  | no => exact q
theorem set_own {Fs : List (List Addr)} {q : Addr} : ∀ {i : Nat}, ∀ x ∈ (Fs.set i [q]).flatten, x = q ∨ x ∈ Fs.flatten := by
  induction Fs with
  | nil => intro i x h; exact .inr h
  | cons F Fs ih =>
    intro i x h
    cases i with
    | zero =>
      simp only [List.set_cons_zero, List.flatten_cons, List.mem_append, List.mem_singleton] at h
      rcases h with h | h
      · exact .inl h
      · exact .inr (by simp only [List.flatten_cons, List.mem_append]; exact .inr h)
    | succ i =>
      simp only [List.set_cons_succ, List.flatten_cons, List.mem_append] at h
      rcases h with h | h
      · exact .inr (by simp only [List.flatten_cons, List.mem_append]; exact .inl h)
      · rcases ih x h with h | h
        · exact .inl h
        · exact .inr (by simp only [List.flatten_cons, List.mem_append]; exact .inr h)
theorem set_own_nd {Fs : List (List Addr)} {q : Addr} (hq : q ∉ Fs.flatten) (hn : Fs.flatten.Nodup) : ∀ {i : Nat}, (Fs.set i [q]).flatten.Nodup := by
  induction Fs with
  | nil => intro i; exact hn
  | cons F Fs ih =>
    intro i
    simp only [List.flatten_cons, List.mem_append, not_or] at hq
    rw [List.flatten_cons, List.nodup_append] at hn
    cases i with
    | zero =>
      simp only [List.set_cons_zero, List.flatten_cons]
      rw [List.nodup_append]
      refine ⟨by simp, hn.2.1, fun a ha b hb => ?_⟩
      rw [List.mem_singleton.mp ha]
      rintro rfl
      exact hq.2 hb
    | succ i =>
      simp only [List.set_cons_succ, List.flatten_cons]
      rw [List.nodup_append]
      refine ⟨hn.1, ih hq.2 hn.2.1, fun a ha b hb => ?_⟩
      rcases set_own b hb with rfl | hb
      · rintro rfl; exact hq.1 ha
      · exact hn.2.2 a ha b hb
/-- a new list becomes a slot's own -/
theorem At.setOwn {fm : Fm} {kp : RdR} {σ : L2.St} {H H' : Hp} {own : List Addr} {b : Bool} {ds : List α} {vs : List V} {q : Addr} (h : At fm kp L σ H own) (s : Same H H') (hn : H q = none) (h' : H' q = some (.lst vs))
    (r : Reps S (RB fm (q :: own) H' b) ds vs) : ∃ own', At fm kp (L.set i (sOwn b S ds)) (σ.set i (some (.ref q))) H' own' := by
  obtain ⟨h1, h2, ⟨Fs, h3, rfl⟩, h4, h5, h6⟩ := h
  have hq : q ∉ Fs.flatten := fun z => (h5 q z).1 hn
  have sub : ∀ x ∈ (Fs.set i [q]).flatten, x ∈ q :: Fs.flatten := fun x hx => (set_own x hx).elim (fun e => by rw [e]; exact List.mem_cons_self) (List.mem_cons_of_mem _)
  have key : ∀ (md : Md) a o, RX fm Fs.flatten H H md a o → RX fm (Fs.set i [q]).flatten H H' md a o := fun md a o z => by
    refine RX.own sub a o ?_
    have z1 := RX.add (o' := .lst []) hn a o z
    have na : a ≠ q ∨ KObj fm.K a o := by
      rcases RX.sh a o z with z | z
      · exact .inl fun e => Rd.some z.1 (by rw [e]; exact cl_none hn)
      · exact .inr z
    cases md with
    | sh =>
      rcases z1 with z1 | z1
      · rcases z with z | z
        · exact .inl ⟨Rd.same s z.1, z1.2⟩
        · exact .inr z
      · exact .inr z1
    | f0 => exact ⟨s.cl _ _ z.1, z1.2⟩
    | fx => exact ⟨s.cl _ _ z.1, z1.2⟩
  have keyB : ∀ (b : Bool) a o, RB fm Fs.flatten H b a o → RB fm (Fs.set i [q]).flatten H' b a o := fun b a o z => by
    cases b with
    | false => exact key .sh a o z
    | true => exact key .f0 a o z
  refine ⟨_, h1.trans s, fun a z n => h2 a z (s.free n), ⟨Fs.set i [q], (h3.st (H' := H') keyB fun p hp => ?_).set (s := sOwn b S ds) ⟨q, vs, rfl, rfl, h', r.mono fun a o z => ?_⟩ i, rfl⟩, set_own_nd hq h4, fun p hp => ?_, fun a o z => key .sh a o (h6 a o z)⟩
  · cases e : cl H p with
    | none => exact absurd e (h3.tb p hp)
    | some u => rw [cl_raw e]; exact s.keep _ _ (cl_raw e) (cl_nt e)
  · cases b <;> exact RX.own sub a o z
  · rcases set_own p hp with rfl | hp
    · exact ⟨by rw [h']; exact (fun z => by cases z), h1.free hn, fun z => h2 _ z hn⟩
    · exact ⟨fun e => (h5 p hp).1 (s.free e), (h5 p hp).2⟩
theorem evb_own {b : Bool} {m : M (List α)} {f : List α → M δ} (ok : OkS p sc NN VV GG k g) (hN : NN[i]? = some x) (hV : VV[j]? = some x) (wk : Wk L g.LX) (hb : SlB md b) (he : EvL g L e md S m) (hr : ∀ d, EvB g (L.set i (sOwn b S d)) st D (f d))
    (hs : swapsWith e (some (.Name x pos')) pos.line g.X.env = pure false := by rfl) : EvB g L (.Assign [.Name x pos'] e pos :: st) D (m.bind f) := by
  refine PSs.imp (pss_cons (ps_set (i := i) (by rw [ok.N]; exact ok.nd) (by rw [ok.N]; exact hN) (ok.loc hV) he hs (okS_fn ok)) (PSs.ex hr)) fun E σ H ⟨kp, own, at_, q⟩ => ?_
  cases m with
  | ok d =>
    refine ⟨kp, own, at_, fun v vs H' s n h' r => ?_⟩
    obtain ⟨own', a'⟩ := at_.setOwn (i := i) (b := b) s n h' (r.mono hb.rb)
    exact ⟨d, kp, own', a', q⟩
  | ex c => exact ⟨kp, own, at_, BOk.exx wk at_ q⟩
  | no => exact q.elim
/-- an expression whose worth is dropped -/
theorem evb_expr {m : M α} {f : α → M δ} (wk : Wk L g.LX) (he : EvE g L e md S m) (hr : ∀ d, EvB g L st D (f d)) (hs : swapsWith e none pos.line g.X.env = pure false := by rfl) : EvB g L (.Expr e pos :: st) D (m.bind f) := by
  refine PSs.imp (pss_cons (ps_expr he hs) (PSs.ex hr)) fun E σ H ⟨kp, own, at_, q⟩ => ?_
  cases m with
  | ok d => exact ⟨kp, own, at_, fun v H' s r => ⟨d, kp, own, at_.ext s, q⟩⟩
  | ex c => exact ⟨kp, own, at_, BOk.exx wk at_ q⟩
  | no => exact q.elim
/-- a slot's own list may be shared from here on -/
theorem At.freeze {fm : Fm} {kp : RdR} {σ : L2.St} {H : Hp} {own : List Addr} {b : Bool} {ds : List α} (h : At fm kp L σ H own) (hL : L[i]? = some (sOwn b S ds)) : ∃ own', At fm kp (L.set i (sV false (tList S) ds)) σ H own' ∧ ∀ p ∈ own', p ∈ own := by
  obtain ⟨h1, h2, ⟨Fs, h3, rfl⟩, h4, h5, h6⟩ := h
  obtain ⟨v, F, e1, e2, q, vs, rfl, rfl, hp, r⟩ := h3.get hL
  have qin : q ∈ Fs.flatten := List.mem_flatten.mpr ⟨[q], List.mem_of_getElem? e2, by simp⟩
  have kk : ∀ p ∈ (Fs.set i []).flatten, p ∈ Fs.flatten := fun p hp => (set_sub (i := i)).subset hp
  have qn : q ∉ (Fs.set i []).flatten := by
    have nd := h4
    clear h3 h5 h6 qin kk r hp
    induction Fs generalizing i L σ with
    | nil => simp at e2
    | cons F Fs ih =>
      rw [List.flatten_cons, List.nodup_append] at nd
      cases i with
      | zero =>
        simp at e2
        subst e2
        simp only [List.set_cons_zero, List.flatten_cons, List.nil_append]
        exact fun z => nd.2.2 q (by simp) q z rfl
      | succ i =>
        simp only [List.set_cons_succ, List.flatten_cons, List.mem_append, not_or]
        have e2' : Fs[i]? = some [q] := by simpa using e2
        refine ⟨fun z => nd.2.2 q z q (List.mem_flatten.mpr ⟨[q], List.mem_of_getElem? e2', by simp⟩) rfl, ?_⟩
        cases σ with
        | nil => simp at e1
        | cons s σ =>
          cases L with
          | nil => simp at hL
          | cons l L => exact ih (i := i) (L := L) (σ := σ) (hL := by simpa using hL) (e1 := by simpa using e1) (e2 := e2') (h4 := nd.2.1) (nd := nd.2.1)
  have σe : σ.set i (some (V.ref q)) = σ := by
    apply List.ext_getElem?
    intro n
    by_cases hn : n = i
    · subst hn
      rw [e1]
      have := (List.getElem?_eq_some_iff.mp e1).1
      rw [List.getElem?_set_self this]
    · rw [List.getElem?_set_ne (Ne.symm hn)]
  refine ⟨_, ⟨h1, h2, ⟨Fs.set i [], ?_, rfl⟩, h4.sublist set_sub, fun p hp => h5 p (kk p hp), fun a o z => RX.own (md := .sh) (H := H) kk a o (h6 a o z)⟩, kk⟩
  rw [← σe]
  refine (h3.st (RB.own kk) fun _ _ => rfl).set (s := sV false (tList S) ds) ⟨rfl, .ref q, rfl, q, vs, rfl, ?_, ?_⟩ i
  · exact .inl ⟨.inl (cl_of hp), qn, (h5 q qin).2.2⟩
  · exact r.mono fun a o z => RX.sh (H := H) a o (RB.own kk b a o z)
theorem evb_freeze {b : Bool} {ds : List α} {m : M δ} (hL : L[i]? = some (sOwn b S ds)) (hr : EvB g (L.set i (sV false (tList S) ds)) st D m) : EvB g L st D m := PSs.imp hr fun E σ H ⟨kp, own, at_, q⟩ => by
  obtain ⟨own', a', _⟩ := at_.freeze hL
  exact ⟨kp, own', a', q⟩
theorem evt_borrow {b : Bool} {ds : List α} {m : M Bool} (hL : L[i]? = some (sOwn b S ds)) (h : EvT g (L.set i (sV false (tList S) ds)) e m) : EvT g L e m := PT.imp h fun σ H Q q => by
  obtain ⟨kp, own, at_, q⟩ := tT_iff.mp q
  obtain ⟨own', a', sub⟩ := at_.freeze hL
  refine tT_iff.mpr ⟨kp, own', a', ?_⟩
  cases m <;> exact q
/-- both ways go on to one state -/
theorem evb_if {mc : M Bool} {m1 m2 : M β} {f : β → M δ} {LJ : β → List Slot} {sa sb : List Stmt} (wk : Wk L g.LX) (hc : EvT g L c mc) (ha : EvB g L sa (fun s => .nx (LJ s)) m1) (hb : EvB g L sb (fun s => .nx (LJ s)) m2) (hr : ∀ s, EvB g (LJ s) st D (f s)) :
    EvB g L (.If c sa sb pos :: st) D (mc.bind fun c => (if c = true then m1 else m2).bind f) := by
  refine PSs.imp (pss_cons (ps_if hc ha hb) (PSs.ex hr)) fun E σ H ⟨kp, own, at_, q⟩ => ?_
  have key : ∀ {m : M β} {H1 : Hp}, Same H H1 → BOk g kp E D (m.bind f) → tB g L (fun s => .nx (LJ s)) m { E with nx := fun σ H => ∃ d, tB g (LJ d) D (f d) E σ H } σ H1 := fun {m H1} s q => by
    cases m with
    | ok d => exact ⟨kp, own, at_.ext s, fun σ' H' own' a' => ⟨d, kp, own', a', q⟩⟩
    | ex c => exact ⟨kp, own, at_.ext s, q⟩
    | no => exact q.elim
  cases mc with
  | ok c =>
    refine ⟨kp, own, at_, fun H1 s => ?_⟩
    cases c with
    | true => exact key s q
    | false => exact key s q
  | ex c => exact ⟨kp, own, at_, BOk.exx wk at_ q⟩
  | no => exact q.elim
def Out.isNx : Out → Bool
  | .nx _ => true
  | _ => false
theorem OutOk.cut {fm : Fm} {kp : RdR} {E E' : Ends} (hc : E'.ct = E.ct) (hr : E'.rt = E.rt) : ∀ {o : Out}, o.isNx = false → OutOk fm kp E o → OutOk fm kp E' o.cut := fun {o} hn q => by
  cases o with
  | nx L => cases hn
  | ct L => exact fun σ H own a => by rw [hc]; exact q σ H own a
  | go L => exact fun σ H own a => by rw [hc]; exact (q σ H own a).2
  | rt b T r => exact fun v H' s r => by rw [hr]; exact q v H' s r
  | rtL b T r => exact fun p vs H' s n1 n2 h r => by rw [hr]; exact q p vs H' s n1 n2 h r
  | gen f => show f fm E'.rt; rw [hr]; exact q
  | bad => exact q
/-- one way leaves (return, raise, continue), the other goes on -/
theorem evb_ifx {mc : M Bool} {m1 m2 : M δ} {sa : List Stmt} (wk : Wk L g.LX) (hc : EvT g L c mc) (ha : EvB g L sa (fun d => (D d).cut) m1) (hr : EvB g L st D m2) (hn : ∀ d, (D d).isNx = false := by intro d; first | rfl | (cases d <;> first | rfl | (rename_i z; cases z <;> rfl))) :
    EvB g L (.If c sa [] pos :: st) D (mc.bind fun c => if c = true then m1 else m2) := by
  refine PSs.imp (pss_cons (ps_if hc ha pss_nil) hr) fun E σ H ⟨kp, own, at_, q⟩ => ?_
  cases mc with
  | ok c =>
    refine ⟨kp, own, at_, fun H1 s => ?_⟩
    cases c with
    | true =>
      have q : BOk g kp E D m1 := q
      refine ⟨kp, own, at_.ext s, ?_⟩
      cases m1 with
      | ok d => exact OutOk.cut (E := E) (E' := { E with nx := tB g L D m2 E }) rfl rfl (hn d) q
      | ex c => exact q
      | no => exact q
    | false => exact ⟨kp, own, at_.ext s, q⟩
  | ex c => exact ⟨kp, own, at_, BOk.exx wk at_ q⟩
  | no => exact q.elim
/-- the last statement of a block: both ways end as the block does -/
theorem evb_ifl {mc : M Bool} {m1 m2 : M δ} {sa sb : List Stmt} (wk : Wk L g.LX) (hc : EvT g L c mc) (ha : EvB g L sa D m1) (hb : EvB g L sb D m2) : EvB g L [.If c sa sb pos] D (mc.bind fun c => if c = true then m1 else m2) := by
  refine PSs.imp (pss_one (ps_if hc ha hb)) fun E σ H ⟨kp, own, at_, q⟩ => ?_
  cases mc with
  | ok c =>
    refine ⟨kp, own, at_, fun H1 s => ?_⟩
    cases c with
    | true => exact ⟨kp, own, at_.ext s, q⟩
    | false => exact ⟨kp, own, at_.ext s, q⟩
  | ex c => exact ⟨kp, own, at_, BOk.exx wk at_ q⟩
  | no => exact q.elim
def forM {α β : Type} (f : β → α → M β) : β → List α → M β
  | s, [] => .ok s
  | s, x :: r => (f s x).bind fun s' => forM f s' r
/-- a turn's end: on, or out of the def -/
inductive Fl (β ρ : Type) where
  | nx (s : β)
  | rt (r : ρ)
universe u in
def Fl.el {β ρ : Type} {γ : Type u} (f : β → γ) (h : ρ → γ) : Fl β ρ → γ
  | .nx s => f s
  | .rt r => h r
def forF {α β ρ : Type} (f : β → α → M (Fl β ρ)) : β → List α → M (Fl β ρ)
  | s, [] => .ok (.nx s)
  | s, x :: r => (f s x).bind (Fl.el (fun s' => forF f s' r) fun r => .ok (.rt r))
def ItOk (K : PySem.W.Frag) (kp : RdR) (J : It) (T : Ty α) (xs : List α) : Prop :=
  ∀ H, Rdb K kp H → ∀ i, (∀ d, xs[i]? = some d → J.go i H ∧ ∀ x H', J.yld i H x H' → Same H H' ∧ T.rep d x (Nw false kp H H')) ∧ (xs[i]? = none → J.stop i H)
/-- what a for walks -/
def tI (fm : Fm) (W : Wx) (L : List Slot) (T : Ty α) (m : M (List α)) : TI := fun σ H R => ∃ kp own, At fm kp L σ H own ∧
  match m with
  | .ok xs => ∀ J H', Same H H' → ItOk fm.K (RD fm own H') J T xs → R J H'
  | .ex c => ∀ H', Same H H' → W c σ H'
  | .no => False
def EvI (g : G) (L : List Slot) (tg e : Expr) (T : Ty α) (m : M (List α)) : Prop := PI g.X tg e (tI g.fm g.W L T m)
theorem PI.imp {X : Cx} {tg e : Expr} {t t' : TI} (h : PI X tg e t) (k : ∀ σ H Q, t' σ H Q → t σ H Q) : PI X tg e t' := ⟨fun pins s σ H Q I q => h.run pins s σ H Q I (k _ _ _ q)⟩
/-- a target that is one name: its slot afterwards -/
def tG (fm : Fm) (T : Ty α) (L : List Slot) (Lt : α → List Slot) : TG := fun v σ H Q => ∃ kp own d, At fm kp L σ H own ∧ T.rep d v (RD fm own H) ∧ ∀ σ' own', At fm kp (Lt d) σ' H own' → (∀ p ∈ own', p ∈ own) → Q σ' H
def EvG (g : G) (tg : Expr) (T : Ty α) (L : List Slot) (Lt : α → List Slot) : Prop := PG g.X tg (tG g.fm T L Lt)
theorem PG.imp {X : Cx} {e : Expr} {t t' : TG} (h : PG X e t) (k : ∀ v σ H Q, t' v σ H Q → t v σ H Q) : PG X e t' := ⟨fun pins s σ H v u Q I r q => h.run pins s σ H v u Q I r (k _ _ _ _ q)⟩
theorem PG.ex {X : Cx} {ι : Type} {e : Expr} {t : ι → TG} (h : ∀ d, PG X e (t d)) : PG X e (fun v σ H Q => ∃ d, t d v σ H Q) := ⟨fun pins s σ H v u Q I r ⟨d, q⟩ => (h d).run pins s σ H v u Q I r q⟩
theorem evg_name (ok : OkS p sc NN VV GG k g) (hN : NN[i]? = some x) (hV : VV[j]? = some x) : EvG g (.Name x pos) T L (fun d => L.set i (sV false T d)) := by
  refine PG.imp (pg_name (i := i) (by rw [ok.N]; exact ok.nd) (by rw [ok.N]; exact hN) (ok.loc hV) (okS_fn ok)) fun v σ H Q ⟨kp, own, d, at_, r, q⟩ => ?_
  obtain ⟨h1, h2, ⟨Fs, h3, rfl⟩, h4, h5, h6⟩ := at_
  have kk : ∀ p ∈ (Fs.set i []).flatten, p ∈ Fs.flatten := fun p hp => (set_sub (i := i)).subset hp
  exact q _ _ ⟨h1, h2, ⟨Fs.set i [], (h3.st (RB.own kk) fun _ _ => rfl).set (s := sV false T d) ⟨rfl, v, rfl, T.mono r (RX.own (md := .sh) (H := H) kk)⟩ i, rfl⟩, h4.sublist set_sub, fun p hp => h5 p (kk p hp), fun a o q => RX.own (md := .sh) (H := H) kk a o (h6 a o q)⟩ kk
theorem Nw.rd {fm : Fm} {kp kp' : RdR} {own : List Addr} {σ : L2.St} {H H' : Hp} (at_ : At fm kp L σ H own) (k : ∀ a o, kp' a o → RD fm own H a o) (s : Same H H') : ∀ a o, Nw false kp' H H' a o → RD fm own H' a o := fun a o r => by
  rcases r with ⟨_, r⟩ | ⟨r, n⟩
  · exact RD.same s a o (k a o r)
  · exact .inl ⟨.inl r, fun hp => (at_.new a hp).1 n, fun hz => at_.zin a hz n⟩
theorem RD.rdb {fm : Fm} {own : List Addr} {H : Hp} : Rdb fm.K (RD fm own H) H := ⟨fun a o r n => r.imp (fun h => Rd.raw h.1 n) id⟩
theorem evb_for {m : M (List α)} {f : β → α → M β} {h : β → M δ} {LF : β → List Slot} {Lt : β → α → List Slot} {s0 : β} {tg it : Expr} {body : List Stmt} (ok : OkS p sc NN VV GG k g) (wk : Wk L g.LX) (hI : EvI g L tg it S m) (w0 : Wk L (LF s0))
    (hG : ∀ s, EvG g tg S (LF s) (Lt s)) (hb : ∀ s d, EvB g (Lt s d) body (fun s' => .go (LF s')) (f s d)) (hr : ∀ s, EvB g (LF s) st D (h s)) (hs : ∀ x, foldedSetIterable it g.X.env x = pure x := by intro _; rfl) :
    EvB g L (.For tg it body [] pos :: st) D (m.bind fun xs => (forM f s0 xs).bind h) := by
  refine PSs.imp (pss_cons (ps_for ok.psO ok.calm hI (PG.ex hG) (PSs.ex fun s => PSs.ex (hb s)) hs) (PSs.ex hr)) fun E σ H ⟨kp, own, at_, q⟩ => ?_
  cases m with
  | ex c => exact ⟨kp, own, at_, BOk.exx wk at_ q⟩
  | no => exact q.elim
  | ok xs =>
  refine ⟨kp, own, at_, fun J H1 s1 hJ => ?_⟩
  have at1 := at_.ext s1
  obtain ⟨own0, a0, sub0⟩ := at1.weak w0
  have q : BOk g kp E D ((forM f s0 xs).bind h) := q
  have kk : ∀ a o, kp a o → RD g.fm own H1 a o := at1.kept
  have a0' : At g.fm (RD g.fm own H1) (LF s0) σ H1 own0 := ⟨a0.same, a0.zin, a0.sl, a0.nd, a0.new, fun a o z => RX.own (md := .sh) (H := H1) sub0 a o z⟩
  refine ⟨fun i m σ H => m = xs.length - i ∧ i ≤ xs.length ∧ ∃ s own', At g.fm (RD g.fm own H1) (LF s) σ H own' ∧ BOk g kp E D ((forM f s (xs.drop i)).bind h), ⟨_, rfl, Nat.zero_le _, s0, own0, a0', q⟩, ?_⟩
  rintro i m σ H ⟨rfl, hi, s, own', a', q'⟩
  have rb : Rdb g.fm.K (RD g.fm own H1) H := ⟨fun a o z n => (a'.kept a o z).imp (fun h => Rd.raw h.1 n) id⟩
  obtain ⟨hgo, hst⟩ := hJ H rb i
  by_cases hlt : i < xs.length
  · have he : xs[i]? = some xs[i] := by simp [hlt]
    obtain ⟨go, yl⟩ := hgo _ he
    rw [List.drop_eq_getElem_cons hlt] at q'
    refine .inr ⟨go, fun σ' H' => ∃ s own', At g.fm (RD g.fm own H1) (LF s) σ' H' own' ∧ BOk g kp E D ((forM f s (xs.drop (i + 1))).bind h), fun σ' H' ⟨s', own'', a'', q''⟩ => ⟨xs.length - (i + 1), by omega, rfl, hlt, s', own'', a'', q''⟩, fun x H' y => ?_⟩
    obtain ⟨s2, r2⟩ := yl x H' y
    refine ⟨s, _, own', xs[i], a'.ext s2, S.mono r2 (Nw.rd a' a'.kept s2), fun σ' own'' a'' _ => ⟨s, xs[i], _, own'', a'', ?_⟩⟩
    have q2 : BOk g kp E D (((f s xs[i]).bind fun s' => forM f s' (xs.drop (i + 1))).bind h) := q'
    cases hf : f s xs[i] with
    | ok s' =>
      rw [hf] at q2
      exact fun σ3 H3 own3 a3 => ⟨⟨s', own3, a3, q2⟩, ⟨s', own3, a3, q2⟩⟩
    | ex c =>
      rw [hf] at q2
      exact fun σ3 H3 own3 a3 => q2 σ3 H3 own3 (a3.keep kk)
    | no => rw [hf] at q2; exact q2
  · have e : i = xs.length := by omega
    subst e
    rw [List.drop_length] at q'
    exact .inl ⟨hst (by simp), s, kp, own', a'.keep kk, q'⟩
def Out.isRt : Out → Bool
  | .rt _ _ _ => true
  | .rtL _ _ _ => true
  | .gen _ => true
  | _ => false
theorem OutOk.rt {fm : Fm} {kp kp' : RdR} {E E' : Ends} (hr : E'.rt = E.rt) : ∀ {o : Out}, o.isRt = true → OutOk fm kp E o → OutOk fm kp' E' o := fun {o} hn q => by
  cases o with
  | nx L => cases hn
  | ct L => cases hn
  | go L => cases hn
  | rt b T r => exact fun v H' s r => by rw [hr]; exact q v H' s r
  | rtL b T r => exact fun p vs H' s n1 n2 h r => by rw [hr]; exact q p vs H' s n1 n2 h r
  | gen f => show f fm E'.rt; rw [hr]; exact q
  | bad => cases hn
/-- .. that may leave the def -/
theorem evb_forF {ρ : Type} {m : M (List α)} {f : β → α → M (Fl β ρ)} {h : β → M δ} {dr : ρ → δ} {LF : β → List Slot} {Lt : β → α → List Slot} {s0 : β} {tg it : Expr} {body : List Stmt} (ok : OkS p sc NN VV GG k g) (wk : Wk L g.LX) (hI : EvI g L tg it S m) (w0 : Wk L (LF s0))
    (hG : ∀ s, EvG g tg S (LF s) (Lt s)) (hb : ∀ s d, EvB g (Lt s d) body (Fl.el (fun s' => Out.go (LF s')) fun r => D (dr r)) (f s d)) (hr : ∀ s, EvB g (LF s) st D (h s)) (hD : ∀ r, (D (dr r)).isRt = true := by intro d; first | rfl | (cases d <;> rfl)) (hs : ∀ x, foldedSetIterable it g.X.env x = pure x := by intro _; rfl) :
    EvB g L (.For tg it body [] pos :: st) D (m.bind fun xs => (forF f s0 xs).bind (Fl.el h fun r => .ok (dr r))) := by
  refine PSs.imp (pss_cons (ps_for ok.psO ok.calm hI (PG.ex hG) (PSs.ex fun s => PSs.ex (hb s)) hs) (PSs.ex hr)) fun E σ H ⟨kp, own, at_, q⟩ => ?_
  cases m with
  | ex c => exact ⟨kp, own, at_, BOk.exx wk at_ q⟩
  | no => exact q.elim
  | ok xs =>
  refine ⟨kp, own, at_, fun J H1 s1 hJ => ?_⟩
  have at1 := at_.ext s1
  obtain ⟨own0, a0, sub0⟩ := at1.weak w0
  have q : BOk g kp E D ((forF f s0 xs).bind (Fl.el h fun r => .ok (dr r))) := q
  have kk : ∀ a o, kp a o → RD g.fm own H1 a o := at1.kept
  have a0' : At g.fm (RD g.fm own H1) (LF s0) σ H1 own0 := ⟨a0.same, a0.zin, a0.sl, a0.nd, a0.new, fun a o z => RX.own (md := .sh) (H := H1) sub0 a o z⟩
  refine ⟨fun i m σ H => m = xs.length - i ∧ i ≤ xs.length ∧ ∃ s own', At g.fm (RD g.fm own H1) (LF s) σ H own' ∧ BOk g kp E D ((forF f s (xs.drop i)).bind (Fl.el h fun r => .ok (dr r))), ⟨_, rfl, Nat.zero_le _, s0, own0, a0', q⟩, ?_⟩
  rintro i m σ H ⟨rfl, hi, s, own', a', q'⟩
  have rb : Rdb g.fm.K (RD g.fm own H1) H := ⟨fun a o z n => (a'.kept a o z).imp (fun h => Rd.raw h.1 n) id⟩
  obtain ⟨hgo, hst⟩ := hJ H rb i
  by_cases hlt : i < xs.length
  · have he : xs[i]? = some xs[i] := by simp [hlt]
    obtain ⟨go, yl⟩ := hgo _ he
    rw [List.drop_eq_getElem_cons hlt] at q'
    refine .inr ⟨go, fun σ' H' => ∃ s own', At g.fm (RD g.fm own H1) (LF s) σ' H' own' ∧ BOk g kp E D ((forF f s (xs.drop (i + 1))).bind (Fl.el h fun r => .ok (dr r))), fun σ' H' ⟨s', own'', a'', q''⟩ => ⟨xs.length - (i + 1), by omega, rfl, hlt, s', own'', a'', q''⟩, fun x H' y => ?_⟩
    obtain ⟨s2, r2⟩ := yl x H' y
    refine ⟨s, _, own', xs[i], a'.ext s2, S.mono r2 (Nw.rd a' a'.kept s2), fun σ' own'' a'' _ => ⟨s, xs[i], _, own'', a'', ?_⟩⟩
    have q2 : BOk g kp E D (((f s xs[i]).bind (Fl.el (fun s' => forF f s' (xs.drop (i + 1))) fun r => .ok (.rt r))).bind (Fl.el h fun r => .ok (dr r))) := q'
    cases hf : f s xs[i] with
    | ok s' =>
      rw [hf] at q2
      cases s' with
      | nx s' => exact fun σ3 H3 own3 a3 => ⟨⟨s', own3, a3, q2⟩, ⟨s', own3, a3, q2⟩⟩
      | rt r =>
        have q2 : OutOk g.fm kp E (D (dr r)) := q2
        show OutOk g.fm _ _ (D (dr r))
        refine OutOk.rt (E := E) ?_ (hD r) q2
        rfl
    | ex c =>
      rw [hf] at q2
      exact fun σ3 H3 own3 a3 => q2 σ3 H3 own3 (a3.keep kk)
    | no => rw [hf] at q2; exact q2
  · have e : i = xs.length := by omega
    subst e
    rw [List.drop_length] at q'
    exact .inl ⟨hst (by simp), s, kp, own', a'.keep kk, q'⟩
/-- while: fuel says how many turns at most -/
def whileM {β : Type} (t : β → M Bool) (f : β → M β) : Nat → β → M β
  | 0, _ => .no
  | n + 1, s => (t s).bind fun c => if c = true then (f s).bind (whileM t f n) else .ok s
def whileF {β ρ : Type} (t : β → M Bool) (f : β → M (Fl β ρ)) : Nat → β → M (Fl β ρ)
  | 0, _ => .no
  | n + 1, s => (t s).bind fun c => if c = true then (f s).bind (Fl.el (whileF t f n) fun r => .ok (.rt r)) else .ok (.nx s)
theorem PT.ex {X : Cx} {ι : Type} {e : Expr} {t : ι → TT} (h : ∀ d, PT X e (t d)) : PT X e (fun σ H Q => ∃ d, t d σ H Q) := ⟨fun pins s σ H Q I ⟨d, q⟩ => (h d).run pins s σ H Q I q⟩
theorem evb_while {n : Nat} {t : β → M Bool} {f : β → M β} {h : β → M δ} {LF : β → List Slot} {s0 : β} {body : List Stmt} (ok : OkS p sc NN VV GG k g) (wk : ∀ s, Wk (LF s) g.LX) (w0 : Wk L (LF s0))
    (hc : ∀ s, EvT g (LF s) c (t s)) (hb : ∀ s, EvB g (LF s) body (fun s' => .go (LF s')) (f s)) (hr : ∀ s, EvB g (LF s) st D (h s)) :
    EvB g L (.While c body [] pos :: st) D ((whileM t f n s0).bind h) := by
  refine PSs.imp (pss_cons (ps_while ok.psO (PT.ex hc) (PSs.ex hb)) (PSs.ex hr)) fun E σ H ⟨kp, own, at_, q⟩ => ?_
  obtain ⟨own0, a0, _⟩ := at_.weak w0
  refine ⟨fun m σ H => ∃ s own', At g.fm kp (LF s) σ H own' ∧ BOk g kp E D ((whileM t f m s).bind h), ⟨n, s0, own0, a0, q⟩, ?_⟩
  rintro m σ H ⟨s, own', a', q'⟩
  cases m with
  | zero => exact q'.elim
  | succ m =>
  refine ⟨s, tT_iff.mpr ⟨kp, own', a', ?_⟩⟩
  have q2 : BOk g kp E D (((t s).bind fun c => if c = true then (f s).bind (whileM t f m) else .ok s).bind h) := q'
  cases ht : t s with
  | ok c =>
    rw [ht] at q2
    intro H1 s1
    cases c with
    | true =>
      rw [if_pos rfl]
      refine ⟨fun σ' H' => ∃ s own', At g.fm kp (LF s) σ' H' own' ∧ BOk g kp E D ((whileM t f m s).bind h), fun σ' H' z => ⟨m, Nat.lt_succ_self m, z⟩, s, kp, own', a'.ext s1, ?_⟩
      have q3 : BOk g kp E D (((f s).bind (whileM t f m)).bind h) := q2
      cases hf : f s with
      | ok s' => rw [hf] at q3; exact fun σ3 H3 own3 a3 => ⟨⟨s', own3, a3, q3⟩, ⟨s', own3, a3, q3⟩⟩
      | ex c => rw [hf] at q3; exact q3
      | no => rw [hf] at q3; exact q3
    | false => exact ⟨s, kp, own', a'.ext s1, q2⟩
  | ex c => rw [ht] at q2; exact BOk.exx (wk s) a' q2
  | no => rw [ht] at q2; exact q2
theorem evb_whileF {ρ : Type} {n : Nat} {t : β → M Bool} {f : β → M (Fl β ρ)} {h : β → M δ} {dr : ρ → δ} {LF : β → List Slot} {s0 : β} {body : List Stmt} (ok : OkS p sc NN VV GG k g) (wk : ∀ s, Wk (LF s) g.LX) (w0 : Wk L (LF s0))
    (hc : ∀ s, EvT g (LF s) c (t s)) (hb : ∀ s, EvB g (LF s) body (Fl.el (fun s' => Out.go (LF s')) fun r => D (dr r)) (f s)) (hr : ∀ s, EvB g (LF s) st D (h s)) (hD : ∀ r, (D (dr r)).isRt = true := by intro d; first | rfl | (cases d <;> rfl)) :
    EvB g L (.While c body [] pos :: st) D ((whileF t f n s0).bind (Fl.el h fun r => .ok (dr r))) := by
  refine PSs.imp (pss_cons (ps_while ok.psO (PT.ex hc) (PSs.ex hb)) (PSs.ex hr)) fun E σ H ⟨kp, own, at_, q⟩ => ?_
  obtain ⟨own0, a0, _⟩ := at_.weak w0
  refine ⟨fun m σ H => ∃ s own', At g.fm kp (LF s) σ H own' ∧ BOk g kp E D ((whileF t f m s).bind (Fl.el h fun r => .ok (dr r))), ⟨n, s0, own0, a0, q⟩, ?_⟩
  rintro m σ H ⟨s, own', a', q'⟩
  cases m with
  | zero => exact q'.elim
  | succ m =>
  refine ⟨s, tT_iff.mpr ⟨kp, own', a', ?_⟩⟩
  have q2 : BOk g kp E D (((t s).bind fun c => if c = true then (f s).bind (Fl.el (whileF t f m) fun r => .ok (.rt r)) else .ok (.nx s)).bind (Fl.el h fun r => .ok (dr r))) := q'
  cases ht : t s with
  | ok c =>
    rw [ht] at q2
    intro H1 s1
    cases c with
    | true =>
      rw [if_pos rfl]
      refine ⟨fun σ' H' => ∃ s own', At g.fm kp (LF s) σ' H' own' ∧ BOk g kp E D ((whileF t f m s).bind (Fl.el h fun r => .ok (dr r))), fun σ' H' z => ⟨m, Nat.lt_succ_self m, z⟩, s, kp, own', a'.ext s1, ?_⟩
      have q3 : BOk g kp E D (((f s).bind (Fl.el (whileF t f m) fun r => .ok (.rt r))).bind (Fl.el h fun r => .ok (dr r))) := q2
      cases hf : f s with
      | ok s' =>
        rw [hf] at q3
        cases s' with
        | nx s' => exact fun σ3 H3 own3 a3 => ⟨⟨s', own3, a3, q3⟩, ⟨s', own3, a3, q3⟩⟩
        | rt r =>
          have q3 : OutOk g.fm kp E (D (dr r)) := q3
          show OutOk g.fm _ _ (D (dr r))
          refine OutOk.rt (E := E) ?_ (hD r) q3
          rfl
      | ex c => rw [hf] at q3; exact q3
      | no => rw [hf] at q3; exact q3
    | false => exact ⟨s, kp, own', a'.ext s1, q2⟩
  | ex c => rw [ht] at q2; exact BOk.exx (wk s) a' q2
  | no => rw [ht] at q2; exact q2
end
end Hd
namespace Hd
open PySem PySem.Spec L2
def RetOk (fm : Fm) (Q : VK) : Out → Prop
  | .rt md T r => ∀ v H', Same fm.H0 H' → T.rep r v (RT fm H' md) → Q v H'
  | .rtL md T r => ∀ p vs H', Same fm.H0 H' → ¬ fm.z p → fm.H0 p = none → H' p = some (.lst vs) → Reps T (RT fm H' md (some p)) r vs → Q (.ref p) H'
  | .gen f => f fm Q
  | _ => False
/-- what a def promises: it comes to F -/
def spM (p : Pr) {δ ρ : Type} (A : Ar δ) (D : ρ → Out) (F : δ → M ρ) : Sp := fun vs H Q E => ∃ d z, ((∀ a, z a → H a ≠ none) ∧ ∀ P, p.T = some P → LamX.TabS H P lamQ) ∧ A.rep d vs (RD ⟨p.K, H, z⟩ [] H) ∧
  match F d with
  | .ok r => RetOk ⟨p.K, H, z⟩ Q (D r)
  | .ex c => ∀ H', Same H H' → E (.ref (p.C c)) none H'
  | .no => False
/-- the slots of the arguments -/
inductive ArS : {δ : Type} → Ar δ → Nat → (δ → List Slot) → Prop where
  | nil : ArS aNil 0 (fun _ => [])
  | cons {α δ : Type} {T : Ty α} {A : Ar δ} {n : Nat} {f : δ → List Slot} : ArS A n f → ArS (aCons T A) (n + 1) (fun d => sV false T d.1 :: f d.2)
theorem ArS.all {H : Hp} {R : Bool → RdR} {δ : Type} {A : Ar δ} {n : Nat} {f : δ → List Slot} (s : ArS A n f) : ∀ {d : δ} {vs : List V}, A.rep d vs (R false) → vs.length = n ∧ AllS H R (f d) (vs.map some) (List.replicate n []) := by
  induction s with
  | nil => intro d vs h; cases (show vs = [] from h); exact ⟨rfl, .nil⟩
  | cons _ ih =>
    intro d vs h
    obtain ⟨v, r, rfl, h1, h2⟩ := h
    obtain ⟨e, h3⟩ := ih h2
    exact ⟨by simp [e], .cons ⟨rfl, v, rfl, h1⟩ h3⟩
theorem AllS.append {H : Hp} {R : Bool → RdR} {L L' : List Slot} {σ σ' : L2.St} {Fs Fs' : List (List Addr)} (h : AllS H R L σ Fs) (h' : AllS H R L' σ' Fs') : AllS H R (L ++ L') (σ ++ σ') (Fs ++ Fs') := by
  induction h with
  | nil => exact h'
  | cons r _ ih => exact .cons r ih
theorem AllS.anys {H : Hp} {R : Bool → RdR} : ∀ n, AllS H R (List.replicate n sAny) (List.replicate n none) (List.replicate n [])
  | 0 => .nil
  | n + 1 => .cons rfl (AllS.anys n)
theorem flat_rep (n : Nat) : (List.replicate n ([] : List Addr)).flatten = [] := by induction n with
  | zero => rfl
  | succ n ih => simp
structure Sc (st : Stmt) (NN VV ps GG : List Str) : Prop where
  S : FnScope NN ps (defScope st)
  vis : VV.all (seenB (defScope st)) = true
  loc : VV.all (locB (defScope st)) = true
  gl : GG.all (glB (defScope st)) = true
section
variable {p : Pr} {sc : Scope} {NN VV GG : List Str} {k : Nat} {g : G} {L L' : List Slot} {a b c e e' : Expr} {es : List Expr} {md md' : Md} {α β γ δ ρ : Type} {S : Ty α} {T : Ty β} {U : Ty γ} {A : Ar δ} {pos : Pos}
/-- a def's body, as a judgement for all its arguments -/
def Body (p : Pr) (st : Stmt) (NN VV GG : List Str) (k : Nat) (L0 : δ → List Slot) (D : ρ → Out) (F : δ → M ρ) : Prop :=
  ∀ g, OkS p (defScope st) NN VV GG k g → g.LX = List.replicate NN.length sAny → ∀ d, EvB g (L0 d) (defBody st) D (F d)
/-- how Ends take a block's end that the promise tells as D -/
theorem fn_gen {x qual : Str} {st : Stmt} {f : Addr} {fd : FuncData} {ps : List Str} {L0 : δ → List Slot} {n m : Nat} {D D' : ρ → Out} {F : δ → M ρ} (hF : FunD p.K x qual (defArgs st) (defBody st) (defScope st) [] [] f fd) (hS : Sc st NN VV ps GG) (ha : ArS A n L0) (hn : ps.length = n) (hm : n + m = NN.length)
    (hD : ∀ (r : ρ) (fm : Fm) (Q : VK), RetOk fm Q (D r) → OutOk fm (fun _ _ => False) { nx := fun _ H' => Q .non H', rt := Q } (D' r))
    (hb : Body p st NN VV GG k (fun d => L0 d ++ List.replicate m sAny) D' F) :
    FnOk p.P p.w p.K p.mg p.base (L2.CX p.P p.w) (k + 1) f fd ps (spM p A D F) := by
  refine hF.ok hS.S (fun vs H Q E h => ?_) (fun cdv A' outer s H vs Q E hr h => ?_)
  · obtain ⟨d, z, hz, hrep, _⟩ := h
    exact (ha.all (H := H) (R := fun _ => RD ⟨p.K, H, z⟩ [] H) hrep).1.trans hn.symm
  · obtain ⟨d, z, ⟨hz, htab⟩, hrep, q⟩ := h
    have hlen : vs.length = n := (ha.all (H := H) (R := fun _ => RD ⟨p.K, H, z⟩ [] H) hrep).1
    let X : Cx := cxOf (L2.CX p.P p.w) p.P p.w p.K p.mg p.base NN qual (defScope st) f cdv A' outer s H E
    let g : G := ⟨X, ⟨p.K, H, z⟩, fun c _ H' => E (.ref (p.C c)) none H', List.replicate NN.length sAny⟩
    have hN : ∀ {j : Nat} {y : Str}, VV[j]? = some y → y ∈ VV := fun e => List.mem_of_getElem? e
    have ok : OkS p (defScope st) NN VV GG k g :=
      { prog := rfl, w := rfl, K := rfl, mg := rfl, base := rfl, N := rfl, fmK := rfl, tab := htab, room := hr, nd := hS.S.nd
        vis := fun e => let h := seenB_v (List.all_eq_true.mp hS.vis _ (hN e)); ⟨h.2, h.1⟩
        gl := fun e => let h := glB_v (List.all_eq_true.mp hS.gl _ (List.mem_of_getElem? e)); ⟨h.2, h.1⟩
        tk := Takes.imp (takes_of (X := X) rfl rfl rfl (E := E) rfl) (fun cls d σ H ⟨c, e1, e2, h⟩ => by subst e1; subst e2; exact h)
        calm := rfl
        blk := fun h => blkOk_by h
        loc := fun e => locB_v (List.all_eq_true.mp hS.loc _ (hN e))
        fnT := fun _ => rfl
        psO := passes_of (X := X) rfl
        scp := rfl
        stk := rfl
        frm := rfl
        exn := rfl }
    refine ⟨_, hb g ok rfl d, (fun _ _ => False), [], ?_, ?_⟩
    · refine ⟨Same.refl H, hz, ⟨List.replicate n [] ++ List.replicate m [], ?_, by simp [flat_rep]⟩, List.nodup_nil, (fun _ h => nomatch h), fun _ _ h => h.elim⟩
      have h1 := (ha.all (H := H) (R := RB ⟨p.K, H, z⟩ [] H) hrep).2
      have e : L2.start NN vs = vs.map some ++ List.replicate m none := by
        unfold L2.start
        rw [show NN.length - vs.length = m by omega]
      rw [e]
      exact h1.append (AllS.anys m)
    · cases hF' : F d with
      | ok r =>
        rw [hF'] at q
        exact hD r _ _ q
      | ex c =>
        rw [hF'] at q
        exact fun σ' H' own a' => q H' a'.same
      | no => rw [hF'] at q; exact q
theorem fn_rt {x qual : Str} {st : Stmt} {f : Addr} {fd : FuncData} {ps : List Str} {L0 : δ → List Slot} {n m : Nat} {bm : Bool} {T : Ty ρ} {F : δ → M ρ} (hF : FunD p.K x qual (defArgs st) (defBody st) (defScope st) [] [] f fd) (hS : Sc st NN VV ps GG) (ha : ArS A n L0) (hn : ps.length = n) (hm : n + m = NN.length)
    (hb : Body p st NN VV GG k (fun d => L0 d ++ List.replicate m sAny) (fun r => .rt bm T r) F) : FnOk p.P p.w p.K p.mg p.base (L2.CX p.P p.w) (k + 1) f fd ps (spM p A (fun r => .rt bm T r) F) :=
  fn_gen (D' := fun r => .rt bm T r) hF hS ha hn hm (fun r fm Q h => h) hb
theorem fn_rtL {x qual : Str} {st : Stmt} {f : Addr} {fd : FuncData} {ps : List Str} {L0 : δ → List Slot} {n m : Nat} {bm : Bool} {F : δ → M (List α)} (hF : FunD p.K x qual (defArgs st) (defBody st) (defScope st) [] [] f fd) (hS : Sc st NN VV ps GG) (ha : ArS A n L0) (hn : ps.length = n) (hm : n + m = NN.length)
    (hb : Body p st NN VV GG k (fun d => L0 d ++ List.replicate m sAny) (fun r => .rtL bm S r) F) : FnOk p.P p.w p.K p.mg p.base (L2.CX p.P p.w) (k + 1) f fd ps (spM p A (fun r => .rtL bm S r) F) :=
  fn_gen (D' := fun r => .rtL bm S r) hF hS ha hn hm (fun r fm Q h => h) hb
/-- a def that hands back None by coming to its end -/
theorem fn_nx {x qual : Str} {st : Stmt} {f : Addr} {fd : FuncData} {ps : List Str} {L0 : δ → List Slot} {n m : Nat} {LE : List Slot} {F : δ → M Unit} (hF : FunD p.K x qual (defArgs st) (defBody st) (defScope st) [] [] f fd) (hS : Sc st NN VV ps GG) (ha : ArS A n L0) (hn : ps.length = n) (hm : n + m = NN.length)
    (hb : Body p st NN VV GG k (fun d => L0 d ++ List.replicate m sAny) (fun _ => .nx LE) F) : FnOk p.P p.w p.K p.mg p.base (L2.CX p.P p.w) (k + 1) f fd ps (spM p A (fun r => .rt false tNone r) F) :=
  fn_gen (D' := fun _ => .nx LE) hF hS ha hn hm (fun r fm Q h => fun σ H' own at_ => h .non H' at_.same rfl) hb
/-- a def, as its callers know it -/
structure Fn (p : Pr) (k : Nat) (x : Str) (ps : List Str) (sp : Sp) : Prop where
  ex : ∃ (f : Addr) (fd : FuncData), FnOk p.P p.w p.K p.mg p.base (L2.CX p.P p.w) k f fd ps sp ∧ p.mg x = some (.ref f) ∧ PySem.W.keepIn p.K (.ref f) = true ∧ Binds p.K fd ps []
theorem tk_at (ok : Ok p sc NN VV GG k g) (σ : L2.St) : PassesAt (L2.CX g.X.prog g.X.w) g.X σ (fun cls d H => ∃ c, cls = .ref (p.C c) ∧ d = none ∧ g.W c σ H) := passAt ok.tk σ
theorem args_in {own : List Addr} {H H1 : Hp} {d : δ} {vs : List V} {fm : Fm} (r : A.rep d vs (RX fm own H H1 md)) : A.rep d vs (RD ⟨fm.K, H1, fun a => a ∈ own ∨ fm.z a⟩ [] H1) :=
  A.mono r fun a o z => by
    rcases RX.sh a o z with z | z
    · exact .inl ⟨z.1, (fun y => nomatch y), fun y => y.elim z.2.1 z.2.2⟩
    · exact .inr z
/-- how new a call's answer is -/
inductive CaMd : Bool → Md → Prop where
  | sh : CaMd false .sh
  | fx {x : Md} : CaMd true x
theorem CaMd.rx {fm : Fm} {own : List Addr} {H H1 H' : Hp} {bm : Bool} {q : Option Addr} (h : CaMd bm md) (s : Same H H1) (s0 : Same fm.H0 H) : ∀ a o, RT ⟨fm.K, H1, fun a => a ∈ own ∨ fm.z a⟩ H' bm q a o → RX fm (q.toList ++ own) H H' md a o := fun a o r => by
  cases h with
  | sh =>
    have r : RX ⟨fm.K, H1, fun a => a ∈ own ∨ fm.z a⟩ q.toList H' H' .sh a o := r
    rcases r with ⟨r1, r2, r3⟩ | r
    · exact .inl ⟨r1, fun y => (List.mem_append.mp y).elim r2 fun y => r3 (.inl y), fun y => r3 (.inr y)⟩
    · exact .inr r
  | fx =>
    have r : RX ⟨fm.K, H1, fun a => a ∈ own ∨ fm.z a⟩ q.toList H' H' .f0 a o := r
    obtain ⟨r1, r2, r3, r4⟩ := r
    exact RX.fx md a o ⟨r1, fun y => (List.mem_append.mp y).elim r2 fun y => r3 (.inl y), fun y => r3 (.inr y), s0.free (s.free r4), s.free r4⟩
theorem ev_call {x : Str} {j kf : Nat} {ps : List Str} {bm : Bool} {T : Ty ρ} {F : δ → M ρ} {m : M δ} {pp : Pos} (ok : Ok p sc NN VV GG k g) (hf : Fn p kf x ps (spM p A (fun r => .rt bm T r) F)) (hk : kf ≤ k) (hG : GG[j]? = some x) (hc : CaMd bm md')
    (ha : EvA g L (e :: es) md A m) (he : starEach (e :: es) g.X.env = (false, eval e g.X.env) :: starEach es g.X.env := by rfl) (hpl : (backTo pos (starEach es g.X.env)).any (·.1) = false := by rfl) :
    EvE g L (.Call (.Name x pp) (e :: es) [] pos) md' T (m.bind F) := by
  obtain ⟨f, fd, hF, hm, hkp, hbd⟩ := hf.ex
  obtain ⟨hg, ho⟩ := ok.gl hG
  rw [← ok.prog, ← ok.w, ← ok.base] at hF
  have hF' : FnOk g.X.prog g.X.w g.X.K g.X.mg g.X.base (L2.CX g.X.prog g.X.w) kf f fd ps (spM p A (fun r => .rt bm T r) F) := by rw [ok.K, ok.mg]; exact hF
  refine PE.imp (pe_callS hF' (ok.room.mono hk) hg (by rw [ok.mg]; exact hm) (by rw [ok.K]; exact hkp) (by rw [ok.K]; exact hbd) (tk_at ok) ha (okName_d ho).1 he hpl) fun σ H Q q => ?_
  obtain ⟨kp, own, at_, q⟩ := tE_iff.mp q
  refine subA finE (Same.refl H) at_ q fun d vs H1 s1 r1 at1 q1 => ⟨d, fun a => a ∈ own ∨ g.fm.z a, ⟨fun a z => ?_, fun P e => at1.same.tab P (ok.tab P e)⟩, ?_, ?_⟩
  · rcases z with z | z
    · exact (at1.new a z).1
    · exact at1.zin a z
  · rw [← ok.fmK]; exact args_in r1
  · rw [← ok.fmK]
    cases hd : F d with
    | ok r =>
      rw [hd] at q1
      exact fun v H' s r => q1 v H' (s1.trans s) (T.mono r (hc.rx s1 at_.same))
    | ex c =>
      rw [hd] at q1
      exact fun H' s => ⟨c, rfl, rfl, q1 H' (s1.trans s)⟩
    | no => rw [hd] at q1; exact q1
theorem evl_call {x : Str} {j kf : Nat} {ps : List Str} {bm : Bool} {F : δ → M (List α)} {m : M δ} {pp : Pos} (ok : Ok p sc NN VV GG k g) (hf : Fn p kf x ps (spM p A (fun r => .rtL bm S r) F)) (hk : kf ≤ k) (hG : GG[j]? = some x) (hc : CaMd bm md')
    (ha : EvA g L (e :: es) md A m) (he : starEach (e :: es) g.X.env = (false, eval e g.X.env) :: starEach es g.X.env := by rfl) (hpl : (backTo pos (starEach es g.X.env)).any (·.1) = false := by rfl) :
    EvL g L (.Call (.Name x pp) (e :: es) [] pos) md' S (m.bind F) := by
  obtain ⟨f, fd, hF, hm, hkp, hbd⟩ := hf.ex
  obtain ⟨hg, ho⟩ := ok.gl hG
  rw [← ok.prog, ← ok.w, ← ok.base] at hF
  have hF' : FnOk g.X.prog g.X.w g.X.K g.X.mg g.X.base (L2.CX g.X.prog g.X.w) kf f fd ps (spM p A (fun r => .rtL bm S r) F) := by rw [ok.K, ok.mg]; exact hF
  refine PE.imp (pe_callS hF' (ok.room.mono hk) hg (by rw [ok.mg]; exact hm) (by rw [ok.K]; exact hkp) (by rw [ok.K]; exact hbd) (tk_at ok) ha (okName_d ho).1 he hpl) fun σ H Q q => ?_
  obtain ⟨kp, own, at_, q⟩ := tL_iff.mp q
  refine subA finL (Same.refl H) at_ q fun d vs H1 s1 r1 at1 q1 => ⟨d, fun a => a ∈ own ∨ g.fm.z a, ⟨fun a z => ?_, fun P e => at1.same.tab P (ok.tab P e)⟩, ?_, ?_⟩
  · rcases z with z | z
    · exact (at1.new a z).1
    · exact at1.zin a z
  · rw [← ok.fmK]; exact args_in r1
  · rw [← ok.fmK]
    cases hd : F d with
    | ok r =>
      rw [hd] at q1
      exact fun p' vs' H' s n1 n2 h' r => q1 p' vs' H' (s1.trans s) (s1.free n2) h' (r.mono (hc.rx (q := some p') s1 at_.same))
    | ex c =>
      rw [hd] at q1
      exact fun H' s => ⟨c, rfl, rfl, q1 H' (s1.trans s)⟩
    | no => rw [hd] at q1; exact q1
/-- an own class of refusals -/
structure ExF (p : Pr) (x : Str) (c : Ec) : Prop where
  xP : PySem.W.excIn p.K (p.C c) [.type "ValueError", .type "Exception", .type "BaseException", .type "object"] "ValueError.__new__" = true
  gP : p.mg x = some (.ref (p.C c))
  kP : PySem.W.keepIn p.K (.ref (p.C c)) = true
  bP : PySem.W.subIn p.K (.ref (p.C c)) (.type "BaseException") = some true
  tP : PySem.W.typeIn p.K (.ref (p.C c)) = some (.type "type")
variable {st : List Stmt} {D : δ → Out} {d : δ}
theorem evb_raise {x : Str} {c : Ec} {j jj : Nat} {msg : Str} {pp p2 p3 : Pos} (ok : OkS p sc NN VV GG k g) (wk : Wk L g.LX) (X : ExF p x c) (hG : GG[j]? = some x) :
    EvB g L (.Raise (some (.Call (.Name x pp) [.Constant (.str msg) jj p2] [] p3)) none pos :: st) D (.ex c) := by
  obtain ⟨hg, ho⟩ := ok.gl hG
  refine PSs.imp (PSs.head (ps_raise ok.calm ok.tk (pmk_own PySem.F.excBase_ValueError (by rw [ok.K]; exact X.xP) (by rw [ok.mg]; exact X.gP) (by rw [ok.K]; exact X.kP) (raises_own (by rw [ok.K]; exact X.bP) (by rw [ok.K]; exact X.tP)) hg (okName_d ho).1))) fun E σ H ⟨kp, own, at_, q⟩ => ?_
  exact ⟨c, rfl, rfl, BOk.exx wk at_ q H (Same.refl H)⟩
end
end Hd
namespace Hd
open PySem PySem.Spec L2
section
variable {p : Pr} {sc : Scope} {NN VV GG : List Str} {k : Nat} {g : G} {L L' : List Slot} {a b c e e' : Expr} {es : List Expr} {md md' : Md} {α β γ δ ρ : Type} {S : Ty α} {T : Ty β} {U : Ty γ} {A : Ar δ} {pos : Pos} {K : PySem.W.Frag}
def mulM (x y : Int) : M Int := if x.natAbs < 2 ^ 10000 ∧ y.natAbs < 2 ^ 10000 then .ok (x * y) else .no
def modM (x y : Int) : M Int := if 0 < y then .ok (x % y) else .no
theorem o_add : Op2 K (rI0 fun i j => .int (i + j)) tInt tInt tInt (fun x y => .ok (x + y)) true := ⟨fun rb rx ry q => ⟨_, _, rx, ry, q _ _ (Same.refl _) rfl⟩⟩
theorem o_mul : Op2 K (rI CMulW fun i j => .int (i * j)) tInt tInt tInt mulM true := ⟨fun {d e x y R H Q} rb rx ry q => by
  unfold mulM at q
  split at q
  · rename_i h
    exact ⟨_, _, rx, ry, wide_mul h.1 h.2 (by decide) (by decide) (by decide), q _ _ (Same.refl _) rfl⟩
  · exact q.elim⟩
theorem o_mod : Op2 K (rI (fun _ j => 0 < j) fun i j => .int (i % j)) tInt tInt tInt modM true := ⟨fun {d e x y R H Q} rb rx ry q => by
  unfold modM at q
  split at q
  · rename_i h
    exact ⟨_, _, rx, ry, h, q _ _ (Same.refl _) rfl⟩
  · exact q.elim⟩
theorem mulM_ne {x y : Int} {c : Ec} : mulM x y ≠ .ex c := by unfold mulM; split <;> exact fun h => nomatch h
theorem modM_ne {x y : Int} {c : Ec} : modM x y ≠ .ex c := by unfold modM; split <;> exact fun h => nomatch h
variable {m1 m2 : M Int} {x y : Int}
theorem ev_add (ok : Ok p sc NN VV GG k g) (ha : EvE g L a md tInt m1) (hb : EvE g L b md tInt m2) : EvE g L (.BinOp a .Add b pos) md' tInt (m1.bind fun x => m2.bind fun y => .ok (x + y)) := ev_op2 ok op_add o_add (fun _ _ _ h => nomatch h) .fresh ha hb
theorem ev_mul (ok : Ok p sc NN VV GG k g) (ha : EvE g L a md tInt m1) (hb : EvE g L b md tInt m2) : EvE g L (.BinOp a .Mult b pos) md' tInt (m1.bind fun x => m2.bind fun y => mulM x y) := ev_op2 ok op_mulW o_mul (fun _ _ _ => mulM_ne) .fresh ha hb
theorem ev_mod (ok : Ok p sc NN VV GG k g) (ha : EvE g L a md tInt m1) (hb : EvE g L b md tInt m2) : EvE g L (.BinOp a .Mod b pos) md' tInt (m1.bind fun x => m2.bind fun y => modM x y) := ev_op2 ok op_mod o_mod (fun _ _ _ => modM_ne) .fresh ha hb
/-- the one number c -/
def tLit (c : Int) : Ty Unit := ⟨fun _ v _ => v = .int c, fun h _ => h⟩
theorem ev_lit (h : EvE g L e md tInt (.ok x)) : EvE g L e md (tLit x) (.ok ()) := ev_asP (fun v R r => r) h
theorem ev_mulL (ok : Ok p sc NN VV GG k g) (hc : x.natAbs < 2 ^ 64) (ha : EvE g L a md tInt (.ok x)) (hb : EvE g L b md tInt m2) : EvE g L (.BinOp a .Mult b pos) md' tInt (m2.bind fun y => .ok (x * y)) :=
  ev_op2 (f := fun _ y => .ok (x * y)) (m1 := .ok ()) ok op_mul ⟨fun rb rx ry q => ⟨_, _, rx, ry, .inl ⟨by omega, by omega⟩, q _ _ (Same.refl _) rfl⟩⟩ (fun _ _ _ h => nomatch h) (.fresh : MdOk true md md') (ev_lit ha) hb
theorem ev_modC (ok : Ok p sc NN VV GG k g) (hc : 0 < y) (ha : EvE g L a md tInt m1) (hb : EvE g L b md tInt (.ok y)) : EvE g L (.BinOp a .Mod b pos) md' tInt (m1.bind fun x => .ok (x % y)) :=
  ev_op2 (f := fun x _ => .ok (x % y)) ok op_mod ⟨fun rb rx ry q => ⟨_, _, rx, ry, hc, q _ _ (Same.refl _) rfl⟩⟩ (fun _ _ _ h => nomatch h) (.fresh : MdOk true md md') ha (ev_lit hb)
theorem ev_divC (ok : Ok p sc NN VV GG k g) (hc : 0 < y) (hb' : y.natAbs < 2 ^ 1000) (ha : EvE g L a md tInt m1) (hb : EvE g L b md tInt (.ok y)) : EvE g L (.BinOp a .FloorDiv b pos) md' tInt (m1.bind fun x => .ok (x / y)) :=
  ev_op2 (f := fun x _ => .ok (x / y)) ok op_fdivW ⟨fun rb rx ry q => ⟨_, _, rx, ry, wide_div hc hb' (by decide) (by decide), q _ _ (Same.refl _) rfl⟩⟩ (fun _ _ _ h => nomatch h) (.fresh : MdOk true md md') ha (ev_lit hb)
theorem ev_neg (ok : Ok p sc NN VV GG k g) (ha : EvE g L a md tInt m1) : EvE g L (.UnaryOp .USub a pos) md' tInt (m1.bind fun x => .ok (-x)) :=
  ev_un ok un_neg (f := fun x => .ok (-x)) (fr := true) ⟨fun rb rx q => ⟨_, rx, q _ _ (Same.refl _) rfl⟩⟩ (fun _ _ h => nomatch h) .fresh ha
/-- a comparison that always tells -/
structure CmpOk (p : Pr) (X : Cx) (op : CmpOp) (S : Ty α) (T : Ty β) (f : α → β → Bool) : Prop where
  ex : ∃ r, OpR X (compareOp op) r ∧ Op2 p.K r S T tBool (fun x y => .ok (f x y)) true
section
variable {op : CmpOp} {f : α → β → Bool} {ma : M α} {mb : M β} {da : α} {db : β}
theorem ev_c (ok : Ok p sc NN VV GG k g) (F : CmpOk p g.X op S T f) (ha : EvE g L a md S ma) (hb : EvE g L b md T mb) (hk : behindInMarks op b = false := by first | exact nomark _ (by decide) (by decide) | rfl) : EvE g L (.Compare a [op] [b] pos) md' tBool (ma.bind fun x => mb.bind fun y => .ok (f x y)) := by
  obtain ⟨r, h1, h2⟩ := F.ex
  exact ev_cmp ok h1 h2 (fun _ _ _ h => nomatch h) .fresh ha hb hk
theorem evt_c (ok : Ok p sc NN VV GG k g) (F : CmpOk p g.X op S T f) (ha : EvE g L a md S ma) (hb : EvE g L b md T mb) (hk : behindInMarks op b = false := by first | exact nomark _ (by decide) (by decide) | rfl) : EvT g L (.Compare a [op] [b] pos) (ma.bind fun x => mb.bind fun y => .ok (f x y)) := by
  obtain ⟨r, h1, h2⟩ := F.ex
  exact evt_cmp ok h1 h2 (fun _ _ _ h => nomatch h) ha hb hk
end
variable {X : Cx}
theorem c_lt : CmpOk p X .Lt tInt tInt (fun x y => decide (x < y)) := ⟨_, op_lt, ⟨fun rb rx ry q => ⟨_, _, rx, ry, q _ _ (Same.refl _) rfl⟩⟩⟩
theorem c_le : CmpOk p X .LtE tInt tInt (fun x y => decide (x ≤ y)) := ⟨_, op_le, ⟨fun rb rx ry q => ⟨_, _, rx, ry, q _ _ (Same.refl _) rfl⟩⟩⟩
theorem c_gt : CmpOk p X .Gt tInt tInt (fun x y => decide (y < x)) := ⟨_, op_gt, ⟨fun rb rx ry q => ⟨_, _, rx, ry, q _ _ (Same.refl _) rfl⟩⟩⟩
/-- kinds that are told apart by value -/
structure Scal (S : Ty α) : Prop where
  sc : ∀ {d e v w R}, S.rep d v R → S.rep e w R → scal v w = true ∧ (v = w ↔ d = e)
theorem s_int : Scal tInt := ⟨fun {d e v w R} h1 h2 => by cases h1; cases h2; exact ⟨rfl, fun h => by injection h, fun h => by rw [h]⟩⟩
theorem s_str : Scal tStr := ⟨fun {d e v w R} h1 h2 => by cases h1.1; cases h2.1; exact ⟨rfl, fun h => toS_inj (by injection h), fun h => by rw [h]⟩⟩
theorem c_eq [DecidableEq α] (h : Scal S) : CmpOk p X .Eq S S (fun x y => decide (x = y)) := ⟨_, op_eq, ⟨fun {d e x y R H Q} rb rx ry q => by
  obtain ⟨h1, h2⟩ := h.sc rx ry
  refine ⟨h1, q _ _ (Same.refl _) ?_⟩
  show _ = V.bl _
  congr 1
  exact decide_eq_decide.mpr h2⟩⟩
theorem c_ne [DecidableEq α] (h : Scal S) : CmpOk p X .NotEq S S (fun x y => !decide (x = y)) := ⟨_, op_ne, ⟨fun {d e x y R H Q} rb rx ry q => by
  obtain ⟨h1, h2⟩ := h.sc rx ry
  refine ⟨h1, q _ _ (Same.refl _) ?_⟩
  show _ = V.bl _
  congr 2
  exact decide_eq_decide.mpr h2⟩⟩
/-- .. with a heap: lists, tuples -/
structure Deep (S : Ty α) where
  pd : α → PyData
  dp : Nat
  rep : ∀ {K d v R H}, Rdb K R H → S.rep d v R → Dp K H v (pd d) ∧ (pd d).canLay0 = true
  dep : ∀ d, (pd d).depth ≤ dp
  eqv : ∀ d e, PyData.eqv (pd d) (pd e) = true ↔ d = e
theorem Deep.sh {D : Deep S} (h : D.dp ≤ 64) {d : α} (hl : (D.pd d).canLay0 = true) : SeqAt.shaped (D.pd d) = true := by
  unfold SeqAt.shaped
  rw [hl, Bool.true_and]
  exact decide_eq_true (Nat.le_trans (D.dep d) h)
theorem Deep.all (D : Deep S) {R : RdR} {H : Hp} (rb : Rdb K R H) {ds : List α} {vs : List V} (r : Reps S R ds vs) : DpAll K H vs (ds.map D.pd) ∧ PyData.canLayAll0 (ds.map D.pd) = true := by
  induction r with
  | nil => exact ⟨.nil, rfl⟩
  | cons r _ ih =>
    obtain ⟨h1, h2⟩ := D.rep rb r
    exact ⟨.cons h1 ih.1, by simp only [List.map_cons, PyData.canLayAll0, h2, ih.2, Bool.and_self]⟩
def getM {α : Type} (xs : List α) (i : Int) : M α := match L2.atI xs i with | some d => .ok d | none => .no
def getS (x : Tx) (i : Int) : M Tx := match L2.atI x i with | some c => .ok [c] | none => .no
theorem getM_ne {xs : List α} {i : Int} {c : Ec} : getM xs i ≠ .ex c := by unfold getM; split <;> exact fun h => nomatch h
theorem getS_ne {x : Tx} {i : Int} {c : Ec} : getS x i ≠ .ex c := by unfold getS; split <;> exact fun h => nomatch h
theorem Reps.at {R : RdR} {ds : List α} {vs : List V} (r : Reps S R ds vs) {i : Int} {d : α} (h : L2.atI ds i = some d) : ∃ v, L2.atI vs i = some v ∧ S.rep d v R := by
  unfold L2.atI at h ⊢
  rw [r.length] at h
  cases hj : L2.ixN vs.length i with
  | none => rw [hj] at h; cases h
  | some j => rw [hj] at h; exact r.get h
theorem sq_of {R : RdR} {H : Hp} {a : Addr} {vs : List V} (rb : Rdb K R H) (h : R a (.lst vs)) : SqL K H a vs := .inl ((rb _ _ h rfl).resolve_right fun z => z)
theorem st_of {R : RdR} {H : Hp} {a : Addr} {vs : List V} (rb : Rdb K R H) (h : R a (.tup vs)) : SqT K H a vs := (rb _ _ h rfl).imp id id
theorem Nw.old {fr : Bool} {R : RdR} {H : Hp} (h : fr = false) : ∀ a o, R a o → Nw fr R H H a o := fun _ _ r => .inl ⟨h, r⟩
theorem atI_mem {xs : List α} {i : Int} {d : α} (h : L2.atI xs i = some d) : d ∈ xs := by
  unfold L2.atI at h
  cases hj : L2.ixN xs.length i with
  | none => rw [hj] at h; cases h
  | some j => rw [hj] at h; exact List.mem_of_getElem? h
theorem o_ixS : Op2 K rIxS tStr tInt tStr getS true := ⟨fun {d e x y R H Q} rb rx ry q => by
  unfold getS at q
  cases hj : L2.atI d e with
  | none => rw [hj] at q; exact q.elim
  | some u =>
    rw [hj] at q
    refine ⟨toS d, e, u, rx.1, ry, by rw [toS_len]; exact rx.2.1, by rw [show (toS d).cps.toList = d from by simp [toS]]; exact hj, q _ _ (Same.refl _) ⟨rfl, (by show 1 ≤ sizeLine; decide), fun c hc => by rw [List.mem_singleton.mp hc]; exact rx.2.2 _ (atI_mem hj)⟩⟩⟩
section
variable {mx : M (List α)} {mi : M Int} {xs : List α} {i : Int} {mt : M Tx} {t : Tx}
theorem ev_ixS (ok : Ok p sc NN VV GG k g) (ha : EvE g L a md tStr mt) (hb : EvE g L b md tInt mi) (hs : PlainIx b := by exact fun _ _ => rfl) : EvE g L (.Subscript a b pos) md' tStr (mt.bind fun xs => mi.bind fun i => getS xs i) := ev_ix (r := rIxS) ok ix_str o_ixS (fun _ _ _ => getS_ne) .fresh ha hb hs
end
theorem ev_lenS {j : Nat} {mx : M Tx} {pp : Pos} (ok : Ok p sc NN VV GG k g) (hG : GG[j]? = some "len") (hmg : p.mg "len" = none) (ha : EvE g L e md tStr mx) (hs : starEach [e] g.X.env = (false, eval e g.X.env) :: starEach [] g.X.env := by rfl) : EvE g L (.Call (.Name "len" pp) [e] [] pos) md' tInt (mx.bind fun xs => .ok (xs.length : Int)) := by
  have h := ev_callB (md' := md') (U := tInt) (A := aCons tStr aNil) (f := fun d => .ok (d.1.length : Int)) (fr := true) (pos := pos) (pp := pp) ok call_len_str ⟨fun {d xs R H Q} rb ⟨v, r, e1, e2, e3⟩ q => by
    subst e1; cases (show r = [] from e3)
    exact ⟨toS d.1, by rw [e2.1], by rw [toS_len]; exact e2.2.1, q _ _ (Same.refl _) (by show _ = V.int _; rw [toS_len])⟩⟩ (fun _ _ h => nomatch h) .fresh hG hmg PySem.boot_len (eva_cons ha eva_nil hs) hs rfl
  have e : (mx.bind fun d => (M.ok ()).bind fun e => M.ok (d, e)).bind (fun d => M.ok (d.1.length : Int)) = mx.bind fun xs => .ok (xs.length : Int) := by cases mx <;> rfl
  rwa [e] at h
def catS (x y : Tx) : M Tx := if x.length + y.length ≤ sizeLine then .ok (x ++ y) else .no
theorem catS_ne {x y : Tx} {c : Ec} : catS x y ≠ .ex c := by unfold catS; split <;> exact fun h => nomatch h
theorem toS_app (x y : Tx) : toS (x ++ y) = toS x ++ toS y := by
  show (⟨(x ++ y).toArray⟩ : Str) = _
  rw [← List.append_toArray]
  rfl
theorem ev_catS {ma mb : M Tx} (ok : Ok p sc NN VV GG k g) (ha : EvE g L a md tStr ma) (hb : EvE g L b md tStr mb) : EvE g L (.BinOp a .Add b pos) md' tStr (ma.bind fun x => mb.bind fun y => catS x y) :=
  ev_op2 (fr := true) ok op_add_str ⟨fun {d e x y R H Q} rb rx ry q => by
    unfold catS at q
    split at q
    · rename_i h
      exact ⟨_, _, rx.1, ry.1, by rw [toS_len, toS_len]; exact h, q _ _ (Same.refl _) ⟨by rw [toS_app], by rw [List.length_append]; exact h, fun c hc => (List.mem_append.mp hc).elim (rx.2.2 c) (ry.2.2 c)⟩⟩
    · exact q.elim⟩ (fun _ _ _ => catS_ne) .fresh ha hb
end
end Hd
namespace Hd
open PySem PySem.Spec L2
section
variable {p : Pr} {sc : Scope} {NN VV GG : List Str} {k : Nat} {g : G} {L L' : List Slot} {a b c e e' : Expr} {es : List Expr} {md md' : Md} {α β γ δ ρ : Type} {S : Ty α} {T : Ty β} {U : Ty γ} {A : Ar δ} {pos : Pos} {K : PySem.W.Frag} {tg : Expr}
theorem RX.tyt {R : RdR} {H : Hp} {a : Addr} {vs : List V} (rb : Rdb K R H) (h : R a (.tup vs)) : TyX K H (.ref a) (.type "tuple") := by
  rcases rb _ _ h rfl with (h | ⟨o, h⟩) | h
  · exact .base (.tup h)
  · exact .fTuple h
  · obtain ⟨o, its, n, h1, h2, _⟩ := (show ∃ (o : Obj) (its : Array Value) (n : Nat), K.lookup a = some o ∧ o.cls = .type "tuple" ∧ o.data = .seq its n ∧ its.size ≤ sizeLine ∧ Vals vs its.toList from h)
    exact .kTuple h1 h2
/-- a built-in class by its name -/
def tTy (n : String) : Ty Unit := ⟨fun _ v _ => v = .ty n, fun h _ => h⟩
theorem ev_ty {j : Nat} {x : Str} {n : String} (ok : Ok p sc NN VV GG k g) (hG : GG[j]? = some x) (hmg : p.mg x = none) (hv : bootBuiltins x = some (.type n)) : EvE g L (.Name x pos) md (tTy n) (.ok ()) := by
  obtain ⟨hg, ho⟩ := ok.gl hG
  obtain ⟨h1, _, h3⟩ := okName_d ho
  exact PE.imp (pe_bltn (v := .ty n) hg (by rw [ok.mg]; exact hmg) hv rfl h3 h1) fun σ H Q ⟨kp, own, at_, q⟩ => q _ H (Same.refl H) rfl
theorem evi_str {m : M Tx} (he : EvE g L e md tStr m) : EvI g L tg e tStr (m.bind fun x => .ok (x.map fun c => [c])) := by
  refine PI.imp (pi_str he) fun σ H R ⟨kp, own, at_, q⟩ => ?_
  refine tE_iff.mpr ⟨kp, own, at_, ?_⟩
  cases m with
  | ok xs =>
    rintro v H' s ⟨rfl, hok⟩
    refine ⟨toS xs, rfl, q (Its (toS xs)) H' s fun H2 rb i => ?_⟩
    refine ⟨fun d hd => ?_, fun hn => ?_⟩
    · rw [List.getElem?_map] at hd
      cases hi : xs[i]? with
      | none => rw [hi] at hd; cases hd
      | some c =>
        rw [hi] at hd
        cases hd
        have hlt := (List.getElem?_eq_some_iff.mp hi).1
        refine ⟨by show i < xs.toArray.size; simpa using hlt, fun x H3 ⟨e, c', h1, h2⟩ => ?_⟩
        subst e
        have : c' = c := by
          have h1' : xs.toArray[i]? = some c' := h1
          rw [List.getElem?_toArray, hi] at h1'
          exact (Option.some.inj h1').symm
        subst this
        exact ⟨Same.refl _, h2, by show 1 ≤ sizeLine; decide, fun c2 hc2 => by rw [List.mem_singleton.mp hc2]; exact hok.2 _ (List.mem_of_getElem? hi)⟩
    · rw [List.getElem?_eq_none_iff, List.length_map] at hn
      show xs.toArray.size ≤ i
      simpa using hn
  | ex c => exact q
  | no => exact q
theorem At.mut {fm : Fm} {kp : RdR} {σ : L2.St} {H : Hp} {own : List Addr} {b : Bool} {ds : List α} {i : Nat} (h : At fm kp L σ H own) (hL : L[i]? = some (sOwn b S ds)) :
    ∃ p vs, σ[i]? = some (some (.ref p)) ∧ H p = some (.lst vs) ∧ Reps S (RB fm own H b) ds vs ∧ ∀ ds' vs', Reps S (RB fm own H b) ds' vs' → At fm kp (L.set i (sOwn b S ds')) σ (upd H p (.lst vs')) own := by
  obtain ⟨h1, h2, ⟨Fs, h3, rfl⟩, h4, h5, h6⟩ := h
  obtain ⟨v, F, e1, e2, q, vs, rfl, rfl, hp, r⟩ := h3.get hL
  have qin : q ∈ Fs.flatten := List.mem_flatten.mpr ⟨[q], List.mem_of_getElem? e2, by simp⟩
  refine ⟨q, vs, e1, hp, r, fun ds' vs' r' => ?_⟩
  have key : ∀ (md : Md) a o, RX fm Fs.flatten H H md a o → RX fm Fs.flatten (upd H q (.lst vs')) (upd H q (.lst vs')) md a o ∨ md = .fx := fun md a o z => by
    cases md with
    | sh =>
      rcases z with z | z
      · have n : a ≠ q := fun e => z.2.1 (by rw [e]; exact qin)
        refine .inl (.inl ⟨?_, z.2⟩)
        unfold Rd
        rw [cl_upd_ne n]
        exact z.1
      · exact .inl (.inr z)
    | f0 =>
      have n : a ≠ q := fun e => z.2.1 (by rw [e]; exact qin)
      exact .inl ⟨by rw [cl_upd_ne n]; exact z.1, z.2⟩
    | fx => exact .inr rfl
  have keyB : ∀ (b : Bool) a o, RB fm Fs.flatten H b a o → RB fm Fs.flatten (upd H q (.lst vs')) b a o := fun b a o z => by
    cases b with
    | false => exact (key .sh a o z).resolve_right (fun e => nomatch e)
    | true => exact (key .f0 a o z).resolve_right (fun e => nomatch e)
  have up : ∀ a, H a ≠ none → upd H q (.lst vs') a ≠ none := fun a n => by
    by_cases e : a = q
    · rw [e, upd_same]; exact fun z => by cases z
    · rw [upd_ne e]; exact n
  refine ⟨h1.wr (h5 q qin).2.1 hp (fun _ z => nomatch z) rfl, fun a z => up a (h2 a z), ⟨Fs, ?_, rfl⟩, h4, fun x hx => ⟨up x (h5 x hx).1, (h5 x hx).2⟩, fun a o z => (key .sh a o (h6 a o z)).resolve_right (fun e => nomatch e)⟩
  · -- the slots
    have gen : ∀ {L : List Slot} {σ : L2.St} {Fs' : List (List Addr)}, AllS H (RB fm Fs.flatten H) L σ Fs' → Fs'.flatten.Nodup → ∀ {i : Nat}, Fs'[i]? = some [q] → L[i]? = some (sOwn b S ds) → σ[i]? = some (some (V.ref q)) →
        AllS (upd H q (.lst vs')) (RB fm Fs.flatten (upd H q (.lst vs'))) (L.set i (sOwn b S ds')) σ Fs' := by
      intro L σ Fs' hA
      induction hA with
      | nil => intro _ i e _ _; simp at e
      | @cons sl L v σ F Fs' r t ih =>
        intro nd i e eL eσ
        rw [List.flatten_cons, List.nodup_append] at nd
        cases i with
        | zero =>
          simp at e eL eσ
          subst e; subst eL; subst eσ
          refine .cons ⟨q, vs', rfl, rfl, upd_same, r'.mono (keyB b)⟩ (t.st keyB fun x hx => ?_)
          exact upd_ne fun z => nd.2.2 q (by simp) x hx z.symm
        | succ i =>
          have e' : Fs'[i]? = some [q] := by simpa using e
          refine .cons (sl.st r keyB fun x hx => upd_ne fun z => nd.2.2 x hx q (List.mem_flatten.mpr ⟨[q], List.mem_of_getElem? e', by simp⟩) z) (ih nd.2.1 e' (by simpa using eL) (by simpa using eσ))
    exact gen h3 h4 e2 hL e1
def pushM {α : Type} (xs : List α) (d : α) : M (List α) := if xs.length < sizeLine then .ok (xs ++ [d]) else .no
variable {st : List Stmt} {D : δ → Out} {i j : Nat} {x : Str}
theorem evb_append {bb : Bool} {ds : List α} {m : M α} {f : List α → M δ} {p1 ap cp : Pos} (ok : OkS p sc NN VV GG k g) (wk : Wk L g.LX) (hN : NN[i]? = some x) (hV : VV[j]? = some x) (hL : L[i]? = some (sOwn bb S ds)) (hb : SlB md bb)
    (he : EvE g L e md S m) (hr : ∀ ds', EvB g (L.set i (sOwn bb S ds')) st D (f ds'))
    (hs : swapsWith (.Call (.Attribute (.Name x p1) "append" ap) [e] [] cp) none pos.line g.X.env = pure false := by rfl)
    (hbase : attributeBase (.Name x p1) "append" g.X.env (eval (.Name x p1) g.X.env) = eval (.Name x p1) g.X.env := by rfl)
    (hfew : ((backTo cp (starEach [e] g.X.env)).all (fun x => !x.1) && (backToKw cp (keywordEach [] g.X.env)).all (fun x => x.1.isSome)
      && decide (([e] : List Expr).length + ([] : List Keyword).length + (if ([] : List Keyword).isEmpty then 0 else 1) < 30)) = true := by rfl)
    (hline : (ap.endLine == cp.line) = true := by rfl) (hst : starEach [e] g.X.env = (false, eval e g.X.env) :: starEach [] g.X.env := by rfl) (hpl : (backTo cp (starEach [] g.X.env)).any (·.1) = false := by rfl) :
    EvB g L (.Expr (.Call (.Attribute (.Name x p1) "append" ap) [e] [] cp) pos :: st) D (m.bind fun d => (pushM ds d).bind f) := by
  obtain ⟨hv, ho⟩ := ok.vis hV
  obtain ⟨h1, h2, _⟩ := okName_d ho
  refine PSs.imp (pss_cons (ps_expr (pe_bm PySem.F.plainAttrs_list PySem.F.slot_list_append PySem.F.type_list_append mt_append (pe_var (i := i) (by rw [ok.N]; exact hN) hv h1 h2) (pa_cons he pa_nil hst) (hbase := hbase) (hfew := hfew) (hline := hline) (hs := hst) (hplain := hpl)) hs) (PSs.ex hr)) fun E σ H ⟨kp, own, at_, q⟩ => ?_
  obtain ⟨p', vs, e1, hp, r, mu⟩ := at_.mut hL
  refine ⟨_, e1, Or.inl ⟨rfl, _, SqL.of hp⟩, tE_iff.mpr ⟨kp, own, at_, ?_⟩⟩
  cases m with
  | ok d =>
    intro v H1 s1 r1
    have a1 := at_.ext s1
    obtain ⟨p2, vs2, e12, hp2, rr2, mu2⟩ := a1.mut hL
    rw [e1] at e12
    cases e12
    have q : BOk g kp E D ((pushM ds d).bind f) := q
    unfold pushM at q
    split at q
    · rename_i hlt
      refine ⟨_, vs2, v, rfl, rfl, hp2, by rw [← rr2.length]; exact hlt, ds ++ [d], kp, own, mu2 _ _ (rr2.append (.cons (S.mono r1 hb.rb) .nil)), q⟩
    · exact q.elim
  | ex c => exact BOk.exx wk at_ q
  | no => exact q
end
end Hd
namespace Hd
open PySem PySem.Spec L2
section
variable {p : Pr} {sc : Scope} {NN VV GG VV' GG' : List Str} {k : Nat} {g : G} {L L' : List Slot} {a b c e e' : Expr} {es : List Expr} {md md' : Md} {α β γ δ ρ : Type} {S : Ty α} {T : Ty β} {U : Ty γ} {A : Ar δ} {pos : Pos} {K : PySem.W.Frag} {tg : Expr}
def tGs (fm : Fm) (A : Ar δ) (L : List Slot) (Lt : δ → List Slot) : TGs := fun vs σ H Q => ∃ kp own d, At fm kp L σ H own ∧ A.rep d vs (RD fm own H) ∧ ∀ σ' own', At fm kp (Lt d) σ' H own' → (∀ p ∈ own', p ∈ own) → Q σ' H
def EvGs (g : G) (es : List Expr) (A : Ar δ) (L : List Slot) (Lt : δ → List Slot) : Prop := PGs g.X es (tGs g.fm A L Lt)
theorem PGs.imp {X : Cx} {es : List Expr} {t t' : TGs} (h : PGs X es t) (k : ∀ v σ H Q, t' v σ H Q → t v σ H Q) : PGs X es t' := ⟨fun pins s σ H v u Q I r q => h.run pins s σ H v u Q I r (k _ _ _ _ q)⟩
theorem PGs.ex {X : Cx} {ι : Type} {es : List Expr} {t : ι → TGs} (h : ∀ d, PGs X es (t d)) : PGs X es (fun v σ H Q => ∃ d, t d v σ H Q) := ⟨fun pins s σ H v u Q I r ⟨d, q⟩ => (h d).run pins s σ H v u Q I r q⟩
theorem evgs_nil : EvGs g [] aNil L (fun _ => L) := by
  refine PGs.imp pgs_nil fun v σ H Q ⟨kp, own, d, at_, r, q⟩ => ⟨r, q σ own at_ fun _ h => h⟩
theorem evgs_cons {Lt1 : α → List Slot} {Lt2 : α → δ → List Slot} (h1 : EvG g e S L Lt1) (h2 : ∀ d, EvGs g es A (Lt1 d) (Lt2 d)) (hs : (assignEach (e :: es) g.X.env).map (·.2) = assign e g.X.env :: (assignEach es g.X.env).map (·.2) := by rfl) :
    EvGs g (e :: es) (aCons S A) L (fun d => Lt2 d.1 d.2) := by
  refine PGs.imp (pgs_cons h1 (PGs.ex h2) hs) fun vs σ H Q ⟨kp, own, d, at_, ⟨v, r, e1, r1, r2⟩, q⟩ => ?_
  refine ⟨v, r, e1, kp, own, d.1, at_, r1, fun σ' own' a' sub => ⟨d.1, kp, own', d.2, a', A.mono r2 (RX.own (md := .sh) (H := H) sub), fun σ2 own2 a2 sub2 => q σ2 own2 a2 fun p hp => sub p (sub2 p hp)⟩⟩
theorem evg_tup {Lt : δ → List Slot} {n k' : Nat} (ok : Ok p sc NN VV GG k g) (hl : ∀ {d vs R}, A.rep d vs R → vs.length = n) (h : EvGs g es A L Lt)
    (hn : (assignEach es g.X.env).length = n := by rfl) (hst : (assignEach es g.X.env).findIdx? (·.1) = none := by rfl) : EvG g (.Tuple es k' pos) (tTup A) L Lt := by
  refine PG.imp (pg_tup ok.calm h hn hst) fun v σ H Q ⟨kp, own, d, at_, ⟨a, vs, e, hr, rr⟩, q⟩ => ?_
  subst e
  exact ⟨a, vs, rfl, (ok.fmK.trans ok.K.symm) ▸ RX.tup (md := .sh) (H := H) hr, hl rr, kp, own, d, at_, rr, q⟩
theorem len0 {d : Unit} {vs : List V} {R : RdR} (h : aNil.rep d vs R) : vs.length = 0 := by cases (show vs = [] from h); rfl
theorem lenS {n : Nat} (h : ∀ {d vs R}, A.rep d vs R → vs.length = n) {d : α × δ} {vs : List V} {R : RdR} (q : (aCons S A).rep d vs R) : vs.length = n + 1 := by
  obtain ⟨v, r, e, _, h2⟩ := q
  rw [e, List.length_cons, h h2]
variable {st : List Stmt} {D : δ → Out} {i j : Nat} {x : Str}
/-- a, b = e -/
theorem evb_asg {m : M α} {Lt : α → List Slot} {f : α → M δ} (ok : OkS p sc NN VV GG k g) (wk : Wk L g.LX) (he : EvE g L e md S m) (hG : EvG g tg S L Lt) (hr : ∀ d, EvB g (Lt d) st D (f d))
    (hs : swapsWithSole [tg] e pos.line g.X.env = pure false := by rfl) (hw : swappedStores [tg] e g.X.env = pure none := by rfl) (h1 : (assignEach [tg] g.X.env).map (·.2) = [assign tg g.X.env] := by rfl) :
    EvB g L (.Assign [tg] e pos :: st) D (m.bind f) := by
  refine PSs.imp (pss_cons (ps_asg he hG hs hw h1) (PSs.ex hr)) fun E σ H ⟨kp, own, at_, q⟩ => ?_
  refine tE_iff.mpr ⟨kp, own, at_, ?_⟩
  cases m with
  | ok d => exact fun v H' s r => ⟨kp, own, d, at_.ext s, S.mono r RX.sh, fun σ' own' a' _ => ⟨d, kp, own', a', q⟩⟩
  | ex c => exact BOk.exx wk at_ q
  | no => exact q
def compG {α β : Type} (h : α → M (Option β)) : List α → M (List β)
  | [] => .ok []
  | x :: r => (h x).nox.bind fun o => (compG h r).bind fun l => .ok (o.toList ++ l)
def compM {α β : Type} (h : α → M (Option β)) (xs : List α) : M (List β) := if xs.length ≤ sizeLine then compG h xs else .no
theorem lookup_rl {env : Env} {x : Str} : ∀ {names : List (Str × NameKind)} {kd : NameKind}, names.lookup x = some kd →
    (names.map fun (n, k) => if (k == NameKind.free && env.scope.kind == .function && env.kindOf n == some .cell) then (n, NameKind.cell) else (n, k)).lookup x = some kd ∨
      (kd = .free ∧ (names.map fun (n, k) => if (k == NameKind.free && env.scope.kind == .function && env.kindOf n == some .cell) then (n, NameKind.cell) else (n, k)).lookup x = some .cell)
  | [], _, h => by simp at h
  | (n, k') :: r, kd, h => by
    rw [List.lookup_cons] at h
    rw [List.map_cons]
    by_cases e : x == n
    · rw [e] at h
      cases h
      dsimp only
      split
      · rename_i hh
        refine .inr ⟨?_, by rw [List.lookup_cons, e]⟩
        simp only [Bool.and_eq_true, beq_iff_eq] at hh
        exact hh.1.1
      · exact .inl (by rw [List.lookup_cons, e])
    · have e : (x == n) = false := by simpa using e
      rw [e] at h
      dsimp only
      have ih := lookup_rl (env := env) (x := x) (names := r) h
      split <;> (rw [List.lookup_cons, e]; exact ih)
theorem vis_rl {scope : Scope} {env : Env} {x : Str} (h : Vis scope x) : Vis (relabel scope env) x := by
  rcases h with h | h | h <;> rcases lookup_rl (env := env) h with q | ⟨q, q2⟩
  · exact .inl q
  · cases q
  · exact .inr (.inl q)
  · cases q
  · exact .inr (.inr q)
  · exact .inr (.inl q2)
theorem gl_rl {scope : Scope} {env : Env} {x : Str} (h : scope.names.lookup x = some .globalImplicit) : (relabel scope env).names.lookup x = some .globalImplicit := by
  rcases lookup_rl (env := env) h with q | ⟨q, q2⟩
  · exact q
  · cases q
theorem _root_.L2.BlkOk.relab {N : List Str} {sc scope : Scope} {env : Env} {own : List (Str × Nat)} (h : BlkOk N sc scope own) : BlkOk N (relabel sc env) scope own :=
  ⟨h.kind, h.uniq, h.ix, fun y hy e => by
    rcases h.free y hy e with q | q <;> rcases lookup_rl (env := env) q with z | ⟨z, z2⟩
    · exact .inl z
    · cases z
    · exact .inr z
    · exact .inl z2, h.own⟩
/-- where the inner part of a comprehension stands -/
theorem blk_ok (ok : Ok p sc NN VV GG k g) {scope : Scope} {s : Shared} {H : Hp} {C : Addr} {cl : List (Str × Addr)} {fp : List Addr} {fm : Fm} (hK : fm.K = p.K ∧ ∀ P, p.T = some P → LamX.TabS fm.H0 P lamQ) (hv : VV'.all (seenB scope) = true) (hg : GG'.all (glB scope) = true) :
    Ok p scope NN VV' GG' k ⟨g.X.blk s H scope (compEnvC scope cl C g.X.env) fp, fm, fun _ _ _ => False, []⟩ :=
  { prog := ok.prog, w := ok.w, K := ok.K, mg := ok.mg, base := ok.base, N := ok.N, fmK := hK.1, tab := hK.2, room := ok.room, nd := ok.nd
    vis := fun e => let h := seenB_v (List.all_eq_true.mp hv _ (List.mem_of_getElem? e)); ⟨vis_rl h.2, h.1⟩
    gl := fun e => let h := glB_v (List.all_eq_true.mp hg _ (List.mem_of_getElem? e)); ⟨gl_rl h.2, h.1⟩
    tk := Takes.imp takes0 (fun cls d σ H ⟨c, e1, e2, h⟩ => h)
    calm := ok.calm
    blk := fun h => (blkOk_by h).relab }
theorem wipe1 {σ : L2.St} {v : V} : wipe ((wipe σ [i]).set i (some v)) [i] = wipe σ [i] := by
  show ((σ.set i none).set i (some v)).set i none = σ.set i none
  rw [List.set_set, List.set_set]
def NoOwn (s : Slot) : Prop := ∀ {v H R F}, s.ok v H R F → F = []
theorem no_any : NoOwn sAny := fun h => h
theorem At.setN {fm : Fm} {kp : RdR} {σ : L2.St} {H : Hp} {own : List Addr} {s s' : Slot} {v : Option V} (h : At fm kp L σ H own) (hL : L[i]? = some s) (hs : NoOwn s) (r : s'.ok v H (RB fm own H) []) : At fm kp (L.set i s') (σ.set i v) H own := by
  obtain ⟨h1, h2, ⟨Fs, h3, rfl⟩, h4, h5, h6⟩ := h
  obtain ⟨v0, F, e1, e2, r0⟩ := h3.get hL
  have e : (Fs.set i []).flatten = Fs.flatten := set_same_nil (by rw [e2, hs r0])
  exact ⟨h1, h2, ⟨Fs.set i [], h3.set r i, e.symm⟩, h4, h5, h6⟩
theorem PTs.ex {X : Cx} {ι : Type} {ifs : List Expr} {t : ι → TT} (h : ∀ d, PTs X ifs (t d)) : PTs X ifs (fun σ H Q => ∃ d, t d σ H Q) := ⟨fun pins s σ H Q I ⟨d, q⟩ => (h d).run pins s σ H Q I q⟩
theorem PE.ex {X : Cx} {ι : Type} {e : Expr} {t : ι → TE} (h : ∀ d, PE X e (t d)) : PE X e (fun σ H Q => ∃ d, t d σ H Q) := ⟨fun pins s σ H Q I ⟨d, q⟩ => (h d).run pins s σ H Q I q⟩
theorem M.bind_assoc {α β γ : Type} (m : M α) (f : α → M β) (h : β → M γ) : (m.bind f).bind h = m.bind fun x => (f x).bind h := by cases m <;> rfl
theorem PS.imp {X : Cx} {e : Stmt} {t t' : TS} (h : PS X e t) (k : ∀ E σ H, t' E σ H → t E σ H) : PS X e t' := ⟨fun pins s σ H D I q => h.run pins s σ H D I (k _ _ _ q)⟩
/-- [elt for x in it if c] -/
theorem evl_lc2 {scope : Scope} {it elt : Expr} {m : M (List α)} {cm : α → M Bool} {f : α → M β} {tp : Pos} {ifs : List Expr} {s₀ : Slot} (ok : Ok p sc NN VV GG k g) (hI : EvI g L (.Name x tp) it S m) (hN : NN[i]? = some x) (hLi : L[i]? = some s₀) (hs₀ : NoOwn s₀) (hb : blkC NN sc scope [(x, i)] = true)
    (hv : VV'.all (seenB scope) = true) (hg : GG'.all (glB scope) = true) (hx : locB scope x = true)
    (hc : ∀ g', Ok p scope NN VV' GG' k g' → ∀ d, PTs g'.X ifs (tT g'.fm g'.W (L.set i (sV false S d)) (cm d)))
    (he : ∀ g', Ok p scope NN VV' GG' k g' → ∀ d, EvE g' (L.set i (sV false S d)) elt md T (f d)) (hs : ∀ x, foldedSetIterable it g.X.env x = pure x := by intro _; rfl) :
    (EvL g L (.ListComp elt [⟨.Name x tp, it, ifs, 0⟩] scope pos) md T (m.bind fun xs => compM (fun d => (cm d).bind fun c => if c = true then (f d).bind fun y => .ok (some y) else .ok none) xs)) ∧
    (∀ {y : Str} {i2 : Nat} {py spos : Pos}, NN[i2]? = some y → g.X.env.scope.names.lookup y = some .local → swapsWith (.ListComp elt [⟨.Name x tp, it, ifs, 0⟩] scope pos) (some (.Name y py)) spos.line g.X.env = pure true →
      PS g.X (.Assign [.Name y py] (.ListComp elt [⟨.Name x tp, it, ifs, 0⟩] scope pos) spos) (tAsg (tL g.fm g.W L md T (m.bind fun xs => compM (fun d => (cm d).bind fun c => if c = true then (f d).bind fun y => .ok (some y) else .ok none) xs)) (gName i2))) := by
  have loc : ∀ (s : Shared) (H : Hp) (C : Addr) (cl : List (Str × Addr)) (fp : List Addr), L2.Loc (g.X.blk s H scope (compEnvC scope cl C g.X.env) fp).env.scope x ∧ ((g.X.blk s H scope (compEnvC scope cl C g.X.env) fp).fn x = true ∨ (g.X.blk s H scope (compEnvC scope cl C g.X.env) fp).env.scope.names.lookup x = some .local) := by
    intro s H C cl fp
    rcases locB_v hx with h | h
    · have q : (relabel scope g.X.env).names.lookup x = some .local := by
        rcases lookup_rl (env := g.X.env) h with q | ⟨q, _⟩
        · exact q
        · cases q
      exact ⟨.inl q, .inr q⟩
    · have q : (relabel scope g.X.env).names.lookup x = some .cell := by
        rcases lookup_rl (env := g.X.env) h with q | ⟨q, _⟩
        · exact q
        · cases q
      refine ⟨.inr q, .inl ?_⟩
      show (scope.names.lookup x == some .cell) = true
      rw [h]; rfl
  have BODY : ∀ σ H Q, tL g.fm g.W L md T (m.bind fun xs => compM (fun d => (cm d).bind fun c => if c = true then (f d).bind fun y => .ok (some y) else .ok none) xs) σ H Q →
      tLc (tI g.fm g.W L S m) (gName i) (fun σ H Q => ∃ z : {fm' : Fm // fm'.K = p.K ∧ ∀ P, p.T = some P → LamX.TabS fm'.H0 P lamQ} × α, tT z.1.1 (fun _ _ _ => False) (L.set i (sV false S z.2)) (cm z.2) σ H Q)
        (fun σ H Q => ∃ z : {fm' : Fm // fm'.K = p.K ∧ ∀ P, p.T = some P → LamX.TabS fm'.H0 P lamQ} × α, tE z.1.1 (fun _ _ _ => False) (L.set i (sV false S z.2)) md T (f z.2) σ H Q) ([(x, i)].map (·.2)) σ H Q := by
    intro σ H Q q
    obtain ⟨kp, own, at_, q⟩ := tL_iff.mp q
    cases m with
    | ex c => exact ⟨kp, own, at_, q⟩
    | no => exact q.elim
    | ok xs =>
    refine ⟨kp, own, at_, fun J H1 s1 hJ D hD => ?_⟩
    have at1 := at_.ext s1
    have hHD : H D = none := s1.free hD
    -- the inner frame
    let fm' : Fm := ⟨g.fm.K, g.fm.H0, fun a => a = D ∨ g.fm.z a⟩
    let hh : α → M (Option β) := fun d => (cm d).bind fun c => if c = true then (f d).bind fun y => .ok (some y) else .ok none
    have q : FinL g.fm g.W own σ H md T Q (compM hh xs) := q
    unfold compM at q
    split at q
    case isFalse => exact q.elim
    rename_i hlen
    have aw : At g.fm kp (L.set i sAny) (σ.set i none) H1 own := at1.setN hLi hs₀ rfl
    have rdD : ∀ (md : Md) (H0 : Hp) a o, RX g.fm own H0 H1 md a o → RX fm' own H0 (upd H1 D (.lst [])) md a o := fun md H0 a o z => by
      have z2 := RX.add (o' := .lst []) hD a o z
      cases md with
      | sh => exact z2.imp (fun ⟨a1, a2, a3⟩ => ⟨a1, fun y => a2 (List.mem_cons_of_mem _ y), fun y => y.elim (fun e => a2 (by rw [e]; exact List.mem_cons_self)) a3⟩) id
      | f0 => exact ⟨z2.1, fun y => z2.2.1 (List.mem_cons_of_mem _ y), fun y => y.elim (fun e => z2.2.1 (by rw [e]; exact List.mem_cons_self)) z2.2.2.1, z2.2.2.2⟩
      | fx => exact ⟨z2.1, fun y => z2.2.1 (List.mem_cons_of_mem _ y), fun y => y.elim (fun e => z2.2.1 (by rw [e]; exact List.mem_cons_self)) z2.2.2.1, z2.2.2.2⟩
    have a0 : At fm' (RD g.fm own H1) (L.set i sAny) (wipe σ [i]) (upd H1 D (.lst [])) own := by
      obtain ⟨h1, h2, ⟨Fs, h3, e⟩, h4, h5, h6⟩ := aw
      refine ⟨h1.trans (newSame hD), fun a z => ?_, ⟨Fs, h3.st (fun b a o z => ?_) fun y hy => ?_, e⟩, h4, fun y hy => ⟨fun n => (h5 y hy).1 ((newSame hD).free n), (h5 y hy).2.1, fun z => z.elim (fun e => (h5 y hy).1 (by rw [e]; exact hD)) (h5 y hy).2.2⟩, fun a o z => rdD .sh H1 a o z⟩
      · rcases z with z | z
        · rw [z, upd_same]; exact fun n => by cases n
        · exact fun n => h2 a z ((newSame hD).free n)
      · cases b with
        | false => exact rdD .sh H1 a o z
        | true => exact rdD .f0 H1 a o z
      · exact upd_ne fun e' => (h5 y (by rw [e]; exact hy)).1 (by rw [e']; exact hD)
    have upR : ∀ (md : Md) {H5 : Hp} {vs' : List V}, ∀ a o, RX g.fm (D :: own) H H5 md a o → RX g.fm (D :: own) H (upd H5 D (.lst vs')) md a o := fun md {H5 vs'} a o z => by
      have ne : a ∉ D :: own → a ≠ D := fun h e => h (by rw [e]; exact List.mem_cons_self)
      cases md with
      | sh =>
        refine z.imp (fun ⟨a1, a2, a3⟩ => ⟨?_, a2, a3⟩) id
        unfold Rd
        rw [cl_upd_ne (ne a2)]
        exact a1
      | f0 => exact ⟨by rw [cl_upd_ne (ne z.2.1)]; exact z.1, z.2⟩
      | fx => exact ⟨by rw [cl_upd_ne (ne z.2.1)]; exact z.1, z.2⟩
    refine ⟨fun n mm H' => mm = xs.length - n ∧ n ≤ xs.length ∧ ∃ vs ds, H' D = some (.lst vs) ∧ vs.length ≤ n ∧ Same H H' ∧ Reps T (RX g.fm (D :: own) H H' md) ds vs ∧ At fm' (RD g.fm own H1) (L.set i sAny) (wipe σ [i]) H' own ∧
      FinL g.fm g.W own σ H md T Q ((compG hh (xs.drop n)).bind fun l => .ok (ds ++ l)), ⟨_, rfl, Nat.zero_le _, [], [], upd_same, Nat.zero_le _, s1.trans (newSame hD), .nil, a0, ?_⟩, ?_⟩
    · rw [List.drop_zero]
      have e : ((compG hh xs).bind fun l => M.ok ([] ++ l)) = compG hh xs := by cases compG hh xs <;> rfl
      rw [e]; exact q
    rintro n mm H' ⟨rfl, hn, vs, ds, hDv, hvl, sH, rr, a', q'⟩
    have rb : Rdb g.fm.K (RD g.fm own H1) H' := ⟨fun a o z n => (a'.kept a o z).imp (fun h => Rd.raw h.1 n) id⟩
    obtain ⟨hgo, hst⟩ := hJ H' rb n
    by_cases hlt : n < xs.length
    · have hx' : xs[n]? = some xs[n] := by simp [hlt]
      obtain ⟨go, yl⟩ := hgo _ hx'
      refine .inr ⟨go, fun H6 => ∃ vs ds, H6 D = some (.lst vs) ∧ vs.length ≤ n + 1 ∧ Same H H6 ∧ Reps T (RX g.fm (D :: own) H H6 md) ds vs ∧ At fm' (RD g.fm own H1) (L.set i sAny) (wipe σ [i]) H6 own ∧
        FinL g.fm g.W own σ H md T Q ((compG hh (xs.drop (n + 1))).bind fun l => .ok (ds ++ l)), fun H6 z => ⟨xs.length - (n + 1), by omega, rfl, hlt, z⟩, fun y H3 hy => ?_⟩
      obtain ⟨s3, r3⟩ := yl y H3 hy
      have a3 := a'.ext s3
      have ry : S.rep xs[n] y (RD fm' own H3) := S.mono r3 (Nw.rd a' a'.kept s3)
      have hLw : (L.set i sAny)[i]? = some sAny := by
        have hlt' := (List.getElem?_eq_some_iff.mp hLi).1
        rw [List.getElem?_set_self hlt']
      have a4 : At fm' (RD g.fm own H1) (L.set i (sV false S xs[n])) ((wipe σ [i]).set i (some y)) H3 own := by
        have := a3.setN (s' := sV false S xs[n]) (v := some y) hLw no_any ⟨rfl, y, rfl, ry⟩
        rwa [List.set_set] at this
      rw [List.drop_eq_getElem_cons hlt] at q'
      refine ⟨wipe1, ⟨⟨fm', ok.fmK, ok.tab⟩, xs[n]⟩, _, own, a4, ?_⟩
      have q2 : FinL g.fm g.W own σ H md T Q (((hh xs[n]).nox.bind fun o => (compG hh (xs.drop (n + 1))).bind fun l => .ok (o.toList ++ l)).bind fun l => .ok (ds ++ l)) := q'
      cases hcm : cm xs[n] with
      | ex c => rw [show hh xs[n] = .ex c from by show (cm xs[n]).bind _ = _; rw [hcm]; rfl] at q2; exact q2.elim
      | no => rw [show hh xs[n] = .no from by show (cm xs[n]).bind _ = _; rw [hcm]; rfl] at q2; exact q2.elim
      | ok c =>
        intro H4 s4
        cases c with
        | false =>
          rw [show hh xs[n] = .ok none from by show (cm xs[n]).bind _ = _; rw [hcm]; rfl] at q2
          refine (if_neg (by decide)).mpr ?_
          have a5 : At fm' (RD g.fm own H1) (L.set i sAny) (wipe σ [i]) H4 own := a3.ext s4
          refine ⟨vs, ds, s4.keep _ _ (s3.keep _ _ hDv rfl) rfl, Nat.le_succ_of_le hvl, (sH.trans s3).trans s4, rr.mono (RX.same (s3.trans s4)), a5, ?_⟩
          have e : (((M.ok (none : Option β)).nox.bind fun o => (compG hh (xs.drop (n + 1))).bind fun l => M.ok (o.toList ++ l)).bind fun l => M.ok (ds ++ l)) = (compG hh (xs.drop (n + 1))).bind fun l => M.ok (ds ++ l) := by
            cases compG hh (xs.drop (n + 1)) <;> rfl
          rw [e] at q2; exact q2
        | true =>
          refine (if_pos rfl).mpr ⟨⟨⟨fm', ok.fmK, ok.tab⟩, xs[n]⟩, _, own, a4.ext s4, ?_⟩
          cases hf : f xs[n] with
          | ex c => rw [show hh xs[n] = .ex c from by show (cm xs[n]).bind _ = _; rw [hcm]; show (f xs[n]).bind _ = _; rw [hf]; rfl] at q2; exact q2.elim
          | no => rw [show hh xs[n] = .no from by show (cm xs[n]).bind _ = _; rw [hcm]; show (f xs[n]).bind _ = _; rw [hf]; rfl] at q2; exact q2.elim
          | ok w =>
            rw [show hh xs[n] = .ok (some w) from by show (cm xs[n]).bind _ = _; rw [hcm]; show (f xs[n]).bind _ = _; rw [hf]; rfl] at q2
            intro v H5 s5 r5
            have s35 : Same H' H5 := (s3.trans s4).trans s5
            have sHH5 : Same H H5 := sH.trans s35
            have nw : ∀ a o, RX fm' own H4 H5 md a o → RX g.fm (D :: own) H H5 md a o := fun a o z => by
              have nd : ¬ fm'.z a → a ≠ D ∧ ¬ g.fm.z a := fun h => ⟨fun e => h (.inl e), fun e => h (.inr e)⟩
              cases md with
              | sh => exact z.imp (fun ⟨a1, a2, a3⟩ => ⟨a1, fun y => (List.mem_cons.mp y).elim (nd a3).1 a2, (nd a3).2⟩) id
              | f0 => exact ⟨z.1, fun y => (List.mem_cons.mp y).elim (nd z.2.2.1).1 z.2.1, (nd z.2.2.1).2, z.2.2.2⟩
              | fx => exact ⟨z.1, fun y => (List.mem_cons.mp y).elim (nd z.2.2.1).1 z.2.1, (nd z.2.2.1).2, z.2.2.2.1, ((sH.trans s3).trans s4).free z.2.2.2.2⟩
            refine ⟨vs, s35.keep _ _ hDv rfl, by omega, vs ++ [v], ds ++ [w], upd_same, by rw [List.length_append, List.length_singleton]; omega, sHH5.wr hHD (s35.keep _ _ hDv rfl) (fun _ z => nomatch z) rfl, ?_, ?_, ?_⟩
            · exact ((rr.mono (RX.same s35)).append (.cons (T.mono r5 nw) .nil)).mono (upR md)
            · -- the slots at the changed heap
              have a5 : At fm' (RD g.fm own H1) (L.set i sAny) (wipe σ [i]) H5 own := a'.ext s35
              obtain ⟨h1, h2, ⟨Fs, h3, e⟩, h4, h5, h6⟩ := a5
              have ne : ∀ {a : Addr}, ¬ fm'.z a → a ≠ D := fun h e => h (.inl e)
              have k0 : ∀ (md : Md) a o, RX fm' own H5 H5 md a o → md = .fx ∨ RX fm' own (upd H5 D (.lst (vs ++ [v]))) (upd H5 D (.lst (vs ++ [v]))) md a o := fun md a o z => by
                cases md with
                | sh =>
                  refine .inr (z.imp (fun ⟨a1, a2, a3⟩ => ⟨?_, a2, a3⟩) id)
                  unfold Rd
                  rw [cl_upd_ne (ne a3)]
                  exact a1
                | f0 => exact .inr ⟨by rw [cl_upd_ne (ne z.2.2.1)]; exact z.1, z.2⟩
                | fx => exact .inl rfl
              have up : ∀ a, H5 a ≠ none → upd H5 D (.lst (vs ++ [v])) a ≠ none := fun a hne => by
                by_cases e : a = D
                · rw [e, upd_same]; exact fun z => by cases z
                · rw [upd_ne e]; exact hne
              refine ⟨h1.wr (at_.same.free hHD) (s35.keep _ _ hDv rfl) (fun _ z => nomatch z) rfl, fun a z => up a (h2 a z), ⟨Fs, h3.st (fun b a o z => ?_) fun y hy => ?_, e⟩, h4, fun y hy => ⟨up y (h5 y hy).1, (h5 y hy).2⟩, fun a o z => (k0 .sh a o (h6 a o z)).resolve_left fun e => nomatch e⟩
              · cases b with
                | false => exact (k0 .sh a o z).resolve_left fun e => nomatch e
                | true => exact (k0 .f0 a o z).resolve_left fun e => nomatch e
              · exact upd_ne (ne (h5 y (by rw [e]; exact hy)).2.2)
            · have e : (((M.ok (some w)).nox.bind fun o => (compG hh (xs.drop (n + 1))).bind fun l => M.ok (o.toList ++ l)).bind fun l => M.ok (ds ++ l)) = (compG hh (xs.drop (n + 1))).bind fun l => M.ok ((ds ++ [w]) ++ l) := by
                cases compG hh (xs.drop (n + 1)) <;> simp [M.nox, M.bind]
              rw [e] at q2; exact q2
    · have e : n = xs.length := by omega
      subst e
      rw [List.drop_length] at q'
      refine .inl ⟨hst (by simp), ?_⟩
      have q2 : FinL g.fm g.W own σ H md T Q (.ok (ds ++ [])) := q'
      rw [List.append_nil] at q2
      exact q2 D vs H' sH hHD hDv rr
  refine ⟨PE.imp (pe_lc (own := [(x, i)]) ok.calm (by rw [ok.N]; exact ok.nd) hI (by rw [ok.N]; exact ok.blk hb) (fun s H C cl fp => pg_name (i := i) (by show g.X.N.Nodup; rw [ok.N]; exact ok.nd) (by show g.X.N[i]? = _; rw [ok.N]; exact hN) (loc s H C cl fp).1 (loc s H C cl fp).2)
    (fun s H C cl fp => PTs.ex (t := fun (z : {fm' : Fm // fm'.K = p.K ∧ ∀ P, p.T = some P → LamX.TabS fm'.H0 P lamQ} × α) => tT z.1.1 (fun _ _ _ => False) (L.set i (sV false S z.2)) (cm z.2)) fun z => hc ⟨g.X.blk s H scope (compEnvC scope cl C g.X.env) fp, z.1.1, fun _ _ _ => False, []⟩ (blk_ok ok z.1.2 hv hg) z.2) (fun s H C cl fp => PE.ex (t := fun (z : {fm' : Fm // fm'.K = p.K ∧ ∀ P, p.T = some P → LamX.TabS fm'.H0 P lamQ} × α) => tE z.1.1 (fun _ _ _ => False) (L.set i (sV false S z.2)) md T (f z.2)) fun z => he ⟨g.X.blk s H scope (compEnvC scope cl C g.X.env) fp, z.1.1, fun _ _ _ => False, []⟩ (blk_ok ok z.1.2 hv hg) z.2) hs) BODY, fun {y i2 py spos} hy hyl hsw => ?_⟩
  exact PS.imp (ps_setLc (own := [(x, i)]) ok.calm (by rw [ok.N]; exact ok.nd) (by rw [ok.N]; exact hy) hyl hsw hI (by rw [ok.N]; exact ok.blk hb) (fun s H C cl fp => pg_name (i := i) (by show g.X.N.Nodup; rw [ok.N]; exact ok.nd) (by show g.X.N[i]? = _; rw [ok.N]; exact hN) (loc s H C cl fp).1 (loc s H C cl fp).2)
    (fun s H C cl fp => PTs.ex (t := fun (z : {fm' : Fm // fm'.K = p.K ∧ ∀ P, p.T = some P → LamX.TabS fm'.H0 P lamQ} × α) => tT z.1.1 (fun _ _ _ => False) (L.set i (sV false S z.2)) (cm z.2)) fun z => hc ⟨g.X.blk s H scope (compEnvC scope cl C g.X.env) fp, z.1.1, fun _ _ _ => False, []⟩ (blk_ok ok z.1.2 hv hg) z.2) (fun s H C cl fp => PE.ex (t := fun (z : {fm' : Fm // fm'.K = p.K ∧ ∀ P, p.T = some P → LamX.TabS fm'.H0 P lamQ} × α) => tE z.1.1 (fun _ _ _ => False) (L.set i (sV false S z.2)) md T (f z.2)) fun z => he ⟨g.X.blk s H scope (compEnvC scope cl C g.X.env) fp, z.1.1, fun _ _ _ => False, []⟩ (blk_ok ok z.1.2 hv hg) z.2) hs) fun E σ H q => BODY σ H _ q
/-- [elt for x in it if c] -/
theorem evl_lc {scope : Scope} {it elt : Expr} {m : M (List α)} {cm : α → M Bool} {f : α → M β} {tp : Pos} {ifs : List Expr} {s₀ : Slot} (ok : Ok p sc NN VV GG k g) (hI : EvI g L (.Name x tp) it S m) (hN : NN[i]? = some x) (hLi : L[i]? = some s₀) (hs₀ : NoOwn s₀) (hb : blkC NN sc scope [(x, i)] = true)
    (hv : VV'.all (seenB scope) = true) (hg : GG'.all (glB scope) = true) (hx : locB scope x = true)
    (hc : ∀ g', Ok p scope NN VV' GG' k g' → ∀ d, PTs g'.X ifs (tT g'.fm g'.W (L.set i (sV false S d)) (cm d)))
    (he : ∀ g', Ok p scope NN VV' GG' k g' → ∀ d, EvE g' (L.set i (sV false S d)) elt md T (f d)) (hs : ∀ x, foldedSetIterable it g.X.env x = pure x := by intro _; rfl) :
    EvL g L (.ListComp elt [⟨.Name x tp, it, ifs, 0⟩] scope pos) md T (m.bind fun xs => compM (fun d => (cm d).bind fun c => if c = true then (f d).bind fun y => .ok (some y) else .ok none) xs) := (evl_lc2 ok hI hN hLi hs₀ hb hv hg hx hc he hs).1
end
end Hd
namespace Hd
open PySem PySem.Spec L2
section
variable {p : Pr} {sc : Scope} {NN VV GG VV' GG' : List Str} {k : Nat} {g : G} {L L' : List Slot} {a b c e e' : Expr} {es : List Expr} {md md' : Md} {α β γ δ ρ : Type} {S : Ty α} {T : Ty β} {U : Ty γ} {A : Ar δ} {pos : Pos} {K : PySem.W.Frag} {tg : Expr} {i j : Nat} {x : Str}
/-- all slots forgotten -/
theorem wkX {n : Nat} (h : g.LX = List.replicate n sAny) (e : L.length = n) : Wk L g.LX := h ▸ Wk.anys e
theorem ev_gint {i : Int} (ok : Ok p sc NN VV GG k g) (hG : GG[j]? = some x) (h : ∃ t, p.mg x = some (.int i t)) : EvE g L (.Name x pos) md tInt (.ok i) := by
  obtain ⟨t, h⟩ := h
  exact ev_glob (v := .int i) ok hG h ⟨t, rfl⟩ (fun _ => rfl)
theorem ev_gstr {s : String} (ok : Ok p sc NN VV GG k g) (hG : GG[j]? = some x) (h : ∃ t, p.mg x = some (.str (Str.ofString s) t)) (hl : okTxB (tx s) = true) : EvE g L (.Name x pos) md tStr (.ok (tx s)) := by
  obtain ⟨t, h⟩ := h
  exact ev_glob (v := .str (Str.ofString s)) ok hG h ⟨t, rfl⟩ (fun _ => ⟨by rw [toS_tx], okTx_of hl⟩)
theorem ev_b1 {id : String} {r : List V → Hp → VK → Prop} {f : α → M γ} {fr : Bool} {m : M α} {pp : Pos} (ok : Ok p sc NN VV GG k g) (hc : CallR g.X (.builtin id) r)
    (F : ∀ {d v R H Q}, Rdb p.K R H → S.rep d v R → OpEnd U fr R H Q (f d) → r [v] H Q) (hne : ∀ d c, f d ≠ .ex c) (hm : MdOk fr md md')
    (hG : GG[j]? = some x) (hmg : p.mg x = none) (hv : bootBuiltins x = some (.builtin id)) (ha : EvE g L e md S m) (hs : starEach [e] g.X.env = (false, eval e g.X.env) :: starEach [] g.X.env := by rfl) : EvE g L (.Call (.Name x pp) [e] [] pos) md' U (m.bind f) := by
  have h := ev_callB (md' := md') (U := U) (A := aCons S aNil) (f := fun d => f d.1) (fr := fr) (pos := pos) (pp := pp) ok hc ⟨fun {d xs R H Q} rb ⟨v, r, e1, h1, e3⟩ q => by
    subst e1; cases (show r = [] from e3); exact F rb h1 q⟩ (fun d c => hne d.1 c) hm hG hmg hv (eva_cons ha eva_nil hs) hs rfl
  have e : (m.bind fun d => (M.ok ()).bind fun e => M.ok (d, e)).bind (fun d => f d.1) = m.bind f := by cases m <;> rfl
  rwa [e] at h
theorem ev_t1 {id : String} {r : List V → Hp → VK → Prop} {f : α → M γ} {fr : Bool} {m : M α} {pp : Pos} (ok : Ok p sc NN VV GG k g) (hc : CallR g.X (.type id) r)
    (F : ∀ {d v R H Q}, Rdb p.K R H → S.rep d v R → OpEnd U fr R H Q (f d) → r [v] H Q) (hne : ∀ d c, f d ≠ .ex c) (hm : MdOk fr md md')
    (hG : GG[j]? = some x) (hmg : p.mg x = none) (hv : bootBuiltins x = some (.type id)) (ha : EvE g L e md S m) (hs : starEach [e] g.X.env = (false, eval e g.X.env) :: starEach [] g.X.env := by rfl) : EvE g L (.Call (.Name x pp) [e] [] pos) md' U (m.bind f) := by
  have h := ev_callTy (md' := md') (U := U) (A := aCons S aNil) (f := fun d => f d.1) (fr := fr) (pos := pos) (pp := pp) ok hc ⟨fun {d xs R H Q} rb ⟨v, r, e1, h1, e3⟩ q => by
    subst e1; cases (show r = [] from e3); exact F rb h1 q⟩ (fun d c => hne d.1 c) hm hG hmg hv (eva_cons ha eva_nil hs) hs rfl
  have e : (m.bind fun d => (M.ok ()).bind fun e => M.ok (d, e)).bind (fun d => f d.1) = m.bind f := by cases m <;> rfl
  rwa [e] at h
theorem ev_b2 {id : String} {r : List V → Hp → VK → Prop} {f : α → β → M γ} {fr : Bool} {m1 : M α} {m2 : M β} {pp : Pos} (ok : Ok p sc NN VV GG k g) (hc : CallR g.X (.builtin id) r)
    (F : ∀ {d e v w R H Q}, Rdb p.K R H → S.rep d v R → T.rep e w R → OpEnd U fr R H Q (f d e) → r [v, w] H Q) (hne : ∀ d e c, f d e ≠ .ex c) (hm : MdOk fr md md')
    (hG : GG[j]? = some x) (hmg : p.mg x = none) (hv : bootBuiltins x = some (.builtin id)) (ha : EvE g L a md S m1) (hb : EvE g L b md T m2)
    (hs1 : starEach [a, b] g.X.env = (false, eval a g.X.env) :: starEach [b] g.X.env := by rfl) (hs2 : starEach [b] g.X.env = (false, eval b g.X.env) :: starEach [] g.X.env := by rfl)
    (hpl : (backTo pos (starEach [b] g.X.env)).any (·.1) = false := by rfl) : EvE g L (.Call (.Name x pp) [a, b] [] pos) md' U (m1.bind fun d => m2.bind fun e => f d e) := by
  have h := ev_callB (md' := md') (U := U) (A := aCons S (aCons T aNil)) (f := fun d => f d.1 d.2.1) (fr := fr) (pos := pos) (pp := pp) ok hc ⟨fun {d xs R H Q} rb ⟨v, r, e1, h1, w, r2, e2, h2, e3⟩ q => by
    subst e1; subst e2; cases (show r2 = [] from e3); exact F rb h1 h2 q⟩ (fun d c => hne d.1 d.2.1 c) hm hG hmg hv (eva_cons ha (eva_cons hb eva_nil hs2) hs1) hs1 hpl
  have e : (m1.bind fun d => (m2.bind fun d => (M.ok ()).bind fun e => M.ok (d, e)).bind fun e => M.ok (d, e)).bind (fun d => f d.1 d.2.1) = m1.bind fun d => m2.bind fun e => f d e := by cases m1 <;> cases m2 <;> rfl
  rwa [e] at h
variable {m1 m2 : M Int} {pp : Pos}
def bInt (b : Bool) : Int := if b then 1 else 0
theorem ev_intB {m : M Bool} (ok : Ok p sc NN VV GG k g) (hG : GG[j]? = some "int") (hmg : p.mg "int" = none) (ha : EvE g L a md tBool m) (hs : starEach [a] g.X.env = (false, eval a g.X.env) :: starEach [] g.X.env := by rfl) : EvE g L (.Call (.Name "int" pp) [a] [] pos) md' tInt (m.bind fun x => .ok (bInt x)) :=
  ev_t1 (fr := true) ok call_int1 (fun {d v R H Q} rb h q => .inr ⟨d, by rw [h], q _ _ (Same.refl _) rfl⟩) (fun _ _ h => nomatch h) .fresh hG hmg (by decide +kernel) ha hs
theorem Reps.bools {R : RdR} {ds : List Bool} {vs : List V} (r : Reps tBool R ds vs) : vs = ds.map V.bl := by
  induction r with
  | nil => rfl
  | cons h _ ih => cases h; rw [ih]; rfl
theorem Reps.strs {R : RdR} {ds : List Tx} {vs : List V} (r : Reps tStr R ds vs) : vs = (ds.map toS).map V.str ∧ ∀ d ∈ ds, OkTx d := by
  induction r with
  | nil => exact ⟨rfl, fun _ h => nomatch h⟩
  | cons h _ ih =>
    obtain ⟨e, h⟩ := h
    subst e
    refine ⟨by rw [ih.1]; rfl, fun d hd => ?_⟩
    rcases List.mem_cons.mp hd with e | hd
    · rw [e]; exact h
    · exact ih.2 d hd
theorem ev_all {m : M (List Bool)} (ok : Ok p sc NN VV GG k g) (hG : GG[j]? = some "all") (hmg : p.mg "all" = none) (ha : EvE g L a md (tList tBool) m) (hs : starEach [a] g.X.env = (false, eval a g.X.env) :: starEach [] g.X.env := by rfl) : EvE g L (.Call (.Name "all" pp) [a] [] pos) md' tBool (m.bind fun x => .ok (x.all id)) :=
  ev_b1 (S := tList tBool) (fr := true) ok (cr_all ok.calm) (fun {d v R H Q} rb ⟨a, vs, e, h, r⟩ q => ⟨a, d, by rw [e], by rw [← r.bools, ok.K]; exact sq_of rb h, q _ _ (Same.refl _) rfl⟩) (fun _ _ h => nomatch h) .fresh hG hmg (by decide +kernel) ha hs
def itx (i : Int) : Tx := tx (toString i)
def strM (i : Int) : M Tx := if -(10 ^ 100) < i ∧ i < 10 ^ 100 then .ok (itx i) else .no
theorem tx_ok (s : String) (h : (Str.ofString s).length ≤ sizeLine) : OkTx (tx s) := by
  refine ⟨?_, fun c hc => ?_⟩
  · have e : (tx s).length = (Str.ofString s).length := by show (Str.ofString s).cps.toList.length = (Str.ofString s).cps.size; simp
    rw [e]; exact h
  · unfold tx at hc
    rw [PySem.Str.ofString_eq_toList] at hc
    simp only [List.mem_map] at hc
    obtain ⟨ch, _, rfl⟩ := hc
    have := ch.valid
    show ch.val.toNat < 0x110000
    rcases this with h | h
    · have : ch.val.toNat < 0xd800 := h
      omega
    · exact h.2
set_option exponentiation.threshold 3000 in
theorem ev_strI (ok : Ok p sc NN VV GG k g) (hG : GG[j]? = some "str") (hmg : p.mg "str" = none) (ha : EvE g L a md tInt m1) (hs : starEach [a] g.X.env = (false, eval a g.X.env) :: starEach [] g.X.env := by rfl) : EvE g L (.Call (.Name "str" pp) [a] [] pos) md' tStr (m1.bind strM) :=
  ev_t1 (fr := true) ok call_str_int (fun {d v R H Q} rb h q => by
    unfold strM at q
    split at q
    · rename_i hb
      have hlt : d.natAbs < 10 ^ 100 := by omega
      have hl : d.natAbs.log2 < 1920 := by
        by_cases h0 : d.natAbs = 0
        · rw [h0]; decide
        · exact (Nat.log2_lt h0).mpr (Nat.lt_of_lt_of_le hlt (by decide))
      refine ⟨d, by rw [h], hl, q _ _ (Same.refl _) ⟨?_, tx_ok _ (int_text_fits hl)⟩⟩
      show V.str _ = V.str _
      rw [show itx d = tx (toString d) from rfl, toS_tx]
    · exact q.elim) (fun d c h => by unfold strM at h; split at h <;> cases h) .fresh hG hmg (by decide +kernel) ha hs
end
end Hd
namespace Hd
open PySem PySem.Spec L2
section
variable {p : Pr} {sc : Scope} {NN VV GG VV' GG' : List Str} {k : Nat} {g : G} {L L' : List Slot} {a b c e e' : Expr} {es : List Expr} {md md' : Md} {α β γ δ ρ : Type} {S : Ty α} {T : Ty β} {U : Ty γ} {A : Ar δ} {pos : Pos} {K : PySem.W.Frag} {tg : Expr} {i j : Nat} {x : Str}
theorem ev_sm1 {id : String} {name : Str} {r : V → List V → Hp → VK → Prop} {f : Tx → β → M γ} {m1 : M Tx} {m2 : M β} {apos : Pos} (ok : Ok p sc NN VV GG k g) (slot : PySem.Slot "str" name id) (hty : typeOf (.builtin id) = pure (.type "method_descriptor")) (hmt : MtR g.X id r)
    (F : ∀ {d e y R H Q}, Rdb p.K R H → OkTx d → T.rep e y R → OpEnd U true R H Q (f d e) → r (.str (toS d)) [y] H Q) (hne : ∀ d e c, f d e ≠ .ex c) (ha : EvE g L a md tStr m1) (hb : EvE g L b md T m2)
    (hs : starEach [b] g.X.env = [(false, eval b g.X.env)] := by rfl) (hbase : attributeBase a name g.X.env (eval a g.X.env) = eval a g.X.env := by rfl) (hline : (apos.endLine == pos.line) = true := by rfl) :
    EvE g L (.Call (.Attribute a name apos) [b] [] pos) md' U (m1.bind fun d => m2.bind fun e => f d e) := by
  refine PE.imp (pe_m1 slot hty hmt ha hb hs hbase hline) fun σ H Q q => ?_
  obtain ⟨kp, own, at_, q⟩ := tE_iff.mp q
  refine sub finE (Same.refl H) at_ q fun d x H1 s1 r1 at1 q1 => ⟨⟨_, r1.1⟩, sub finE s1 at1 q1 fun e y H2 s2 r2 at2 q2 => ?_⟩
  rw [r1.1]
  rw [← ok.fmK] at F
  exact F (R := RX g.fm own H H2 md) RX.rdb r1.2 r2 (q2.fin (MdOk.fresh : MdOk true md md') (s1.trans s2) at2 (hne d e))
/-- sep.join(xs) -/
def joinM (s : Tx) (xs : List Tx) : M Tx := if (xs.map List.length).sum + xs.length * s.length ≤ 16777216 then .ok (TL.joinL s xs) else .no
theorem joinM_ne {s : Tx} {xs : List Tx} {c : Ec} : joinM s xs ≠ .ex c := by unfold joinM; split <;> exact fun h => nomatch h
theorem joinL_len (s : Tx) : ∀ xs : List Tx, (TL.joinL s xs).length ≤ (xs.map List.length).sum + xs.length * s.length
  | [] => by simp [TL.joinL]
  | [x] => by simp [TL.joinL]
  | x :: y :: r => by
    have := joinL_len s (y :: r)
    simp only [TL.joinL, List.length_append, List.map_cons, List.sum_cons, List.length_cons] at this ⊢
    rw [Nat.add_mul, Nat.add_mul] at *
    omega
theorem joinL_mem (s : Tx) {c : Nat} : ∀ xs : List Tx, c ∈ TL.joinL s xs → c ∈ s ∨ ∃ x ∈ xs, c ∈ x
  | [], h => nomatch h
  | [x], h => .inr ⟨x, List.mem_cons_self, h⟩
  | x :: y :: r, h => by
    simp only [TL.joinL, List.mem_append] at h
    rcases h with h | h | h
    · exact .inr ⟨x, List.mem_cons_self, h⟩
    · exact .inl h
    · rcases joinL_mem s (y :: r) h with h | ⟨z, hz, h⟩
      · exact .inl h
      · exact .inr ⟨z, List.mem_cons_of_mem _ hz, h⟩
theorem tl_toS (x : Tx) : TL.tl (toS x) = x := by simp [TL.tl, toS]
theorem ev_join {m1 : M Tx} {m2 : M (List Tx)} {apos : Pos} (ok : Ok p sc NN VV GG k g) (ha : EvE g L a md tStr m1) (hb : EvE g L b md (tList tStr) m2)
    (hs : starEach [b] g.X.env = [(false, eval b g.X.env)] := by rfl) (hbase : attributeBase a "join" g.X.env (eval a g.X.env) = eval a g.X.env := by rfl) (hline : (apos.endLine == pos.line) = true := by rfl) :
    EvE g L (.Call (.Attribute a "join" apos) [b] [] pos) md' tStr (m1.bind fun s => m2.bind fun xs => joinM s xs) :=
  ev_sm1 (T := tList tStr) ok PySem.F.slot_str_join PySem.F.type_str_join mt_join (fun {d e y R H Q} rb hd ⟨a, vs, ey, h, r⟩ q => by
    obtain ⟨ev, ho⟩ := r.strs
    unfold joinM at q
    split at q
    · rename_i hz
      refine ⟨toS d, a, e.map toS, rfl, by rw [ey], .inl (by rw [← ev, ok.K]; exact sq_of rb h), ?_, ?_⟩
      · rw [List.map_map, show (fun x : Str => x.length) ∘ toS = List.length from funext toS_len, List.length_map, toS_len]; exact hz
      · refine q _ _ (Same.refl _) ⟨?_, Nat.le_trans (joinL_len d e) (Nat.le_trans hz (by decide)), fun c hc => ?_⟩
        · show V.str _ = V.str _
          congr 1
          rw [TL.join_eq]
          refine TL.ext_tl ?_
          rw [TL.tl_join, tl_toS, tl_toS, List.map_map, show TL.tl ∘ toS = id from funext tl_toS, List.map_id]
        · rcases joinL_mem d e hc with h | ⟨z, hz, h⟩
          · exact hd.2 c h
          · exact (ho z hz).2 c h
    · exact q.elim) (fun _ _ _ => joinM_ne) ha hb hs hbase hline
def tO (fm : Fm) (W : Wx) (L : List Slot) (m : M (Option Int)) : TO := fun σ H Q => ∃ kp own, At fm kp L σ H own ∧
  match m with
  | .ok d => ∀ H', Same H H' → Q d H'
  | .ex c => ∀ H', Same H H' → W c σ H'
  | .no => False
def EvO (g : G) (L : List Slot) (e : Option Expr) (m : M (Option Int)) : Prop := PO g.X e (tO g.fm g.W L m)
theorem PO.imp {X : Cx} {e : Option Expr} {t t' : TO} (h : PO X e t) (k : ∀ σ H Q, t' σ H Q → t σ H Q) : PO X e t' := ⟨fun pins s σ H Q I q => h.run pins s σ H Q I (k _ _ _ q)⟩
theorem evo_none : EvO g L none (.ok none) := PO.imp po_none fun σ H Q ⟨kp, own, at_, q⟩ => q H (Same.refl H)
theorem evo_some {m : M Int} (h : EvE g L e md tInt m) : EvO g L (some e) (m.bind fun i => .ok (some i)) := PO.imp (po_some h) fun σ H Q q => by
  cases m with
  | ok d => obtain ⟨kp, own, at_, q⟩ := q; exact ⟨kp, own, at_, fun v H' s r => ⟨d, r, q H' s⟩⟩
  | ex c => exact q
  | no => exact q
def FinO (W : Wx) (σ : L2.St) (H : Hp) (Q : Option Int → Hp → Prop) : M (Option Int) → Prop
  | .ok d => ∀ H', Same H H' → Q d H'
  | .ex c => ∀ H', Same H H' → W c σ H'
  | .no => False
theorem tO_iff {fm : Fm} {W : Wx} {m : M (Option Int)} {σ : L2.St} {H : Hp} {Q : Option Int → Hp → Prop} : tO fm W L m σ H Q ↔ ∃ kp own, At fm kp L σ H own ∧ FinO W σ H Q m := by
  cases m <;> exact Iff.rfl
theorem subO {fm : Fm} {W : Wx} {kp : RdR} {own : List Addr} {σ : L2.St} {H0 H : Hp} {F : M β → Prop} {m : M (Option Int)} {f : Option Int → M β} {K : Option Int → Hp → Prop} (hF : Fin W σ H0 F) (s0 : Same H0 H) (at_ : At fm kp L σ H own) (q : F (m.bind f))
    (h : ∀ d H1, Same H H1 → At fm kp L σ H1 own → F (f d) → K d H1) : tO fm W L m σ H K := by
  refine tO_iff.mpr ⟨kp, own, at_, ?_⟩
  cases m with
  | ok d => exact fun H1 s => h d H1 s (at_.ext s) q
  | ex c => exact fun H' s => hF.ex q H' (s0.trans s)
  | no => exact hF.no q
def cutL {α : Type} (xs : List α) (lo hi : Option Int) : List α := (xs.drop (HT.sIx xs.length 0 lo)).take (HT.sIx xs.length xs.length hi - HT.sIx xs.length 0 lo)
theorem Reps.cut {R : RdR} {ds : List α} {vs : List V} (h : Reps S R ds vs) (lo hi : Option Int) : Reps S R (cutL ds lo hi) (L2.cutV vs lo hi) := by
  unfold cutL L2.cutV
  rw [h.length]
  exact (h.drop _).take _
theorem cutL_len {xs : List α} {lo hi : Option Int} : (cutL xs lo hi).length ≤ xs.length := by
  unfold cutL
  rw [List.length_take, List.length_drop]
  omega
theorem cutL_mem {xs : List α} {lo hi : Option Int} {d : α} (h : d ∈ cutL xs lo hi) : d ∈ xs := List.mem_of_mem_drop (List.mem_of_mem_take h)
variable {lo hi : Option Expr} {ml mh : M (Option Int)} {p2 : Pos}
theorem ev_slS {m : M Tx} (ok : Ok p sc NN VV GG k g) (ha : EvE g L a md tStr m) (hl : EvO g L lo ml) (hh : EvO g L hi mh) : EvE g L (.Subscript a (.Slice lo hi none p2) pos) md' tStr (m.bind fun x => ml.bind fun l => mh.bind fun h => .ok (cutL x l h)) := by
  refine PE.imp (pe_slice sl_str ha hl hh) fun σ H Q q => ?_
  obtain ⟨kp, own, at_, q⟩ := tE_iff.mp q
  refine sub finE (Same.refl H) at_ q fun d x H1 s1 r1 at1 q1 => subO finE s1 at1 q1 fun l H2 s2 at2 q2 => subO finE (s1.trans s2) at2 q2 fun h H3 s3 at3 q3 => ?_
  refine ⟨toS d, r1.1, by rw [toS_len]; exact r1.2.1, q3 _ H3 ((s1.trans s2).trans s3) ⟨?_, Nat.le_trans cutL_len r1.2.1, fun c hc => r1.2.2 c (cutL_mem hc)⟩⟩
  show V.str _ = V.str _
  congr 1
def repM {α : Type} (xs : List α) (n : Int) : M (List α) := if -(2 ^ 63) ≤ n ∧ n < 2 ^ 63 ∧ xs.length * n.toNat ≤ sizeLine then .ok (List.replicate n.toNat xs).flatten else .no
theorem Reps.rep {R : RdR} {ds : List α} {vs : List V} (h : Reps S R ds vs) : ∀ n : Nat, Reps S R (List.replicate n ds).flatten (List.replicate n vs).flatten
  | 0 => .nil
  | n + 1 => by rw [List.replicate_succ, List.flatten_cons, List.replicate_succ, List.flatten_cons]; exact h.append (Reps.rep h n)
/-- xs * n: xs just made -/
theorem evl_rep {m : M (List α)} {mn : M Int} (ok : Ok p sc NN VV GG k g) (ha : EvL g L a md S m) (hb : EvE g L b md tInt mn) : EvL g L (.BinOp a .Mult b pos) md S (m.bind fun x => mn.bind fun n => repM x n) := by
  refine PE.imp (pe_op op_rep ha hb) fun σ H Q q => ?_
  obtain ⟨kp, own, at_, q⟩ := tL_iff.mp q
  refine tL_iff.mpr ⟨kp, own, at_, ?_⟩
  cases m with
  | ex c => exact q
  | no => exact q.elim
  | ok xs =>
  intro q1 vs H1 s1 n1 h1 r1
  have at1 := at_.ext s1
  have q' : FinL g.fm g.W own σ H md S Q (mn.bind fun n => repM xs n) := q
  refine sub finL s1 at1 q' fun n y H2 s2 r2 at2 q2 => ?_
  have q2 : FinL g.fm g.W own σ H md S Q (repM xs n) := q2
  unfold repM at q2
  split at q2
  · rename_i hz
    refine ⟨q1, n, vs, rfl, r2, s2.keep _ _ h1 rfl, hz.1, hz.2.1, by rw [← r1.length]; exact hz.2.2, fun z hz => q2 z _ _ ((s1.trans s2).trans (newSame hz)) ((s1.trans s2).free hz) upd_same ?_⟩
    exact ((r1.mono fun a o w => RX.same s2 a o (RX.drop1 a o w)).rep _).mono (RX.add hz)
  · exact q2.elim
/-- one sign in a text -/
def inSM (x s : Tx) : M Bool := match x with
  | [c] => .ok (decide (c ∈ s))
  | _ => .no
def notinSM (x s : Tx) : M Bool := match x with
  | [c] => .ok (!decide (c ∈ s))
  | _ => .no
theorem inSM_ne {x s : Tx} {c : Ec} : inSM x s ≠ .ex c := by unfold inSM; split <;> exact fun h => nomatch h
theorem notinSM_ne {x s : Tx} {c : Ec} : notinSM x s ≠ .ex c := by unfold notinSM; split <;> exact fun h => nomatch h
theorem ev_inS {m1 m2 : M Tx} (ok : Ok p sc NN VV GG k g) (ha : EvE g L a md tStr m1) (hb : EvE g L b md tStr m2) (hk : behindInMarks .In b = false := by first | exact nomark _ (by decide) (by decide) | rfl) : EvE g L (.Compare a [.In] [b] pos) md' tBool (m1.bind fun x => m2.bind fun y => inSM x y) :=
  ev_cmp (fr := true) ok op_in_sign ⟨fun {d e x y R H Q} rb rx ry q => by
    unfold inSM at q
    split at q
    · rename_i c
      exact ⟨c, toS e, rx.1, ry.1, q _ _ (Same.refl _) (by show V.bl _ = V.bl _; rw [show (toS e).cps.toList = e from tl_toS e])⟩
    · exact q.elim⟩ (fun _ _ _ => inSM_ne) .fresh ha hb hk
inductive ArAt : {δ α : Type} → Ar δ → Int → Ty α → (δ → α) → Prop where
  | z {α δ : Type} {T : Ty α} {A : Ar δ} : ArAt (aCons T A) 0 T (fun d => d.1)
  | s {α β δ : Type} {T : Ty α} {S : Ty β} {A : Ar δ} {n : Int} {f : δ → α} : ArAt A n T f → ArAt (aCons S A) (n + 1) T (fun d => f d.2)
theorem ArAt.nat {n : Int} {f : δ → α} (h : ArAt A n S f) : 0 ≤ n := by
  induction h with
  | z => omega
  | s _ ih => omega
theorem ArAt.get {n : Int} {f : δ → α} (h : ArAt A n S f) : ∀ {d : δ} {vs : List V} {R : RdR}, A.rep d vs R → ∃ v, vs[n.toNat]? = some v ∧ S.rep (f d) v R := by
  induction h with
  | z => intro d vs R ⟨v, r, e, h1, h2⟩; subst e; exact ⟨v, rfl, h1⟩
  | s h ih =>
    intro d vs R ⟨v, r, e, h1, h2⟩
    subst e
    obtain ⟨w, h3, h4⟩ := ih h2
    have := h.nat
    refine ⟨w, ?_, h4⟩
    rename_i n _
    rw [show (n + 1).toNat = n.toNat + 1 by omega, List.getElem?_cons_succ]
    exact h3
theorem ev_ixA {n : Int} {f : δ → α} {m : M δ} (ok : Ok p sc NN VV GG k g) (hA : ArAt A n S f) (ha : EvE g L a md (tTup A) m) (hb : EvE g L b md tInt (.ok n)) (hs : PlainIx b := by exact fun _ _ => rfl) : EvE g L (.Subscript a b pos) md S (m.bind fun t => .ok (f t)) :=
  ev_ix (S := tTup A) (r := rIxT p.K) (m2 := .ok ()) (f := fun t _ => .ok (f t)) (T := tLit n) (fr := false) ok (by rw [← ok.K]; exact ix_tup) ⟨fun {d e x y R H Q} rb ⟨a, vs, ex, h, r⟩ ry q => by
    obtain ⟨v, h1, h2⟩ := hA.get r
    refine ⟨a, vs, n, v, ex, ry, st_of rb h, ?_, q _ _ (Same.refl _) (S.mono h2 (Nw.old rfl))⟩
    have := atI_nat (xs := vs) (j := n.toNat) h1
    rwa [Int.toNat_of_nonneg hA.nat] at this⟩ (fun _ _ _ h => nomatch h) .same ha (ev_lit hb) hs
variable {st : List Stmt} {D : δ → Out} {d : δ}
/-- if c: raise X("..") -/
theorem evb_ifr {mc : M Bool} {m2 : M δ} {y : Str} {ec : Ec} {jj : Nat} {msg : Str} {q1 q2 q3 q4 : Pos} (ok : OkS p sc NN VV GG k g) (wk : Wk L g.LX) (X : ExF p y ec) (hG : GG[j]? = some y) (hc : EvT g L c mc) (hr : EvB g L st D m2) :
    EvB g L (.If c [.Raise (some (.Call (.Name y q1) [.Constant (.str msg) jj q2] [] q3)) none q4] [] pos :: st) D (mc.bind fun c => if c = true then .ex ec else m2) := by
  refine PSs.imp (pss_cons (ps_if hc (evb_raise (D := fun _ : Unit => Out.bad) (st := []) (pos := q4) (msg := msg) (jj := jj) (pp := q1) (p2 := q2) (p3 := q3) ok wk X hG) pss_nil) hr) fun E σ H ⟨kp, own, at_, q⟩ => ?_
  cases mc with
  | ok c =>
    refine ⟨kp, own, at_, fun H1 s => ?_⟩
    cases c with
    | true => exact ⟨kp, own, at_.ext s, q⟩
    | false => exact ⟨kp, own, at_.ext s, q⟩
  | ex c => exact ⟨kp, own, at_, BOk.exx wk at_ q⟩
  | no => exact q.elim
end
end Hd
namespace Hd
open PySem PySem.Spec L2
section
variable {p : Pr} {sc : Scope} {NN VV GG VV' GG' : List Str} {k : Nat} {g : G} {L L' : List Slot} {a b c e e' : Expr} {es : List Expr} {md md' : Md} {α β γ δ ρ : Type} {S : Ty α} {T : Ty β} {U : Ty γ} {A : Ar δ} {pos : Pos} {K : PySem.W.Frag} {tg : Expr} {i j : Nat} {x : Str}
/-- a list of the written part -/
def KList (K : PySem.W.Frag) (a : Addr) (xs : List V) : Prop := ∃ (o : Obj) (its : Array Value) (n : Nat), K.lookup a = some o ∧ o.cls = .type "list" ∧ o.dict = none ∧ o.data = .seq its n ∧ its.size ≤ sizeLine ∧ Vals xs its.toList
/-- a list that is but read -/
def tListK {α : Type} (K : PySem.W.Frag) (T : Ty α) : Ty (List α) := ⟨fun ds v R => ∃ a vs, v = .ref a ∧ (R a (.lst vs) ∨ KList K a vs) ∧ Reps T R ds vs, fun ⟨a, vs, e, r, h⟩ s => ⟨a, vs, e, r.imp (s _ _) id, h.mono s⟩⟩
structure IsSq (K : PySem.W.Frag) (Q : Ty (List α)) (S : Ty α) : Prop where
  sq : ∀ {d v R H}, Rdb K R H → Q.rep d v R → ∃ a vs, v = .ref a ∧ SqL K H a vs ∧ Reps S R d vs
theorem sq_l : IsSq K (tList S) S := ⟨fun rb ⟨a, vs, e, h, r⟩ => ⟨a, vs, e, sq_of rb h, r⟩⟩
theorem sq_k : IsSq K (tListK K S) S := ⟨fun rb ⟨a, vs, e, h, r⟩ => ⟨a, vs, e, h.elim (sq_of rb) .inr, r⟩⟩
variable {Q : Ty (List α)}
theorem ev_ixQ {mx : M (List α)} {mi : M Int} (ok : Ok p sc NN VV GG k g) (hq : IsSq p.K Q S) (ha : EvE g L a md Q mx) (hb : EvE g L b md tInt mi) (hs : PlainIx b := by exact fun _ _ => rfl) : EvE g L (.Subscript a b pos) md S (mx.bind fun xs => mi.bind fun i => getM xs i) :=
  ev_ix (S := Q) (r := rIxL p.K) (fr := false) ok (by rw [← ok.K]; exact ix_list) ⟨fun {d e x y R H W} rb rx ry q => by
    obtain ⟨a, vs, ex, h, r⟩ := hq.sq rb rx
    unfold getM at q
    cases hj : L2.atI d e with
    | none => rw [hj] at q; exact q.elim
    | some u =>
      rw [hj] at q
      obtain ⟨v, h1, h2⟩ := r.at hj
      exact ⟨a, vs, e, v, ex, ry, h, h1, q _ _ (Same.refl _) (S.mono h2 (Nw.old rfl))⟩⟩ (fun _ _ _ => getM_ne) .same ha hb hs
theorem ev_lenQ {mx : M (List α)} {pp : Pos} (ok : Ok p sc NN VV GG k g) (hq : IsSq p.K Q S) (hG : GG[j]? = some "len") (hmg : p.mg "len" = none) (ha : EvE g L e md Q mx) (hs : starEach [e] g.X.env = (false, eval e g.X.env) :: starEach [] g.X.env := by rfl) : EvE g L (.Call (.Name "len" pp) [e] [] pos) md' tInt (mx.bind fun xs => .ok (xs.length : Int)) :=
  ev_b1 (S := Q) (fr := true) ok call_len_seq (fun {d v R H W} rb h q => by
    obtain ⟨a, vs, e, hs, r⟩ := hq.sq rb h
    exact ⟨a, vs, by rw [e], .inl (by rw [ok.K]; exact hs), q _ _ (Same.refl _) (by show _ = V.int _; rw [r.length])⟩) (fun _ _ h => nomatch h) .fresh hG hmg PySem.boot_len ha hs
theorem evi_seq {m : M (List α)} (ok : Ok p sc NN VV GG k g) (hq : IsSq p.K Q S) (he : EvE g L e md Q m) : EvI g L tg e S m := by
  refine PI.imp (pi_list he) fun σ H R ⟨kp, own, at_, q⟩ => ?_
  refine tE_iff.mpr ⟨kp, own, at_, ?_⟩
  cases m with
  | ok xs =>
    intro v H' s rx
    have rx' : Q.rep xs v (RD g.fm own H') := Q.mono rx RX.sh
    have rb0 : Rdb p.K (RD g.fm own H') H' := by rw [← ok.fmK]; exact RD.rdb
    obtain ⟨a, vs, rfl, h, r⟩ := hq.sq rb0 rx'
    refine ⟨a, rfl, ⟨vs, by rw [ok.K]; exact h⟩, ?_⟩
    rw [show Itl g.X.K a = Itl g.fm.K a from by rw [ok.K, ok.fmK]]
    refine q (Itl g.fm.K a) H' s fun H2 rb i => ?_
    obtain ⟨a', vs', e', hs, r2⟩ := hq.sq (by rw [← ok.fmK]; exact rb) rx'
    cases e'
    rw [← ok.fmK] at hs
    refine ⟨fun d hd => ?_, fun hn => ⟨vs', hs, ?_⟩⟩
    · obtain ⟨v, h1, h2⟩ := r2.get hd
      refine ⟨⟨vs', v, hs, h1⟩, fun x H3 ⟨e, hx⟩ => ?_⟩
      subst e
      have := hx vs' hs
      rw [h1] at this
      cases this
      exact ⟨Same.refl _, S.mono h2 fun a o z => .inl ⟨rfl, z⟩⟩
    · rw [List.getElem?_eq_none_iff, r2.length] at hn
      exact hn
  | ex c => exact q
  | no => exact q
variable {lo hi : Option Expr} {ml mh : M (Option Int)} {p2 : Pos}
theorem evl_slQ {m : M (List α)} (ok : Ok p sc NN VV GG k g) (hq : IsSq p.K Q S) (ha : EvE g L a md Q m) (hl : EvO g L lo ml) (hh : EvO g L hi mh) : EvL g L (.Subscript a (.Slice lo hi none p2) pos) md S (m.bind fun x => ml.bind fun l => mh.bind fun h => .ok (cutL x l h)) := by
  refine PE.imp (pe_slice sl_list ha hl hh) fun σ H W q => ?_
  obtain ⟨kp, own, at_, q⟩ := tL_iff.mp q
  refine sub finL (Same.refl H) at_ q fun d x H1 s1 r1 at1 q1 => subO finL s1 at1 q1 fun l H2 s2 at2 q2 => subO finL (s1.trans s2) at2 q2 fun h H3 s3 at3 q3 => ?_
  have r3 : Q.rep d x (RX g.fm own H H3 md) := Q.mono r1 (RX.same (s2.trans s3))
  obtain ⟨ad, vs, e, h3, rr⟩ := hq.sq (by rw [← ok.fmK]; exact RX.rdb) r3
  refine ⟨ad, vs, e, by rw [ok.K]; exact h3, fun z hz => q3 z (L2.cutV vs l h) _ (((s1.trans s2).trans s3).trans (newSame hz)) (((s1.trans s2).trans s3).free hz) upd_same ?_⟩
  exact (rr.cut l h).mono (RX.add hz)
theorem evl_copyQ {mx : M (List α)} {pp : Pos} (ok : Ok p sc NN VV GG k g) (hq : IsSq p.K Q S) (hG : GG[j]? = some "list") (hmg : p.mg "list" = none) (ha : EvE g L e md Q mx) (hs : starEach [e] g.X.env = (false, eval e g.X.env) :: starEach [] g.X.env := by rfl) : EvL g L (.Call (.Name "list" pp) [e] [] pos) md S mx := by
  obtain ⟨hg, ho⟩ := ok.gl hG
  obtain ⟨h1, _, h3⟩ := okName_d ho
  refine PE.imp (pe_callTy call_list_of hg (by rw [ok.mg]; exact hmg) (by decide +kernel) (eva_cons ha eva_nil hs) h3 h1 hs rfl) fun σ H W q => ?_
  obtain ⟨kp, own, at_, q⟩ := tL_iff.mp q
  refine tA_iff.mpr ⟨kp, own, at_, ?_⟩
  cases mx with
  | ok d =>
    rintro vs H1 s1 ⟨v, r, rfl, rx, e3⟩
    cases (show r = [] from e3)
    obtain ⟨a, ws, rfl, h, rr⟩ := hq.sq (by rw [← ok.fmK]; exact RX.rdb) rx
    exact ⟨a, ws, rfl, .inl (by rw [ok.K]; exact h), fun l hl => q l ws _ (s1.trans (newSame hl)) (s1.free hl) upd_same (rr.mono (RX.add hl))⟩
  | ex c => exact q
  | no => exact q
theorem evpts_nil : PTs g.X [] (tT g.fm g.W L (.ok true)) := ⟨fun pins s σ H Q I ⟨kp, own, at_, q⟩ => pts_nil.run pins s σ H Q I (q H (Same.refl H))⟩
variable {st : List Stmt} {D : δ → Out} {d : δ}
structure NotNon (S : Ty α) : Prop where
  nn : ∀ {d v R}, S.rep d v R → v ≠ .non
theorem ev_some {m : M α} (hn : NotNon S) (h : EvE g L e md S m) : EvE g L e md (tOpt S) (m.bind fun d => .ok (some d)) :=
  ev_as (T := tOpt S) (d2 := some) (fun d v R r => ⟨r, hn.nn r⟩) h
theorem ev_isN {m : M (Option α)} {j1 : Nat} {p1 : Pos} (ok : Ok p sc NN VV GG k g) (ha : EvE g L a md (tOpt S) m) : EvE g L (.Compare a [.Is] [.Constant .none j1 p1] pos) md' tBool (m.bind fun d => .ok d.isNone) := by
  have h := ev_cmp (pos := pos) (md' := md') (S := tOpt S) (T := tNone) (U := tBool) (fr := true) (f := fun d _ => .ok d.isNone) ok op_isN ⟨fun {d e x y R H W} rb rx ry q => ⟨ry, q _ _ (Same.refl _) (by
    show _ = V.bl _
    cases d with
    | none => cases (show x = .non from rx); rfl
    | some d => rw [decide_eq_false rx.2]; rfl)⟩⟩ (fun _ _ _ h => nomatch h) .fresh ha (ev_none (j := j1) (pos := p1)) (by first | exact nomark _ (by decide) (by decide) | rfl)
  have e : (m.bind fun d => (M.ok ()).bind fun _ => M.ok d.isNone) = m.bind fun d => .ok d.isNone := by cases m <;> rfl
  rwa [e] at h
def unM {α : Type} : Option α → M α
  | some d => .ok d
  | none => .no
/-- what is known not to be None -/
theorem ev_un1 {m : M (Option α)} (h : EvE g L e md (tOpt S) m) : EvE g L e md S (m.bind unM) := PE.imp h fun σ H Q q => by
  obtain ⟨kp, own, at_, q⟩ := tE_iff.mp q
  refine tE_iff.mpr ⟨kp, own, at_, ?_⟩
  cases m with
  | ok d =>
    cases d with
    | none => exact q.elim
    | some d => exact fun v H' s r => q v H' s r.1
  | ex c => exact q
  | no => exact q
end
end Hd
namespace Hd
open PySem PySem.Spec L2
def fuel : Nat := 1000000000
theorem M.bok {α β : Type} (a : α) (f : α → M β) : M.bind (.ok a) f = f a := by
  have h : ∀ m : M α, m = .ok a → M.bind m f = f a := fun m e => by rw [e]; rfl
  exact h _ rfl
section
variable {p : Pr} {sc : Scope} {NN VV GG VV' GG' : List Str} {k : Nat} {g : G} {L L' : List Slot} {a b c e e' : Expr} {es : List Expr} {md md' : Md} {α β γ δ ρ : Type} {S : Ty α} {T : Ty β} {U : Ty γ} {A : Ar δ} {pos : Pos} {K : PySem.W.Frag} {tg : Expr} {i j : Nat} {x : Str}
/-- how many items -/
def LenM (n : Nat) (m : M (List α)) : Prop := ∀ ds, m = .ok ds → ds.length = n
theorem ln0 : LenM 0 (.ok ([] : List α)) := fun ds h => by cases h; rfl
theorem lnS {n : Nat} {m1 : M α} {m2 : M (List α)} (h : LenM n m2) : LenM (n + 1) (m1.bind fun d => m2.bind fun e => .ok (d :: e)) := fun ds q => by
  cases m1 with
  | ok d =>
    cases m2 with
    | ok e => cases q; rw [List.length_cons, h e rfl]
    | ex c => cases q
    | no => cases q
  | ex c => cases q
  | no => cases q
theorem evl_lstN {n : Nat} {m : M (List α)} (h : LenM n m) (hn : n ≤ 1000) (ha : EvA g L es md (aAll S) m) : EvL g L (.List es pos) md S m := evl_lst (fun ds q => by rw [h ds q]; exact hn) ha
def isLoc (sc : Scope) (y : Str) : Bool := (match sc.kind with | .function => true | _ => false) && match sc.names.lookup y with | some .local => true | _ => false
theorem isLoc_k {sc : Scope} {y : Str} (h : isLoc sc y = true) : sc.kind = .function ∧ sc.names.lookup y = some .local := by
  unfold isLoc at h
  rw [Bool.and_eq_true] at h
  obtain ⟨h1, h2⟩ := h
  constructor
  · split at h1
    · assumption
    · cases h1
  · split at h2
    · assumption
    · cases h2
variable {st : List Stmt} {D : δ → Out} {y : Str} {py spos cpos : Pos} {elt it : Expr} {ifs : List Expr} {scope : Scope} {tp : Pos} {s₀ : Slot}
theorem pureT {m : M Bool} {v : Bool} (h : EvT g L e m) (q : m = .ok v) : EvT g L e (.ok v) := q ▸ h
theorem pureW {m : M Bool} {v : Bool} (h : EvW g L e m) (q : m = .ok v) : EvW g L e (.ok v) := q ▸ h
theorem pureE {m : M α} {v : α} (h : EvE g L e md S m) (q : m = .ok v) : EvE g L e md S (.ok v) := q ▸ h
end
end Hd
namespace Hd
open PySem PySem.Spec L2
theorem fnCx {P : Program} {w : World} {K : PySem.W.Frag} {mg : Str → Option Value} {base : Heap} {CX CX' : CXT} {k : Nat} {f : Addr} {fd : FuncData} {ps : List Str} {sp : Sp} (F : FnOk P w K mg base CX k f fd ps sp)
    (h : ∀ outer H s E u s', CX outer H s E u s' → CX' outer H s E u s') : FnOk P w K mg base CX' k f fd ps sp :=
  ⟨F.len, fun A outer s H args us vs Q E hr he hb hv hs => codeAny_mono (F.run A outer s H args us vs Q E hr he hb hv hs) fun r s' q => by
    cases r with
    | error e => exact h _ _ _ _ _ _ q
    | ok fl => cases fl <;> exact q⟩
def CXw (P : Program) : CXT := fun outer H s E u s' => ∃ w, L2.CX P w outer H s E u s'
def ecName : Ec → Str
  | .weave => "WeaveError"
  | .noRow => "NoRow"
  | .tooLarge => "TooLarge"
  | .noCloth => "NoCloth"
  | .noDraft => "NoDraft"
  | .noStrand => "NoStrand"
  | .noDeed => "NoDeed"
  | .noLaying => "NoLaying"
  | .noShuttle => "NoShuttle"
  | .noColour => "NoColour"
  | .noBlock => "NoBlock"
  | .noPattern => "NoPattern"
  | .unknown => "Unknown"
  | .twice => "Twice"
theorem reps_ints {R : RdR} : ∀ ns : List Int, Reps tInt R ns (ns.map V.int)
  | [] => .nil
  | n :: r => .cons rfl (reps_ints r)
theorem law_end {l : PySem.W.OpenLaw} {k : Nat} {q : Program} {loose : List Str} {XP : (Str → Option Value) → Heap → Prop} {YP : World → Heap → Prop} {d : DefRec} {cl : List Int × Unit → M Bool}
    (hn : l.most = some 63) (hdf : d.params.defaults = []) (hr : Room k callerA)
    (F : ∀ (w : World) (mg : Str → Option Value) (fa : Addr) (h : Heap), YP w h → h.Ns mainGlobals mg → mg d.name = some (.ref fa) →
      ∃ (K : PySem.W.Frag) (fd : FuncData) (C : Ec → Addr), K.In h ∧ (∀ (s : Shared) (u : Value), BindsTo s fd ⟨[u], []⟩ [("script", u)]) ∧
        ∀ base : Heap, FnOk l.prog w K mg base (L2.CX l.prog w) k fa fd ["script"] (spM ⟨l.prog, w, K, mg, base, C, none⟩ (aCons (tListK K tInt) aNil) (fun r => .rt false tBool r) cl))
    (math : ∀ ns : List Int, ns.length ≤ 63 → cl (ns, ()) = .ok true) : PySem.W.WalkO q loose XP YP l.row.toRowW d [] (fun f vs => PySem.call f vs) := by
  refine L2.walk_ofE (CX := CXw l.prog) (x := "script") (k := k) hn (by decide) hdf hr (fun w mg fa h Y G hm => ?_) (fun H s e s' z => ?_)
  · obtain ⟨K, fd, C, KX, hb, hF⟩ := F w mg fa h Y G hm
    refine ⟨K, fd, spM ⟨l.prog, w, K, mg, h, C, none⟩ (aCons (tListK K tInt) aNil) (fun r => .rt false tBool r) cl, KX, hb, fun H a ns hl hO hS => ?_, fun base _ _ => fnCx (hF base) fun _ _ _ _ _ _ z => ⟨w, z⟩⟩
    refine ⟨(ns, ()), fun _ => False, ⟨fun _ z => z.elim, fun P e => nomatch e⟩, ⟨.ref a, [], rfl, ⟨a, ns.map V.int, rfl, hS.imp (fun r => .inl ⟨Rd.clo r, (fun z => nomatch z), fun z => z⟩) id, reps_ints ns⟩, rfl⟩, ?_⟩
    rw [math ns hl]
    exact fun v H' s r => r
  · obtain ⟨w, a, B, H', cls, d, _, _, _, _, _, _, _, z⟩ := z
    exact z
theorem exF {K : PySem.W.Frag} {h : Heap} {mg : Str → Option Value} {P : Program} {w : World} {base : Heap} {T : Option Addr} (X : K.In h) (G : h.Ns mainGlobals mg) {x : Str} {c : Ec} (e : ecName c = x) (c1 : (He.Fa.glo x).ok K = true) (c2 : (He.Fa.exc x).ok K = true) : ExF ⟨P, w, K, mg, base, fun c => He.ga K (ecName c), T⟩ x c := by
  subst e
  obtain ⟨h1, h2, h3, h4⟩ := He.exc_ok c2
  exact ⟨h1, He.glo_ok X G c1, h2, h3, h4⟩
theorem L2_bindsA {K : PySem.W.Frag} {x qual : Str} {params : Arguments} {body : List Stmt} {scope : Scope} {f : Addr} {fd : FuncData} (F : FunD K x qual params body scope [] [] f fd) (s : Shared) (v : Value)
    (h : ∀ (kV doc pm : Value) (an : Option Addr) (cdv ct : Value) (us : List Value), us.length = (["script"] : List Str).length → bindArgs (PySem.W.fnOf x qual params body scope .none kV doc pm an cdv ct) ⟨us, []⟩ = pure ((["script"] : List Str).zip us) := by
      exact fun _ _ _ _ _ _ us hl => match us, hl with | [_], _ => rfl) : BindsTo s fd ⟨[v], []⟩ [("script", v)] := F.bindsA (ps := ["script"]) h s [v] rfl
end Hd
namespace Hd
open PySem PySem.Spec L2
section
variable {p : Pr} {sc : Scope} {NN VV GG VV' GG' : List Str} {k : Nat} {g : G} {L L' : List Slot} {a b c e e' : Expr} {es : List Expr} {md md' : Md} {α β γ δ ρ : Type} {S : Ty α} {T : Ty β} {U : Ty γ} {A : Ar δ} {pos : Pos} {K : PySem.W.Frag} {tg : Expr} {i j : Nat} {x : Str} {pp : Pos}
theorem ev_ixOwn {bb : Bool} {ds : List α} {mi : M Int} {npos : Pos} (ok : Ok p sc NN VV GG k g) (hN : NN[i]? = some x) (hV : VV[j]? = some x) (hL : L[i]? = some (sOwn bb S ds)) (hb : EvE g L b .sh tInt mi) (hs : PlainIx b := by exact fun _ _ => rfl) :
    EvE g L (.Subscript (.Name x npos) b pos) .sh S (mi.bind fun i => getM ds i) := by
  obtain ⟨hv, ho⟩ := ok.vis hV
  obtain ⟨h1, h2, _⟩ := okName_d ho
  refine PE.imp (pe_ix ix_list (pe_var (i := i) (by rw [ok.N]; exact hN) hv h1 h2) hb hs) fun σ H Q q => ?_
  obtain ⟨kp, own, at_, q⟩ := tE_iff.mp q
  obtain ⟨Fs, hA, rfl⟩ := at_.sl
  obtain ⟨v, F, e1, e2, pp, vs, rfl, rfl, hp, r⟩ := hA.get hL
  refine ⟨_, e1, sub finE (Same.refl H) at_ q fun n y H2 s2 r2 at2 q2 => ?_⟩
  unfold getM at q2
  cases hj : L2.atI ds n with
  | none => rw [hj] at q2; exact q2.elim
  | some u =>
    rw [hj] at q2
    obtain ⟨w, w1, w2⟩ := r.at hj
    refine ⟨pp, vs, n, w, rfl, r2, .inl (.inl (s2.keep _ _ hp rfl)), w1, q2 w H2 s2 (S.mono w2 fun a o z => ?_)⟩
    have z1 : RX g.fm Fs.flatten H H (if bb then .f0 else .sh) a o := z
    exact RX.same s2 a o (RX.sh a o z1)
variable {Q : Ty (List α)}
variable {Q2 : Ty (List β)}
variable {st : List Stmt} {D : δ → Out} {d : δ}
end
end Hd
namespace Hd
open PySem PySem.Spec L2
def ExQ (cls : Value) (a : Addr) : HO := .ext fun h => ∃ (oe : Obj) (vs : Array Value), h.get? a = some oe ∧ Zc cls none oe ∧ oe.data = .fields vs
theorem exQ_ok {P : Program} {w : World} {H : Hp} {h : Heap} {a : Addr} {cls : Value} {oe : Obj} {vs : Array Value} (e : h.get? a = some oe) (z : Zc cls none oe) (dd : oe.data = .fields vs) : ObjOk P w H h a (ExQ cls a) :=
  ⟨⟨oe, vs, e, z, dd⟩, ⟨oe, e⟩, fun _ _ ⟨o, v, q, r⟩ k => ⟨o, v, k o q, r⟩⟩
section
variable {X : Cx} {pins : List (Addr × Obj)} {σ : L2.St} {H : Hp} {s : Shared}
theorem track {a : Addr} {oe : Obj} {vs : Array Value} {cls : Value} (I : Inv X pins σ H s) (he : s.heap.get? a = some oe) (hz : Zc cls none oe) (hd : oe.data = .fields vs) (na : H a = none) (nL : a ≠ X.env.locals)
    (nC : ∀ y z, X.env.cells.lookup y = some z → z ≠ a) (nP : ∀ r ∈ X.pn ++ pins, r.1 ≠ a) (n0 : X.s_0.heap.get? a = none) : Inv X pins σ (upd H a (ExQ cls a)) s := by
  have ne : ∀ {b : Addr} {u : HO}, H b = some u → b ≠ a := fun e z => by rw [z, na] at e; cases e
  refine ⟨I.ok, I.os, I.bare, ⟨I.base.keep, I.base.slot, fun b o e n hx => ?_, I.base.there, fun b xs e => ?_, fun b o u e => ?_, fun b ps e => ?_⟩, I.loc, I.cell, ?_, fun y z e => ?_, fun r hr => ?_, fun b o e => ?_, I.len⟩
  · rw [upd_ne (fun z => by rw [z, n0] at e; cases e)]; exact I.base.free b o e n hx
  · have := I.base.tups b xs e
    rw [upd_ne (ne this)]; exact this
  · have := I.base.frzs b o u e
    rw [upd_ne (ne this)]; exact this
  · obtain ⟨more, this⟩ := I.base.tbls b ps e
    exact ⟨more, by rw [upd_ne (ne this)]; exact this⟩
  · rw [upd_ne (Ne.symm nL)]; exact I.free
  · rw [upd_ne (nC y z e)]; exact I.freeC y z e
  · obtain ⟨p1, p2, p3⟩ := I.pin r hr
    exact ⟨p1, by rw [upd_ne (nP r hr)]; exact p2, p3⟩
  · by_cases hb : b = a
    · subst hb
      rw [upd_same] at e
      cases e
      exact exQ_ok he hz hd
    · rw [upd_ne hb] at e
      exact (I.hok b o e).stay (fun c v _ q => q) (fun c q => by rw [upd_ne (ne q)]; exact q) fun c xs q => by rw [upd_ne (ne q)]; exact q
end
/-- what the clause wishes of an exception of the body -/
def wKp (K : PySem.W.Frag) (c : Value) (i : Nat) (ts : Addr → Value → Option Addr → TS) (Wout : WX) (D : Ends) : WX := fun cls dd σ H =>
  ∃ b, PySem.W.exmOne K cls c = some b ∧ (b = true → dd = none ∧ ∀ a, H a = none → ts a cls dd { nx := fun τ Hq => D.nx (τ.set i none) (upd Hq a (ExQ cls a)), rt := fun _ _ => False, bk := fun _ _ => False, ct := fun _ _ => False } (σ.set i (some (.ref a))) H) ∧ (b = false → Wout cls dd σ H)
section
variable {Y : Cx} {x n : Str} {c : Value} {i : Nat} {body suite : List Stmt} {b₀ : Stmt} {np pos pos' : Pos} {tb : WX → TS} {ts : Addr → Value → Option Addr → TS} {Wout : WX}
theorem ps_keep (hs : Y.stack = Y.env :: Y.outer) (hf : Y.env.frame = some Y.env.locals) (hex : Y.ex = []) (hN : Y.N.Nodup) (hi : Y.N[i]? = some n) (hln : Y.env.kindOf n = some .local) (hc : Names Y x c) (tk : Takes Y Wout)
    (hb : ∀ (W : WX) (pn : List (Addr × Obj)) (xe : Value → Shared → Prop), Takes (Y.tr pn xe) W → PassesOwn (model Y.prog Y.w) Y.A Y.env xe → PSs (Y.tr pn xe) body (tb W))
    (hsu : ∀ (ad : Addr) (oE : Obj) (cl : Value) (dd : Option Addr) (pn : List (Addr × Obj)), Zc cl dd oE → (∃ vs, oE.data = .fields vs) → PSs (Y.suite ad ((ad, oE) :: pn)) (b₀ :: suite) (ts ad cl dd)) :
    PS Y (.Try body [.ExceptHandler (some (.Name x np)) (some n) (b₀ :: suite) pos'] [] [] pos) (fun D σ H => tb (wKp Y.K c i ts Wout D) D σ H) := by
  refine ⟨fun pz s σ H D I h => ?_⟩
  have oK := I.ok
  have hfR : Y.A.frames = some (Y.env :: Y.outer) := by rw [oK.frames, hs]
  have hlC : Loc Y.env.scope n := .inl hln
  refine wpAny_Try_except ?_
  refine wpAny_mono ((hb (wKp Y.K c i ts Wout D) (Y.pn ++ pz) (fun e s₁ => wpAny (model Y.prog Y.w) Y.A (noteFrame e Y.env) (fun _ s₂ => wpAny (model Y.prog Y.w) Y.A (setFlight e none) (fun _ s₃ =>
    wpAny (model Y.prog Y.w) Y.A (handleBy e Y.env [.ExceptHandler (some (.Name x np)) (some n) (b₀ :: suite) pos']) (SP Y pz D) Y.xe s₃) Y.xe s₂) Y.xe s₁) (fun u sq xx => ?_) PassesOwn.looking).run [] s σ H D (I.toTry _) h) (fun f s1 hp => ?_) (fun e s1 hE => hE)
  · -- the catch
    obtain ⟨ad, B, sJ, py, τ, Hq, cl, dd, rfl, Jq, nB, uP, sKy, nA, oS, aG, b, bb1, hY, hN0⟩ := xx
    have Jz : Inv Y pz τ Hq sJ := Jq.ofTry oK
    have sKq : Sky B (Y.env :: Y.outer) ad (Zc cl dd) Y.env.locals sq.heap := by rw [← hs]; exact sKy
    show wpAny (model Y.prog Y.w) Y.A (noteFrame (.ref ad) Y.env) _ _ _
    refine Sky.land Zc.steady hfR hf sKq fun k3 fL uQ => ?_
    have Jt : Inv Y pz τ Hq { sq with heap := k3 } := Jz.landed nB fL.1 (uP.trans uQ) oS aG
    obtain ⟨oT, vT, eT, zT, dT⟩ := fL.there
    have nFr : ∀ {h : Heap} {o : Obj} {vs : Array Value}, h.FunFrames B (Y.env :: Y.outer) → h.get? ad = some o → o.data = .fields vs → ad ∉ frs (Y.env :: Y.outer) := fun {h o vs} ff e dd hm => by
      obtain ⟨_, o', e', hnf⟩ := ff.mem hm
      rw [e] at e'; cases e'
      exact hnf _ dd
    have nfq := nFr fL.2.2.1 eT dT
    have nL : ad ≠ Y.env.locals := fun z => nfq (List.mem_filterMap.mpr ⟨Y.env, List.mem_cons_self, by rw [hf, z]⟩)
    have nF : ad ∉ Y.fs := fun hm => by
      obtain ⟨e, hE, q⟩ := List.mem_filterMap.mp hm
      exact nfq (List.mem_filterMap.mpr ⟨e, List.mem_cons_of_mem _ hE, q⟩)
    have St := Jt.suite eT dT nA nL nF
    refine wpAny_handleBy_cons (codeAny_handlers_test ?_) (by intro q; cases q)
    have lT : PySem.W.Looks (model Y.prog Y.w) k3 (typeOf (.ref ad)) cl := fun A Q E s k q => wpAny_typeOf_ref (k _ _ eT) (by rw [zT.1]; exact q)
    have lM := PySem.W.exm_one (M := model Y.prog Y.w) (Jt.kIn) lT bb1
    have tst : ∀ {Q : Value → Shared → Prop} {E : Value → Shared → Prop}, Q c { sq with heap := k3 } → wpAny (model Y.prog Y.w) (Y.A.mark (some (.ref ad))) (eval (.Name x np) Y.env) Q E { sq with heap := k3 } := fun {Q E} q => by
      obtain ⟨hg, hdbg, hm | ⟨hm, hv, hnn⟩⟩ := hc
      · exact ld_glob (X := Y.suite ad ((ad, oT) :: (Y.pn ++ pz))) St hg hm q hdbg
      · exact ld_blt (X := Y.suite ad ((ad, oT) :: (Y.pn ++ pz))) St hg hm hv q hnn hdbg
    refine tst (lM.here ?_)
    cases b with
    | true =>
      obtain rfl := (hY rfl).1
      refine codeAny_handlers_suite_as ?_
      refine HandSPX.lands_againZ fL fun k4 fM uR => ?_
      have Ju : Inv Y pz τ Hq { sq with heap := k4 } := Jz.landed nB fM.1 ((uP.trans uQ).trans uR) oS aG
      obtain ⟨oU, vU, eU, zU, dU⟩ := fM.there
      have Su := Ju.suite eU dU nA nL nF
      refine store_ok (X := Y.suite ad ((ad, oU) :: (Y.pn ++ pz))) (v := .ref ad) Su hN hi hlC rfl (fun sv Sv => ?_) (.inr hln)
      refine wpAny_mono ((hsu ad oU cl none (Y.pn ++ pz) zU ⟨_, dU⟩).run [] sv _ Hq _ Sv ((hY rfl).2 ad nA)) (fun f sw hp => ?_) (fun _ _ z => False.elim z)
      have none_ : ∀ o, sJ.heap.get? ad = some o → False := fun o e => by
        have z := nB ad o e (by rw [hs]; exact nfq)
        rw [fM.2.1] at z
        cases z
      have n0 : Y.s_0.heap.get? ad = none := by
        cases e : Y.s_0.heap.get? ad with
        | none => rfl
        | some o =>
          obtain ⟨o2, e2⟩ := Jz.base.there ad o e (by rw [hex]; exact fun z => nomatch z)
          exact (none_ o2 e2).elim
      have nC : ∀ y z, Y.env.cells.lookup y = some z → z ≠ ad := fun y z e w => by
        obtain ⟨v, o, e2, _⟩ := Jz.cell y z e
        rw [w] at e2
        exact none_ o e2
      have nP : ∀ r ∈ Y.pn ++ pz, r.1 ≠ ad := fun r hr w => by
        have e2 := (Jz.pin r hr).1
        rw [w] at e2
        exact none_ _ e2
      cases f with
      | next =>
        obtain ⟨τw, Hw, Sw, qw⟩ := hp
        obtain ⟨g1, g2, _⟩ := Sw.pin (ad, oU) (List.mem_append.mpr (.inl List.mem_cons_self))
        exact gone_ok (track (Sw.unsuite oK) g1 zU dU g2 nL nC nP n0) hN hi hln fun sx Jx => ⟨_, _, Jx, qw⟩
      | brk =>
        obtain ⟨τw, Hw, Sw, qw⟩ := hp
        exact qw.elim
      | cont =>
        obtain ⟨τw, Hw, Sw, qw⟩ := hp
        exact qw.elim
      | ret u =>
        obtain ⟨v6, τw, Hw, Sw, r6, qw⟩ := hp
        exact qw.elim
    | false =>
      show wpAny _ Y.A (handleBy (.ref ad) Y.env []) _ _ _
      refine wpAny_handleBy_nil ?_
      obtain ⟨_, _, _, oE, vs, T, oT, _, hE, hz, hd, h1, hr⟩ := id fL
      unfold PySem.passOn
      refine wpAny_bind (wpAny_field hE hd h1 ?_)
      rw [if_neg (show ¬ ((Value.ref T == Value.none) = true) from by simp)]
      have fIn : wpAny (model Y.prog Y.w) Y.A (setFlight (.ref ad) Y.env.frame) (fun _ s4 => wpAny (model Y.prog Y.w) Y.A (throw (.ref ad) : Sem Flow) (SP Y pz D) Y.xe s4) Y.xe { sq with heap := k3 } := by
        rw [hf]
        refine HandSPX.setFlight_upZ fL fun k4 hh4 uR => wpAny_throw (tk _ _ ?_)
        exact ⟨ad, B, sJ, pz, τ, Hq, cl, dd, rfl, Jz, nB, (uP.trans uQ).trans uR, .inr (.inr (by rw [hs]; exact hh4)), nA, oS, aG, hN0 rfl⟩
      first
        | exact wpAny_bind (wpAny_pure (wpAny_bind fIn))
        | exact wpAny_bind fIn
  · cases f with
    | next =>
      obtain ⟨τ, Hq, Jq, q⟩ := hp
      exact wpAny_execs_nil ⟨τ, Hq, Jq.ofTry oK, q⟩
    | brk =>
      obtain ⟨τ, Hq, Jq, q⟩ := hp
      exact ⟨τ, Hq, Jq.ofTry oK, q⟩
    | cont =>
      obtain ⟨τ, Hq, Jq, q⟩ := hp
      exact ⟨τ, Hq, Jq.ofTry oK, q⟩
    | ret u =>
      obtain ⟨v, τ, Hq, Jq, r, q⟩ := hp
      exact ⟨v, τ, Hq, Jq.ofTry oK, r, q⟩
end
end Hd
namespace Hd
open PySem PySem.Spec L2
/-- c stands under d -/
def isB (c d : Ec) : Bool := decide (d = c) || decide (d = .weave)
/-- a caught refusal -/
def tExc (p : Pr) : Ty Ec := ⟨fun c v R => ∃ a, v = .ref a ∧ R a (ExQ (.ref (p.C c)) a), fun ⟨a, e, h⟩ s => ⟨a, e, s _ _ h⟩⟩
/-- a class of refusals, as a value -/
def tCls (p : Pr) : Ty Ec := ⟨fun c v _ => v = .ref (p.C c), fun h _ => h⟩
/-- what the head tells of the classes -/
structure Kn (p : Pr) (kn : List Ec) : Prop where
  isc : ∀ c ∈ kn, ExcC p.K (p.C c)
  exm : ∀ c ∈ kn, ∀ d ∈ kn, PySem.W.exmOne p.K (.ref (p.C c)) (.ref (p.C d)) = some (isB c d)
  kit : ∀ c ∈ kn, ∀ d ∈ kn, PySem.W.kitOne p.K (.ref (p.C c)) (.ref (p.C d)) = some (isB c d)
  kitV : ∀ c ∈ kn, PySem.W.kitOne p.K (.ref (p.C c)) (.type "ValueError") = some true
  kitN : ∀ c ∈ kn, PySem.W.kitOne p.K (.type "NoneType") (.ref (p.C c)) = some false
def tryM {β : Type} (kn : List Ec) (cx : Ec) (mb : M β) (h : Ec → β) : M β := match mb with
  | .ok s => .ok s
  | .ex c => if c ∈ kn then (if isB c cx = true then .ok (h c) else .ex c) else .no
  | .no => .no
section
variable {p : Pr} {sc : Scope} {NN VV GG VV' GG' : List Str} {k : Nat} {g : G} {L L' : List Slot} {a b c e e' : Expr} {es : List Expr} {md md' : Md} {α β γ δ ρ : Type} {S : Ty α} {T : Ty β} {U : Ty γ} {A : Ar δ} {pos : Pos} {K : PySem.W.Frag} {tg : Expr} {i j : Nat} {x : Str} {pp : Pos}
theorem At.setAnyV {fm : Fm} {kp : RdR} {σ : L2.St} {H : Hp} {own : List Addr} {v : Option V} (h : At fm kp L σ H own) : ∃ own', At fm kp (L.set i sAny) (σ.set i v) H own' ∧ ∀ p ∈ own', p ∈ own := by
  obtain ⟨h1, h2, ⟨Fs, h3, rfl⟩, h4, h5, h6⟩ := h
  have kk : ∀ p ∈ (Fs.set i []).flatten, p ∈ Fs.flatten := fun p hp => (set_sub (i := i)).subset hp
  exact ⟨_, ⟨h1, h2, ⟨Fs.set i [], (h3.st (RB.own kk) fun _ _ => rfl).set (s := sAny) (v := v) rfl i, rfl⟩, h4.sublist set_sub, fun p hp => h5 p (kk p hp), fun a o q => RX.own (md := .sh) (H := H) kk a o (h6 a o q)⟩, kk⟩
theorem wkL (h : g.LX = L') (w : Wk L L') : Wk L g.LX := h ▸ w
variable {st : List Stmt} {D : δ → Out} {d : δ}
/-- try: body / except X as e: y = e -/
theorem evb_tryA {kn : List Ec} {cx : Ec} {mb : M β} {h : Ec → β} {f : β → M δ} {LJ : β → List Slot} {body : List Stmt} {n y : Str} {iE iC jE jC : Nat} {np pos' p1 p2 p3 : Pos} (ok : OkS p sc NN VV GG k g) (wk : Wk L g.LX) (hkn : Kn p kn) (hcx : cx ∈ kn) (hx : p.mg x = some (.ref (p.C cx))) (hG : GG[j]? = some x)
    (hNE : NN[iE]? = some n) (hVE : VV[jE]? = some n) (hlE : isLoc sc n = true) (hNC : NN[iC]? = some y) (hVC : VV[jC]? = some y) {s₀ : Slot} (hLE : L[iE]? = some s₀)
    (hb : ∀ g', OkS p sc NN VV GG k g' → g'.LX = L → EvB g' L body (fun s => .nx (LJ s)) mb)
    (hh : ∀ c, Wk (((L.set iE sAny).set iC (sV false (tOpt (tExc p)) (some c))).set iE sAny) (LJ (h c))) (hr : ∀ s, EvB g (LJ s) st D (f s)) (hs : ∀ Y : Cx, swapsWith (.Name n p1) (some (.Name y p2)) p3.line Y.env = pure false := by intro _; rfl) :
    EvB g L (.Try body [.ExceptHandler (some (.Name x np)) (some n) [.Assign [.Name y p2] (.Name n p1) p3] pos'] [] [] pos :: st) D ((tryM kn cx mb h).bind f) := by
  obtain ⟨hg, ho⟩ := ok.gl hG
  obtain ⟨hvE, hoE⟩ := ok.vis hVE
  obtain ⟨n1, n2, _⟩ := okName_d hoE
  obtain ⟨_, hlE2⟩ := isLoc_k hlE
  have elE : g.X.env.scope.names.lookup n = some .local := by rw [ok.scp]; exact hlE2
  refine PSs.imp (pss_cons (ps_keep (i := iE) (c := .ref (p.C cx)) (tb := fun W D σ H => ∃ q : {W'' : Wx // ∀ c σ H, W'' c σ H → W (.ref (p.C c)) none σ H}, tB ⟨g.X, g.fm, q.1, L⟩ L (fun s => Out.nx (LJ s)) mb D σ H)
    (ts := fun ad cl dd => tAsg (tVar iE) (gName iC)) (Wout := fun cls d σ H => ∃ c, cls = .ref (p.C c) ∧ d = none ∧ g.W c σ H) ok.stk ok.frm ok.exn (by rw [ok.N]; exact ok.nd) (by rw [ok.N]; exact hNE) elE ⟨hg, (okName_d ho).1, .inl (by rw [ok.mg]; exact hx)⟩ ok.tk
    (fun W pn xe tkW psO => ?_) (fun ad oE cl dd pn _ _ => ?_)) (PSs.ex hr)) fun E σ H ⟨kp, own, at_, q⟩ => ?_
  · refine PSs.ex (t := fun (q : {W'' : Wx // ∀ c σ H, W'' c σ H → W (.ref (p.C c)) none σ H}) => tB ⟨g.X, g.fm, q.1, L⟩ L (fun s => Out.nx (LJ s)) mb) fun q => ?_
    exact hb ⟨g.X.tr pn xe, g.fm, q.1, L⟩
      { prog := ok.prog, w := ok.w, K := ok.K, mg := ok.mg, base := ok.base, N := ok.N, fmK := ok.fmK, tab := ok.tab, room := ok.room, nd := ok.nd, vis := ok.vis, gl := ok.gl
        tk := Takes.imp tkW fun cls d σ H ⟨c, e1, e2, z⟩ => by subst e1; subst e2; exact q.2 c σ H z
        calm := ok.calm, blk := ok.blk, loc := ok.loc, fnT := ok.fnT, psO := psO, scp := ok.scp, stk := ok.stk, frm := ok.frm, exn := ok.exn } rfl
  · exact pss_one (ps_set (i := iC) (by show g.X.N.Nodup; rw [ok.N]; exact ok.nd) (by show g.X.N[iC]? = _; rw [ok.N]; exact hNC) (ok.loc hVC) (pe_var (i := iE) (by show g.X.N[iE]? = _; rw [ok.N]; exact hNE) hvE n1 n2) (hs _) (.inl (ok.fnT y)))
  · have cont : ∀ c σ' H', c ∈ kn → isB c cx = true → (∃ own', At g.fm kp L σ' H' own') → BOk g kp E D (f (h c)) → ∀ ad, H' ad = none →
        ∃ d, tB g (LJ d) D (f d) E (((σ'.set iE (some (.ref ad))).set iC (some (.ref ad))).set iE none) (upd H' ad (ExQ (.ref (p.C c)) ad)) := fun c σ' H' _ _ ⟨own', a'⟩ qc ad hn => by
      have a1 := a'.ext (newSame (o := ExQ (.ref (p.C c)) ad) hn)
      obtain ⟨own2, a2, k2⟩ := At.setAnyV (i := iE) (v := some (.ref ad)) a1
      have hrep : (tOpt (tExc p)).rep (some c) (.ref ad) (RB g.fm own2 (upd H' ad (ExQ (.ref (p.C c)) ad)) false) := by
        refine ⟨⟨ad, rfl, .inl ⟨.inl (cl_of upd_same), fun z => ?_, fun z => ?_⟩⟩, fun z => nomatch z⟩
        · exact (a'.new ad (k2 ad z)).1 hn
        · exact a'.zin ad z hn
      obtain ⟨own3, a3⟩ := a2.setV (i := iC) (b := false) (T := tOpt (tExc p)) (d := some c) (v := .ref ad) hrep
      obtain ⟨own4, a4, _⟩ := At.setAnyV (i := iE) (v := none) a3
      obtain ⟨own5, a5, _⟩ := a4.weak (hh c)
      exact ⟨h c, kp, own5, a5, qc⟩
    refine ⟨⟨fun c σ' H' => (c ∈ kn → isB c cx = true → ∀ ad, H' ad = none → ∃ d, tB g (LJ d) D (f d) E (((σ'.set iE (some (.ref ad))).set iC (some (.ref ad))).set iE none) (upd H' ad (ExQ (.ref (p.C c)) ad))) ∧ (c ∈ kn) ∧ (isB c cx = false → g.W c σ' H') ∧ iE < σ'.length, fun c σ' H' ⟨z1, z2, z3, z4⟩ => ?_⟩, kp, own, at_, ?_⟩
    · refine ⟨isB c cx, by rw [ok.K]; exact hkn.exm c z2 cx hcx, fun hB => ⟨rfl, fun ad hn => ⟨.ref ad, by rw [List.getElem?_set_self z4], z1 z2 hB ad hn⟩⟩, fun hB => ⟨c, rfl, rfl, z3 hB⟩⟩
    · cases mb with
      | ok s => exact fun σ' H' own' a' => ⟨s, kp, own', a', q⟩
      | no => exact q.elim
      | ex c =>
        intro σ' H' own' a'
        have q : BOk g kp E D (((if c ∈ kn then (if isB c cx = true then M.ok (h c) else .ex c) else .no) : M β).bind f) := q
        by_cases hc : c ∈ kn
        · rw [if_pos hc] at q
          have hlen : iE < σ'.length := by rw [a'.len]; exact (List.getElem?_eq_some_iff.mp hLE).1
          refine ⟨fun _ hB ad hn => ?_, hc, fun hB => ?_, hlen⟩
          · rw [if_pos hB] at q
            exact cont c σ' H' hc hB ⟨own', a'⟩ q ad hn
          · rw [if_neg (by rw [hB]; exact Bool.false_ne_true)] at q
            obtain ⟨own2, a2, _⟩ := a'.weak wk
            exact q σ' H' own2 a2
        · rw [if_neg hc] at q; exact q.elim
def KitQ (K : PySem.W.Frag) (H : Hp) (v : V) (t : Value) : Prop := (v = .non ∧ t = .type "NoneType") ∨ ∃ a D, v = .ref a ∧ t = .ref D ∧ ExcC K D ∧ L2.Rd H a (ExQ (.ref D) a)
theorem kit_q {X : Cx} {pins : List (Addr × Obj)} {σ : L2.St} {H : Hp} {s : Shared} {v : V} {u t : Value} (I : Inv X pins σ H s) (rx : RelV v u) (q : KitQ X.K H v t) : ∃ P : Heap → Prop, PySem.W.KitX X.K u t P ∧ P s.heap ∧ u ≠ .builtin "__main__.__loader__#opaque" := by
  rcases q with ⟨rfl, rfl⟩ | ⟨a, D, rfl, rfl, C, h⟩
  · cases (show u = Value.none from rx)
    exact ⟨_, PySem.W.kitx_none, True.intro, fun z => nomatch z⟩
  · cases (show u = Value.ref a from rx)
    obtain ⟨⟨oe, vs, he, hz, hd⟩, _⟩ := (show ObjOk X.prog X.w H s.heap a (ExQ (.ref D) a) from h.ok I.hok)
    have J : PySem.W.InstAt s.heap a oe D none := by
      obtain ⟨oc, od, oda, osl⟩ := oe
      obtain ⟨h1, h2⟩ := hz
      dsimp only at h1 h2 hd
      subst h1 h2 hd
      exact ⟨he, rfl, rfl, trivial⟩
    exact ⟨_, PySem.W.handS_kitx_exc C.hg C.hk C.hs C.hd C.ha C.hn C.ht C.hm, J, fun z => nomatch z⟩
def rIsQ (K : PySem.W.Frag) : List V → Hp → VK → Prop := fun xs H Q => ∃ (x c : V) (t u : Value) (b : Bool), xs = [x, c] ∧ ClsV c u ∧ KitQ K H x t ∧ PySem.W.kitOne K t u = some b ∧ Q (.bl b) H
theorem call_isQ {X : Cx} : CallR X (.builtin "isinstance") (rIsQ X.K) := by
  intro pins s σ H xs us Q I r h
  obtain ⟨x, c, t, u, b, rfl, k, ty, e, q⟩ := h
  cases r with
  | cons r1 rr =>
    cases rr with
    | cons r2 rr =>
      cases rr
      have e2 := k.eq r2
      subst e2
      obtain ⟨P, Z, hP, hx⟩ := kit_q I r1 ty
      exact PySem.W.kia_one Z I.kIn hP e hx fun tk => ⟨.bl b, H, I.tok tk, rfl, q⟩
/-- isinstance(caught, X), X a class of refusals -/
def isEM (kn : List Ec) (c : Option Ec) (d : Ec) : M Bool := match c with
  | none => .ok false
  | some c => if c ∈ kn then .ok (isB c d) else .no
theorem isEM_ne {kn : List Ec} {c : Option Ec} {d : Ec} {z : Ec} : isEM kn c d ≠ .ex z := by unfold isEM; split <;> (try split) <;> exact fun h => nomatch h
theorem ev_cls {cc : Ec} (ok : Ok p sc NN VV GG k g) (hG : GG[j]? = some x) (hx : p.mg x = some (.ref (p.C cc))) : EvE g L (.Name x pos) md (tCls p) (.ok cc) := ev_glob (v := .ref (p.C cc)) ok hG hx rfl (fun _ => rfl)
theorem kitQ_some {kn : List Ec} (hkn : Kn p kn) {c : Ec} (hc : c ∈ kn) {R : RdR} {H : Hp} {v : V} (rb : Rdb p.K R H) (h : (tExc p).rep c v R) : KitQ p.K H v (.ref (p.C c)) := by
  obtain ⟨a, e, h⟩ := h
  exact .inr ⟨a, p.C c, e, rfl, hkn.isc c hc, (rb _ _ h rfl).resolve_right fun z => z⟩
theorem ev_isE {kn : List Ec} {dd : Ec} {m : M (Option Ec)} (ok : Ok p sc NN VV GG k g) (hkn : Kn p kn) (hd : dd ∈ kn) (hG : GG[j]? = some "isinstance") (hmg : p.mg "isinstance" = none) (ha : EvE g L a md (tOpt (tExc p)) m) (hb : EvE g L b md (tCls p) (.ok dd))
    (hs1 : starEach [a, b] g.X.env = (false, eval a g.X.env) :: starEach [b] g.X.env := by rfl) (hs2 : starEach [b] g.X.env = (false, eval b g.X.env) :: starEach [] g.X.env := by rfl)
    (hpl : (backTo pos (starEach [b] g.X.env)).any (·.1) = false := by rfl) : EvE g L (.Call (.Name "isinstance" pp) [a, b] [] pos) md' tBool (m.bind fun c => isEM kn c dd) := by
  have h := ev_b2 (S := tOpt (tExc p)) (T := (⟨fun _ v _ => v = .ref (p.C dd), fun h _ => h⟩ : Ty Unit)) (md' := md') (U := tBool) (f := fun c _ => isEM kn c dd) (m2 := .ok ()) (fr := true) (pp := pp) (pos := pos) ok call_isQ (fun {d e v w R H W} rb h1 h2 q => by
    unfold isEM at q
    cases d with
    | none =>
      cases (show v = .non from h1)
      exact ⟨.non, w, .type "NoneType", .ref (p.C dd), false, rfl, by rw [h2]; exact .own _, .inl ⟨rfl, rfl⟩, by rw [ok.K]; exact hkn.kitN dd hd, q _ _ (Same.refl _) rfl⟩
    | some c =>
      by_cases hc : c ∈ kn
      · simp only [if_pos hc] at q
        exact ⟨v, w, .ref (p.C c), .ref (p.C dd), isB c dd, rfl, by rw [h2]; exact .own _, by rw [ok.K]; exact kitQ_some hkn hc rb h1.1, by rw [ok.K]; exact hkn.kit c hc dd hd, q _ _ (Same.refl _) rfl⟩
      · simp only [if_neg hc] at q
        exact q.elim) (fun _ _ _ => isEM_ne) .fresh hG hmg (by decide +kernel) ha (ev_asP (T := (⟨fun _ v _ => v = .ref (p.C dd), fun h _ => h⟩ : Ty Unit)) (d2 := ()) (fun v R r => r) hb) hs1 hs2 hpl
  have e : (m.bind fun d => (M.ok ()).bind fun _ => isEM kn d dd) = m.bind fun c => isEM kn c dd := by cases m <;> rfl
  rwa [e] at h
end
end Hd
namespace Hd
open PySem PySem.Spec L2
section
variable {p : Pr} {sc : Scope} {NN VV GG VV' GG' : List Str} {k : Nat} {g : G} {L L' : List Slot} {a b c e e' : Expr} {es : List Expr} {md md' : Md} {α β γ δ ρ : Type} {S : Ty α} {T : Ty β} {U : Ty γ} {A : Ar δ} {pos : Pos} {K : PySem.W.Frag} {tg : Expr} {i j : Nat} {x : Str} {pp : Pos}
variable {st : List Stmt} {D : δ → Out} {d : δ}
def tAny : Ty Unit := ⟨fun _ _ _ => True, fun h _ => h⟩
end
def excCB (K : PySem.W.Frag) (D : Addr) : Bool :=
  He.eqO (PySem.W.findIn K (.ref D) "__getattribute__") (some (some (.builtin "BaseException.__getattribute__"))) && (He.eqO (PySem.W.findIn K (.ref D) "__getattr__") (some none) && (decide (PySem.W.subIn K (.ref D) (.type "BaseException") = some true) && (PySem.W.hasDictIn K D &&
    (He.eqO (PySem.W.findIn K (.ref D) "__class__") (some (some (.builtin "object.__class__"))) && (He.eqO (PySem.W.specialIn K (.builtin "object.__class__") "__get__") (some (some (.builtin "getset_descriptor.__get__"))) && (decide (PySem.W.takesIn K (.builtin "object.__class__") = some true) && decide (PySem.W.mroIn K D (.type "object") = some true)))))))
theorem excCB_ok {K : PySem.W.Frag} {D : Addr} (h : excCB K D = true) : ExcC K D := by
  obtain ⟨h1, h⟩ := He.ba h
  obtain ⟨h2, h⟩ := He.ba h
  obtain ⟨h3, h⟩ := He.ba h
  obtain ⟨h4, h⟩ := He.ba h
  obtain ⟨h5, h⟩ := He.ba h
  obtain ⟨h6, h⟩ := He.ba h
  obtain ⟨h7, h8⟩ := He.ba h
  exact ⟨He.eqO_ok h1, He.eqO_ok h2, of_decide_eq_true h3, h4, He.eqO_ok h5, He.eqO_ok h6, of_decide_eq_true h7, of_decide_eq_true h8⟩
def knB (kn : List Ec) (K : PySem.W.Frag) : Bool := kn.all fun c => excCB K (He.ga K (ecName c)) && (kn.all (fun d => decide (PySem.W.exmOne K (.ref (He.ga K (ecName c))) (.ref (He.ga K (ecName d))) = some (isB c d)) && decide (PySem.W.kitOne K (.ref (He.ga K (ecName c))) (.ref (He.ga K (ecName d))) = some (isB c d))) &&
  (decide (PySem.W.kitOne K (.ref (He.ga K (ecName c))) (.type "ValueError") = some true) && decide (PySem.W.kitOne K (.type "NoneType") (.ref (He.ga K (ecName c))) = some false)))
theorem kn_ok {kn : List Ec} {K : PySem.W.Frag} {P : Program} {w : World} {mg : Str → Option Value} {base : Heap} {T : Option Addr} (h : knB kn K = true) : Kn ⟨P, w, K, mg, base, fun c => He.ga K (ecName c), T⟩ kn := by
  have key := fun c hc => List.all_eq_true.mp h c hc
  refine ⟨fun c hc => ?_, fun c hc d hd => ?_, fun c hc d hd => ?_, fun c hc => ?_, fun c hc => ?_⟩
  · exact excCB_ok (He.ba (key c hc)).1
  · have h1 := (He.ba (He.ba (key c hc)).2).1
    exact of_decide_eq_true (He.ba (List.all_eq_true.mp h1 d hd)).1
  · have h1 := (He.ba (He.ba (key c hc)).2).1
    exact of_decide_eq_true (He.ba (List.all_eq_true.mp h1 d hd)).2
  · exact of_decide_eq_true (He.ba (He.ba (He.ba (key c hc)).2).2).1
  · exact of_decide_eq_true (He.ba (He.ba (He.ba (key c hc)).2).2).2
def clsBody : Stmt → List Stmt
  | .ClassDef _ _ _ b _ _ _ _ _ _ _ => b
  | _ => []
end Hd
namespace Hd
open PySem PySem.Spec L2
section
variable {p : Pr} {sc : Scope} {NN VV GG : List Str} {k : Nat} {g : G} {α : Type} {S : Ty α}
variable {L : List Slot} {a b : Expr} {md md' : Md} {pos : Pos}
theorem evt_inS {m1 m2 : M Tx} (ok : Ok p sc NN VV GG k g) (ha : EvE g L a md tStr m1) (hb : EvE g L b md tStr m2) (hk : behindInMarks .In b = false := by first | exact nomark _ (by decide) (by decide) | rfl) : EvT g L (.Compare a [.In] [b] pos) (m1.bind fun x => m2.bind fun y => inSM x y) :=
  evt_cmp (fr := true) ok op_in_sign ⟨fun {d e x y R H Q} rb rx ry q => by
    unfold inSM at q
    split at q
    · rename_i c
      exact ⟨c, toS e, rx.1, ry.1, q _ _ (Same.refl _) (by show V.bl _ = V.bl _; rw [show (toS e).cps.toList = e from tl_toS e])⟩
    · exact q.elim⟩ (fun _ _ _ => inSM_ne) ha hb hk
theorem evt_notinS {m1 m2 : M Tx} (ok : Ok p sc NN VV GG k g) (ha : EvE g L a md tStr m1) (hb : EvE g L b md tStr m2) (hk : behindInMarks .NotIn b = false := by first | exact nomark _ (by decide) (by decide) | rfl) : EvT g L (.Compare a [.NotIn] [b] pos) (m1.bind fun x => m2.bind fun y => notinSM x y) :=
  evt_cmp (fr := true) ok op_notIn_sign ⟨fun {d e x y R H Q} rb rx ry q => by
    unfold notinSM at q
    split at q
    · rename_i c
      exact ⟨c, toS e, rx.1, ry.1, q _ _ (Same.refl _) (by show V.bl _ = V.bl _; rw [show (toS e).cps.toList = e from tl_toS e])⟩
    · exact q.elim⟩ (fun _ _ _ => notinSM_ne) ha hb hk
end
end Hd
namespace Hd
open PySem PySem.Spec L2
section
variable {X : Cx} {p : Pr} {sc : Scope} {NN VV GG : List Str} {k : Nat} {g : G} {L : List Slot} {a b e tg : Expr} {md md' : Md} {pos pp : Pos} {j : Nat} {α β : Type} {S : Ty α} {T : Ty β}
theorem flat_arr (d : Tx) : ∀ n : Nat, ((List.replicate n d.toArray).foldl (· ++ ·) #[]) = (List.replicate n d).flatten.toArray := by
  have key : ∀ (n : Nat) (acc : Array Nat), ((List.replicate n d.toArray).foldl (· ++ ·) acc) = acc ++ (List.replicate n d).flatten.toArray := by
    intro n
    induction n with
    | zero => intro acc; simp
    | succ n ih => intro acc; rw [List.replicate_succ, List.foldl_cons, ih, List.replicate_succ, List.flatten_cons]; simp
  intro n
  rw [key n]
  simp
theorem flat_len {α : Type} (d : List α) : ∀ n : Nat, (List.replicate n d).flatten.length = d.length * n
  | 0 => by simp
  | n + 1 => by rw [List.replicate_succ, List.flatten_cons, List.length_append, flat_len d n, Nat.mul_succ, Nat.add_comm]
def rRepS : R2 := fun x y H Q => ∃ (d : Tx) (n : Int), x = .str (toS d) ∧ y = .int n ∧ -(2 ^ 63) ≤ n ∧ n < 2 ^ 63 ∧ d.length * n.toNat ≤ sizeLine ∧ Q (.str (toS (List.replicate n.toNat d).flatten)) H
theorem op_rep_str : OpR X (binaryOp .Mult) rRepS := by
  intro pins s σ H x y v u Q I rx ry h
  obtain ⟨d, n, rfl, rfl, h1, h2, h3, q⟩ := h
  obtain ⟨t, rfl⟩ := rx
  obtain ⟨t', rfl⟩ := ry
  have hz : sizeLine < 2 ^ 40 := by decide
  have hl : (toS d).length = d.length := toS_len d
  refine P.mul_str (by simp; omega) (fun a b => ?_) (fun a b => ?_) ?_
  · rw [hl]
    intro z
    have hn : 0 < n := by omega
    have : ((2 ^ 63 - 1 : Int)) / n < d.length := z
    have h4 := (Int.ediv_lt_iff_lt_mul hn).mp this
    have h5 : ((d.length * n.toNat : Nat) : Int) = (d.length : Int) * n := by push_cast; rw [Int.toNat_of_nonneg (by omega)]
    omega
  · rw [hl]; show decide (_ > sizeLine) = false; exact decide_eq_false (by omega)
  · by_cases c : n < 1
    · rw [if_pos c]
      have e : n.toNat = 0 := by omega
      rw [e] at q
      exact ⟨by decide, ⟨.str (toS (List.replicate 0 d).flatten), H, I.tok _, ⟨_, rfl⟩, q⟩⟩
    · rw [if_neg c]
      by_cases c2 : (n == 1 || (toS d).length == 0) = true
      · rw [if_pos c2]
        have e : (List.replicate n.toNat d).flatten = d := by
          rw [hl] at c2
          simp only [Bool.or_eq_true, beq_iff_eq] at c2
          rcases c2 with e | e
          · subst e; simp
          · have : d = [] := List.length_eq_zero_iff.mp e
            subst this
            simp
        rw [e] at q
        exact ⟨.str (toS d), H, I, ⟨_, rfl⟩, q⟩
      · rw [if_neg c2]
        refine ⟨?_, ⟨.str (toS (List.replicate n.toNat d).flatten), H, I.tok _, ⟨s.toks, ?_⟩, q⟩⟩
        · show _ ≤ sizeLine
          have e : (⟨(List.replicate n.toNat (toS d).cps).foldl (· ++ ·) #[]⟩ : Str) = toS (List.replicate n.toNat d).flatten := congrArg Str.mk (flat_arr d n.toNat)
          rw [e, toS_len, flat_len]
          omega
        · show Value.str _ _ = Value.str _ _
          congr 1
          show Str.mk _ = Str.mk _
          congr 1
          exact flat_arr d n.toNat
def repS (x : Tx) (n : Int) : M Tx := if -(2 ^ 63) ≤ n ∧ n < 2 ^ 63 ∧ x.length * n.toNat ≤ sizeLine then .ok (List.replicate n.toNat x).flatten else .no
theorem repS_ne {x : Tx} {n : Int} {c : Ec} : repS x n ≠ .ex c := by unfold repS; split <;> exact fun h => nomatch h
theorem ev_repS {ma : M Tx} {mb : M Int} (ok : Ok p sc NN VV GG k g) (ha : EvE g L a md tStr ma) (hb : EvE g L b md tInt mb) : EvE g L (.BinOp a .Mult b pos) md' tStr (ma.bind fun x => mb.bind fun n => repS x n) :=
  ev_op2 (fr := true) ok op_rep_str ⟨fun {d e x y R H Q} rb rx ry q => by
    unfold repS at q
    split at q
    · rename_i h
      refine ⟨d, e, rx.1, ry, h.1, h.2.1, h.2.2, q _ _ (Same.refl _) ⟨rfl, ?_, fun c hc => ?_⟩⟩
      · rw [flat_len]; exact h.2.2
      · obtain ⟨l, hl, hc⟩ := List.mem_flatten.mp hc
        rw [(List.mem_replicate.mp hl).2] at hc
        exact rx.2.2 c hc
    · exact q.elim⟩ (fun _ _ _ => repS_ne) .fresh ha hb
end
end Hd
set_option maxHeartbeats 1000000
namespace Hd
open PySem PySem.Spec PyProof.Rows L2 RT
def IsRs (h : Heap) (a : Addr) (x : Str) (u : Tok) (i : Int) : Prop := ∃ o, h.get? a = some o ∧ o.cls = .type "reversed" ∧ o.data = .fields #[.str x u, rawInt i]
theorem IsRs.at {h h' : Heap} {a : Addr} {x : Str} {u : Tok} {i : Int} (y : IsRs h a x u i) (e : ∀ o, h.get? a = some o → h'.get? a = some o) : IsRs h' a x u i := let ⟨o, ho, r⟩ := y; ⟨o, e _ ho, r⟩
end Hd
namespace Hd
open PySem PySem.Spec PyProof.Rows L2
section
variable {p : Pr} {sc : Scope} {NN VV GG : List Str} {k : Nat} {g : G} {L : List Slot} {α β δ : Type} {S : Ty α} {T : Ty β} {md md' : Md} {pos : Pos} {st : List Stmt} {D : δ → Out} {i j : Nat} {x : Str} {a b c e : Expr}
inductive KReps {α : Type} (T : Ty α) (R : RdR) : List (Key × α) → List (Key × V) → Prop where
  | nil : KReps T R [] []
  | cons {k d v ds vs} : T.rep d v R → KReps T R ds vs → KReps T R ((k, d) :: ds) ((k, v) :: vs)
theorem KReps.mono {R R' : RdR} {ds : List (Key × α)} {vs : List (Key × V)} (h : KReps S R ds vs) (s : ∀ a o, R a o → R' a o) : KReps S R' ds vs := by
  induction h with
  | nil => exact .nil
  | cons r _ ih => exact .cons (S.mono r s) ih
theorem KReps.length {R : RdR} {ds : List (Key × α)} {vs : List (Key × V)} (h : KReps S R ds vs) : ds.length = vs.length := by
  induction h with
  | nil => rfl
  | cons r _ ih => simp [ih]
/-- what stands at a key -/
def dgetL {α : Type} (ds : List (Key × α)) (k : Key) : Option α := (ds.find? fun kv => decide (kv.1 = k)).map (·.2)
def dputL {α : Type} (ds : List (Key × α)) (k : Key) (d : α) : List (Key × α) := if (ds.any fun kv => decide (kv.1 = k)) = true then ds.map (fun kv => if kv.1 = k then (kv.1, d) else kv) else ds ++ [(k, d)]
theorem KReps.get {R : RdR} {ds : List (Key × α)} {vs : List (Key × V)} (h : KReps S R ds vs) (k : Key) : (dgetL ds k = none ∧ valV vs k = none) ∨ ∃ d v, dgetL ds k = some d ∧ valV vs k = some v ∧ S.rep d v R := by
  induction h with
  | nil => exact .inl ⟨rfl, rfl⟩
  | @cons k' d v ds vs r _ ih =>
    by_cases e : k' = k
    · exact .inr ⟨d, v, by simp [dgetL, List.find?_cons, e], valV_pos e, r⟩
    · have e1 : dgetL ((k', d) :: ds) k = dgetL ds k := by simp [dgetL, List.find?_cons, e]
      rw [e1, valV_neg e]
      exact ih
theorem KReps.map {R : RdR} {ds : List (Key × α)} {vs : List (Key × V)} (h : KReps S R ds vs) (k : Key) {d : α} {v : V} (r : S.rep d v R) : KReps S R (ds.map (fun kv => if kv.1 = k then (kv.1, d) else kv)) (vs.map (fun kv => if kv.1 = k then (kv.1, v) else kv)) := by
  induction h with
  | nil => exact .nil
  | @cons k' d' v' ds vs r' _ ih =>
    rw [List.map_cons, List.map_cons]
    by_cases e : k' = k
    · simp only [if_pos e]; exact .cons r ih
    · simp only [if_neg e]; exact .cons r' ih
theorem KReps.any {R : RdR} {ds : List (Key × α)} {vs : List (Key × V)} (h : KReps S R ds vs) (k : Key) : (ds.any fun kv => decide (kv.1 = k)) = (vs.any fun kv => decide (kv.1 = k)) := by
  induction h with
  | nil => rfl
  | cons r _ ih => rw [List.any_cons, List.any_cons, ih]
theorem KReps.snoc {R : RdR} {ds : List (Key × α)} {vs : List (Key × V)} (h : KReps S R ds vs) (k : Key) {d : α} {v : V} (r : S.rep d v R) : KReps S R (ds ++ [(k, d)]) (vs ++ [(k, v)]) := by
  induction h with
  | nil => exact .cons r .nil
  | cons r' _ ih => exact .cons r' ih
theorem KReps.put {R : RdR} {ds : List (Key × α)} {vs : List (Key × V)} (h : KReps S R ds vs) (k : Key) {d : α} {v : V} (r : S.rep d v R) : KReps S R (dputL ds k d) (putK vs k v) := by
  unfold dputL putK
  rw [h.any k]
  split
  · exact h.map k r
  · exact h.snoc k r
def sDict {α : Type} (b : Bool) (T : Ty α) (ds : List (Key × α)) : Slot := ⟨fun v H R F => ∃ p xs, v = some (.ref p) ∧ F = [p] ∧ H p = some (.dK xs) ∧ KReps T (R b) ds xs,
  fun ⟨p, xs, e, f, h, r⟩ s k => ⟨p, xs, e, f, by rw [k p (by simp [f])]; exact h, r.mono (s b)⟩, fun ⟨p, xs, e, f, h, r⟩ q hq => by subst f; rw [List.mem_singleton.mp hq, cl_of h]; exact fun z => nomatch z⟩
theorem At.mutD {fm : Fm} {kp : RdR} {σ : L2.St} {H : Hp} {own : List Addr} {b : Bool} {ds : List (Key × α)} {i : Nat} (h : At fm kp L σ H own) (hL : L[i]? = some (sDict b S ds)) :
    ∃ p vs, σ[i]? = some (some (.ref p)) ∧ H p = some (.dK vs) ∧ KReps S (RB fm own H b) ds vs ∧ ∀ ds' vs', KReps S (RB fm own H b) ds' vs' → At fm kp (L.set i (sDict b S ds')) σ (upd H p (.dK vs')) own := by
  obtain ⟨h1, h2, ⟨Fs, h3, rfl⟩, h4, h5, h6⟩ := h
  obtain ⟨v, F, e1, e2, q, vs, rfl, rfl, hp, r⟩ := h3.get hL
  have qin : q ∈ Fs.flatten := List.mem_flatten.mpr ⟨[q], List.mem_of_getElem? e2, by simp⟩
  refine ⟨q, vs, e1, hp, r, fun ds' vs' r' => ?_⟩
  have key : ∀ (md : Md) a o, RX fm Fs.flatten H H md a o → RX fm Fs.flatten (upd H q (.dK vs')) (upd H q (.dK vs')) md a o ∨ md = .fx := fun md a o z => by
    cases md with
    | sh =>
      rcases z with z | z
      · have n : a ≠ q := fun e => z.2.1 (by rw [e]; exact qin)
        refine .inl (.inl ⟨?_, z.2⟩)
        unfold Rd
        rw [cl_upd_ne n]
        exact z.1
      · exact .inl (.inr z)
    | f0 =>
      have n : a ≠ q := fun e => z.2.1 (by rw [e]; exact qin)
      exact .inl ⟨by rw [cl_upd_ne n]; exact z.1, z.2⟩
    | fx => exact .inr rfl
  have keyB : ∀ (b : Bool) a o, RB fm Fs.flatten H b a o → RB fm Fs.flatten (upd H q (.dK vs')) b a o := fun b a o z => by
    cases b with
    | false => exact (key .sh a o z).resolve_right (fun e => nomatch e)
    | true => exact (key .f0 a o z).resolve_right (fun e => nomatch e)
  have up : ∀ a, H a ≠ none → upd H q (.dK vs') a ≠ none := fun a n => by
    by_cases e : a = q
    · rw [e, upd_same]; exact fun z => by cases z
    · rw [upd_ne e]; exact n
  refine ⟨h1.wr (h5 q qin).2.1 hp (fun _ z => nomatch z) rfl, fun a z => up a (h2 a z), ⟨Fs, ?_, rfl⟩, h4, fun x hx => ⟨up x (h5 x hx).1, (h5 x hx).2⟩, fun a o z => (key .sh a o (h6 a o z)).resolve_right (fun e => nomatch e)⟩
  · -- the slots
    have gen : ∀ {L : List Slot} {σ : L2.St} {Fs' : List (List Addr)}, AllS H (RB fm Fs.flatten H) L σ Fs' → Fs'.flatten.Nodup → ∀ {i : Nat}, Fs'[i]? = some [q] → L[i]? = some (sDict b S ds) → σ[i]? = some (some (V.ref q)) →
        AllS (upd H q (.dK vs')) (RB fm Fs.flatten (upd H q (.dK vs'))) (L.set i (sDict b S ds')) σ Fs' := by
      intro L σ Fs' hA
      induction hA with
      | nil => intro _ i e _ _; simp at e
      | @cons sl L v σ F Fs' r t ih =>
        intro nd i e eL eσ
        rw [List.flatten_cons, List.nodup_append] at nd
        cases i with
        | zero =>
          simp at e eL eσ
          subst e; subst eL; subst eσ
          refine .cons ⟨q, vs', rfl, rfl, upd_same, r'.mono (keyB b)⟩ (t.st keyB fun x hx => ?_)
          exact upd_ne fun z => nd.2.2 q (by simp) x hx z.symm
        | succ i =>
          have e' : Fs'[i]? = some [q] := by simpa using e
          refine .cons (sl.st r keyB fun x hx => upd_ne fun z => nd.2.2 x hx q (List.mem_flatten.mpr ⟨[q], List.mem_of_getElem? e', by simp⟩) z) (ih nd.2.1 e' (by simpa using eL) (by simpa using eσ))
    exact gen h3 h4 e2 hL e1
theorem At.setOwnD {fm : Fm} {kp : RdR} {σ : L2.St} {H H' : Hp} {own : List Addr} {b : Bool} {ds : List (Key × α)} {vs : List (Key × V)} {q : Addr} (h : At fm kp L σ H own) (s : Same H H') (hn : H q = none) (h' : H' q = some (.dK vs))
    (r : KReps S (RB fm (q :: own) H' b) ds vs) : ∃ own', At fm kp (L.set i (sDict b S ds)) (σ.set i (some (.ref q))) H' own' := by
  obtain ⟨h1, h2, ⟨Fs, h3, rfl⟩, h4, h5, h6⟩ := h
  have hq : q ∉ Fs.flatten := fun z => (h5 q z).1 hn
  have sub : ∀ x ∈ (Fs.set i [q]).flatten, x ∈ q :: Fs.flatten := fun x hx => (set_own x hx).elim (fun e => by rw [e]; exact List.mem_cons_self) (List.mem_cons_of_mem _)
  have key : ∀ (md : Md) a o, RX fm Fs.flatten H H md a o → RX fm (Fs.set i [q]).flatten H H' md a o := fun md a o z => by
    refine RX.own sub a o ?_
    have z1 := RX.add (o' := .lst []) hn a o z
    have na : a ≠ q ∨ KObj fm.K a o := by
      rcases RX.sh a o z with z | z
      · exact .inl fun e => Rd.some z.1 (by rw [e]; exact cl_none hn)
      · exact .inr z
    cases md with
    | sh =>
      rcases z1 with z1 | z1
      · rcases z with z | z
        · exact .inl ⟨Rd.same s z.1, z1.2⟩
        · exact .inr z
      · exact .inr z1
    | f0 => exact ⟨s.cl _ _ z.1, z1.2⟩
    | fx => exact ⟨s.cl _ _ z.1, z1.2⟩
  have keyB : ∀ (b : Bool) a o, RB fm Fs.flatten H b a o → RB fm (Fs.set i [q]).flatten H' b a o := fun b a o z => by
    cases b with
    | false => exact key .sh a o z
    | true => exact key .f0 a o z
  refine ⟨_, h1.trans s, fun a z n => h2 a z (s.free n), ⟨Fs.set i [q], (h3.st (H' := H') keyB fun p hp => ?_).set (s := sDict b S ds) ⟨q, vs, rfl, rfl, h', r.mono fun a o z => ?_⟩ i, rfl⟩, set_own_nd hq h4, fun p hp => ?_, fun a o z => key .sh a o (h6 a o z)⟩
  · cases e : cl H p with
    | none => exact absurd e (h3.tb p hp)
    | some u => rw [cl_raw e]; exact s.keep _ _ (cl_raw e) (cl_nt e)
  · cases b <;> exact RX.own sub a o z
  · rcases set_own p hp with rfl | hp
    · exact ⟨by rw [h']; exact (fun z => by cases z), h1.free hn, fun z => h2 _ z hn⟩
    · exact ⟨fun e => (h5 p hp).1 (s.free e), (h5 p hp).2⟩
theorem evb_newD {f : List (Key × α) → M δ} {pos' pd : Pos} (ok : OkS p sc NN VV GG k g) (hN : NN[i]? = some x) (hV : VV[j]? = some x) (hr : ∀ ds, EvB g (L.set i (sDict false S ds)) st D (f ds))
    (hs : ∀ Y : Cx, swapsWith (.Dict [] [] pd) (some (.Name x pos')) pos.line Y.env = pure false := by intro _; rfl) : EvB g L (.Assign [.Name x pos'] (.Dict [] [] pd) pos :: st) D ((M.ok ([] : List (Key × α))).bind f) := by
  refine PSs.imp (pss_cons (ps_set (i := i) (by rw [ok.N]; exact ok.nd) (by rw [ok.N]; exact hN) (ok.loc hV) pe_dnewK (hs _) (okS_fn ok)) (PSs.ex hr)) fun E σ H ⟨kp, own, at_, q⟩ => ?_
  intro q' hq'
  obtain ⟨own', a'⟩ := at_.setOwnD (S := S) (i := i) (b := false) (ds := []) (vs := []) (newSame hq') hq' upd_same .nil
  exact ⟨[], kp, own', a', q⟩
def dputM {α : Type} (ds : List (Key × α)) (k : Key) (d : α) : M (List (Key × α)) := if ds.length < sizeLine then .ok (dputL ds k d) else .no
end
end Hd
namespace Hd
open PySem PySem.Spec PyProof.Rows L2
section
variable {p : Pr} {sc : Scope} {NN VV GG : List Str} {k : Nat} {g : G} {L : List Slot} {α β δ : Type} {S : Ty α} {T : Ty β} {md md' : Md} {pos : Pos} {st : List Stmt} {D : δ → Out} {i j : Nat} {x : Str} {a b c e : Expr}
theorem KReps.some {R : RdR} {ds : List (Key × α)} {vs : List (Key × V)} (h : KReps S R ds vs) (k : Key) : (valV vs k).isSome = (dgetL ds k).isSome := by
  rcases h.get k with ⟨g1, g2⟩ | ⟨d, v, g1, g2, _⟩ <;> rw [g1, g2] <;> rfl
def getDM {α : Type} (ds : List (Key × α)) (k : Key) : M α := match dgetL ds k with
  | some d => .ok d
  | none => .no
end
end Hd
namespace Hd
open PySem PySem.Spec PyProof.Rows L2
section
variable {p : Pr} {sc : Scope} {NN VV GG : List Str} {k : Nat} {g : G} {L : List Slot} {α β δ : Type} {S : Ty α} {T : Ty β} {md md' : Md} {pos : Pos} {st : List Stmt} {D : δ → Out} {i j : Nat} {x : Str} {a b c e : Expr}
/-- a dict that is shared -/
def tDict {α : Type} (T : Ty α) : Ty (List (Key × α)) := ⟨fun ds v R => ∃ a vs, v = .ref a ∧ R a (.dK vs) ∧ KReps T R ds vs, fun ⟨a, vs, e, r, h⟩ s => ⟨a, vs, e, s _ _ r, h.mono s⟩⟩
theorem At.freezeD {fm : Fm} {kp : RdR} {σ : L2.St} {H : Hp} {own : List Addr} {b : Bool} {ds : List (Key × α)} (h : At fm kp L σ H own) (hL : L[i]? = some (sDict b S ds)) : ∃ own', At fm kp (L.set i (sV false (tDict S) ds)) σ H own' ∧ ∀ p ∈ own', p ∈ own := by
  obtain ⟨h1, h2, ⟨Fs, h3, rfl⟩, h4, h5, h6⟩ := h
  obtain ⟨v, F, e1, e2, q, vs, rfl, rfl, hp, r⟩ := h3.get hL
  have qin : q ∈ Fs.flatten := List.mem_flatten.mpr ⟨[q], List.mem_of_getElem? e2, by simp⟩
  have kk : ∀ p ∈ (Fs.set i []).flatten, p ∈ Fs.flatten := fun p hp => (set_sub (i := i)).subset hp
  have qn : q ∉ (Fs.set i []).flatten := by
    have nd := h4
    clear h3 h5 h6 qin kk r hp
    induction Fs generalizing i L σ with
    | nil => simp at e2
    | cons F Fs ih =>
      rw [List.flatten_cons, List.nodup_append] at nd
      cases i with
      | zero =>
        simp at e2
        subst e2
        simp only [List.set_cons_zero, List.flatten_cons, List.nil_append]
        exact fun z => nd.2.2 q (by simp) q z rfl
      | succ i =>
        simp only [List.set_cons_succ, List.flatten_cons, List.mem_append, not_or]
        have e2' : Fs[i]? = some [q] := by simpa using e2
        refine ⟨fun z => nd.2.2 q z q (List.mem_flatten.mpr ⟨[q], List.mem_of_getElem? e2', by simp⟩) rfl, ?_⟩
        cases σ with
        | nil => simp at e1
        | cons s σ =>
          cases L with
          | nil => simp at hL
          | cons l L => exact ih (i := i) (L := L) (σ := σ) (hL := by simpa using hL) (e1 := by simpa using e1) (e2 := e2') (h4 := nd.2.1) (nd := nd.2.1)
  have σe : σ.set i (some (V.ref q)) = σ := by
    apply List.ext_getElem?
    intro n
    by_cases hn : n = i
    · subst hn
      rw [e1]
      have := (List.getElem?_eq_some_iff.mp e1).1
      rw [List.getElem?_set_self this]
    · rw [List.getElem?_set_ne (Ne.symm hn)]
  refine ⟨_, ⟨h1, h2, ⟨Fs.set i [], ?_, rfl⟩, h4.sublist set_sub, fun p hp => h5 p (kk p hp), fun a o z => RX.own (md := .sh) (H := H) kk a o (h6 a o z)⟩, kk⟩
  rw [← σe]
  refine (h3.st (RB.own kk) fun _ _ => rfl).set (s := sV false (tDict S) ds) ⟨rfl, .ref q, rfl, q, vs, rfl, ?_, ?_⟩ i
  · exact .inl ⟨.inl (cl_of hp), qn, (h5 q qin).2.2⟩
  · exact r.mono fun a o z => RX.sh (H := H) a o (RB.own kk b a o z)
theorem evb_freezeD {b : Bool} {ds : List (Key × α)} {m : M δ} (hL : L[i]? = some (sDict b S ds)) (hr : EvB g (L.set i (sV false (tDict S) ds)) st D m) : EvB g L st D m := PSs.imp hr fun E σ H ⟨kp, own, at_, q⟩ => by
  obtain ⟨own', a', _⟩ := at_.freezeD hL
  exact ⟨kp, own', a', q⟩
end
end Hd
namespace Hd
open PySem PySem.Spec L2
/-- a field: its name, its kind, its worth -/
structure FldS : Type 1 where
  n : Str
  α : Type
  T : Ty α
  d : α
inductive FsR (R : RdR) : List FldS → List (Str × V) → Prop where
  | nil : FsR R [] []
  | cons {s : FldS} {l v fs} : s.T.rep s.d v R → FsR R l fs → FsR R (s :: l) ((s.n, v) :: fs)
section
variable {R R' : RdR} {l l' : List FldS} {fs fs' : List (Str × V)}
theorem FsR.mono (h : FsR R l fs) (s : ∀ a o, R a o → R' a o) : FsR R' l fs := by
  induction h with
  | nil => exact .nil
  | cons r _ ih => exact .cons (Ty.mono _ r s) ih
theorem FsR.snoc {s : FldS} {v : V} (h : FsR R l fs) (r : s.T.rep s.d v R) : FsR R (l ++ [s]) (fs ++ [(s.n, v)]) := by
  induction h with
  | nil => exact .cons r .nil
  | cons q _ ih => exact .cons q ih
theorem FsR.length (h : FsR R l fs) : l.length = fs.length := by
  induction h with
  | nil => rfl
  | cons _ _ ih => simp [ih]
theorem FsR.none {f : Str} (h : FsR R l fs) (hn : l.all (fun s => !(f == s.n)) = true) : fs.lookup f = none := by
  induction h with
  | nil => rfl
  | @cons s l v fs _ _ ih =>
    rw [List.all_cons, Bool.and_eq_true] at hn
    rw [List.lookup_cons]
    have : (f == s.n) = false := by simpa using hn.1
    rw [this]
    exact ih hn.2
theorem putF_new {f : Str} {y : V} : ∀ {fs : List (Str × V)}, fs.lookup f = none → putF f y fs = fs ++ [(f, y)]
  | [], _ => rfl
  | (g, x) :: r, h => by
    rw [List.lookup_cons] at h
    by_cases e : g = f
    · subst e; simp at h
    · have e2 : (f == g) = false := by simpa using fun z => e z.symm
      rw [e2] at h
      show (if g = f then _ else (g, x) :: putF f y r) = _
      rw [if_neg e, putF_new h]; rfl
end
/-- the field f is there -/
inductive FAt {β : Type} (f : Str) (T : Ty β) (d : β) : List FldS → Prop where
  | here {l} : FAt f T d (⟨f, β, T, d⟩ :: l)
  | there {s l} {n : Str} : s.n = n → (f == n) = false → FAt f T d l → FAt f T d (s :: l)
theorem FAt.get {β : Type} {f : Str} {T : Ty β} {d : β} {R : RdR} {l : List FldS} (h : FAt f T d l) : ∀ {fs : List (Str × V)}, FsR R l fs → ∃ v, fs.lookup f = some v ∧ T.rep d v R := by
  induction h with
  | here =>
    intro fs r
    cases r with
    | cons q _ => exact ⟨_, by rw [List.lookup_cons]; simp, q⟩
  | there e0 e _ ih =>
    subst e0
    intro fs r
    cases r with
    | cons _ q =>
      obtain ⟨v, h1, h2⟩ := ih q
      exact ⟨v, by rw [List.lookup_cons, e]; exact h1, h2⟩
/-- an object of the class at C -/
def tIns {δ : Type} (C : Addr) (fl : δ → List FldS) : Ty δ := ⟨fun d v R => ∃ a dx fs, v = .ref a ∧ R a (.ins C dx fs) ∧ FsR R (fl d) fs, fun ⟨a, dx, fs, e, r, h⟩ s => ⟨a, dx, fs, e, s _ _ r, h.mono s⟩⟩
/-- the address of a class -/
abbrev cA (p : Pr) (c : Str) : Addr := He.ga p.K c
section
variable {X : Cx} {pins : List (Addr × Obj)} {σ : L2.St} {H : Hp} {s : Shared} {a C dx : Addr} {fs : List (Str × V)} {f : Str} {v : V} {A : Around} {E : Value → Shared → Prop}
theorem ins_getR {P : Program} {w : World} {h : Heap} (x : ObjOk P w H h a (.ins C dx fs)) : ∃ mA, ObjM h a dx C mA ∧ (∀ f, RelO (fs.lookup f) (mA f)) := by
  obtain ⟨d, z, ne, ob, mA, n, r, q⟩ := x
  exact ⟨mA, ⟨ob, n, ne⟩, r⟩
theorem getattr_rd {b : Bool} {Q : Value → Shared → Prop} (I : Inv X pins σ H s) (e : L2.Rd H a (.ins C dx fs)) (c : Cls X.K C) (n : NoAttr X.K C f) (l : fs.lookup f = some v)
    (h : ∀ u s', Inv X pins σ H s' → RelV v u → Q u s') : wpAny (model X.prog X.w) A (getAttr (.ref a) f b) Q E s := by
  obtain ⟨mA, O, r⟩ := ins_getR (e.ok I.hok)
  obtain ⟨u, hu, ru⟩ := RelO.some_of (v := v) (o := mA f) (by rw [← l]; exact r f)
  exact get_map I.kIn O (c.get f) c.hd n hu (handed_of ru) (h u _ (I.tok _) ru)
theorem getmeth_rd {m : Str} {g : Addr} {pl : Sem Bool} {Q : Value × List Value → Shared → Prop} (I : Inv X pins σ H s) (e : L2.Rd H a (.ins C dx fs)) (c : Cls X.K C) (k : Meth X.K C m g) (l : fs.lookup m = none)
    (h : Q (.ref g, [.ref a]) s) : wpAny (model X.prog X.w) A (getMethod (.ref a) m pl) Q E s := by
  obtain ⟨mA, O, r⟩ := ins_getR (e.ok I.hok)
  have hn : mA m = none := RelO.none_of (by rw [← l]; exact r m)
  exact get_meth I.kIn O (c.get m) k.at_ k.fn hn h
def tFldR (K : PySem.W.Frag) (ta : TE) (f : Str) : TE := fun σ H Q => ta σ H fun x H1 => ∃ a C dx fs v, x = .ref a ∧ L2.Rd H1 a (.ins C dx fs) ∧ Cls K C ∧ NoAttr K C f ∧ fs.lookup f = some v ∧ Q v H1
theorem pe_fldR {e : Expr} {pos : Pos} {ta : TE} (he : PE X e ta) (hb : attributeBase e f X.env (eval e X.env) = eval e X.env) : PE X (.Attribute e f pos) (tFldR X.K ta f) := by
  refine ⟨fun pins s σ H Q I h => ?_⟩
  refine attr_of hb (thn (he.run pins s σ H _ I h) fun u s1 ⟨x, H1, I1, rx, a, C, dx, fs, v, ex, ea, c, n, l, q⟩ => ?_)
  subst ex
  obtain rfl : u = Value.ref a := rx
  exact getattr_rd I1 ea c n l fun u' s2 I2 ru => ⟨v, H1, I2, ru, q⟩
theorem run_makeS {k : Nat} {f : Addr} {fd : FuncData} {ps : List Str} {sp : Sp} {E : XK} {CX' : CXT} {Q : VK} {us : List Value} {vs : List V} (M : Mk X.K C f) (F : FnOk X.prog X.w X.K X.mg X.base CX' k f fd ps sp) (hr : Room (k + 1) X.A) (hb : Binds X.K fd ps [])
    (hx : PassesAt CX' X σ E) (I : Inv X pins σ H s) (r : Vals vs us)
    (h : ∀ x dx, H x = none → H dx = none → dx ≠ x → sp (.ref x :: vs) (upd (upd H dx (.own x)) x (.ins C dx [])) (fun v H2 => v = .non ∧ Q (.ref x) H2) E) :
    wpAny (model X.prog X.w) X.A (call (.ref C) us) (EP X pins σ Q) X.xe s := by
  have hq := h (s.heap.objs.size + 1) s.heap.objs.size (I.hok.fresh (Nat.le_succ _)) (I.hok.fresh (Nat.le_refl _)) (Nat.ne_of_lt (Nat.lt_succ_self _))
  have I2 := Inv.made (C := C) I
  have r2 : Vals (V.ref (s.heap.objs.size + 1) :: vs) (Value.ref (s.heap.objs.size + 1) :: us) := .cons rfl r
  have hl : (Value.ref (s.heap.objs.size + 1) :: us).length = ps.length := by
    have e := r2.length
    rw [F.len _ _ _ _ hq] at e
    exact e.symm
  have hbb := hb _ (Value.ref (s.heap.objs.size + 1) :: us) I2.kIn (by rw [List.append_nil]; exact hl)
  rw [List.append_nil] at hbb
  refine wpAny_call (make_map (f := f) I.kIn M.makes M.init (beq_iff_eq.mp M.fn) (codeAny_mono (F.run _ X.stack _ _ ⟨Value.ref (s.heap.objs.size + 1) :: us, []⟩ (Value.ref (s.heap.objs.size + 1) :: us) _ _ E (hr.make C us [])
    (I2.env0.make C us []) hbb r2 hq) fun r s' hq' => ?_))
  cases r with
  | error e => exact hx pins _ _ e s' I2 hq'
  | ok fl =>
    cases fl with
    | ret u =>
      obtain ⟨v, H', I3, rv, ev, q3⟩ := I2.after hq'
      subst ev
      exact ⟨rv, ⟨V.ref (s.heap.objs.size + 1), H', I3, rfl, q3⟩⟩
    | next => exact False.elim hq'
    | brk => exact False.elim hq'
    | cont => exact False.elim hq'
def tMakeS (C : Addr) (sp : Sp) (E : L2.St → XK) (t : TA) : TE := fun σ H Q => t σ H fun vs H1 => ∀ x dx, H1 x = none → H1 dx = none → dx ≠ x →
  sp (.ref x :: vs) (upd (upd H1 dx (.own x)) x (.ins C dx [])) (fun v H2 => v = .non ∧ Q (.ref x) H2) (E σ)
theorem pe_makeS {k : Nat} {e : Expr} {es : List Expr} {x : Str} {pos p : Pos} {t : TA} {f : Addr} {fd : FuncData} {ps : List Str} {sp : Sp} {E : L2.St → XK} {CX' : CXT} (M : Mk X.K C f) (F : FnOk X.prog X.w X.K X.mg X.base CX' k f fd ps sp) (hr : Room (k + 1) X.A) (hg : Gl X x) (hm : X.mg x = some (.ref C)) (hb : Binds X.K fd ps []) (hx : ∀ σ, PassesAt CX' X σ (E σ))
    (ha : PA X (e :: es) t) (hdb : (x == ("__debug__" : Str)) = false := by decide) (he : starEach (e :: es) X.env = (false, eval e X.env) :: starEach es X.env := by rfl) (hpl : (backTo pos (starEach es X.env)).any (·.1) = false := by rfl) :
    PE X (.Call (.Name x p) (e :: es) [] pos) (tMakeS C sp E t) := by
  refine ⟨fun pins s σ H Q I h => ?_⟩
  refine wpAny_Call_Name_kw (ld_glob I hg hm ?_ hdb)
  refine PySem.W.callWith_K (h₀ := X.base) I.ok.mod.kin M.kp (thn (ha.run pos pins s σ H _ I h) fun us s1 ⟨vs, H1, I1, r, q⟩ => ⟨I1.kIn, ?_⟩) he hpl
  exact run_makeS M F hr hb (hx σ) I1 r q
end
def sSelf (x C : Addr) (l : List FldS) : Slot := ⟨fun v H R F => ∃ dx fs, v = some (.ref x) ∧ F = [x] ∧ H x = some (.ins C dx fs) ∧ FsR (R false) l fs,
  fun ⟨dx, fs, e, f, h, r⟩ s k => ⟨dx, fs, e, f, by rw [k x (by simp [f])]; exact h, r.mono (s false)⟩, fun ⟨dx, fs, e, f, h, r⟩ q hq => by subst f; rw [List.mem_singleton.mp hq, cl_of h]; exact fun z => nomatch z⟩
section
variable {p : Pr} {sc : Scope} {NN VV GG : List Str} {k : Nat} {g : G} {L : List Slot} {a b c e e' : Expr} {es : List Expr} {md md' : Md} {α β γ δ ρ : Type} {S : Ty α} {T : Ty β} {U : Ty γ} {A : Ar δ} {pos : Pos} {i j : Nat} {x f : Str} {pp : Pos} {C : Addr}
variable {st : List Stmt} {D : δ → Out} {d : δ}
theorem At.mutS {fm : Fm} {kp : RdR} {σ : L2.St} {H : Hp} {own : List Addr} {q : Addr} {l : List FldS} {i : Nat} (h : At fm kp L σ H own) (hL : L[i]? = some (sSelf q C l)) :
    ∃ dx fs, σ[i]? = some (some (.ref q)) ∧ H q = some (.ins C dx fs) ∧ FsR (RB fm own H false) l fs ∧ ∀ l' fs', FsR (RB fm own H false) l' fs' → At fm kp (L.set i (sSelf q C l')) σ (upd H q (.ins C dx fs')) own := by
  obtain ⟨h1, h2, ⟨Fs, h3, rfl⟩, h4, h5, h6⟩ := h
  obtain ⟨v, F, e1, e2, dx, fs, rfl, rfl, hp, r⟩ := h3.get hL
  have qin : q ∈ Fs.flatten := List.mem_flatten.mpr ⟨[q], List.mem_of_getElem? e2, by simp⟩
  refine ⟨dx, fs, e1, hp, r, fun l' fs' r' => ?_⟩
  have key : ∀ (md : Md) a o, RX fm Fs.flatten H H md a o → RX fm Fs.flatten (upd H q (.ins C dx fs')) (upd H q (.ins C dx fs')) md a o ∨ md = .fx := fun md a o z => by
    cases md with
    | sh =>
      rcases z with z | z
      · have n : a ≠ q := fun e => z.2.1 (by rw [e]; exact qin)
        refine .inl (.inl ⟨?_, z.2⟩)
        unfold Rd
        rw [cl_upd_ne n]
        exact z.1
      · exact .inl (.inr z)
    | f0 =>
      have n : a ≠ q := fun e => z.2.1 (by rw [e]; exact qin)
      exact .inl ⟨by rw [cl_upd_ne n]; exact z.1, z.2⟩
    | fx => exact .inr rfl
  have keyB : ∀ (b : Bool) a o, RB fm Fs.flatten H b a o → RB fm Fs.flatten (upd H q (.ins C dx fs')) b a o := fun b a o z => by
    cases b with
    | false => exact (key .sh a o z).resolve_right (fun e => nomatch e)
    | true => exact (key .f0 a o z).resolve_right (fun e => nomatch e)
  have up : ∀ a, H a ≠ none → upd H q (.ins C dx fs') a ≠ none := fun a n => by
    by_cases e : a = q
    · rw [e, upd_same]; exact fun z => by cases z
    · rw [upd_ne e]; exact n
  refine ⟨h1.wr (h5 q qin).2.1 hp (fun _ z => nomatch z) rfl, fun a z => up a (h2 a z), ⟨Fs, ?_, rfl⟩, h4, fun x hx => ⟨up x (h5 x hx).1, (h5 x hx).2⟩, fun a o z => (key .sh a o (h6 a o z)).resolve_right (fun e => nomatch e)⟩
  · have gen : ∀ {L : List Slot} {σ : L2.St} {Fs' : List (List Addr)}, AllS H (RB fm Fs.flatten H) L σ Fs' → Fs'.flatten.Nodup → ∀ {i : Nat}, Fs'[i]? = some [q] → L[i]? = some (sSelf q C l) → σ[i]? = some (some (V.ref q)) →
        AllS (upd H q (.ins C dx fs')) (RB fm Fs.flatten (upd H q (.ins C dx fs'))) (L.set i (sSelf q C l')) σ Fs' := by
      intro L σ Fs' hA
      induction hA with
      | nil => intro _ i e _ _; simp at e
      | @cons sl L v σ F Fs' r t ih =>
        intro nd i e eL eσ
        rw [List.flatten_cons, List.nodup_append] at nd
        cases i with
        | zero =>
          simp at e eL eσ
          subst e; subst eL; subst eσ
          refine .cons ⟨dx, fs', rfl, rfl, upd_same, r'.mono (keyB false)⟩ (t.st keyB fun x hx => ?_)
          exact upd_ne fun z => nd.2.2 q (by simp) x hx z.symm
        | succ i =>
          have e' : Fs'[i]? = some [q] := by simpa using e
          refine .cons (sl.st r keyB fun x hx => upd_ne fun z => nd.2.2 x hx q (List.mem_flatten.mpr ⟨[q], List.mem_of_getElem? e', by simp⟩) z) (ih nd.2.1 e' (by simpa using eL) (by simpa using eσ))
    exact gen h3 h4 e2 hL e1
/-- self.f = e -/
theorem evb_fld {q : Addr} {l : List FldS} {m : M β} {h : β → M δ} {p1 p2 : Pos} {y : Str} (ok : OkS p sc NN VV GG k g) (wk : Wk L g.LX) (hN : NN[i]? = some y) (hV : VV[j]? = some y) (hL : L[i]? = some (sSelf q C l)) (hc : Cls p.K C) (hn : NoAttr p.K C f) {nm : List Str} (hnm : l.map (·.n) = nm) (hf : nm.all (fun n => !(f == n)) = true) (hl : nm.length ≤ 100)
    (he : EvE g L e md T m) (hr : ∀ d, EvB g (L.set i (sSelf q C (l ++ [⟨f, β, T, d⟩]))) st D (h d)) (hs : swapsWith e (some (.Attribute (.Name y p1) f p2)) pos.line g.X.env = pure false := by rfl) :
    EvB g L (.Assign [.Attribute (.Name y p1) f p2] e pos :: st) D (m.bind h) := by
  have hl : l.length ≤ 100 := by rw [← hnm, List.length_map] at hl; exact hl
  have hf : l.all (fun s => !(f == s.n)) = true := by rw [← hnm, List.all_map] at hf; exact hf
  obtain ⟨hv, ho⟩ := ok.vis hV
  obtain ⟨h1, h2, _⟩ := okName_d ho
  refine PSs.imp (pss_cons (ps_fld (pe_var (i := i) (by rw [ok.N]; exact hN) hv h1 h2) he hs) (PSs.ex hr)) fun E σ H ⟨kp, own, at_, q1⟩ => ?_
  refine tE_iff.mpr ⟨kp, own, at_, ?_⟩
  cases m with
  | ok d =>
    intro v H1 s1 r1
    have a1 := at_.ext s1
    obtain ⟨dx, fs, e1, hp, rr, mu⟩ := a1.mutS hL
    have hfn := rr.none hf
    refine ⟨_, e1, q, C, dx, fs, rfl, hp, by rw [ok.K]; exact hc, by rw [ok.K]; exact hn, by rw [← rr.length]; omega, ?_⟩
    rw [putF_new hfn]
    exact ⟨d, kp, own, mu _ _ (rr.snoc (s := ⟨f, β, T, d⟩) (T.mono r1 fun a o z => (SlB.sh (x := md)).rb a o z)), q1⟩
  | ex c => exact BOk.exx wk at_ q1
  | no => exact q1
/-- what __init__ promises -/
def spI (p : Pr) {δ ρ : Type} (C : Addr) (A : Ar δ) (fl : ρ → List FldS) (F : δ → M ρ) : Sp := fun vs H Q E => ∃ x dx H1 vs', vs = .ref x :: vs' ∧ H1 x = none ∧ H1 dx = none ∧ dx ≠ x ∧ H = upd (upd H1 dx (.own x)) x (.ins C dx []) ∧
  ∃ d z, ((∀ a, z a → H1 a ≠ none) ∧ ∀ P, p.T = some P → LamX.TabS H1 P lamQ) ∧ A.rep d vs' (RD ⟨p.K, H1, z⟩ [] H1) ∧
  match F d with
  | .ok r => ∀ H' dx' fs, Same H1 H' → H' x = some (.ins C dx' fs) → FsR (RX ⟨p.K, H1, z⟩ [x] H' H' .sh) (fl r) fs → Q .non H'
  | .ex c => ∀ H', Same H1 H' → E (.ref (p.C c)) none H'
  | .no => False
theorem fn_init {qual : Str} {st : Stmt} {f : Addr} {fd : FuncData} {ps : List Str} {L0 : δ → List Slot} {n m : Nat} {LE : List Slot} {fl : ρ → List FldS} {F : δ → M ρ} (hF : FunD p.K "__init__" qual (defArgs st) (defBody st) (defScope st) [] [] f fd) (hS : Sc st NN VV ("self" :: ps) GG) (ha : ArS A n L0) (hn : ps.length = n) (hm : n + 1 + m = NN.length)
    (hb : ∀ x g, OkS p (defScope st) NN VV GG k g → g.LX = List.replicate NN.length sAny → ∀ d, EvB g (sSelf x C [] :: (L0 d ++ List.replicate m sAny)) (defBody st) (fun r => .nx (sSelf x C (fl r) :: LE)) (F d)) :
    FnOk p.P p.w p.K p.mg p.base (L2.CX p.P p.w) (k + 1) f fd ("self" :: ps) (spI p C A fl F) := by
  refine hF.ok hS.S (fun vs H Q E h => ?_) (fun cdv A' outer s H vs Q E hr h => ?_)
  · obtain ⟨x, dx, H1, vs', rfl, _, _, _, _, d, z, _, hrep, _⟩ := h
    have := (ha.all (H := H1) (R := fun _ => RD ⟨p.K, H1, z⟩ [] H1) hrep).1
    simp [this, hn]
  · obtain ⟨x, dx, H1, vs', rfl, nx, ndx, ne, rfl, d, z, ⟨hz, htab⟩, hrep, q⟩ := h
    have hlen : vs'.length = n := (ha.all (H := H1) (R := fun _ => RD ⟨p.K, H1, z⟩ [] H1) hrep).1
    have sm : Same H1 (upd (upd H1 dx (.own x)) x (.ins C dx [])) := (newSame ndx).trans (newSame (by rw [upd_ne (Ne.symm ne)]; exact nx))
    let X : Cx := cxOf (L2.CX p.P p.w) p.P p.w p.K p.mg p.base NN qual (defScope st) f cdv A' outer s (upd (upd H1 dx (.own x)) x (.ins C dx [])) E
    let g : G := ⟨X, ⟨p.K, H1, z⟩, fun c _ H' => E (.ref (p.C c)) none H', List.replicate NN.length sAny⟩
    have hN : ∀ {j : Nat} {y : Str}, VV[j]? = some y → y ∈ VV := fun e => List.mem_of_getElem? e
    have ok : OkS p (defScope st) NN VV GG k g :=
      { prog := rfl, w := rfl, K := rfl, mg := rfl, base := rfl, N := rfl, fmK := rfl, tab := htab, room := hr, nd := hS.S.nd
        vis := fun e => let h := seenB_v (List.all_eq_true.mp hS.vis _ (hN e)); ⟨h.2, h.1⟩
        gl := fun e => let h := glB_v (List.all_eq_true.mp hS.gl _ (List.mem_of_getElem? e)); ⟨h.2, h.1⟩
        tk := Takes.imp (takes_of (X := X) rfl rfl rfl (E := E) rfl) (fun cls d σ H ⟨c, e1, e2, h⟩ => by subst e1; subst e2; exact h)
        calm := rfl
        blk := fun h => blkOk_by h
        loc := fun e => locB_v (List.all_eq_true.mp hS.loc _ (hN e))
        fnT := fun _ => rfl
        psO := passes_of (X := X) rfl
        scp := rfl
        stk := rfl
        frm := rfl
        exn := rfl }
    have nz : ¬ z x := fun h => hz x h nx
    refine ⟨_, hb x g ok rfl d, (fun _ _ => False), [x], ?_, ?_⟩
    · refine ⟨sm, fun a h => fun e => hz a h (sm.free e), ⟨[x] :: (List.replicate n [] ++ List.replicate m []), ?_, by simp [flat_rep]⟩, by simp, fun a h => ?_, fun _ _ h => h.elim⟩
      · have h1 := (ha.all (H := H1) (R := RB ⟨p.K, H1, z⟩ [] H1) hrep).2
        have e : L2.start NN (V.ref x :: vs') = some (V.ref x) :: (vs'.map some ++ List.replicate m none) := by
          unfold L2.start
          rw [show NN.length - (V.ref x :: vs').length = m by simp; omega]
          rfl
        rw [e]
        refine .cons ⟨dx, [], rfl, rfl, upd_same, .nil⟩ (AllS.append (h1.st (fun b a o r => ?_) fun q hq => ?_) (AllS.anys m))
        · have out : ∀ {a : Addr} {o : HO}, cl H1 a = some o → a ∉ [x] := fun h hm => by
            rw [List.mem_singleton.mp hm] at h
            rw [cl_none nx] at h; cases h
          cases b with
          | false =>
            rcases r with ⟨r1, _, r3⟩ | r
            · refine .inl ⟨Rd.same sm r1, ?_, r3⟩
              rcases r1 with r1 | ⟨_, r1⟩ <;> exact out r1
            · exact .inr r
          | true => exact ⟨sm.cl _ _ r.1, out r.1, r.2.2⟩
        · rw [flat_rep] at hq; cases hq
      · rw [List.mem_singleton.mp h]
        exact ⟨by rw [upd_same]; exact (fun z => by cases z), nx, nz⟩
    · cases hF' : F d with
      | ok r =>
        rw [hF'] at q
        intro σ H' own at_
        obtain ⟨Fs, h3, e3⟩ := at_.sl
        obtain ⟨v, F', e1, e2, dx', fs, _, rfl, hp, rr⟩ := h3.get (i := 0) (s := sSelf x C (fl r)) rfl
        have xin : x ∈ own := by rw [e3]; exact List.mem_flatten.mpr ⟨[x], List.mem_of_getElem? e2, by simp⟩
        exact q H' dx' fs at_.same hp (rr.mono fun a o zz => RX.own (own' := [x]) (fun y hy => by rw [List.mem_singleton.mp hy]; exact xin) a o zz)
      | ex c =>
        rw [hF'] at q
        exact fun σ' H' own a' => q H' a'.same
      | no => rw [hF'] at q; exact q
/-- a class that is made by its __init__ -/
structure MkF (p : Pr) (k : Nat) (c : Str) (ps : List Str) (sp : Sp) : Prop where
  ex : ∃ (f : Addr) (fd : FuncData), FnOk p.P p.w p.K p.mg p.base (L2.CX p.P p.w) k f fd ("self" :: ps) sp ∧ Mk p.K (cA p c) f ∧ p.mg c = some (.ref (cA p c)) ∧ Binds p.K fd ("self" :: ps) []
theorem ev_make {kf : Nat} {c : Str} {ps : List Str} {fl : ρ → List FldS} {F : δ → M ρ} {m : M δ} (ok : Ok p sc NN VV GG k g) (hf : MkF p kf c ps (spI p (cA p c) A fl F)) (hk : kf + 1 ≤ k) (hG : GG[j]? = some c)
    (ha : EvA g L (e :: es) md A m) (he : starEach (e :: es) g.X.env = (false, eval e g.X.env) :: starEach es g.X.env := by rfl) (hpl : (backTo pos (starEach es g.X.env)).any (·.1) = false := by rfl) :
    EvE g L (.Call (.Name c pp) (e :: es) [] pos) .sh (tIns (cA p c) fl) (m.bind F) := by
  obtain ⟨f, fd, hF, hmk, hmg, hbd⟩ := hf.ex
  obtain ⟨hg, ho⟩ := ok.gl hG
  rw [← ok.prog, ← ok.w, ← ok.base] at hF
  have hF' : FnOk g.X.prog g.X.w g.X.K g.X.mg g.X.base (L2.CX g.X.prog g.X.w) kf f fd ("self" :: ps) (spI p (cA p c) A fl F) := by rw [ok.K, ok.mg]; exact hF
  refine PE.imp (pe_makeS (C := cA p c) (by rw [ok.K]; exact hmk) hF' (ok.room.mono hk) hg (by rw [ok.mg]; exact hmg) (by rw [ok.K]; exact hbd) (tk_at ok) ha (okName_d ho).1 he hpl) fun σ H Q q => ?_
  obtain ⟨kp, own, at_, q⟩ := tE_iff.mp q
  refine subA finE (Same.refl H) at_ q fun d vs H1 s1 r1 at1 q1 => fun x dx nx ndx ne => ⟨x, dx, H1, vs, rfl, nx, ndx, ne, rfl, d, fun a => a ∈ own ∨ g.fm.z a, ⟨fun a z => ?_, fun P e => at1.same.tab P (ok.tab P e)⟩, ?_, ?_⟩
  · rcases z with z | z
    · exact (at1.new a z).1
    · exact at1.zin a z
  · rw [← ok.fmK]; exact args_in r1
  · rw [← ok.fmK]
    cases hd : F d with
    | ok r =>
      rw [hd] at q1
      refine fun H' dx' fs s hx rr => ⟨rfl, q1 _ H' (s1.trans s) ⟨x, dx', fs, rfl, .inl ⟨.inl (cl_of hx), fun z => (at1.new x z).1 nx, fun z => at1.zin x z nx⟩, rr.mono fun a o z => ?_⟩⟩
      have := CaMd.sh.rx (q := some x) s1 at_.same a o z
      exact RX.own (own' := own) (fun y hy => List.mem_cons_of_mem _ hy) a o this
    | ex c =>
      rw [hd] at q1
      exact fun H' s => ⟨c, rfl, rfl, q1 H' (s1.trans s)⟩
    | no => rw [hd] at q1; exact q1
/-- a method, as its callers know it -/
structure MeF (p : Pr) (k : Nat) (c m : Str) (ps : List Str) (sp : Sp) : Prop where
  ex : ∃ (f : Addr) (fd : FuncData), FnOk p.P p.w p.K p.mg p.base (L2.CX p.P p.w) k f fd ("self" :: ps) sp ∧ Cls p.K (cA p c) ∧ Meth p.K (cA p c) m f ∧ Binds p.K fd ("self" :: ps) []
end
end Hd
namespace Hd
open PySem PySem.Spec L2
/-- an object that may be owned -/
def gd : HO → Bool
  | .lst _ => true
  | .tup _ => true
  | .dK _ => true
  | .dT _ => true
  | .set _ _ => true
  | .ins _ _ _ => true
  | _ => false
theorem gd_nt {o : HO} (h : gd o = true) : nt o = true := by cases o <;> first | rfl | cases h
/-- a kind of things of one's own: what is owned of one stands in F; T: as it looks when it is shared -/
structure WTy (α : Type) where
  T : Ty α
  rep : α → V → Hp → RdR → List Addr → Prop
  st : ∀ {d v H H' F} {R R' : RdR}, rep d v H R F → (∀ a o, R a o → R' a o) → (∀ p ∈ F, H' p = H p) → rep d v H' R' F
  tb : ∀ {d v H F} {R : RdR}, rep d v H R F → ∀ p ∈ F, ∃ o, H p = some o ∧ gd o = true
  fz : ∀ {d v H F} {R R' : RdR}, rep d v H R F → (∀ a o, R a o → R' a o) → (∀ p ∈ F, ∀ o, H p = some o → R' p o) → T.rep d v R'
/-- shared things -/
def wV {α : Type} (T : Ty α) : WTy α where
  T := T
  rep := fun d v _ R F => F = [] ∧ T.rep d v R
  st := fun ⟨e, r⟩ s _ => ⟨e, T.mono r s⟩
  tb := fun ⟨e, _⟩ p hp => by subst e; exact nomatch hp
  fz := fun ⟨_, r⟩ s _ => T.mono r s
inductive RepsO {α : Type} (O : WTy α) (H : Hp) (R : RdR) : List α → List V → List (List Addr) → Prop where
  | nil : RepsO O H R [] [] []
  | cons {d v F ds vs Fs} : O.rep d v H R F → RepsO O H R ds vs Fs → RepsO O H R (d :: ds) (v :: vs) (F :: Fs)
section
variable {α : Type} {O : WTy α} {H H' : Hp} {R R' : RdR} {ds es : List α} {vs ws : List V} {Fs Gs : List (List Addr)}
theorem RepsO.st (h : RepsO O H R ds vs Fs) (s : ∀ a o, R a o → R' a o) (k : ∀ p ∈ Fs.flatten, H' p = H p) : RepsO O H' R' ds vs Fs := by
  induction h with
  | nil => exact .nil
  | cons r _ ih => exact .cons (O.st r s fun p hp => k p (by simp [hp])) (ih fun p hp => k p (by simp only [List.flatten_cons, List.mem_append]; exact .inr hp))
theorem RepsO.tb (h : RepsO O H R ds vs Fs) : ∀ p ∈ Fs.flatten, ∃ o, H p = some o ∧ gd o = true := by
  induction h with
  | nil => intro p hp; simp at hp
  | cons r _ ih => intro p hp; rw [List.flatten_cons, List.mem_append] at hp; exact hp.elim (O.tb r p) (ih p)
theorem RepsO.fz (h : RepsO O H R ds vs Fs) (s : ∀ a o, R a o → R' a o) (k : ∀ p ∈ Fs.flatten, ∀ o, H p = some o → R' p o) : Reps O.T R' ds vs := by
  induction h with
  | nil => exact .nil
  | cons r _ ih => exact .cons (O.fz r s fun p hp => k p (by simp [hp])) (ih fun p hp => k p (by simp only [List.flatten_cons, List.mem_append]; exact .inr hp))
theorem RepsO.length (h : RepsO O H R ds vs Fs) : ds.length = vs.length := by
  induction h with
  | nil => rfl
  | cons _ _ ih => simp [ih]
theorem RepsO.get (h : RepsO O H R ds vs Fs) : ∀ {i : Nat} {d : α}, ds[i]? = some d → ∃ v F, vs[i]? = some v ∧ Fs[i]? = some F ∧ O.rep d v H R F := by
  induction h with
  | nil => intro i d e; simp at e
  | cons r _ ih =>
    intro i d e
    cases i with
    | zero => simp at e; subst e; exact ⟨_, _, rfl, rfl, r⟩
    | succ i => obtain ⟨v, F, e1, e2, r1⟩ := ih (i := i) (d := d) (by simpa using e); exact ⟨v, F, by simpa using e1, by simpa using e2, r1⟩
theorem RepsO.append (h : RepsO O H R ds vs Fs) (k : RepsO O H R es ws Gs) : RepsO O H R (ds ++ es) (vs ++ ws) (Fs ++ Gs) := by
  induction h with
  | nil => exact k
  | cons r _ ih => exact .cons r ih
theorem RepsO.set {d : α} {v : V} {F : List Addr} (h : RepsO O H R ds vs Fs) (r : O.rep d v H R F) : ∀ (i : Nat), RepsO O H R (ds.set i d) (vs.set i v) (Fs.set i F) := by
  induction h with
  | nil => intro i; exact .nil
  | cons q t ih =>
    intro i
    cases i with
    | zero => exact .cons r t
    | succ i => exact .cons q (ih i)
theorem RepsO.take (h : RepsO O H R ds vs Fs) : ∀ n, RepsO O H R (ds.take n) (vs.take n) (Fs.take n) := by
  induction h with
  | nil => intro n; simp; exact .nil
  | cons r _ ih => intro n; cases n with
    | zero => exact .nil
    | succ n => exact .cons r (ih n)
theorem RepsO.drop (h : RepsO O H R ds vs Fs) : ∀ n, RepsO O H R (ds.drop n) (vs.drop n) (Fs.drop n) := by
  induction h with
  | nil => intro n; simp; exact .nil
  | cons r t ih => intro n; cases n with
    | zero => exact .cons r t
    | succ n => exact ih n
end
theorem flat_mem {Fs : List (List Addr)} {F : List Addr} {i : Nat} (e : Fs[i]? = some F) : ∀ x ∈ F, x ∈ Fs.flatten := fun x hx => List.mem_flatten.mpr ⟨F, List.mem_of_getElem? e, hx⟩
/-- a list of one's own -/
def wL {α : Type} (O : WTy α) : WTy (List α) where
  T := tList O.T
  rep := fun ds v H R F => ∃ p vs Fs, v = .ref p ∧ F = p :: Fs.flatten ∧ H p = some (.lst vs) ∧ RepsO O H R ds vs Fs
  st := by
    rintro d v H H' F R R' ⟨p, vs, Fs, e1, e2, h, r⟩ s k
    exact ⟨p, vs, Fs, e1, e2, by rw [k p (by rw [e2]; exact List.mem_cons_self)]; exact h, r.st s fun q hq => k q (by rw [e2]; exact List.mem_cons_of_mem _ hq)⟩
  tb := by
    rintro d v H F R ⟨p, vs, Fs, e1, e2, h, r⟩ q hq
    rw [e2] at hq
    rcases List.mem_cons.mp hq with e | hq
    · subst e; exact ⟨_, h, rfl⟩
    · exact r.tb q hq
  fz := by
    rintro d v H F R R' ⟨p, vs, Fs, e1, e2, h, r⟩ s k
    exact ⟨p, vs, e1, k p (by rw [e2]; exact List.mem_cons_self) _ h, r.fz s fun q hq => k q (by rw [e2]; exact List.mem_cons_of_mem _ hq)⟩
/-- written items of one's own -/
structure WAr (δ : Type) where
  A : Ar δ
  /-- as fields of an object with these names -/
  fl : List Str → δ → List FldS
  rep : δ → List V → Hp → RdR → List Addr → Prop
  st : ∀ {d vs H H' F} {R R' : RdR}, rep d vs H R F → (∀ a o, R a o → R' a o) → (∀ p ∈ F, H' p = H p) → rep d vs H' R' F
  tb : ∀ {d vs H F} {R : RdR}, rep d vs H R F → ∀ p ∈ F, ∃ o, H p = some o ∧ gd o = true
  fz : ∀ {d vs H F} {R R' : RdR}, rep d vs H R F → (∀ a o, R a o → R' a o) → (∀ p ∈ F, ∀ o, H p = some o → R' p o) → A.rep d vs R'
  fzF : ∀ {d vs H F} {R R' : RdR} {ns : List Str}, ns.length = vs.length → rep d vs H R F → (∀ a o, R a o → R' a o) → (∀ p ∈ F, ∀ o, H p = some o → R' p o) → FsR R' (fl ns d) (ns.zip vs)
def waNil : WAr Unit where
  A := aNil
  fl := fun _ _ => []
  rep := fun _ vs _ _ F => vs = [] ∧ F = []
  st := fun h _ _ => h
  tb := by
    rintro d vs H F R ⟨_, e⟩ p hp
    subst e; exact nomatch hp
  fz := fun h _ _ => h.1
  fzF := by
    rintro d vs H F R R' ns hl ⟨e, _⟩ _ _
    subst e
    cases ns with
    | nil => exact .nil
    | cons _ _ => cases hl
def waFl {α β : Type} (T : Ty α) (fl : List Str → β → List FldS) : List Str → α × β → List FldS
  | [], _ => []
  | n :: ns, d => ⟨n, α, T, d.1⟩ :: fl ns d.2
def waCons {α β : Type} (O : WTy α) (A : WAr β) : WAr (α × β) where
  A := aCons O.T A.A
  fl := waFl O.T A.fl
  rep := fun d vs H R F => ∃ v r F1 F2, vs = v :: r ∧ F = F1 ++ F2 ∧ O.rep d.1 v H R F1 ∧ A.rep d.2 r H R F2
  st := by
    rintro d vs H H' F R R' ⟨v, r, F1, F2, e1, e2, h1, h2⟩ s k
    exact ⟨v, r, F1, F2, e1, e2, O.st h1 s fun p hp => k p (by rw [e2]; exact List.mem_append_left _ hp), A.st h2 s fun p hp => k p (by rw [e2]; exact List.mem_append_right _ hp)⟩
  tb := by
    rintro d vs H F R ⟨v, r, F1, F2, e1, e2, h1, h2⟩ p hp
    rw [e2] at hp; exact (List.mem_append.mp hp).elim (O.tb h1 p) (A.tb h2 p)
  fz := by
    rintro d vs H F R R' ⟨v, r, F1, F2, e1, e2, h1, h2⟩ s k
    exact ⟨v, r, e1, O.fz h1 s fun p hp => k p (by rw [e2]; exact List.mem_append_left _ hp), A.fz h2 s fun p hp => k p (by rw [e2]; exact List.mem_append_right _ hp)⟩
  fzF := by
    rintro d vs H F R R' ns hl ⟨v, r, F1, F2, e1, e2, h1, h2⟩ s k
    subst e1
    cases ns with
    | nil => cases hl
    | cons n ns => exact .cons (O.fz h1 s fun p hp => k p (by rw [e2]; exact List.mem_append_left _ hp)) (A.fzF (by simpa using hl) h2 s fun p hp => k p (by rw [e2]; exact List.mem_append_right _ hp))
/-- a slot of things of one's own; px: which value it is -/
def sP {α : Type} (px : V → Prop) (O : WTy α) (d : α) : Slot := ⟨fun v H R F => ∃ x, v = some x ∧ px x ∧ O.rep d x H (R false) F, fun ⟨x, e, hx, r⟩ s k => ⟨x, e, hx, O.st r (s false) k⟩,
  fun ⟨x, e, hx, r⟩ p hp => by obtain ⟨o, h, g⟩ := O.tb r p hp; rw [cl_of h (gd_nt g)]; exact fun z => nomatch z⟩
abbrev sA {α : Type} (x : V) (O : WTy α) (d : α) : Slot := sP (fun v => v = x) O d
theorem RD.drop {fm : Fm} {own own' : List Addr} {H : Hp} (k : ∀ p ∈ own', p ∈ own) : ∀ a o, RD fm own H a o → RD fm own' H a o := RX.own (md := .sh) (H := H) k
end Hd
namespace Hd
open PySem PySem.Spec L2
structure Plc (H : Hp) (R : RdR) {α : Type} (O : WTy α) (v : V) (F : List Addr) {β : Type} (O2 : WTy β) (d2 : β) (put : β → α) (v2 : V) (F2 : List Addr) : Prop where
  rep : O2.rep d2 v2 H R F2
  sub : ∀ p ∈ F2, p ∈ F
  nd : F2.Nodup
  up : ∀ {H' : Hp} {R' : RdR} {d2' : β} {F2' : List Addr}, (∀ a o, R a o → R' a o) → (∀ p ∈ F, p ∉ F2 → H' p = H p) → O2.rep d2' v2 H' R' F2' → F2'.Nodup → (∀ p ∈ F2', p ∈ F2 ∨ p ∉ F) →
    ∃ F', O.rep (put d2') v H' R' F' ∧ F'.Nodup ∧ ∀ p ∈ F', p ∈ F2' ∨ (p ∈ F ∧ p ∉ F2)
/-- the item k of written items -/
inductive WAt : {δ : Type} → WAr δ → Nat → {α : Type} → WTy α → (δ → α) → (δ → α → δ) → Prop where
  | z {α δ : Type} {O : WTy α} {A : WAr δ} : WAt (waCons O A) 0 O (fun d => d.1) (fun d y => (y, d.2))
  | s {α β δ : Type} {O : WTy α} {O' : WTy β} {A : WAr δ} {k : Nat} {pr : δ → α} {st : δ → α → δ} : WAt A k O pr st → WAt (waCons O' A) (k + 1) O (fun d => pr d.2) (fun d y => (d.1, st d.2 y))
section
variable {α β γ δ : Type} {O : WTy α} {O2 : WTy β} {O3 : WTy γ} {A : WAr δ} {H H' : Hp} {R R' : RdR} {v v2 : V} {F F2 G : List Addr} {d : α} {d2 : β} {put : β → α}
theorem Plc.ext (h : Plc H R O v F O2 d2 put v2 F2) (s : ∀ a o, R a o → R' a o) (k : ∀ p ∈ F, H' p = H p) : Plc H' R' O v F O2 d2 put v2 F2 :=
  ⟨O2.st h.rep s fun p hp => k p (h.sub p hp), h.sub, h.nd, fun s' k' r' nd' n' => h.up (fun a o z => s' a o (s a o z)) (fun p hp hn => (k' p hp hn).trans (k p hp)) r' nd' n'⟩
theorem WAt.get {k : Nat} {pr : δ → γ} {st : δ → γ → δ} (h : WAt A k O3 pr st) : ∀ {d : δ} {vs : List V} {G : List Addr}, A.rep d vs H R G → G.Nodup → ∃ v3 F3, vs[k]? = some v3 ∧ O3.rep (pr d) v3 H R F3 ∧ (∀ q ∈ F3, q ∈ G) ∧ F3.Nodup ∧
    ∀ {H' R' y F3'}, (∀ a o, R a o → R' a o) → (∀ q ∈ G, q ∉ F3 → H' q = H q) → O3.rep y v3 H' R' F3' → F3'.Nodup → (∀ q ∈ F3', q ∈ F3 ∨ q ∉ G) → ∃ G', A.rep (st d y) vs H' R' G' ∧ G'.Nodup ∧ ∀ q ∈ G', q ∈ F3' ∨ (q ∈ G ∧ q ∉ F3) := by
  induction h with
  | z =>
    rintro d vs G ⟨v, r, F1, F2, e1, e2, h1, h2⟩ nd
    subst e1; subst e2
    rw [List.nodup_append] at nd
    refine ⟨v, F1, rfl, h1, fun q hq => List.mem_append_left _ hq, nd.1, fun {H' R' y F3'} s k r' nd' n' => ?_⟩
    have dj : ∀ q ∈ F2, q ∉ F1 := fun q hq hq' => nd.2.2 q hq' q hq rfl
    refine ⟨F3' ++ F2, ⟨v, r, F3', F2, rfl, rfl, r', WAr.st _ h2 s fun q hq => k q (List.mem_append_right _ hq) (dj q hq)⟩, List.nodup_append.mpr ⟨nd', nd.2.1, fun a ha b hb e => ?_⟩, fun q hq => ?_⟩
    · subst e
      rcases n' a ha with hq | hq
      · exact dj a hb hq
      · exact hq (List.mem_append_right _ hb)
    · rcases List.mem_append.mp hq with hq | hq
      · exact .inl hq
      · exact .inr ⟨List.mem_append_right _ hq, dj q hq⟩
  | s _ ih =>
    rintro d vs G ⟨v, r, F1, F2, e1, e2, h1, h2⟩ nd
    subst e1; subst e2
    rw [List.nodup_append] at nd
    obtain ⟨v3, F3, e3, r3, s3, nd3, up3⟩ := ih h2 nd.2.1
    have dj : ∀ q ∈ F1, q ∉ F2 := fun q hq hq' => nd.2.2 q hq q hq' rfl
    refine ⟨v3, F3, by simpa using e3, r3, fun q hq => List.mem_append_right _ (s3 q hq), nd3, fun {H' R' y F3'} s k r' nd' n' => ?_⟩
    obtain ⟨G', r4, nd4, n4⟩ := up3 s (fun q hq hn => k q (List.mem_append_right _ hq) hn) r' nd' (fun q hq => (n' q hq).imp id fun hn hq' => hn (List.mem_append_right _ hq'))
    refine ⟨F1 ++ G', ⟨v, r, F1, G', rfl, rfl, WTy.st _ h1 s fun q hq => k q (List.mem_append_left _ hq) fun hq' => dj q hq (s3 q hq'), r4⟩, List.nodup_append.mpr ⟨nd.1, nd4, fun a ha b hb e => ?_⟩, fun q hq => ?_⟩
    · subst e
      rcases n4 a hb with hq | ⟨hq, _⟩
      · rcases n' a hq with hq | hq
        · exact dj a ha (s3 a hq)
        · exact hq (List.mem_append_left _ ha)
      · exact dj a ha hq
    · rcases List.mem_append.mp hq with hq | hq
      · exact .inr ⟨List.mem_append_left _ hq, fun hq' => dj q hq (s3 q hq')⟩
      · rcases n4 q hq with hq | ⟨hq, hn⟩
        · exact .inl hq
        · exact .inr ⟨List.mem_append_right _ hq, hn⟩
end
/-- slot i holds a thing of one's own, of which d2 at v2 is a place -/
def AtP (fm : Fm) (L : List Slot) (σ : L2.St) (own : List Addr) (Fs : List (List Addr)) (i : Nat) (px : V → Prop) {α : Type} (O : WTy α) (d : α) (H : Hp) {β : Type} (O2 : WTy β) (d2 : β) (put : β → α) (v2 : V) (F2 : List Addr) : Prop :=
  ∃ v F, L[i]? = some (sP px O d) ∧ AllS H (RB fm own H) L σ Fs ∧ own = Fs.flatten ∧ σ[i]? = some (some v) ∧ px v ∧ Fs[i]? = some F ∧ Plc H (RD fm own H) O v F O2 d2 put v2 F2
section
variable {fm : Fm} {kp : RdR} {L : List Slot} {σ : L2.St} {H H' : Hp} {own : List Addr} {i : Nat} {px : V → Prop} {α β γ : Type} {O : WTy α} {O2 : WTy β} {d : α} {d2 : β} {put : β → α} {v2 : V} {F2 : List Addr} {Fs : List (List Addr)}
theorem AtP.ext (hA : AtP fm L σ own Fs i px O d H O2 d2 put v2 F2) (s : Same H H') : AtP fm L σ own Fs i px O d H' O2 d2 put v2 F2 := by
  obtain ⟨v, F, hL, hs, e, e1, hx, e2, pl⟩ := hA
  have k : ∀ p ∈ Fs.flatten, H' p = H p := fun p hp => by
    cases r : cl H p with
    | none => exact absurd r (hs.tb p hp)
    | some o => rw [cl_raw r]; exact s.keep _ _ (cl_raw r) (cl_nt r)
  exact ⟨v, F, hL, hs.st (RB.same s) k, e, e1, hx, e2, pl.ext (RD.same s) fun p hp => k p (flat_mem e2 p hp)⟩
/-- the heap without some things -/
def hm (H : Hp) (F : List Addr) : Hp := fun a => if a ∈ F then none else H a
end
end Hd
namespace Hd
open PySem PySem.Spec L2
def NoEx {α : Type} (m : M α) : Prop := ∀ c, m ≠ .ex c
theorem nx_ok {α : Type} {a : α} : NoEx (.ok a) := fun c h => nomatch h
end Hd
namespace Hd
open PySem PySem.Spec L2
/-- arguments: f: the slots they begin with; fo: the slots they end with; pj: what is owned of them; up: what they have become -/
inductive ArX : {δ ω : Type} → WAr δ → Nat → (δ → List V → List Slot) → (ω → List V → List Slot) → (δ → ω) → (δ → ω → δ) → Prop where
  | nil : ArX (ω := Unit) waNil 0 (fun _ _ => []) (fun _ _ => []) (fun _ => ()) (fun d _ => d)
  | sh {α δ ω : Type} {T : Ty α} {A : WAr δ} {n : Nat} {f : δ → List V → List Slot} {fo : ω → List V → List Slot} {pj : δ → ω} {up : δ → ω → δ} : ArX A n f fo pj up →
      ArX (ω := ω) (waCons (wV T) A) (n + 1) (fun d vs => sV false T d.1 :: f d.2 vs.tail) (fun w vs => sAny :: fo w vs.tail) (fun d => pj d.2) (fun d w => (d.1, up d.2 w))
  | ow {α δ ω : Type} {O : WTy α} {A : WAr δ} {n : Nat} {f : δ → List V → List Slot} {fo : ω → List V → List Slot} {pj : δ → ω} {up : δ → ω → δ} : ArX A n f fo pj up →
      ArX (ω := α × ω) (waCons O A) (n + 1) (fun d vs => sA (vs.headD .non) O d.1 :: f d.2 vs.tail) (fun w vs => sA (vs.headD .non) O w.1 :: fo w.2 vs.tail) (fun d => (d.1, pj d.2)) (fun d w => (w.1, up d.2 w.2))
section
variable {δ ω : Type} {A : WAr δ} {n : Nat} {f : δ → List V → List Slot} {fo : ω → List V → List Slot} {pj : δ → ω} {up : δ → ω → δ} {H H1 : Hp} {R : Bool → RdR} {R1 : RdR}
theorem ArX.all (h : ArX A n f fo pj up) : ∀ {d : δ} {vs : List V} {F : List Addr}, A.rep d vs H (R false) F → vs.length = n ∧ ∃ Fs, AllS H R (f d vs) (vs.map some) Fs ∧ Fs.flatten = F := by
  induction h with
  | nil => rintro d vs F ⟨e1, e2⟩; subst e1; subst e2; exact ⟨rfl, [], .nil, rfl⟩
  | sh _ ih =>
    rintro d vs F ⟨v, r, F1, F2, e1, e2, ⟨e3, h1⟩, h2⟩
    subst e1; subst e2; subst e3
    obtain ⟨hl, Fs, h3, h4⟩ := ih h2
    exact ⟨by simp [hl], [] :: Fs, .cons ⟨rfl, v, rfl, h1⟩ h3, by simp [h4]⟩
  | ow _ ih =>
    rintro d vs F ⟨v, r, F1, F2, e1, e2, h1, h2⟩
    subst e1; subst e2
    obtain ⟨hl, Fs, h3, h4⟩ := ih h2
    exact ⟨by simp [hl], F1 :: Fs, .cons ⟨v, rfl, rfl, h1⟩ h3, by simp [h4]⟩
end
end Hd
namespace Hd
open PySem PySem.Spec L2
/-- pointwise, but for some places -/
structure Pw (H : Hp) (R : Bool → RdR) (L : List Slot) (σ : L2.St) (Fs : List (List Addr)) (out : Nat → Prop) : Prop where
  l1 : σ.length = L.length
  l2 : Fs.length = L.length
  ok : ∀ j, ¬ out j → ∀ s v F, L[j]? = some s → σ[j]? = some v → Fs[j]? = some F → s.ok v H R F
theorem Pw.all {H : Hp} {R : Bool → RdR} : ∀ {L : List Slot} {σ : L2.St} {Fs : List (List Addr)}, Pw H R L σ Fs (fun _ => False) → AllS H R L σ Fs
  | [], σ, Fs, h => by
    have e1 : σ = [] := List.length_eq_zero_iff.mp h.l1
    have e2 : Fs = [] := List.length_eq_zero_iff.mp h.l2
    subst e1; subst e2; exact .nil
  | s :: L, [], Fs, h => by have := h.l1; simp at this
  | s :: L, v :: σ, [], h => by have := h.l2; simp at this
  | s :: L, v :: σ, F :: Fs, h => .cons (h.ok 0 (fun z => z) s v F rfl rfl rfl) (Pw.all ⟨by have := h.l1; simpa using this, by have := h.l2; simpa using this, fun j _ s' v' F' e1 e2 e3 => h.ok (j + 1) (fun z => z) s' v' F' (by simpa using e1) (by simpa using e2) (by simpa using e3)⟩)
/-- arguments, some of them places in slots of their own -/
inductive ArgsAt (L : List Slot) (σ : L2.St) (Fs : List (List Addr)) (H : Hp) (R : RdR) : {δ ω τ : Type} → WAr δ → (δ → ω → δ) → δ → List V → List Addr → List Nat → (ω → τ) → (τ → List (Nat × Slot)) → Prop where
  | nil : ArgsAt L σ Fs H R (ω := Unit) (τ := Unit) waNil (fun d _ => d) () [] [] [] (fun _ => ()) (fun _ => [])
  | sh {α δ ω τ : Type} {T : Ty α} {A : WAr δ} {up : δ → ω → δ} {d : α} {ds : δ} {v : V} {vs : List V} {Fa : List Addr} {is : List Nat} {pu : ω → τ} {mk : τ → List (Nat × Slot)} : T.rep d v R → ArgsAt L σ Fs H R A up ds vs Fa is pu mk →
      ArgsAt L σ Fs H R (waCons (wV T) A) (fun d w => (d.1, up d.2 w)) (d, ds) (v :: vs) Fa is pu mk
  | ow {α β δ ω τ : Type} {O : WTy α} {O2 : WTy β} {A : WAr δ} {up : δ → ω → δ} {d : α} {d2 : β} {ds : δ} {v v2 : V} {vs : List V} {F F2 Fa : List Addr} {is : List Nat} {i : Nat} {put : β → α} {px : V → Prop} {pu : ω → τ} {mk : τ → List (Nat × Slot)} :
      L[i]? = some (sP px O d) → σ[i]? = some (some v) → px v → Fs[i]? = some F → Plc H R O v F O2 d2 put v2 F2 → i ∉ is → ArgsAt L σ Fs H R A up ds vs Fa is pu mk →
      ArgsAt L σ Fs H R (ω := β × ω) (τ := α × τ) (waCons O2 A) (fun d w => (w.1, up d.2 w.2)) (d2, ds) (v2 :: vs) (F2 ++ Fa) (i :: is) (fun w => (put w.1, pu w.2)) (fun t => (i, sP px O t.1) :: mk t.2)
section
variable {L : List Slot} {σ : L2.St} {Fs : List (List Addr)} {H H' : Hp} {R R' : RdR} {δ ω τ : Type} {A : WAr δ} {up : δ → ω → δ} {ds : δ} {vs : List V} {Fa : List Addr} {is : List Nat} {pu : ω → τ} {mk : τ → List (Nat × Slot)}
theorem ArgsAt.ext (h : ArgsAt L σ Fs H R A up ds vs Fa is pu mk) (s : ∀ a o, R a o → R' a o) (k : ∀ p ∈ Fs.flatten, H' p = H p) : ArgsAt L σ Fs H' R' A up ds vs Fa is pu mk := by
  induction h with
  | nil => exact .nil
  | sh r _ ih => exact .sh (Ty.mono _ r s) ih
  | ow h1 h2 h3 h4 pl hn _ ih => exact .ow h1 h2 h3 h4 (pl.ext s fun p hp => k p (flat_mem h4 p hp)) hn ih
/-- the roots: what they hold of the arguments -/
theorem ArgsAt.sub (h : ArgsAt L σ Fs H R A up ds vs Fa is pu mk) : ∀ q ∈ Fa, ∃ i ∈ is, ∃ F, Fs[i]? = some F ∧ q ∈ F := by
  induction h with
  | nil => exact fun q hq => nomatch hq
  | sh _ _ ih => exact ih
  | ow h1 h2 h3 h4 pl hn _ ih =>
    intro q hq
    rcases List.mem_append.mp hq with hq | hq
    · exact ⟨_, List.mem_cons_self, _, h4, pl.sub q hq⟩
    · obtain ⟨i, hi, F, e, hF⟩ := ih q hq
      exact ⟨i, List.mem_cons_of_mem _ hi, F, e, hF⟩
theorem flat_two {i j : Nat} {F G : List Addr} (nd : Fs.flatten.Nodup) (h1 : Fs[i]? = some F) (h2 : Fs[j]? = some G) {q : Addr} (hF : q ∈ F) (hG : q ∈ G) : i = j := by
  induction Fs generalizing i j with
  | nil => simp at h1
  | cons E Fs ih =>
    rw [List.flatten_cons, List.nodup_append] at nd
    cases i with
    | zero =>
      cases j with
      | zero => rfl
      | succ j =>
        simp at h1; subst h1
        exact absurd rfl (nd.2.2 q hF q (flat_mem (by simpa using h2) q hG))
    | succ i =>
      cases j with
      | zero =>
        simp at h2; subst h2
        exact absurd rfl (nd.2.2 q hG q (flat_mem (by simpa using h1) q hF))
      | succ j =>
        have := ih nd.2.1 (i := i) (j := j) (by simpa using h1) (by simpa using h2)
        rw [this]
theorem ArgsAt.rep (h : ArgsAt L σ Fs H R A up ds vs Fa is pu mk) (nd : Fs.flatten.Nodup) : A.rep ds vs H R Fa ∧ Fa.Nodup := by
  induction h with
  | nil => exact ⟨⟨rfl, rfl⟩, List.nodup_nil⟩
  | sh r _ ih => exact ⟨⟨_, _, [], _, rfl, rfl, ⟨rfl, r⟩, ih.1⟩, ih.2⟩
  | ow h1 h2 h3 h4 pl hn t ih =>
    refine ⟨⟨_, _, _, _, rfl, rfl, pl.rep, ih.1⟩, List.nodup_append.mpr ⟨pl.nd, ih.2, fun a ha b hb e => ?_⟩⟩
    subst e
    obtain ⟨i', hi', F', e', hF'⟩ := t.sub a hb
    have := flat_two nd h4 e' (pl.sub a ha) hF'
    subst this
    exact hn hi'
end
end Hd
namespace Hd
open PySem PySem.Spec L2
section
variable {p : Pr} {sc : Scope} {NN VV GG : List Str} {k : Nat} {g : G} {L L' : List Slot} {a b c e e' ix : Expr} {es : List Expr} {md md' : Md} {α β γ δ ρ ω τ : Type} {S : Ty α} {T : Ty β} {O : WTy α} {O2 : WTy β} {O3 : WTy γ} {A : WAr δ} {pos pp pos' : Pos} {i j : Nat} {x f : Str} {px : V → Prop} {d : α}
theorem AllS.hk {fm : Fm} {own : List Addr} {L : List Slot} {σ : L2.St} {H H' : Hp} {Fs : List (List Addr)} {R : Bool → RdR} (hs : AllS H R L σ Fs) (s : Same H H') : ∀ q ∈ Fs.flatten, H' q = H q := fun q hq => by
  cases r : cl H q with
  | none => exact absurd r (hs.tb q hq)
  | some o => rw [cl_raw r]; exact s.keep _ _ (cl_raw r) (cl_nt r)
end
end Hd
namespace Hd
open PySem PySem.Spec L2
def tSum {α β : Type} (S : Ty α) (T : Ty β) : Ty (α ⊕ β) := ⟨fun d v R => match d with | .inl a => S.rep a v R | .inr b => T.rep b v R, fun {d v R R'} h s => by
  cases d with
  | inl a => exact S.mono h s
  | inr b => exact T.mono h s⟩
def unl {α β : Type} : α ⊕ β → M α
  | .inl a => .ok a
  | .inr _ => .no
def unr {α β : Type} : α ⊕ β → M β
  | .inl _ => .no
  | .inr b => .ok b
inductive It where
  | path (ns : List Int)
  | times (n : Int) (l : List It)
def itP : V := .str (Str.ofString "path")
def itT : V := .str (Str.ofString "times")
inductive ItR (R : RdR) : It → V → Prop where
  | path {ns : List Int} {a b : Addr} : R a (.tup [itP, .ref b]) → R b (.lst (ns.map V.int)) → ItR R (.path ns) (.ref a)
  | times {n : Int} {l : List It} {a b : Addr} {vs : List V} : R a (.tup [itT, .int n, .ref b]) → R b (.lst vs) → l.length = vs.length → (∀ (i : Nat) x v, l[i]? = some x → vs[i]? = some v → ItR R x v) → ItR R (.times n l) (.ref a)
theorem ItR.mono {R R' : RdR} (s : ∀ a o, R a o → R' a o) {x : It} {v : V} (h : ItR R x v) : ItR R' x v := by
  induction h with
  | path h1 h2 => exact .path (s _ _ h1) (s _ _ h2)
  | times h1 h2 h3 _ ih => exact .times (s _ _ h1) (s _ _ h2) h3 ih
theorem reps_of {α : Type} {T : Ty α} {R : RdR} : ∀ {l : List α} {vs : List V}, l.length = vs.length → (∀ (i : Nat) x v, l[i]? = some x → vs[i]? = some v → T.rep x v R) → Reps T R l vs
  | [], [], _, _ => .nil
  | [], _ :: _, h, _ => by simp at h
  | _ :: _, [], h, _ => by simp at h
  | x :: l, v :: vs, h, k => .cons (k 0 x v rfl rfl) (reps_of (by simpa using h) fun i x v e1 e2 => k (i + 1) x v (by simpa using e1) (by simpa using e2))
theorem reps_at {α : Type} {T : Ty α} {R : RdR} {l : List α} {vs : List V} (h : Reps T R l vs) : ∀ (i : Nat) x v, l[i]? = some x → vs[i]? = some v → T.rep x v R := fun i x v e1 e2 => by
  obtain ⟨v', e3, r⟩ := h.get e1
  rw [e2] at e3; cases e3; exact r
theorem unl_ne {α β : Type} {d : α ⊕ β} : ∀ c, unl d ≠ .ex c := fun c => by cases d <;> exact fun h => nomatch h
theorem unr_ne {α β : Type} {d : α ⊕ β} : ∀ c, unr d ≠ .ex c := fun c => by cases d <;> exact fun h => nomatch h
/-- int(text) -/
def intS (x : Tx) : M Int := match PySem.intText? (toS x) with | some n => if x.length ≤ 640 then .ok n else .no | none => .no
theorem intS_ne {x : Tx} : ∀ c, intS x ≠ .ex c := fun c => by
  unfold intS
  split
  · split <;> exact fun h => nomatch h
  · exact fun h => nomatch h
section
variable {p : Pr} {sc : Scope} {NN VV GG : List Str} {k : Nat} {g : G} {L L' : List Slot} {a b c e e' : Expr} {es : List Expr} {md md' : Md} {α β γ δ ρ : Type} {S : Ty α} {T : Ty β} {U : Ty γ} {A : Ar δ} {pos pp : Pos} {j : Nat}
/-- seen as another kind -/
theorem ev_asM {m : M α} {f : α → M β} (hr : ∀ {d v R y}, S.rep d v R → f d = .ok y → T.rep y v R) (hne : ∀ {d} c, f d ≠ .ex c) (h : EvE g L e md S m) : EvE g L e md T (m.bind f) := PE.imp h fun σ H Q q => by
  obtain ⟨kp, own, at_, q⟩ := tE_iff.mp q
  refine tE_iff.mpr ⟨kp, own, at_, ?_⟩
  cases m with
  | ok d =>
    intro v H' s r
    have q : FinE g.fm g.W own σ H md T Q (f d) := q
    cases hf : f d with
    | ok y => rw [hf] at q; exact q v H' s (hr r hf)
    | ex c => exact absurd hf (hne c)
    | no => rw [hf] at q; exact q.elim
  | ex c => exact q
  | no => exact q
theorem ev_inl {m : M α} (h : EvE g L e md S m) : EvE g L e md (tSum S T) (m.bind fun d => .ok (.inl d)) := ev_as (fun d v R r => r) h
theorem ev_inr {m : M β} (h : EvE g L e md T m) : EvE g L e md (tSum S T) (m.bind fun d => .ok (.inr d)) := ev_as (fun d v R r => r) h
theorem unl_r {d : α ⊕ β} {v : V} {R : RdR} {y : α} (h : (tSum S T).rep d v R) (e : unl d = .ok y) : S.rep y v R := by
  cases d with
  | inl a => cases e; exact h
  | inr b => cases e
theorem unr_r {d : α ⊕ β} {v : V} {R : RdR} {y : β} (h : (tSum S T).rep d v R) (e : unr d = .ok y) : T.rep y v R := by
  cases d with
  | inl a => cases e
  | inr b => cases e; exact h
theorem ev_unl {m : M (α ⊕ β)} (h : EvE g L e md (tSum S T) m) : EvE g L e md S (m.bind unl) := ev_asM unl_r unl_ne h
theorem ev_unr {m : M (α ⊕ β)} (h : EvE g L e md (tSum S T) m) : EvE g L e md T (m.bind unr) := ev_asM unr_r unr_ne h
theorem ev_intS {m : M Tx} (ok : Ok p sc NN VV GG k g) (hG : GG[j]? = some "int") (hmg : p.mg "int" = none) (ha : EvE g L a md tStr m) (hs : starEach [a] g.X.env = (false, eval a g.X.env) :: starEach [] g.X.env := by rfl) : EvE g L (.Call (.Name "int" pp) [a] [] pos) md' tInt (m.bind intS) :=
  ev_t1 (fr := true) ok call_int_str (fun {d v R H Q} rb h q => by
    unfold intS at q
    split at q
    · rename_i n hn
      split at q
      · rename_i hl
        exact ⟨toS d, n, by rw [h.1], hn, by rw [toS_len]; exact hl, q _ _ (Same.refl _) rfl⟩
      · exact q.elim
    · exact q.elim) (fun _ => intS_ne) .fresh hG hmg (by decide +kernel) ha hs
/-- a def that is not promised anything -/
theorem body_no {st : Stmt} {L0 : δ → List Slot} {D : ρ → Out} : Body p st NN VV GG k L0 D (fun _ => .no) := fun g ok hX d => ⟨fun pins s σ H D I ⟨kp, own, at_, q⟩ => q.elim⟩
end
end Hd
namespace Hd
open PySem PySem.Spec L2
def insCB (K : PySem.W.Frag) (D : Addr) : Bool :=
  He.eqO (PySem.W.findIn K (.ref D) "__class__") (some (some (.builtin "object.__class__"))) && (He.eqO (PySem.W.specialIn K (.builtin "object.__class__") "__get__") (some (some (.builtin "getset_descriptor.__get__"))) && (decide (PySem.W.takesIn K (.builtin "object.__class__") = some true) && (decide (PySem.W.mroIn K D (.type "object") = some true) && decide (PySem.W.kitOne K (.ref D) (.ref D) = some true))))
theorem insC_ok {K : PySem.W.Frag} {D : Addr} (c : Cls K D) (h : insCB K D = true) : C8.InsC K D := by
  obtain ⟨h1, h⟩ := He.ba h
  obtain ⟨h2, h⟩ := He.ba h
  obtain ⟨h3, h⟩ := He.ba h
  obtain ⟨h4, h5⟩ := He.ba h
  exact ⟨c, He.eqO_ok h1, He.eqO_ok h2, of_decide_eq_true h3, of_decide_eq_true h4, of_decide_eq_true h5⟩
end Hd
namespace Hd
open PySem PySem.Spec L2
theorem WAt.set {δ : Type} {A : WAr δ} {kk : Nat} {α : Type} {O : WTy α} {pr : δ → α} {stt : δ → α → δ} (hA : WAt A kk O pr stt) : ∀ {d : δ} {vs : List V} {H : Hp} {R : RdR} {G F1 : List Addr} {x : α} {w : V}, A.rep d vs H R G → G.Nodup → O.rep x w H R F1 → F1.Nodup → (∀ q ∈ F1, q ∉ G) → ∃ G', A.rep (stt d x) (vs.set kk w) H R G' ∧ G'.Nodup ∧ (∀ q ∈ G', q ∈ F1 ∨ q ∈ G) ∧ kk < vs.length := by
  induction hA with
  | z =>
    rintro d vs H R G F1 x w ⟨v, r, Fa, Fb, e1, e2, h1, h2⟩ nd rx nd1 dis
    subst e1; subst e2
    have nd' := List.nodup_append.mp nd
    refine ⟨F1 ++ Fb, ⟨w, r, F1, Fb, rfl, rfl, rx, h2⟩, List.nodup_append.mpr ⟨nd1, nd'.2.1, fun q hq z hz e => dis q hq (by rw [e]; exact List.mem_append_right _ hz)⟩, fun q hq => ?_, by simp⟩
    rcases List.mem_append.mp hq with h | h
    · exact .inl h
    · exact .inr (List.mem_append_right _ h)
  | s _ ih =>
    rintro d vs H R G F1 x w ⟨v, r, Fa, Fb, e1, e2, h1, h2⟩ nd rx nd1 dis
    subst e1; subst e2
    have nd' := List.nodup_append.mp nd
    obtain ⟨G', g1, g2, g3, g4⟩ := ih h2 nd'.2.1 rx nd1 fun q hq hz => dis q hq (List.mem_append_right _ hz)
    refine ⟨Fa ++ G', ⟨v, _, Fa, G', rfl, rfl, h1, g1⟩, List.nodup_append.mpr ⟨nd'.1, g2, fun q hq z hz e => ?_⟩, fun q hq => ?_, by simp; omega⟩
    · subst e
      rcases g3 q hz with h | h
      · exact dis q h (List.mem_append_left _ hq)
      · exact nd'.2.2 q hq q h rfl
    · rcases List.mem_append.mp hq with h | h
      · exact .inr (List.mem_append_left _ h)
      · exact (g3 q h).imp id (List.mem_append_right _)
end Hd
namespace Hd
open PySem PySem.Spec L2
theorem RD.more {fm : Fm} {own own' : List Addr} {H H' : Hp} (s : Same H H') (k : ∀ p ∈ own', p ∈ own ∨ H p = none) : ∀ a o, RD fm own H a o → RD fm own' H' a o := fun a o r => by
  rcases r with ⟨r1, r2, r3⟩ | r
  · refine .inl ⟨Rd.same s r1, fun h => ?_, r3⟩
    rcases k a h with h | h
    · exact r2 h
    · rcases r1 with r1 | ⟨_, r1⟩ <;> rw [cl_none h] at r1 <;> cases r1
  · exact .inr r
end Hd
namespace Hd
open PySem PySem.Spec L2
/-- a list of one's own, its place and its values known -/
def wLv {α : Type} (a : Addr) (ws : List V) (O : WTy α) : WTy (List α) where
  T := tList O.T
  rep := fun ds v H R F => ∃ Fs, v = .ref a ∧ F = a :: Fs.flatten ∧ H a = some (.lst ws) ∧ RepsO O H R ds ws Fs
  st := by
    rintro d v H H' F R R' ⟨Fs, e1, e2, h, r⟩ s k
    exact ⟨Fs, e1, e2, by rw [k a (by rw [e2]; exact List.mem_cons_self)]; exact h, r.st s fun q hq => k q (by rw [e2]; exact List.mem_cons_of_mem _ hq)⟩
  tb := by
    rintro d v H F R ⟨Fs, e1, e2, h, r⟩ q hq
    rw [e2] at hq
    rcases List.mem_cons.mp hq with e | hq
    · subst e; exact ⟨_, h, rfl⟩
    · exact r.tb q hq
  fz := by
    rintro d v H F R R' ⟨Fs, e1, e2, h, r⟩ s k
    exact ⟨a, ws, e1, k a (by rw [e2]; exact List.mem_cons_self) _ h, r.fz s fun q hq => k q (by rw [e2]; exact List.mem_cons_of_mem _ hq)⟩
inductive WPin {γ : Type} (O3 : WTy γ) : {δ : Type} → WAr δ → Nat → (Addr → List V → WAr δ) → (δ → List γ) → (δ → List γ → δ) → Prop where
  | z {δ : Type} {A : WAr δ} : WPin O3 (waCons (wL O3) A) 0 (fun a ws => waCons (wLv a ws O3) A) (fun d => d.1) (fun d y => (y, d.2))
  | s {β δ : Type} {O' : WTy β} {A : WAr δ} {k : Nat} {A' : Addr → List V → WAr δ} {pr : δ → List γ} {stt : δ → List γ → δ} : WPin O3 A k A' pr stt → WPin O3 (waCons O' A) (k + 1) (fun a ws => waCons O' (A' a ws)) (fun d => pr d.2) (fun d y => (d.1, stt d.2 y))
section
variable {γ δ : Type} {O3 : WTy γ} {A : WAr δ} {kk : Nat} {A' : Addr → List V → WAr δ} {pr : δ → List γ} {stt : δ → List γ → δ} {H : Hp} {R : RdR}
theorem WPin.of (h : WPin O3 A kk A' pr stt) : ∀ {d vs G a ws}, (A' a ws).rep d vs H R G → A.rep d vs H R G := by
  induction h with
  | z =>
    rintro d vs G a ws ⟨v, r, F1, F2, e1, e2, ⟨Fs, e3, e4, h3, h4⟩, h2⟩
    exact ⟨v, r, F1, F2, e1, e2, ⟨a, ws, Fs, e3, e4, h3, h4⟩, h2⟩
  | s _ ih =>
    rintro d vs G a ws ⟨v, r, F1, F2, e1, e2, h1, h2⟩
    exact ⟨v, r, F1, F2, e1, e2, h1, ih h2⟩
theorem WPin.at_ (h : WPin O3 A kk A' pr stt) (a : Addr) (ws : List V) : WAt (A' a ws) kk (wLv a ws O3) pr stt := by
  induction h with
  | z => exact .z
  | s _ ih => exact .s ih
end
end Hd
namespace Hd
open PySem PySem.Spec L2
theorem NoEx.bind {α β : Type} {m : M α} {f : α → M β} (h : NoEx m) (k : ∀ a, NoEx (f a)) : NoEx (m.bind f) := fun c e => by
  cases m with
  | ok a => exact k a c e
  | ex c' => exact h c' rfl
  | no => cases e
end Hd
namespace Hd
open PySem PySem.Spec L2
/-- a part taken out of written items -/
inductive WTk : {δ δ' : Type} → WAr δ → Nat → {α : Type} → WTy α → (δ → α) → WAr δ' → (δ → δ') → Prop where
  | z {α δ : Type} {O : WTy α} {A : WAr δ} : WTk (waCons O A) 0 O (fun d => d.1) (waCons (wV tAny) A) (fun d => ((), d.2))
  | s {α β δ δ' : Type} {O : WTy α} {O' : WTy β} {A : WAr δ} {A' : WAr δ'} {k : Nat} {pr : δ → α} {f : δ → δ'} : WTk A k O pr A' f → WTk (waCons O' A) (k + 1) O (fun d => pr d.2) (waCons O' A') (fun d => (d.1, f d.2))
theorem WTk.take {δ δ' γ : Type} {A : WAr δ} {A' : WAr δ'} {k : Nat} {O : WTy γ} {pr : δ → γ} {f : δ → δ'} (h : WTk A k O pr A' f) : ∀ {d : δ} {vs : List V} {H : Hp} {R : RdR} {G : List Addr}, A.rep d vs H R G → G.Nodup → ∃ v3 F3 G', vs[k]? = some v3 ∧ O.rep (pr d) v3 H R F3 ∧ A'.rep (f d) vs H R G' ∧ (∀ q ∈ G', q ∈ G ∧ q ∉ F3) ∧ (∀ q ∈ F3, q ∈ G) ∧ F3.Nodup ∧ G'.Nodup := by
  induction h with
  | z =>
    rintro d vs H R G ⟨v, r, F1, F2, e1, e2, h1, h2⟩ nd
    subst e1; subst e2
    rw [List.nodup_append] at nd
    exact ⟨v, F1, F2, rfl, h1, ⟨v, r, [], F2, rfl, rfl, ⟨rfl, trivial⟩, h2⟩, fun q hq => ⟨List.mem_append_right _ hq, fun hq' => nd.2.2 q hq' q hq rfl⟩, fun q hq => List.mem_append_left _ hq, nd.1, nd.2.1⟩
  | s _ ih =>
    rintro d vs H R G ⟨v, r, F1, F2, e1, e2, h1, h2⟩ nd
    subst e1; subst e2
    rw [List.nodup_append] at nd
    obtain ⟨v3, F3, G', e3, r3, rr, g1, g2, g3, g4⟩ := ih h2 nd.2.1
    refine ⟨v3, F3, F1 ++ G', by simpa using e3, r3, ⟨v, r, F1, G', rfl, rfl, h1, rr⟩, fun q hq => ?_, fun q hq => List.mem_append_right _ (g2 q hq), g3, List.nodup_append.mpr ⟨nd.1, g4, fun a ha b hb e => nd.2.2 a ha b (g1 b hb).1 e⟩⟩
    rcases List.mem_append.mp hq with hq | hq
    · exact ⟨List.mem_append_left _ hq, fun hq' => nd.2.2 q hq q (g2 q hq') rfl⟩
    · exact ⟨List.mem_append_right _ (g1 q hq).1, (g1 q hq).2⟩
def Fl.mg {α : Type} : Fl α α → α
  | .nx a => a
  | .rt a => a
end Hd
namespace Hd
open PySem PySem.Spec PyProof.Rows L2
def RN : RdR := fun _ _ => False
structure KyA {κ : Type} (A : Ar κ) (f : κ → List Key) : Prop where
  inj : ∀ {a b}, f a = f b → a = b
  to : ∀ {d vs R}, A.rep d vs R → vs = (f d).map kV
  flat : ∀ {d vs} {R R' : RdR}, A.rep d vs R → A.rep d vs R'
section
variable {p : Pr} {sc : Scope} {NN VV GG : List Str} {k : Nat} {g : G} {L : List Slot} {α β δ κ : Type} {S : Ty α} {T : Ty β} {md md' : Md} {pos : Pos} {st : List Stmt} {D : δ → Out} {i j : Nat} {x : Str} {a b c e : Expr} {es : List Expr} {A : Ar κ} {f : κ → List Key}
inductive TReps {κ α : Type} (A : Ar κ) (f : κ → List Key) (T : Ty α) (R : RdR) : List (κ × α) → List (List Key × V) → Prop where
  | nil : TReps A f T R [] []
  | cons {k d v ds vs} : A.rep k ((f k).map kV) RN → T.rep d v R → TReps A f T R ds vs → TReps A f T R ((k, d) :: ds) ((f k, v) :: vs)
theorem TReps.mono {R R' : RdR} {ds : List (κ × α)} {vs : List (List Key × V)} (h : TReps A f S R ds vs) (s : ∀ a o, R a o → R' a o) : TReps A f S R' ds vs := by
  induction h with
  | nil => exact .nil
  | cons a r _ ih => exact .cons a (S.mono r s) ih
theorem TReps.length {R : RdR} {ds : List (κ × α)} {vs : List (List Key × V)} (h : TReps A f S R ds vs) : ds.length = vs.length := by
  induction h with
  | nil => rfl
  | cons a r _ ih => simp [ih]
section
variable [DecidableEq κ]
def dgetT {κ α : Type} [DecidableEq κ] (ds : List (κ × α)) (k : κ) : Option α := (ds.find? fun kv => decide (kv.1 = k)).map (·.2)
def dputT {κ α : Type} [DecidableEq κ] (ds : List (κ × α)) (k : κ) (d : α) : List (κ × α) := if (ds.any fun kv => decide (kv.1 = k)) = true then ds.map (fun kv => if kv.1 = k then (kv.1, d) else kv) else ds ++ [(k, d)]
theorem TReps.get {R : RdR} {ds : List (κ × α)} {vs : List (List Key × V)} (hk : KyA A f) (h : TReps A f S R ds vs) (k : κ) : (dgetT ds k = none ∧ valV vs (f k) = none) ∨ ∃ d v, dgetT ds k = some d ∧ valV vs (f k) = some v ∧ S.rep d v R := by
  induction h with
  | nil => exact .inl ⟨rfl, rfl⟩
  | @cons k' d v ds vs a r _ ih =>
    by_cases e : k' = k
    · exact .inr ⟨d, v, by simp [dgetT, List.find?_cons, e], valV_pos (by rw [e]), r⟩
    · have e1 : dgetT ((k', d) :: ds) k = dgetT ds k := by simp [dgetT, List.find?_cons, e]
      rw [e1, valV_neg (fun z => e (hk.inj z))]
      exact ih
theorem TReps.some {R : RdR} {ds : List (κ × α)} {vs : List (List Key × V)} (hk : KyA A f) (h : TReps A f S R ds vs) (k : κ) : (valV vs (f k)).isSome = (dgetT ds k).isSome := by
  rcases h.get hk k with ⟨g1, g2⟩ | ⟨d, v, g1, g2, _⟩ <;> rw [g1, g2] <;> rfl
theorem TReps.map {R : RdR} {ds : List (κ × α)} {vs : List (List Key × V)} (hk : KyA A f) (h : TReps A f S R ds vs) (k : κ) {d : α} {v : V} (r : S.rep d v R) : TReps A f S R (ds.map (fun kv => if kv.1 = k then (kv.1, d) else kv)) (vs.map (fun kv => if kv.1 = f k then (kv.1, v) else kv)) := by
  induction h with
  | nil => exact .nil
  | @cons k' d' v' ds vs a r' _ ih =>
    rw [List.map_cons, List.map_cons]
    by_cases e : k' = k
    · have e' : f k' = f k := by rw [e]
      simp only [if_pos e, if_pos e']; exact .cons a r ih
    · have e' : ¬ f k' = f k := fun z => e (hk.inj z)
      simp only [if_neg e, if_neg e']; exact .cons a r' ih
theorem TReps.any {R : RdR} {ds : List (κ × α)} {vs : List (List Key × V)} (hk : KyA A f) (h : TReps A f S R ds vs) (k : κ) : (ds.any fun kv => decide (kv.1 = k)) = (vs.any fun kv => decide (kv.1 = f k)) := by
  induction h with
  | nil => rfl
  | @cons k' d' v' ds vs a r' _ ih =>
    rw [List.any_cons, List.any_cons, ih]
    congr 1
    by_cases e : k' = k
    · rw [decide_eq_true e, decide_eq_true (show f k' = f k by rw [e])]
    · rw [decide_eq_false e, decide_eq_false (fun z : f k' = f k => e (hk.inj z))]
theorem TReps.snoc {R : RdR} {ds : List (κ × α)} {vs : List (List Key × V)} (h : TReps A f S R ds vs) (k : κ) {d : α} {v : V} (a : A.rep k ((f k).map kV) RN) (r : S.rep d v R) : TReps A f S R (ds ++ [(k, d)]) (vs ++ [(f k, v)]) := by
  induction h with
  | nil => exact .cons a r .nil
  | cons a' r' _ ih => exact .cons a' r' ih
theorem TReps.put {R : RdR} {ds : List (κ × α)} {vs : List (List Key × V)} (hk : KyA A f) (h : TReps A f S R ds vs) (k : κ) {d : α} {v : V} (a : A.rep k ((f k).map kV) RN) (r : S.rep d v R) : TReps A f S R (dputT ds k d) (putK vs (f k) v) := by
  unfold dputT putK
  rw [h.any hk k]
  split
  · exact h.map hk k r
  · exact h.snoc k a r
end
end
end Hd
namespace Hd
open PySem PySem.Spec PyProof.Rows L2
section
variable {p : Pr} {sc : Scope} {NN VV GG : List Str} {k : Nat} {g : G} {L : List Slot} {α β δ : Type} {S : Ty α} {T : Ty β} {md md' : Md} {pos : Pos} {st : List Stmt} {D : δ → Out} {i j : Nat} {x : Str} {a b c e : Expr}
abbrev kS (z : Tx) : Key := .inr (toS z)
theorem evb_putDS {bb : Bool} {ds : List (Key × α)} {m : M α} {mi : M Tx} {f : List (Key × α) → M δ} {ix : Expr} {p1 p2 : Pos} (ok : OkS p sc NN VV GG k g) (wk : Wk L g.LX) (hN : NN[i]? = some x) (hV : VV[j]? = some x) (hL : L[i]? = some (sDict bb S ds)) (hb : SlB md bb)
    (he : EvE g L e md S m) (hi : EvE g L ix md' tStr mi) (hr : ∀ ds', EvB g (L.set i (sDict bb S ds')) st D (f ds'))
    (hs : swapsWith e (some (.Subscript (.Name x p1) ix p2)) pos.line g.X.env = pure false := by rfl) :
    EvB g L (.Assign [.Subscript (.Name x p1) ix p2] e pos :: st) D (m.bind fun d => mi.bind fun n => (dputM ds (kS n) d).bind f) := by
  obtain ⟨hv, ho⟩ := ok.vis hV
  obtain ⟨h1, h2, _⟩ := okName_d ho
  refine PSs.imp (pss_cons (ps_dput (by have := ok.toOk.room.un; omega) (pe_var (i := i) (by rw [ok.N]; exact hN) hv h1 h2) hi he hs) (PSs.ex hr)) fun E σ H ⟨kp, own, at_, q⟩ => ?_
  refine tE_iff.mpr ⟨kp, own, at_, ?_⟩
  cases m with
  | ok d =>
    intro v H1 s1 r1
    have a1 := at_.ext s1
    obtain ⟨p', vs, e1, hp, r, mu⟩ := a1.mutD hL
    refine ⟨_, e1, tE_iff.mpr ⟨kp, own, a1, ?_⟩⟩
    cases mi with
    | ok n =>
      intro y H2 s2 r2
      cases (show y = .str (toS n) from r2.1)
      have a2 := a1.ext s2
      obtain ⟨p2', vs2, e12, hp2, rr2, mu2⟩ := a2.mutD hL
      rw [e1] at e12
      cases e12
      have q : BOk g kp E D ((dputM ds (kS n) d).bind f) := q
      unfold dputM at q
      split at q
      · rename_i hlt
        exact ⟨p', _, rfl, DPut.k (k := kS n) hp2 (by rw [← rr2.length]; exact hlt), dputL ds (kS n) d, kp, own, mu2 _ _ (rr2.put (kS n) (S.mono r1 fun a o z => RB.same s2 bb a o (hb.rb a o z))), q⟩
      · exact q.elim
    | ex c => exact BOk.exx wk a1 q
    | no => exact q
  | ex c => exact BOk.exx wk at_ q
  | no => exact q
theorem evt_notinVS {m1 : M Tx} {m2 : M (List (Key × α))} (ok : Ok p sc NN VV GG k g) (ha : EvE g L a md tStr m1) (hb : EvE g L b md (tDict S) m2)
    (hk : behindInMarks .NotIn b = false := by first | exact nobehind _ (by decide) (by decide) | rfl) : EvT g L (.Compare a [.NotIn] [b] pos) (m1.bind fun n => m2.bind fun ds => .ok (!(dgetL ds (kS n)).isSome)) := by
  refine PT.imp (pt_cmp (pc_dnotin (by have := ok.room.un; omega) ha hb) hk) fun σ H Q q => ?_
  obtain ⟨kp, own, at_, q⟩ := tT_iff.mp q
  refine sub finT (Same.refl H) at_ q fun n y H1 s1 r1 at1 q1 => sub finT s1 at1 q1 fun ds z H2 s2 r2 at2 q2 => ?_
  cases (show y = .str (toS n) from r1.1)
  obtain ⟨ad, vs, rfl, h, r⟩ := r2
  have hR : L2.Rd H2 ad (.dK vs) := (RX.rdb (md := md) _ _ h rfl).resolve_right fun z => z
  refine ⟨ad, _, rfl, .inl ⟨vs, kS n, hR, rfl, rfl⟩, _, rfl, ?_⟩
  rw [r.some]
  exact q2 H2 (s1.trans s2)
theorem ev_subVS {m1 : M (List (Key × α))} {m2 : M Tx} (ok : Ok p sc NN VV GG k g) (ha : EvE g L a md (tDict S) m1) (hb : EvE g L b md tStr m2) (hs : NoSl b := by intro _ _; rfl) :
    EvE g L (.Subscript a b pos) md S (m1.bind fun ds => m2.bind fun n => getDM ds (kS n)) := by
  refine PE.imp (pe_dget (by have := ok.room.un; omega) ha hb hs) fun σ H Q q => ?_
  obtain ⟨kp, own, at_, q⟩ := tE_iff.mp q
  refine sub finE (Same.refl H) at_ q fun ds z H1 s1 r1 at1 q1 => sub finE s1 at1 q1 fun n y H2 s2 r2 at2 q2 => ?_
  cases (show y = .str (toS n) from r2.1)
  obtain ⟨ad, vs, rfl, h, r⟩ := (tDict S).mono r1 (RX.same s2)
  have hR : L2.Rd H2 ad (.dK vs) := (RX.rdb (md := md) _ _ h rfl).resolve_right fun z => z
  unfold getDM at q2
  rcases r.get (kS n) with ⟨g1, g2⟩ | ⟨d', v', g1, g2, g3⟩
  · rw [g1] at q2
    exact q2.elim
  · rw [g1] at q2
    exact ⟨ad, v', rfl, by rw [← g2]; exact .inl ⟨vs, kS n, hR, rfl, rfl⟩, q2.fin (fr := false) .same (s1.trans s2) at2 (fun c z => by cases z) v' H2 (Same.refl _) (S.mono g3 (Nw.old rfl))⟩
end
def kget (kvs : List (Tx × Tx)) (z : Tx) : Option Tx := (kvs.find? fun q => decide (q.1 = z)).map (·.2)
def kgetM (kvs : List (Tx × Tx)) (z : Tx) : M Tx := match kget kvs z with
  | some y => .ok y
  | none => .no
theorem kgetM_ne {kvs : List (Tx × Tx)} {z : Tx} : ∀ c, kgetM kvs z ≠ .ex c := fun c => by unfold kgetM; split <;> exact fun h => nomatch h
structure KD (p : Pr) (x : Str) (kvs : List (Tx × Tx)) : Prop where
  mg : p.mg x = some (.ref (cA p x))
  kd : ∃ es n, KDict p.K p.w (cA p x) es n
  get : ∀ z : Tx, (∃ y u, kget kvs z = some y ∧ OkTx y ∧ PySem.W.nsIn p.K (cA p x) (toS z) = some (some u) ∧ RelV (.str (toS y)) u) ∨ (kget kvs z = none ∧ PySem.W.nsIn p.K (cA p x) (toS z) = some none)
theorem keyOf_find {P : Params} {x : Str} : ∀ {l : List DictEntry} {ks : List Str}, l.map He.keyOf = He.keysIn P ks → x ∉ ks → l.find? (·.key.isStr x) = none ∧ l.any (·.refKey) = false
  | [], _, _, _ => ⟨rfl, rfl⟩
  | e :: r, [], h, _ => by cases h
  | e :: r, k :: ks, h, hx => by
    have h1 : He.keyOf e :: r.map He.keyOf = some (k, PyData.keyHash P k) :: He.keysIn P ks := h
    injection h1 with h2 h3
    obtain ⟨i1, i2⟩ := keyOf_find (x := x) h3 (fun z => hx (List.mem_cons_of_mem _ z))
    unfold He.keyOf at h2
    split at h2
    · rename_i y t q
      have h4 := Option.some.inj h2
      obtain ⟨h5, h6⟩ := Prod.mk.inj h4
      have ne : (y == x) = false := by
        cases z : y == x with
        | false => rfl
        | true => exact absurd (by rw [← h5, beq_iff_eq.mp z]; exact List.mem_cons_self) hx
      constructor
      · rw [List.find?_cons, q]
        show (match (y == x) with | true => _ | false => _) = _
        rw [ne]
        exact i1
      · rw [List.any_cons, i2]
        unfold DictEntry.refKey
        rw [q]
        rfl
    · cases h2
theorem dicW_not {K : PySem.W.Frag} {P : Params} {a : Addr} {ks : List Str} {x : Str} (h : He.dicW K a = some (He.keysIn P ks)) (hx : x ∉ ks) : PySem.W.nsIn K a x = some none := by
  unfold He.dicW at h
  unfold PySem.W.nsIn
  split at h
  · rename_i c es n sl q
    rw [q]
    split at h
    · obtain ⟨i1, i2⟩ := keyOf_find (x := x) (Option.some.inj h) hx
      show (match es.toList.find? (·.key.isStr x) with | some e => some (some e.val) | none => if es.toList.any (·.refKey) then none else some none) = some none
      rw [i1]
      show (if es.toList.any (·.refKey) = true then none else some none) = some none
      rw [i2]
      rfl
    · cases h
  · cases h
def kdB (K : PySem.W.Frag) (x : Str) (kvs : List (Tx × Tx)) : Bool := He.valsB K (He.ga K x) (kvs.map fun q => (toS q.1, .str (toS q.2)))
def kdOk (kvs : List (Tx × Tx)) : Bool := kvs.all fun q => okTxB q.2
theorem kget_mem {kvs : List (Tx × Tx)} {z y : Tx} (h : kget kvs z = some y) : (z, y) ∈ kvs := by
  unfold kget at h
  cases e : kvs.find? fun q => decide (q.1 = z) with
  | none => rw [e] at h; cases h
  | some q =>
    rw [e] at h
    have h1 := List.find?_some e
    have h2 := List.mem_of_find?_eq_some e
    obtain ⟨q1, q2⟩ := q
    cases h
    rw [← of_decide_eq_true h1]
    exact h2
theorem kd_ok {p : Pr} {x : Str} {kvs : List (Tx × Tx)} (mg : p.mg x = some (.ref (cA p x))) (h : He.dicW p.K (cA p x) = some (He.keysIn p.w.params (kvs.map fun q => toS q.1))) (hv : kdB p.K x kvs = true) (ho : kdOk kvs = true) : KD p x kvs := by
  refine ⟨mg, He.dicW_ok h, fun z => ?_⟩
  cases e : kget kvs z with
  | some y =>
    have hm := kget_mem e
    obtain ⟨u, h1, h2⟩ := He.valsB_ok hv (List.mem_map_of_mem (f := fun q : Tx × Tx => (toS q.1, He.Dv.str (toS q.2))) hm)
    exact .inl ⟨y, u, rfl, okTx_of (List.all_eq_true.mp ho _ hm), h1, h2⟩
  | none =>
    refine .inr ⟨rfl, dicW_not h fun hm => ?_⟩
    obtain ⟨q, h1, h2⟩ := List.mem_map.mp hm
    unfold kget at e
    rw [Option.map_eq_none_iff, List.find?_eq_none] at e
    exact e q h1 (decide_eq_true (toS_inj h2))
/-- the global, as a value -/
def tClK (C : Addr) : Ty Unit := ⟨fun _ v _ => v = .ref C, fun h _ => h⟩
section
variable {p : Pr} {sc : Scope} {NN VV GG : List Str} {k : Nat} {g : G} {L : List Slot} {md md' : Md} {pos pp : Pos} {i j : Nat} {x : Str} {a b c e : Expr} {kvs : List (Tx × Tx)}
theorem ev_kdV (ok : Ok p sc NN VV GG k g) (hG : GG[j]? = some x) (X : KD p x kvs) : EvE g L (.Name x pos) md (tClK (cA p x)) (.ok ()) := ev_glob (v := .ref (cA p x)) ok hG X.mg rfl (fun _ => rfl)
theorem evt_inK {m : M Tx} (ok : Ok p sc NN VV GG k g) (X : KD p x kvs) (hG : GG[j]? = some x) (ha : EvE g L a .sh tStr m) (hk : behindInMarks .In (.Name x pp) = false := by first | exact nobehind _ (by decide) (by decide) | rfl) :
    EvT g L (.Compare a [.In] [.Name x pp] pos) (m.bind fun z => .ok (kget kvs z).isSome) := by
  obtain ⟨es, n, D⟩ := X.kd
  have h := evt_cmp (pos := pos) (fr := true) (S := tStr) (T := tClK (cA p x)) (f := fun z (_ : Unit) => M.ok (kget kvs z).isSome) (m2 := .ok ()) ok (op_in_kd (X := g.X) (d := cA p x) (es := es) (n := n) (by rw [ok.K, ok.w]; exact D)) ⟨fun {d e v y R H Q} rb h1 h2 q => by
    cases (show y = .ref (cA p x) from h2)
    rcases X.get d with ⟨w, u, g1, _, g2, _⟩ | ⟨g1, g2⟩
    · exact ⟨toS d, _, h1.1, rfl, by rw [ok.K]; exact g2, q _ _ (Same.refl _) (by show _ = V.bl _; rw [g1]; rfl)⟩
    · exact ⟨toS d, _, h1.1, rfl, by rw [ok.K]; exact g2, q _ _ (Same.refl _) (by show _ = V.bl _; rw [g1]; rfl)⟩⟩ (fun _ _ _ h => nomatch h) ha (ev_kdV (md := .sh) (pos := pp) ok hG X) hk
  exact h
theorem evt_notinK {m : M Tx} (ok : Ok p sc NN VV GG k g) (X : KD p x kvs) (hG : GG[j]? = some x) (ha : EvE g L a .sh tStr m) (hk : behindInMarks .NotIn (.Name x pp) = false := by first | exact nobehind _ (by decide) (by decide) | rfl) :
    EvT g L (.Compare a [.NotIn] [.Name x pp] pos) (m.bind fun z => .ok (!(kget kvs z).isSome)) := by
  obtain ⟨es, n, D⟩ := X.kd
  have h := evt_cmp (pos := pos) (fr := true) (S := tStr) (T := tClK (cA p x)) (f := fun z (_ : Unit) => M.ok (!(kget kvs z).isSome)) (m2 := .ok ()) ok (op_notIn_kd (X := g.X) (d := cA p x) (es := es) (n := n) (by rw [ok.K, ok.w]; exact D)) ⟨fun {d e v y R H Q} rb h1 h2 q => by
    cases (show y = .ref (cA p x) from h2)
    rcases X.get d with ⟨w, u, g1, _, g2, _⟩ | ⟨g1, g2⟩
    · exact ⟨toS d, _, h1.1, rfl, by rw [ok.K]; exact g2, q _ _ (Same.refl _) (by show _ = V.bl _; rw [g1]; rfl)⟩
    · exact ⟨toS d, _, h1.1, rfl, by rw [ok.K]; exact g2, q _ _ (Same.refl _) (by show _ = V.bl _; rw [g1]; rfl)⟩⟩ (fun _ _ _ h => nomatch h) ha (ev_kdV (md := .sh) (pos := pp) ok hG X) hk
  exact h
theorem ev_subK {m : M Tx} (ok : Ok p sc NN VV GG k g) (X : KD p x kvs) (hG : GG[j]? = some x) (ha : EvE g L a .sh tStr m) (hs : PlainIx a := by exact fun _ _ => rfl) : EvE g L (.Subscript (.Name x pp) a pos) .sh tStr (m.bind fun z => kgetM kvs z) := by
  obtain ⟨es, n, D⟩ := X.kd
  have h := ev_ix (pos := pos) (md' := .sh) (S := tClK (cA p x)) (T := tStr) (U := tStr) (f := fun (_ : Unit) z => kgetM kvs z) (m1 := .ok ()) (m2 := m) (r := rIxD g.X.K g.X.w) (fr := true) ok ix_kdict ⟨fun {d e v y R H Q} rb h1 h2 q => by
    cases (show v = .ref (cA p x) from h1)
    rcases X.get e with ⟨w, u, g1, ow, g2, g3⟩ | ⟨g1, g2⟩
    · unfold kgetM at q
      rw [g1] at q
      exact ⟨_, _, _, rfl, h2.1, ⟨es, n, u, by rw [ok.K]; exact D.at_, by rw [ok.w]; exact D.lit, by rw [ok.K]; exact g2, g3⟩, q _ _ (Same.refl _) ⟨rfl, ow⟩⟩
    · unfold kgetM at q
      rw [g1] at q
      exact q.elim⟩ (fun _ _ => kgetM_ne) .same (ev_kdV (md := .sh) (pos := pp) ok hG X) ha hs
  exact h
end
end Hd
namespace Hd
open PySem PySem.Spec L2
inductive Pc where
  | Given (ends picks : Int) (texts : List Tx)
  | Named (ends picks : Int) (texts : List Tx) (name : Tx)
  | Twill (ends picks : Int) (many : Int) (more : Int)
  | Satin (ends picks : Int) (step : Int)
  | Beside (ends picks : Int) (left : Pc) (right : Pc)
  | Above (ends picks : Int) (first : Pc) (later : Pc)
  | Mirrored (ends picks : Int) (inner : Pc)
  | Backed (ends picks : Int) (inner : Pc)
  | Upended (ends picks : Int) (inner : Pc)
  | Quartered (ends picks : Int) (inner : Pc)
  | Repeated (ends picks : Int) (inner : Pc) (across : Int) (along : Int)
  | Blocked (ends picks : Int) (profile : Pc) (unit : Pc) (other : Pc)
  | Covered (ends picks : Int) (upper_one : Pc) (lower_one : Pc)
inductive PK where
  | Given | Named | Twill | Satin | Beside | Above | Mirrored | Backed | Upended | Quartered | Repeated | Blocked | Covered
  deriving DecidableEq
def PK.nm : PK → Str
  | .Given => "Given"
  | .Named => "Named"
  | .Twill => "Twill"
  | .Satin => "Satin"
  | .Beside => "Beside"
  | .Above => "Above"
  | .Mirrored => "Mirrored"
  | .Backed => "Backed"
  | .Upended => "Upended"
  | .Quartered => "Quartered"
  | .Repeated => "Repeated"
  | .Blocked => "Blocked"
  | .Covered => "Covered"
def PK.all : List PK := [.Given, .Named, .Twill, .Satin, .Beside, .Above, .Mirrored, .Backed, .Upended, .Quartered, .Repeated, .Blocked, .Covered]
theorem PK.mem (c : PK) : c ∈ PK.all := by cases c <;> decide
def Pc.k : Pc → PK
  | .Given _ _ _ => .Given
  | .Named _ _ _ _ => .Named
  | .Twill _ _ _ _ => .Twill
  | .Satin _ _ _ => .Satin
  | .Beside _ _ _ _ => .Beside
  | .Above _ _ _ _ => .Above
  | .Mirrored _ _ _ => .Mirrored
  | .Backed _ _ _ => .Backed
  | .Upended _ _ _ => .Upended
  | .Quartered _ _ _ => .Quartered
  | .Repeated _ _ _ _ _ => .Repeated
  | .Blocked _ _ _ _ _ => .Blocked
  | .Covered _ _ _ _ => .Covered
def Pc.ends : Pc → Int
  | .Given e _ _ => e
  | .Named e _ _ _ => e
  | .Twill e _ _ _ => e
  | .Satin e _ _ => e
  | .Beside e _ _ _ => e
  | .Above e _ _ _ => e
  | .Mirrored e _ _ => e
  | .Backed e _ _ => e
  | .Upended e _ _ => e
  | .Quartered e _ _ => e
  | .Repeated e _ _ _ _ => e
  | .Blocked e _ _ _ _ => e
  | .Covered e _ _ _ => e
def Pc.picks : Pc → Int
  | .Given _ q _ => q
  | .Named _ q _ _ => q
  | .Twill _ q _ _ => q
  | .Satin _ q _ => q
  | .Beside _ q _ _ => q
  | .Above _ q _ _ => q
  | .Mirrored _ q _ => q
  | .Backed _ q _ => q
  | .Upended _ q _ => q
  | .Quartered _ q _ => q
  | .Repeated _ q _ _ _ => q
  | .Blocked _ q _ _ _ => q
  | .Covered _ q _ _ => q
/-- all names of fields -/
def pcN : List Str := ["ends", "picks", "texts", "name", "many", "more", "step", "left", "right", "first", "later", "inner", "across", "along", "profile", "unit", "other", "upper_one", "lower_one"]
def pcRep (p : Pr) (R : RdR) : Pc → V → Prop
  | .Given e q d0, v => ∃ (a dx : Addr) (w0 : V), v = .ref a ∧ R a (.ins (cA p "Given") dx [("ends", .int e), ("picks", .int q), ("texts", w0)]) ∧ (tList tStr).rep d0 w0 R
  | .Named e q d0 d1, v => ∃ (a dx : Addr) (w0 : V), v = .ref a ∧ R a (.ins (cA p "Named") dx [("ends", .int e), ("picks", .int q), ("texts", w0), ("name", .str (toS d1))]) ∧ (tList tStr).rep d0 w0 R ∧ OkTx d1
  | .Twill e q d0 d1, v => ∃ (a dx : Addr), v = .ref a ∧ R a (.ins (cA p "Twill") dx [("ends", .int e), ("picks", .int q), ("many", .int d0), ("more", .int d1)])
  | .Satin e q d0, v => ∃ (a dx : Addr), v = .ref a ∧ R a (.ins (cA p "Satin") dx [("ends", .int e), ("picks", .int q), ("step", .int d0)])
  | .Beside e q d0 d1, v => ∃ (a dx : Addr) (w0 : V) (w1 : V), v = .ref a ∧ R a (.ins (cA p "Beside") dx [("ends", .int e), ("picks", .int q), ("left", w0), ("right", w1)]) ∧ pcRep p R d0 w0 ∧ pcRep p R d1 w1
  | .Above e q d0 d1, v => ∃ (a dx : Addr) (w0 : V) (w1 : V), v = .ref a ∧ R a (.ins (cA p "Above") dx [("ends", .int e), ("picks", .int q), ("first", w0), ("later", w1)]) ∧ pcRep p R d0 w0 ∧ pcRep p R d1 w1
  | .Mirrored e q d0, v => ∃ (a dx : Addr) (w0 : V), v = .ref a ∧ R a (.ins (cA p "Mirrored") dx [("ends", .int e), ("picks", .int q), ("inner", w0)]) ∧ pcRep p R d0 w0
  | .Backed e q d0, v => ∃ (a dx : Addr) (w0 : V), v = .ref a ∧ R a (.ins (cA p "Backed") dx [("ends", .int e), ("picks", .int q), ("inner", w0)]) ∧ pcRep p R d0 w0
  | .Upended e q d0, v => ∃ (a dx : Addr) (w0 : V), v = .ref a ∧ R a (.ins (cA p "Upended") dx [("ends", .int e), ("picks", .int q), ("inner", w0)]) ∧ pcRep p R d0 w0
  | .Quartered e q d0, v => ∃ (a dx : Addr) (w0 : V), v = .ref a ∧ R a (.ins (cA p "Quartered") dx [("ends", .int e), ("picks", .int q), ("inner", w0)]) ∧ pcRep p R d0 w0
  | .Repeated e q d0 d1 d2, v => ∃ (a dx : Addr) (w0 : V), v = .ref a ∧ R a (.ins (cA p "Repeated") dx [("ends", .int e), ("picks", .int q), ("inner", w0), ("across", .int d1), ("along", .int d2)]) ∧ pcRep p R d0 w0
  | .Blocked e q d0 d1 d2, v => ∃ (a dx : Addr) (w0 : V) (w1 : V) (w2 : V), v = .ref a ∧ R a (.ins (cA p "Blocked") dx [("ends", .int e), ("picks", .int q), ("profile", w0), ("unit", w1), ("other", w2)]) ∧ pcRep p R d0 w0 ∧ pcRep p R d1 w1 ∧ pcRep p R d2 w2
  | .Covered e q d0 d1, v => ∃ (a dx : Addr) (w0 : V) (w1 : V), v = .ref a ∧ R a (.ins (cA p "Covered") dx [("ends", .int e), ("picks", .int q), ("upper_one", w0), ("lower_one", w1)]) ∧ pcRep p R d0 w0 ∧ pcRep p R d1 w1
theorem pcRep_mono {p : Pr} {R R' : RdR} (s : ∀ a o, R a o → R' a o) : ∀ (d : Pc) {v : V}, pcRep p R d v → pcRep p R' d v
  | .Given e q d0, v, ⟨a, dx, w0, e1, h, r0⟩ => ⟨a, dx, w0,  e1, s _ _ h, (tList tStr).mono r0 s⟩
  | .Named e q d0 d1, v, ⟨a, dx, w0, e1, h, r0, r1⟩ => ⟨a, dx, w0,  e1, s _ _ h, (tList tStr).mono r0 s, r1⟩
  | .Twill e q d0 d1, v, ⟨a, dx, e1, h⟩ => ⟨a, dx,  e1, s _ _ h⟩
  | .Satin e q d0, v, ⟨a, dx, e1, h⟩ => ⟨a, dx,  e1, s _ _ h⟩
  | .Beside e q d0 d1, v, ⟨a, dx, w0, w1, e1, h, r0, r1⟩ => ⟨a, dx, w0, w1,  e1, s _ _ h, pcRep_mono s d0 r0, pcRep_mono s d1 r1⟩
  | .Above e q d0 d1, v, ⟨a, dx, w0, w1, e1, h, r0, r1⟩ => ⟨a, dx, w0, w1,  e1, s _ _ h, pcRep_mono s d0 r0, pcRep_mono s d1 r1⟩
  | .Mirrored e q d0, v, ⟨a, dx, w0, e1, h, r0⟩ => ⟨a, dx, w0,  e1, s _ _ h, pcRep_mono s d0 r0⟩
  | .Backed e q d0, v, ⟨a, dx, w0, e1, h, r0⟩ => ⟨a, dx, w0,  e1, s _ _ h, pcRep_mono s d0 r0⟩
  | .Upended e q d0, v, ⟨a, dx, w0, e1, h, r0⟩ => ⟨a, dx, w0,  e1, s _ _ h, pcRep_mono s d0 r0⟩
  | .Quartered e q d0, v, ⟨a, dx, w0, e1, h, r0⟩ => ⟨a, dx, w0,  e1, s _ _ h, pcRep_mono s d0 r0⟩
  | .Repeated e q d0 d1 d2, v, ⟨a, dx, w0, e1, h, r0⟩ => ⟨a, dx, w0,  e1, s _ _ h, pcRep_mono s d0 r0⟩
  | .Blocked e q d0 d1 d2, v, ⟨a, dx, w0, w1, w2, e1, h, r0, r1, r2⟩ => ⟨a, dx, w0, w1, w2,  e1, s _ _ h, pcRep_mono s d0 r0, pcRep_mono s d1 r1, pcRep_mono s d2 r2⟩
  | .Covered e q d0 d1, v, ⟨a, dx, w0, w1, e1, h, r0, r1⟩ => ⟨a, dx, w0, w1,  e1, s _ _ h, pcRep_mono s d0 r0, pcRep_mono s d1 r1⟩
def tPc (p : Pr) : Ty Pc := ⟨fun d v R => pcRep p R d v, fun {d v R R'} h s => pcRep_mono s d h⟩
/-- just this one -/
def tOnly (p : Pr) (d : Pc) : Ty Unit := ⟨fun _ v R => pcRep p R d v, fun h s => pcRep_mono s d h⟩
abbrev O_Given : Type := Int × Int × List Tx × Unit
def fl_Given (p : Pr) (d : O_Given) : List FldS := [⟨"ends", Int, tInt, d.1⟩, ⟨"picks", Int, tInt, d.2.1⟩, ⟨"texts", List Tx, (tList tStr), d.2.2.1⟩]
def mk_Given (d : O_Given) : Pc := .Given d.1 d.2.1 d.2.2.1
abbrev O_Named : Type := Int × Int × List Tx × Tx × Unit
def fl_Named (p : Pr) (d : O_Named) : List FldS := [⟨"ends", Int, tInt, d.1⟩, ⟨"picks", Int, tInt, d.2.1⟩, ⟨"texts", List Tx, (tList tStr), d.2.2.1⟩, ⟨"name", Tx, tStr, d.2.2.2.1⟩]
def mk_Named (d : O_Named) : Pc := .Named d.1 d.2.1 d.2.2.1 d.2.2.2.1
abbrev O_Twill : Type := Int × Int × Int × Int × Unit
def fl_Twill (p : Pr) (d : O_Twill) : List FldS := [⟨"ends", Int, tInt, d.1⟩, ⟨"picks", Int, tInt, d.2.1⟩, ⟨"many", Int, tInt, d.2.2.1⟩, ⟨"more", Int, tInt, d.2.2.2.1⟩]
def mk_Twill (d : O_Twill) : Pc := .Twill d.1 d.2.1 d.2.2.1 d.2.2.2.1
abbrev O_Satin : Type := Int × Int × Int × Unit
def fl_Satin (p : Pr) (d : O_Satin) : List FldS := [⟨"ends", Int, tInt, d.1⟩, ⟨"picks", Int, tInt, d.2.1⟩, ⟨"step", Int, tInt, d.2.2.1⟩]
def mk_Satin (d : O_Satin) : Pc := .Satin d.1 d.2.1 d.2.2.1
abbrev O_Beside : Type := Int × Int × Pc × Pc × Unit
def fl_Beside (p : Pr) (d : O_Beside) : List FldS := [⟨"ends", Int, tInt, d.1⟩, ⟨"picks", Int, tInt, d.2.1⟩, ⟨"left", Pc, (tPc p), d.2.2.1⟩, ⟨"right", Pc, (tPc p), d.2.2.2.1⟩]
def mk_Beside (d : O_Beside) : Pc := .Beside d.1 d.2.1 d.2.2.1 d.2.2.2.1
abbrev O_Above : Type := Int × Int × Pc × Pc × Unit
def fl_Above (p : Pr) (d : O_Above) : List FldS := [⟨"ends", Int, tInt, d.1⟩, ⟨"picks", Int, tInt, d.2.1⟩, ⟨"first", Pc, (tPc p), d.2.2.1⟩, ⟨"later", Pc, (tPc p), d.2.2.2.1⟩]
def mk_Above (d : O_Above) : Pc := .Above d.1 d.2.1 d.2.2.1 d.2.2.2.1
abbrev O_Mirrored : Type := Int × Int × Pc × Unit
def fl_Mirrored (p : Pr) (d : O_Mirrored) : List FldS := [⟨"ends", Int, tInt, d.1⟩, ⟨"picks", Int, tInt, d.2.1⟩, ⟨"inner", Pc, (tPc p), d.2.2.1⟩]
def mk_Mirrored (d : O_Mirrored) : Pc := .Mirrored d.1 d.2.1 d.2.2.1
abbrev O_Backed : Type := Int × Int × Pc × Unit
def fl_Backed (p : Pr) (d : O_Backed) : List FldS := [⟨"ends", Int, tInt, d.1⟩, ⟨"picks", Int, tInt, d.2.1⟩, ⟨"inner", Pc, (tPc p), d.2.2.1⟩]
def mk_Backed (d : O_Backed) : Pc := .Backed d.1 d.2.1 d.2.2.1
abbrev O_Upended : Type := Int × Int × Pc × Unit
def fl_Upended (p : Pr) (d : O_Upended) : List FldS := [⟨"ends", Int, tInt, d.1⟩, ⟨"picks", Int, tInt, d.2.1⟩, ⟨"inner", Pc, (tPc p), d.2.2.1⟩]
def mk_Upended (d : O_Upended) : Pc := .Upended d.1 d.2.1 d.2.2.1
abbrev O_Quartered : Type := Int × Int × Pc × Unit
def fl_Quartered (p : Pr) (d : O_Quartered) : List FldS := [⟨"ends", Int, tInt, d.1⟩, ⟨"picks", Int, tInt, d.2.1⟩, ⟨"inner", Pc, (tPc p), d.2.2.1⟩]
def mk_Quartered (d : O_Quartered) : Pc := .Quartered d.1 d.2.1 d.2.2.1
abbrev O_Repeated : Type := Int × Int × Pc × Int × Int × Unit
def fl_Repeated (p : Pr) (d : O_Repeated) : List FldS := [⟨"ends", Int, tInt, d.1⟩, ⟨"picks", Int, tInt, d.2.1⟩, ⟨"inner", Pc, (tPc p), d.2.2.1⟩, ⟨"across", Int, tInt, d.2.2.2.1⟩, ⟨"along", Int, tInt, d.2.2.2.2.1⟩]
def mk_Repeated (d : O_Repeated) : Pc := .Repeated d.1 d.2.1 d.2.2.1 d.2.2.2.1 d.2.2.2.2.1
abbrev O_Blocked : Type := Int × Int × Pc × Pc × Pc × Unit
def fl_Blocked (p : Pr) (d : O_Blocked) : List FldS := [⟨"ends", Int, tInt, d.1⟩, ⟨"picks", Int, tInt, d.2.1⟩, ⟨"profile", Pc, (tPc p), d.2.2.1⟩, ⟨"unit", Pc, (tPc p), d.2.2.2.1⟩, ⟨"other", Pc, (tPc p), d.2.2.2.2.1⟩]
def mk_Blocked (d : O_Blocked) : Pc := .Blocked d.1 d.2.1 d.2.2.1 d.2.2.2.1 d.2.2.2.2.1
abbrev O_Covered : Type := Int × Int × Pc × Pc × Unit
def fl_Covered (p : Pr) (d : O_Covered) : List FldS := [⟨"ends", Int, tInt, d.1⟩, ⟨"picks", Int, tInt, d.2.1⟩, ⟨"upper_one", Pc, (tPc p), d.2.2.1⟩, ⟨"lower_one", Pc, (tPc p), d.2.2.2.1⟩]
def mk_Covered (d : O_Covered) : Pc := .Covered d.1 d.2.1 d.2.2.1 d.2.2.2.1
section
variable {p : Pr} {R : RdR} {v : V}
theorem pcM_Given {d : O_Given} (h : (tIns (cA p "Given") (fl_Given p)).rep d v R) : (tPc p).rep (mk_Given d) v R := by
  obtain ⟨a, dx, fs, e1, h, r⟩ := h
  cases r with | cons r0 r => 
  cases r with | cons r1 r => 
  cases r with | cons r2 r => 
  cases r
  have e_0 : _ = V.int _ := r0
  subst e_0
  have e_1 : _ = V.int _ := r1
  subst e_1
  exact ⟨a, dx, _,  e1, h, r2⟩
theorem pcM_Named {d : O_Named} (h : (tIns (cA p "Named") (fl_Named p)).rep d v R) : (tPc p).rep (mk_Named d) v R := by
  obtain ⟨a, dx, fs, e1, h, r⟩ := h
  cases r with | cons r0 r => 
  cases r with | cons r1 r => 
  cases r with | cons r2 r => 
  cases r with | cons r3 r => 
  cases r
  have e_0 : _ = V.int _ := r0
  subst e_0
  have e_1 : _ = V.int _ := r1
  subst e_1
  obtain ⟨e_3, o_3⟩ := r3
  subst e_3
  exact ⟨a, dx, _,  e1, h, r2, o_3⟩
theorem pcM_Twill {d : O_Twill} (h : (tIns (cA p "Twill") (fl_Twill p)).rep d v R) : (tPc p).rep (mk_Twill d) v R := by
  obtain ⟨a, dx, fs, e1, h, r⟩ := h
  cases r with | cons r0 r => 
  cases r with | cons r1 r => 
  cases r with | cons r2 r => 
  cases r with | cons r3 r => 
  cases r
  have e_0 : _ = V.int _ := r0
  subst e_0
  have e_1 : _ = V.int _ := r1
  subst e_1
  have e_2 : _ = V.int _ := r2
  subst e_2
  have e_3 : _ = V.int _ := r3
  subst e_3
  exact ⟨a, dx,  e1, h⟩
theorem pcM_Satin {d : O_Satin} (h : (tIns (cA p "Satin") (fl_Satin p)).rep d v R) : (tPc p).rep (mk_Satin d) v R := by
  obtain ⟨a, dx, fs, e1, h, r⟩ := h
  cases r with | cons r0 r => 
  cases r with | cons r1 r => 
  cases r with | cons r2 r => 
  cases r
  have e_0 : _ = V.int _ := r0
  subst e_0
  have e_1 : _ = V.int _ := r1
  subst e_1
  have e_2 : _ = V.int _ := r2
  subst e_2
  exact ⟨a, dx,  e1, h⟩
theorem pcM_Beside {d : O_Beside} (h : (tIns (cA p "Beside") (fl_Beside p)).rep d v R) : (tPc p).rep (mk_Beside d) v R := by
  obtain ⟨a, dx, fs, e1, h, r⟩ := h
  cases r with | cons r0 r => 
  cases r with | cons r1 r => 
  cases r with | cons r2 r => 
  cases r with | cons r3 r => 
  cases r
  have e_0 : _ = V.int _ := r0
  subst e_0
  have e_1 : _ = V.int _ := r1
  subst e_1
  exact ⟨a, dx, _, _,  e1, h, r2, r3⟩
theorem pcM_Above {d : O_Above} (h : (tIns (cA p "Above") (fl_Above p)).rep d v R) : (tPc p).rep (mk_Above d) v R := by
  obtain ⟨a, dx, fs, e1, h, r⟩ := h
  cases r with | cons r0 r => 
  cases r with | cons r1 r => 
  cases r with | cons r2 r => 
  cases r with | cons r3 r => 
  cases r
  have e_0 : _ = V.int _ := r0
  subst e_0
  have e_1 : _ = V.int _ := r1
  subst e_1
  exact ⟨a, dx, _, _,  e1, h, r2, r3⟩
theorem pcM_Mirrored {d : O_Mirrored} (h : (tIns (cA p "Mirrored") (fl_Mirrored p)).rep d v R) : (tPc p).rep (mk_Mirrored d) v R := by
  obtain ⟨a, dx, fs, e1, h, r⟩ := h
  cases r with | cons r0 r => 
  cases r with | cons r1 r => 
  cases r with | cons r2 r => 
  cases r
  have e_0 : _ = V.int _ := r0
  subst e_0
  have e_1 : _ = V.int _ := r1
  subst e_1
  exact ⟨a, dx, _,  e1, h, r2⟩
theorem pcM_Backed {d : O_Backed} (h : (tIns (cA p "Backed") (fl_Backed p)).rep d v R) : (tPc p).rep (mk_Backed d) v R := by
  obtain ⟨a, dx, fs, e1, h, r⟩ := h
  cases r with | cons r0 r => 
  cases r with | cons r1 r => 
  cases r with | cons r2 r => 
  cases r
  have e_0 : _ = V.int _ := r0
  subst e_0
  have e_1 : _ = V.int _ := r1
  subst e_1
  exact ⟨a, dx, _,  e1, h, r2⟩
theorem pcM_Upended {d : O_Upended} (h : (tIns (cA p "Upended") (fl_Upended p)).rep d v R) : (tPc p).rep (mk_Upended d) v R := by
  obtain ⟨a, dx, fs, e1, h, r⟩ := h
  cases r with | cons r0 r => 
  cases r with | cons r1 r => 
  cases r with | cons r2 r => 
  cases r
  have e_0 : _ = V.int _ := r0
  subst e_0
  have e_1 : _ = V.int _ := r1
  subst e_1
  exact ⟨a, dx, _,  e1, h, r2⟩
theorem pcM_Quartered {d : O_Quartered} (h : (tIns (cA p "Quartered") (fl_Quartered p)).rep d v R) : (tPc p).rep (mk_Quartered d) v R := by
  obtain ⟨a, dx, fs, e1, h, r⟩ := h
  cases r with | cons r0 r => 
  cases r with | cons r1 r => 
  cases r with | cons r2 r => 
  cases r
  have e_0 : _ = V.int _ := r0
  subst e_0
  have e_1 : _ = V.int _ := r1
  subst e_1
  exact ⟨a, dx, _,  e1, h, r2⟩
theorem pcM_Repeated {d : O_Repeated} (h : (tIns (cA p "Repeated") (fl_Repeated p)).rep d v R) : (tPc p).rep (mk_Repeated d) v R := by
  obtain ⟨a, dx, fs, e1, h, r⟩ := h
  cases r with | cons r0 r => 
  cases r with | cons r1 r => 
  cases r with | cons r2 r => 
  cases r with | cons r3 r => 
  cases r with | cons r4 r => 
  cases r
  have e_0 : _ = V.int _ := r0
  subst e_0
  have e_1 : _ = V.int _ := r1
  subst e_1
  have e_3 : _ = V.int _ := r3
  subst e_3
  have e_4 : _ = V.int _ := r4
  subst e_4
  exact ⟨a, dx, _,  e1, h, r2⟩
theorem pcM_Blocked {d : O_Blocked} (h : (tIns (cA p "Blocked") (fl_Blocked p)).rep d v R) : (tPc p).rep (mk_Blocked d) v R := by
  obtain ⟨a, dx, fs, e1, h, r⟩ := h
  cases r with | cons r0 r => 
  cases r with | cons r1 r => 
  cases r with | cons r2 r => 
  cases r with | cons r3 r => 
  cases r with | cons r4 r => 
  cases r
  have e_0 : _ = V.int _ := r0
  subst e_0
  have e_1 : _ = V.int _ := r1
  subst e_1
  exact ⟨a, dx, _, _, _,  e1, h, r2, r3, r4⟩
theorem pcM_Covered {d : O_Covered} (h : (tIns (cA p "Covered") (fl_Covered p)).rep d v R) : (tPc p).rep (mk_Covered d) v R := by
  obtain ⟨a, dx, fs, e1, h, r⟩ := h
  cases r with | cons r0 r => 
  cases r with | cons r1 r => 
  cases r with | cons r2 r => 
  cases r with | cons r3 r => 
  cases r
  have e_0 : _ = V.int _ := r0
  subst e_0
  have e_1 : _ = V.int _ := r1
  subst e_1
  exact ⟨a, dx, _, _,  e1, h, r2, r3⟩
/-- what all of them have -/
theorem pc_any : ∀ {d : Pc} {v : V}, pcRep p R d v → ∃ a dx r, v = .ref a ∧ R a (.ins (cA p d.k.nm) dx (("ends", .int d.ends) :: ("picks", .int d.picks) :: r)) ∧ ∀ x : Str, pcN.all (fun n => !(x == n)) = true → ((("ends", .int d.ends) :: ("picks", .int d.picks) :: r : List (Str × V))).lookup x = none
  | .Given e q d0, v, ⟨a, dx, w0, e1, h, r0⟩ => ⟨a, dx, _, e1, h, fun x hx => by
      simp only [pcN, List.all_cons, List.all_nil, Bool.and_true, Bool.and_eq_true, Bool.not_eq_true'] at hx
      obtain ⟨x0, x1, x2, x3, x4, x5, x6, x7, x8, x9, x10, x11, x12, x13, x14, x15, x16, x17, x18⟩ := hx
      simp only [List.lookup_cons, List.lookup_nil, x0, x1, x2]⟩
  | .Named e q d0 d1, v, ⟨a, dx, w0, e1, h, r0, r1⟩ => ⟨a, dx, _, e1, h, fun x hx => by
      simp only [pcN, List.all_cons, List.all_nil, Bool.and_true, Bool.and_eq_true, Bool.not_eq_true'] at hx
      obtain ⟨x0, x1, x2, x3, x4, x5, x6, x7, x8, x9, x10, x11, x12, x13, x14, x15, x16, x17, x18⟩ := hx
      simp only [List.lookup_cons, List.lookup_nil, x0, x1, x2, x3]⟩
  | .Twill e q d0 d1, v, ⟨a, dx, e1, h⟩ => ⟨a, dx, _, e1, h, fun x hx => by
      simp only [pcN, List.all_cons, List.all_nil, Bool.and_true, Bool.and_eq_true, Bool.not_eq_true'] at hx
      obtain ⟨x0, x1, x2, x3, x4, x5, x6, x7, x8, x9, x10, x11, x12, x13, x14, x15, x16, x17, x18⟩ := hx
      simp only [List.lookup_cons, List.lookup_nil, x0, x1, x4, x5]⟩
  | .Satin e q d0, v, ⟨a, dx, e1, h⟩ => ⟨a, dx, _, e1, h, fun x hx => by
      simp only [pcN, List.all_cons, List.all_nil, Bool.and_true, Bool.and_eq_true, Bool.not_eq_true'] at hx
      obtain ⟨x0, x1, x2, x3, x4, x5, x6, x7, x8, x9, x10, x11, x12, x13, x14, x15, x16, x17, x18⟩ := hx
      simp only [List.lookup_cons, List.lookup_nil, x0, x1, x6]⟩
  | .Beside e q d0 d1, v, ⟨a, dx, w0, w1, e1, h, r0, r1⟩ => ⟨a, dx, _, e1, h, fun x hx => by
      simp only [pcN, List.all_cons, List.all_nil, Bool.and_true, Bool.and_eq_true, Bool.not_eq_true'] at hx
      obtain ⟨x0, x1, x2, x3, x4, x5, x6, x7, x8, x9, x10, x11, x12, x13, x14, x15, x16, x17, x18⟩ := hx
      simp only [List.lookup_cons, List.lookup_nil, x0, x1, x7, x8]⟩
  | .Above e q d0 d1, v, ⟨a, dx, w0, w1, e1, h, r0, r1⟩ => ⟨a, dx, _, e1, h, fun x hx => by
      simp only [pcN, List.all_cons, List.all_nil, Bool.and_true, Bool.and_eq_true, Bool.not_eq_true'] at hx
      obtain ⟨x0, x1, x2, x3, x4, x5, x6, x7, x8, x9, x10, x11, x12, x13, x14, x15, x16, x17, x18⟩ := hx
      simp only [List.lookup_cons, List.lookup_nil, x0, x1, x9, x10]⟩
  | .Mirrored e q d0, v, ⟨a, dx, w0, e1, h, r0⟩ => ⟨a, dx, _, e1, h, fun x hx => by
      simp only [pcN, List.all_cons, List.all_nil, Bool.and_true, Bool.and_eq_true, Bool.not_eq_true'] at hx
      obtain ⟨x0, x1, x2, x3, x4, x5, x6, x7, x8, x9, x10, x11, x12, x13, x14, x15, x16, x17, x18⟩ := hx
      simp only [List.lookup_cons, List.lookup_nil, x0, x1, x11]⟩
  | .Backed e q d0, v, ⟨a, dx, w0, e1, h, r0⟩ => ⟨a, dx, _, e1, h, fun x hx => by
      simp only [pcN, List.all_cons, List.all_nil, Bool.and_true, Bool.and_eq_true, Bool.not_eq_true'] at hx
      obtain ⟨x0, x1, x2, x3, x4, x5, x6, x7, x8, x9, x10, x11, x12, x13, x14, x15, x16, x17, x18⟩ := hx
      simp only [List.lookup_cons, List.lookup_nil, x0, x1, x11]⟩
  | .Upended e q d0, v, ⟨a, dx, w0, e1, h, r0⟩ => ⟨a, dx, _, e1, h, fun x hx => by
      simp only [pcN, List.all_cons, List.all_nil, Bool.and_true, Bool.and_eq_true, Bool.not_eq_true'] at hx
      obtain ⟨x0, x1, x2, x3, x4, x5, x6, x7, x8, x9, x10, x11, x12, x13, x14, x15, x16, x17, x18⟩ := hx
      simp only [List.lookup_cons, List.lookup_nil, x0, x1, x11]⟩
  | .Quartered e q d0, v, ⟨a, dx, w0, e1, h, r0⟩ => ⟨a, dx, _, e1, h, fun x hx => by
      simp only [pcN, List.all_cons, List.all_nil, Bool.and_true, Bool.and_eq_true, Bool.not_eq_true'] at hx
      obtain ⟨x0, x1, x2, x3, x4, x5, x6, x7, x8, x9, x10, x11, x12, x13, x14, x15, x16, x17, x18⟩ := hx
      simp only [List.lookup_cons, List.lookup_nil, x0, x1, x11]⟩
  | .Repeated e q d0 d1 d2, v, ⟨a, dx, w0, e1, h, r0⟩ => ⟨a, dx, _, e1, h, fun x hx => by
      simp only [pcN, List.all_cons, List.all_nil, Bool.and_true, Bool.and_eq_true, Bool.not_eq_true'] at hx
      obtain ⟨x0, x1, x2, x3, x4, x5, x6, x7, x8, x9, x10, x11, x12, x13, x14, x15, x16, x17, x18⟩ := hx
      simp only [List.lookup_cons, List.lookup_nil, x0, x1, x11, x12, x13]⟩
  | .Blocked e q d0 d1 d2, v, ⟨a, dx, w0, w1, w2, e1, h, r0, r1, r2⟩ => ⟨a, dx, _, e1, h, fun x hx => by
      simp only [pcN, List.all_cons, List.all_nil, Bool.and_true, Bool.and_eq_true, Bool.not_eq_true'] at hx
      obtain ⟨x0, x1, x2, x3, x4, x5, x6, x7, x8, x9, x10, x11, x12, x13, x14, x15, x16, x17, x18⟩ := hx
      simp only [List.lookup_cons, List.lookup_nil, x0, x1, x14, x15, x16]⟩
  | .Covered e q d0 d1, v, ⟨a, dx, w0, w1, e1, h, r0, r1⟩ => ⟨a, dx, _, e1, h, fun x hx => by
      simp only [pcN, List.all_cons, List.all_nil, Bool.and_true, Bool.and_eq_true, Bool.not_eq_true'] at hx
      obtain ⟨x0, x1, x2, x3, x4, x5, x6, x7, x8, x9, x10, x11, x12, x13, x14, x15, x16, x17, x18⟩ := hx
      simp only [List.lookup_cons, List.lookup_nil, x0, x1, x17, x18]⟩
end
structure InsD (K : PySem.W.Frag) (D C : Addr) : Prop where
  d : C8.InsC K D
  me : PySem.W.kitOne K (.ref D) (.ref C) = some true
structure PcF (p : Pr) : Prop where
  cls : ∀ c : PK, Cls p.K (cA p c.nm)
  ne : ∀ c : PK, NoAttr p.K (cA p c.nm) "ends"
  np : ∀ c : PK, NoAttr p.K (cA p c.nm) "picks"
  is : ∀ c : PK, InsD p.K (cA p c.nm) (cA p "Piece")
  /-- what no class of them has of its own -/
  wide : ∀ c : PK, Meth p.K (cA p c.nm) "wide" (He.ma p.K (cA p "Piece") "wide")
  high : ∀ c : PK, Meth p.K (cA p c.nm) "high" (He.ma p.K (cA p "Piece") "high")
  cloth : ∀ c : PK, Meth p.K (cA p c.nm) "cloth" (He.ma p.K (cA p "Piece") "cloth")
def methB (K : PySem.W.Frag) (C : Addr) (m : Str) (f : Addr) : Bool := He.eqO (PySem.W.findIn K (.ref C) m) (some (some (.ref f))) && (PySem.W.isFn K (.ref f) && PySem.W.keepIn K (.ref f))
theorem methB_ok {K : PySem.W.Frag} {C f : Addr} {m : Str} (h : methB K C m f = true) : Meth K C m f := by
  obtain ⟨h1, h⟩ := He.ba h
  obtain ⟨h2, h3⟩ := He.ba h
  exact ⟨He.eqO_ok h1, h2, h3⟩
def pcB1 (K : PySem.W.Frag) (c : PK) : Bool := (He.Fa.cls c.nm).ok K && ((He.Fa.noat c.nm "ends").ok K && ((He.Fa.noat c.nm "picks").ok K && (insCB K (He.ga K c.nm) && (decide (PySem.W.kitOne K (.ref (He.ga K c.nm)) (.ref (He.ga K "Piece")) = some true) &&
  (methB K (He.ga K c.nm) "wide" (He.ma K (He.ga K "Piece") "wide") && (methB K (He.ga K c.nm) "high" (He.ma K (He.ga K "Piece") "high") && methB K (He.ga K c.nm) "cloth" (He.ma K (He.ga K "Piece") "cloth")))))))
def pcB (K : PySem.W.Frag) : Bool := PK.all.all fun c => pcB1 K c
theorem pcB_ok {p : Pr} (h : pcB p.K = true) : PcF p := by
  have h1 : ∀ c : PK, pcB1 p.K c = true := fun c => List.all_eq_true.mp h c c.mem
  have key : ∀ c : PK, _ := fun c => He.ba (h1 c)
  refine ⟨fun c => He.cls_ok (key c).1, fun c => He.noat_ok (He.ba (key c).2).1, fun c => He.noat_ok (He.ba (He.ba (key c).2).2).1, fun c => ⟨insC_ok (He.cls_ok (key c).1) (He.ba (He.ba (He.ba (key c).2).2).2).1, of_decide_eq_true (He.ba (He.ba (He.ba (He.ba (key c).2).2).2).2).1⟩, fun c => ?_, fun c => ?_, fun c => ?_⟩
  · exact methB_ok (He.ba (He.ba (He.ba (He.ba (He.ba (key c).2).2).2).2).2).1
  · exact methB_ok (He.ba (He.ba (He.ba (He.ba (He.ba (He.ba (key c).2).2).2).2).2).2).1
  · exact methB_ok (He.ba (He.ba (He.ba (He.ba (He.ba (He.ba (key c).2).2).2).2).2).2).2
section
variable {p : Pr} {δ δ' ρ : Type} {A : Ar δ} {A' : Ar δ'} {D : ρ → Out} {F : δ → M ρ} {φ : δ' → δ} {k k' : Nat} {c m : Str} {ps : List Str}
theorem spM_as (h : ∀ d vs R, A'.rep d vs R → A.rep (φ d) vs R) {vs : List V} {H : Hp} {Q : VK} {E : XK} : spM p A' D (fun d => F (φ d)) vs H Q E → spM p A D F vs H Q E := fun ⟨d, z, h1, h2, h3⟩ => ⟨φ d, z, h1, h _ _ _ h2, h3⟩
/-- a method that no class of pieces has of its own -/
structure MuF (p : Pr) (k : Nat) (m : Str) (ps : List Str) (sp : Sp) : Prop where
  ex : ∃ (f : Addr) (fd : FuncData), FnOk p.P p.w p.K p.mg p.base (L2.CX p.P p.w) k f fd ("self" :: ps) sp ∧ (∀ c : PK, Cls p.K (cA p c.nm) ∧ Meth p.K (cA p c.nm) m f) ∧ Binds p.K fd ("self" :: ps) []
theorem MuF.at {A : Ar δ} {F : Pc × δ → M ρ} (hf : MuF p k m ps (spM p (aCons (tPc p) A) D F)) (d : Pc) : MeF p k d.k.nm m ps (spM p (aCons (tOnly p d) A) D (fun a => F (d, a.2))) := by
  obtain ⟨f, fd, h1, h2, h3⟩ := hf.ex
  exact ⟨f, fd, h1.imp fun vs H Q E => spM_as (A := aCons (tPc p) A) (A' := aCons (tOnly p d) A) (φ := fun a : Unit × δ => (d, a.2)) (fun a vs R ⟨v, r, e, r1, r2⟩ => ⟨v, r, e, r1, r2⟩), (h2 d.k).1, (h2 d.k).2, h3⟩
end
section
variable {X : Cx}
def tMethD0 (X : Cx) (CX' : CXT) (k : Nat) (m : Str) (ps : List Str) (E : L2.St → XK) (ta : TE) : TE := fun σ H Q => ta σ H fun x H1 => ∃ (a C dx : Addr) (fs : List (Str × V)) (f : Addr) (fd : FuncData) (sp : Sp), x = .ref a ∧ L2.Rd H1 a (.ins C dx fs) ∧ fs.lookup m = none ∧
  Cls X.K C ∧ Meth X.K C m f ∧ FnOk X.prog X.w X.K X.mg X.base CX' k f fd ps sp ∧ Binds X.K fd ps [] ∧ sp [x] H1 Q (E σ)
theorem pe_methD0 {k : Nat} {o : Expr} {m : Str} {apos pos : Pos} {ta : TE} {ps : List Str} {E : L2.St → XK} {pl : Sem Bool} {CX' : CXT} (he : PE X o ta) (hr : Room k X.A) (hx : ∀ σ, PassesAt CX' X σ (E σ))
    (ht : eval (.Call (.Attribute o m apos) [] [] pos) X.env = (do
      let ov ← eval o X.env
      standAt apos.atName
      let (f, first) ← holding [ov] (getMethod ov m pl)
      callWith pos f first (backTo pos (starEach [] X.env)) (backToKw pos (keywordEach [] X.env))) := by rfl) :
    PE X (.Call (.Attribute o m apos) [] [] pos) (tMethD0 X CX' k m ps E ta) := by
  refine ⟨fun pins s σ H Q I h => ?_⟩
  refine PySem.W.methodCall_KW (pl := pl) (thn (he.run pins s σ H _ I h) fun u s1 ⟨x, H1, I1, rx, a, C, dx, fs, f, fd, sp, ex, ea, l, c, hm, F, hb, q⟩ => ?_) ht
  subst ex
  obtain rfl : u = Value.ref a := rx
  refine getmeth_rd I1 ea c hm l ?_
  exact PySem.W.callWith_K0 (first := [.ref a]) I1.kIn hm.kp (run_fnS (us := [.ref a]) (vs := [.ref a]) F hr hb (hx σ) I1 (.cons rfl .nil) q)
end
section
variable {p : Pr} {sc : Scope} {NN VV GG : List Str} {k : Nat} {g : G} {L : List Slot} {a b c e e' : Expr} {es : List Expr} {md md' : Md} {α β γ δ ρ : Type} {S : Ty α} {T : Ty β} {A : Ar δ} {pos pp : Pos} {i j : Nat} {x : Str}
theorem MeF.okD {kf : Nat} {c m : Str} {ps : List Str} {sp : Sp} (ok : Ok p sc NN VV GG k g) (hf : MeF p kf c m ps sp) : ∃ (f : Addr) (fd : FuncData), Cls g.X.K (cA p c) ∧ Meth g.X.K (cA p c) m f ∧ FnOk g.X.prog g.X.w g.X.K g.X.mg g.X.base (L2.CX g.X.prog g.X.w) kf f fd ("self" :: ps) sp ∧ Binds g.X.K fd ("self" :: ps) [] := by
  obtain ⟨f, fd, hF, hc, hm, hbd⟩ := hf.ex
  rw [← ok.prog, ← ok.w, ← ok.base] at hF
  exact ⟨f, fd, by rw [ok.K]; exact hc, by rw [ok.K]; exact hm, by rw [ok.K, ok.mg]; exact hF, by rw [ok.K]; exact hbd⟩
theorem ev_pcMeth0 {kf : Nat} {x : Str} {F : Pc → M β} {m1 : M Pc} {apos : Pos} {pl : Sem Bool} (ok : Ok p sc NN VV GG k g) (hf : ∀ d : Pc, MeF p kf d.k.nm x [] (spM p (aCons (tOnly p d) aNil) (fun r => .rt false T r) (fun _ => F d))) (hk : kf ≤ k) (hx0 : pcN.all (fun n => !(x == n)) = true)
    (ha : EvE g L a .sh (tPc p) m1)
    (ht : eval (.Call (.Attribute a x apos) [] [] pos) g.X.env = (do
      let ov ← eval a g.X.env
      standAt apos.atName
      let (f, first) ← holding [ov] (getMethod ov x pl)
      callWith pos f first (backTo pos (starEach [] g.X.env)) (backToKw pos (keywordEach [] g.X.env))) := by rfl) :
    EvE g L (.Call (.Attribute a x apos) [] [] pos) .sh T (m1.bind F) := by
  refine PE.imp (pe_methD0 (pl := pl) (ps := ["self"]) ha (ok.room.mono hk) (tk_at ok) ht) fun σ H Q q => ?_
  obtain ⟨kp, own, at_, q⟩ := tE_iff.mp q
  refine sub finE (Same.refl H) at_ q fun d v H1 s1 r1 at1 q1 => ?_
  obtain ⟨ad, dx, rest, rfl, hR, hno⟩ := pc_any r1
  have hR' : L2.Rd H1 ad (.ins (cA p d.k.nm) dx _) := (RX.rdb (md := .sh) _ _ hR rfl).resolve_right fun z => z
  obtain ⟨f, fd, hc, hm, hF, hbd⟩ := (hf d).okD ok
  refine ⟨ad, _, dx, _, f, fd, _, rfl, hR', hno x hx0, hc, hm, hF, hbd, ?_⟩
  refine ⟨((), ()), fun a => a ∈ own ∨ g.fm.z a, ⟨fun a z => ?_, fun P e => at1.same.tab P (ok.tab P e)⟩, ?_, ?_⟩
  · rcases z with z | z
    · exact (at1.new a z).1
    · exact at1.zin a z
  · rw [← ok.fmK]
    exact args_in (H := H) (A := aCons (tOnly p d) aNil) (md := .sh) ⟨_, [], rfl, r1, rfl⟩
  · rw [← ok.fmK]
    show (match F d with | .ok r => _ | .ex c => _ | .no => False)
    cases hd : F d with
    | ok r =>
      rw [hd] at q1
      exact fun v H' s r => q1 v H' (s1.trans s) (T.mono r (CaMd.sh.rx s1 at_.same))
    | ex c =>
      rw [hd] at q1
      exact fun H' s => ⟨c, rfl, rfl, q1 H' (s1.trans s)⟩
    | no => rw [hd] at q1; exact q1
theorem ev_pcE {m : M Pc} (ok : Ok p sc NN VV GG k g) (X : PcF p) (ha : EvE g L e md (tPc p) m) (hb : attributeBase e "ends" g.X.env (eval e g.X.env) = eval e g.X.env := by rfl) : EvE g L (.Attribute e "ends" pos) md tInt (m.bind fun d => .ok d.ends) := by
  refine PE.imp (pe_fldR ha hb) fun σ H Q q => ?_
  obtain ⟨kp, own, at_, q⟩ := tE_iff.mp q
  refine sub finE (Same.refl H) at_ q fun d v H1 s1 r1 at1 q1 => ?_
  obtain ⟨ad, dx, r, rfl, hR, _⟩ := pc_any r1
  have hR' : L2.Rd H1 ad (.ins (cA p d.k.nm) dx _) := (RX.rdb (md := md) _ _ hR rfl).resolve_right fun z => z
  exact ⟨ad, _, dx, _, .int d.ends, rfl, hR', by rw [ok.K]; exact X.cls d.k, by rw [ok.K]; exact X.ne d.k, rfl, q1 _ H1 s1 rfl⟩
theorem ev_pcQ {m : M Pc} (ok : Ok p sc NN VV GG k g) (X : PcF p) (ha : EvE g L e md (tPc p) m) (hb : attributeBase e "picks" g.X.env (eval e g.X.env) = eval e g.X.env := by rfl) : EvE g L (.Attribute e "picks" pos) md tInt (m.bind fun d => .ok d.picks) := by
  refine PE.imp (pe_fldR ha hb) fun σ H Q q => ?_
  obtain ⟨kp, own, at_, q⟩ := tE_iff.mp q
  refine sub finE (Same.refl H) at_ q fun d v H1 s1 r1 at1 q1 => ?_
  obtain ⟨ad, dx, r, rfl, hR, _⟩ := pc_any r1
  have hR' : L2.Rd H1 ad (.ins (cA p d.k.nm) dx _) := (RX.rdb (md := md) _ _ hR rfl).resolve_right fun z => z
  exact ⟨ad, _, dx, _, .int d.picks, rfl, hR', by rw [ok.K]; exact X.cls d.k, by rw [ok.K]; exact X.np d.k, by rfl, q1 _ H1 s1 rfl⟩
theorem nn_pc : NotNon (tPc p) := ⟨fun {d v R} h => by
  obtain ⟨a, dx, r, e, _⟩ := pc_any (p := p) (R := R) (d := d) (v := v) h
  subst e; exact fun z => nomatch z⟩
end
end Hd
namespace Hd
open PySem PySem.Spec L2
/-- all but one thing -/
def rmv (H : Hp) (x : Addr) : Hp := fun a => if a = x then none else H a
theorem rmv_at {H : Hp} {x : Addr} : rmv H x x = none := if_pos rfl
theorem rmv_ne {H : Hp} {a x : Addr} (h : a ≠ x) : rmv H x a = H a := if_neg h
theorem cl_rmv_ne {H : Hp} {a x : Addr} (h : a ≠ x) : cl (rmv H x) a = cl H a := by unfold cl; rw [rmv_ne h]
theorem Same.rmv {H0 H : Hp} {q : Addr} {u : HO} (s : Same H0 H) (n0 : H0 q = none) (hq : H q = some u) (hu : ∀ φ, u ≠ .ext φ) (hn : nt u = true) : Same H0 (rmv H q) := by
  refine ⟨fun a o' e n => ?_, fun a e => ?_, fun P t => ?_⟩
  · rw [rmv_ne (ne_of_none e n0)]; exact s.keep a o' e n
  · by_cases z : a = q
    · rw [z]; exact n0
    · rw [rmv_ne z] at e; exact s.fr a e
  · obtain ⟨ps, h1, h2, h3⟩ := s.tab P t
    have np : P ≠ q := fun z => by rw [z, hq] at h1; cases h1; cases hn
    refine ⟨ps, by rw [rmv_ne np]; exact h1, h2, fun pos cv hc => ?_⟩
    obtain ⟨c, e1, e2⟩ := h3 pos cv hc
    have nc : c ≠ q := fun z => by rw [z, hq] at e2; exact hu _ (Option.some.inj e2)
    exact ⟨c, e1, by rw [rmv_ne nc]; exact e2⟩
theorem rmvSame {H : Hp} {q : Addr} : Same (rmv H q) H := .of fun a o e => by
  by_cases z : a = q
  · rw [z, rmv_at] at e; cases e
  · rw [rmv_ne z] at e; exact e
structure ClsFn (K : PySem.W.Frag) (C : Addr) (m : Str) (f : Addr) : Prop where
  rd : ClX.CRead K C (.type "type")
  v : ClX.CVal K C (.type "type") m (.ref f) (.ref f)
  kp : PySem.W.keepIn K (.ref f) = true
def clsFnB (K : PySem.W.Frag) (c m : Str) : Bool := PySem.W.readsIn K (He.ga K c) (.type "type") && (He.eqO (PySem.W.specialIn K (.ref (He.ga K c)) "__getattribute__") (some (some (.builtin "type.__getattribute__"))) && (PySem.W.keepIn K (.ref (He.ma K (He.ga K c) m)) && (match PySem.W.findCls K (.ref (He.ga K c)) (.type "type") m with
  | some (.val (.ref a)) => decide (a = He.ma K (He.ga K c) m)
  | _ => false)))
theorem clsFnB_ok {K : PySem.W.Frag} {c m : Str} (h : clsFnB K c m = true) : ClsFn K (He.ga K c) m (He.ma K (He.ga K c) m) := by
  obtain ⟨h1, h⟩ := He.ba h
  obtain ⟨h2, h⟩ := He.ba h
  obtain ⟨h3, h4⟩ := He.ba h
  refine ⟨⟨h1, He.eqO_ok h2⟩, ⟨?_, rfl⟩, h3⟩
  split at h4
  · rename_i a e
    rw [e, of_decide_eq_true h4]
  · cases h4
/-- a def of a class, as those that call it through the class know it -/
structure FcF (p : Pr) (k : Nat) (c m : Str) (ps : List Str) (sp : Sp) : Prop where
  ex : ∃ (f : Addr) (fd : FuncData), FnOk p.P p.w p.K p.mg p.base (L2.CX p.P p.w) k f fd ps sp ∧ p.mg c = some (.ref (cA p c)) ∧ ClsFn p.K (cA p c) m f ∧ Binds p.K fd ps []
def tClsC (C : Addr) (sp : Sp) (E : L2.St → XK) (ta : TE) (t : TA) : TE := fun σ H Q => ta σ H fun x H1 => x = .ref C ∧ t σ H1 fun vs H2 => sp vs H2 Q (E σ)
theorem pe_clsCall {X : Cx} {C : Addr} {k : Nat} {o e : Expr} {es : List Expr} {m : Str} {apos pos : Pos} {ta : TE} {t : TA} {f : Addr} {fd : FuncData} {ps : List Str} {sp : Sp} {E : L2.St → XK} {pl : Sem Bool} {CX' : CXT} (he : PE X o ta) (c : ClsFn X.K C m f) (F : FnOk X.prog X.w X.K X.mg X.base CX' k f fd ps sp) (hr : Room k X.A) (hb : Binds X.K fd ps []) (hx : ∀ σ, PassesAt CX' X σ (E σ)) (ha : PA X (e :: es) t)
    (hst : starEach (e :: es) X.env = (false, eval e X.env) :: starEach es X.env := by rfl) (hpl : (backTo pos (starEach es X.env)).any (·.1) = false := by rfl)
    (ht : eval (.Call (.Attribute o m apos) (e :: es) [] pos) X.env = (do
      let ov ← eval o X.env
      standAt apos.atName
      let (f, first) ← holding [ov] (getMethod ov m pl)
      callWith pos f first (backTo pos (starEach (e :: es) X.env)) (backToKw pos (keywordEach [] X.env))) := by rfl) :
    PE X (.Call (.Attribute o m apos) (e :: es) [] pos) (tClsC C sp E ta t) := by
  refine ⟨fun pins s σ H Q I h => ?_⟩
  refine PySem.W.methodCall_KW (pl := pl) (thn (he.run pins s σ H _ I h) fun u s1 ⟨x, H1, I1, rx, ex, q⟩ => ?_) ht
  subst ex
  obtain rfl : u = Value.ref C := rx
  refine PySem.W.method_cls I1.kIn c.rd.ga (ClX.getcval_ok I1 c.rd c.v fun s2 I2 => ?_)
  refine PySem.W.callWith_K (first := []) (h₀ := X.base) I.ok.mod.kin c.kp (thn (ha.run pos pins s2 σ H1 _ I2 q) fun us s3 ⟨vs, H2, I3, r, q2⟩ => ⟨I3.kIn, ?_⟩) hst hpl
  exact run_fnS (us := us) (vs := vs) F hr hb (hx σ) I3 r q2
/-- what an __init__ promises that is called through its class -/
def spS (p : Pr) {δ ρ : Type} (C : Addr) (A : Ar δ) (fl : ρ → List FldS) (F : δ → M ρ) : Sp := fun vs H Q E => ∃ x dx vs', vs = .ref x :: vs' ∧ H x = some (.ins C dx []) ∧
  ∃ d z, ((∀ a, z a → rmv H x a ≠ none) ∧ ∀ P, p.T = some P → LamX.TabS (rmv H x) P lamQ) ∧ A.rep d vs' (RD ⟨p.K, rmv H x, z⟩ [] (rmv H x)) ∧
  match F d with
  | .ok r => ∀ H' dx' fs, Same (rmv H x) H' → H' x = some (.ins C dx' fs) → FsR (RX ⟨p.K, rmv H x, z⟩ [x] H' H' .sh) (fl r) fs → Q .non H'
  | .ex c => ∀ H', Same (rmv H x) H' → E (.ref (p.C c)) none H'
  | .no => False
section
variable {p : Pr} {sc : Scope} {NN VV GG : List Str} {k : Nat} {g : G} {L : List Slot} {a b c e e' : Expr} {es : List Expr} {md md' : Md} {α β γ δ ρ ζ : Type} {S : Ty α} {T : Ty β} {U : Ty γ} {A : Ar δ} {pos : Pos} {i j j2 : Nat} {x f : Str} {pp ap py pc : Pos} {C : Addr}
theorem fn_initS {m0 qual : Str} {st : Stmt} {f : Addr} {fd : FuncData} {ps : List Str} {L0 : δ → List Slot} {n m : Nat} {LE : List Slot} {fl : ρ → List FldS} {F : δ → M ρ} (hF : FunD p.K m0 qual (defArgs st) (defBody st) (defScope st) [] [] f fd) (hS : Sc st NN VV ("self" :: ps) GG) (ha : ArS A n L0) (hn : ps.length = n) (hm : n + 1 + m = NN.length)
    (hb : ∀ x g, OkS p (defScope st) NN VV GG k g → g.LX = List.replicate NN.length sAny → ∀ d, EvB g (sSelf x C [] :: (L0 d ++ List.replicate m sAny)) (defBody st) (fun r => .nx (sSelf x C (fl r) :: LE)) (F d)) :
    FnOk p.P p.w p.K p.mg p.base (L2.CX p.P p.w) (k + 1) f fd ("self" :: ps) (spS p C A fl F) := by
  refine hF.ok hS.S (fun vs H Q E h => ?_) (fun cdv A' outer s H vs Q E hr h => ?_)
  · obtain ⟨x, dx, vs', rfl, _, d, z, _, hrep, _⟩ := h
    have := (ha.all (H := rmv H x) (R := fun _ => RD ⟨p.K, rmv H x, z⟩ [] (rmv H x)) hrep).1
    simp [this, hn]
  · obtain ⟨x, dx, vs', rfl, hx, d, z, ⟨hz, htab⟩, hrep, q⟩ := h
    have hlen : vs'.length = n := (ha.all (H := rmv H x) (R := fun _ => RD ⟨p.K, rmv H x, z⟩ [] (rmv H x)) hrep).1
    have sm : Same (rmv H x) H := rmvSame
    let X : Cx := cxOf (L2.CX p.P p.w) p.P p.w p.K p.mg p.base NN qual (defScope st) f cdv A' outer s H E
    let g : G := ⟨X, ⟨p.K, rmv H x, z⟩, fun c _ H' => E (.ref (p.C c)) none H', List.replicate NN.length sAny⟩
    have hN : ∀ {j : Nat} {y : Str}, VV[j]? = some y → y ∈ VV := fun e => List.mem_of_getElem? e
    have ok : OkS p (defScope st) NN VV GG k g :=
      { prog := rfl, w := rfl, K := rfl, mg := rfl, base := rfl, N := rfl, fmK := rfl, tab := htab, room := hr, nd := hS.S.nd
        vis := fun e => let h := seenB_v (List.all_eq_true.mp hS.vis _ (hN e)); ⟨h.2, h.1⟩
        gl := fun e => let h := glB_v (List.all_eq_true.mp hS.gl _ (List.mem_of_getElem? e)); ⟨h.2, h.1⟩
        tk := Takes.imp (takes_of (X := X) rfl rfl rfl (E := E) rfl) (fun cls d σ H ⟨c, e1, e2, h⟩ => by subst e1; subst e2; exact h)
        calm := rfl
        blk := fun h => blkOk_by h
        loc := fun e => locB_v (List.all_eq_true.mp hS.loc _ (hN e))
        fnT := fun _ => rfl
        psO := passes_of (X := X) rfl
        scp := rfl
        stk := rfl
        frm := rfl
        exn := rfl }
    have nz : ¬ z x := fun h => hz x h rmv_at
    refine ⟨_, hb x g ok rfl d, (fun _ _ => False), [x], ?_, ?_⟩
    · refine ⟨sm, fun a h => fun e => hz a h (sm.free e), ⟨[x] :: (List.replicate n [] ++ List.replicate m []), ?_, by simp [flat_rep]⟩, by simp, fun a h => ?_, fun _ _ h => h.elim⟩
      · have h1 := (ha.all (H := rmv H x) (R := RB ⟨p.K, rmv H x, z⟩ [] (rmv H x)) hrep).2
        have e : L2.start NN (V.ref x :: vs') = some (V.ref x) :: (vs'.map some ++ List.replicate m none) := by
          unfold L2.start
          rw [show NN.length - (V.ref x :: vs').length = m by simp; omega]
          rfl
        rw [e]
        refine .cons ⟨dx, [], rfl, rfl, hx, .nil⟩ (AllS.append (h1.st (fun b a o r => ?_) fun q hq => ?_) (AllS.anys m))
        · have out : ∀ {a : Addr} {o : HO}, cl (rmv H x) a = some o → a ∉ [x] := fun h hm => by
            rw [List.mem_singleton.mp hm, cl_none rmv_at] at h
            cases h
          cases b with
          | false =>
            rcases r with ⟨r1, _, r3⟩ | r
            · refine .inl ⟨Rd.same sm r1, ?_, r3⟩
              rcases r1 with r1 | ⟨_, r1⟩ <;> exact out r1
            · exact .inr r
          | true => exact ⟨sm.cl _ _ r.1, out r.1, r.2.2⟩
        · rw [flat_rep] at hq; cases hq
      · rw [List.mem_singleton.mp h]
        exact ⟨by rw [hx]; exact (fun z => by cases z), rmv_at, nz⟩
    · cases hF' : F d with
      | ok r =>
        rw [hF'] at q
        intro σ H' own at_
        obtain ⟨Fs, h3, e3⟩ := at_.sl
        obtain ⟨v, F', e1, e2, dx', fs, _, rfl, hp, rr⟩ := h3.get (i := 0) (s := sSelf x C (fl r)) rfl
        have xin : x ∈ own := by rw [e3]; exact List.mem_flatten.mpr ⟨[x], List.mem_of_getElem? e2, by simp⟩
        exact q H' dx' fs at_.same hp (rr.mono fun a o zz => RX.own (own' := [x]) (fun y hy => by rw [List.mem_singleton.mp hy]; exact xin) a o zz)
      | ex c =>
        rw [hF'] at q
        exact fun σ' H' own a' => q H' a'.same
      | no => rw [hF'] at q; exact q
/-- the object in the making, behind such a call -/
theorem At.sup {fm : Fm} {kp : RdR} {σ : L2.St} {H H' : Hp} {own : List Addr} {q dx dx' : Addr} {fs fs' : List (Str × V)} {l l' : List FldS} {i : Nat} (h : At fm kp L σ H own) (hL : L[i]? = some (sSelf q C l)) (hp : H q = some (.ins C dx fs)) (s : Same (rmv H q) H') (hp' : H' q = some (.ins C dx' fs'))
    (r' : FsR (RX ⟨fm.K, rmv H q, fun a => (a ∈ own ∧ a ≠ q) ∨ fm.z a⟩ [q] H' H' .sh) l' fs') : At fm kp (L.set i (sSelf q C l')) σ H' own := by
  obtain ⟨h1, h2, ⟨Fs, h3, rfl⟩, h4, h5, h6⟩ := h
  obtain ⟨v, F, e1, e2, _, _, rfl, rfl, _, _⟩ := h3.get hL
  have qin : q ∈ Fs.flatten := List.mem_flatten.mpr ⟨[q], List.mem_of_getElem? e2, by simp⟩
  have kpO : ∀ a o, a ≠ q → cl H a = some o → cl H' a = some o := fun a o n e => s.cl _ _ (by rw [cl_rmv_ne n]; exact e)
  have key : ∀ (md : Md) a o, RX fm Fs.flatten H H md a o → RX fm Fs.flatten H' H' md a o ∨ md = .fx := fun md a o z => by
    cases md with
    | sh =>
      rcases z with z | z
      · have n : a ≠ q := fun e => z.2.1 (by rw [e]; exact qin)
        refine .inl (.inl ⟨?_, z.2⟩)
        rcases z.1 with y | ⟨u, y⟩
        · exact .inl (kpO _ _ n y)
        · exact .inr ⟨u, kpO _ _ n y⟩
      · exact .inl (.inr z)
    | f0 =>
      have n : a ≠ q := fun e => z.2.1 (by rw [e]; exact qin)
      exact .inl ⟨kpO _ _ n z.1, z.2⟩
    | fx => exact .inr rfl
  have keyB : ∀ (b : Bool) a o, RB fm Fs.flatten H b a o → RB fm Fs.flatten H' b a o := fun b a o z => by
    cases b with
    | false => exact (key .sh a o z).resolve_right (fun e => nomatch e)
    | true => exact (key .f0 a o z).resolve_right (fun e => nomatch e)
  have up : ∀ a, H a ≠ none → H' a ≠ none := fun a n => by
    by_cases e : a = q
    · rw [e, hp']; exact fun z => by cases z
    · exact fun z => n (by have := s.fr a z; rw [rmv_ne e] at this; exact this)
  have rin : FsR (RB fm Fs.flatten H' false) l' fs' := r'.mono fun a o z => by
    rcases z with ⟨z1, z2, z3⟩ | z
    · have nq : a ≠ q := fun e => z2 (by rw [e]; simp)
      exact .inl ⟨z1, fun m => z3 (.inl ⟨m, nq⟩), fun m => z3 (.inr m)⟩
    · exact .inr z
  refine ⟨(h1.rmv (h5 q qin).2.1 hp (fun _ z => nomatch z) rfl).trans s, fun a z => up a (h2 a z), ⟨Fs, ?_, rfl⟩, h4, fun x hx => ⟨up x (h5 x hx).1, (h5 x hx).2⟩, fun a o z => (key .sh a o (h6 a o z)).resolve_right (fun e => nomatch e)⟩
  · have gen : ∀ {L : List Slot} {σ : L2.St} {Fs' : List (List Addr)}, AllS H (RB fm Fs.flatten H) L σ Fs' → Fs'.flatten.Nodup → ∀ {i : Nat}, Fs'[i]? = some [q] → L[i]? = some (sSelf q C l) → σ[i]? = some (some (V.ref q)) →
        AllS H' (RB fm Fs.flatten H') (L.set i (sSelf q C l')) σ Fs' := by
      intro L σ Fs' hA
      induction hA with
      | nil => intro _ i e _ _; simp at e
      | @cons sl L v σ F Fs' r t ih =>
        intro nd i e eL eσ
        have same : ∀ x, x ≠ q → cl H x ≠ none → H' x = H x := fun x n hc => by
          cases hh : cl H x with
          | none => exact absurd hh hc
          | some o => rw [cl_raw hh]; exact cl_raw (kpO x o n hh)
        have nd0 := nd
        rw [List.flatten_cons, List.nodup_append] at nd
        cases i with
        | zero =>
          simp at e eL eσ
          subst e; subst eL; subst eσ
          refine .cons ⟨dx', fs', rfl, rfl, hp', rin⟩ (t.st keyB fun x hx => ?_)
          exact same x (fun z => nd.2.2 q (by simp) x hx z.symm) (t.tb x hx)
        | succ i =>
          have e' : Fs'[i]? = some [q] := by simpa using e
          refine .cons (sl.st r keyB fun x hx => same x (fun z => nd.2.2 x hx q (List.mem_flatten.mpr ⟨[q], List.mem_of_getElem? e', by simp⟩) z) (sl.tb r x hx)) (ih nd.2.1 e' (by simpa using eL) (by simpa using eσ))
    exact gen h3 h4 e2 hL e1
theorem evb_super {kf : Nat} {c y : Str} {ps : List Str} {q : Addr} {fl : ρ → List FldS} {F : δ → M ρ} {m : M δ} {h : ρ → M ζ} {st : List Stmt} {D : ζ → Out} {pl : Sem Bool} (ok : OkS p sc NN VV GG k g) (wk : Wk L g.LX) (hf : FcF p kf c "__init__" ("self" :: ps) (spS p C A fl F)) (hne : ∀ d c, F d ≠ .ex c) (hk : kf ≤ k) (hG : GG[j]? = some c)
    (hN : NN[i]? = some y) (hV : VV[j2]? = some y) (hL : L[i]? = some (sSelf q C [])) (ha : EvA g L es md A m) (hr : ∀ r, EvB g (L.set i (sSelf q C (fl r))) st D (h r))
    (hs : starEach (.Name y py :: es) g.X.env = (false, eval (.Name y py) g.X.env) :: starEach es g.X.env := by rfl) (hpl : (backTo pos (starEach es g.X.env)).any (·.1) = false := by rfl)
    (ht : eval (.Call (.Attribute (.Name c pc) "__init__" ap) (.Name y py :: es) [] pos) g.X.env = (do
      let ov ← eval (.Name c pc) g.X.env
      standAt ap.atName
      let (f, first) ← holding [ov] (getMethod ov "__init__" pl)
      callWith pos f first (backTo pos (starEach (.Name y py :: es) g.X.env)) (backToKw pos (keywordEach [] g.X.env))) := by rfl)
    (hsw : swapsWith (.Call (.Attribute (.Name c pc) "__init__" ap) (.Name y py :: es) [] pos) none pp.line g.X.env = pure false := by rfl) :
    EvB g L (.Expr (.Call (.Attribute (.Name c pc) "__init__" ap) (.Name y py :: es) [] pos) pp :: st) D (m.bind fun d => (F d).bind h) := by
  obtain ⟨f, fd, hF, hmg, hcf, hbd⟩ := hf.ex
  rw [← ok.prog, ← ok.w, ← ok.base] at hF
  have hF' : FnOk g.X.prog g.X.w g.X.K g.X.mg g.X.base (L2.CX g.X.prog g.X.w) kf f fd ("self" :: ps) (spS p C A fl F) := by rw [ok.K, ok.mg]; exact hF
  obtain ⟨hv, ho⟩ := ok.vis hV
  obtain ⟨h1, h2, _⟩ := okName_d ho
  obtain ⟨hg, hog⟩ := ok.gl hG
  refine PSs.imp (pss_cons (ps_expr (pe_clsCall (C := cA p c) (pl := pl) (pe_glob (v := .ref (cA p c)) (u := .ref (cA p c)) hg (by rw [ok.mg]; exact hmg) rfl (okName_d hog).1) (by rw [ok.K]; exact hcf) hF' (ok.toOk.room.mono hk) (by rw [ok.K]; exact hbd) (tk_at ok.toOk) (pa_cons (pe_var (i := i) (by rw [ok.N]; exact hN) hv h1 h2) ha hs) hs hpl ht) hsw) (PSs.ex hr)) fun E σ H ⟨kp, own, at_, q1⟩ => ?_
  refine ⟨rfl, ?_⟩
  obtain ⟨Fs, h3, e3⟩ := at_.sl
  obtain ⟨v, F0, e1, e2, dx0, fs0, rfl, rfl, _, _⟩ := h3.get hL
  have qin : q ∈ own := by rw [e3]; exact List.mem_flatten.mpr ⟨[q], List.mem_of_getElem? e2, by simp⟩
  refine ⟨_, e1, tA_iff.mpr ⟨kp, own, at_, ?_⟩⟩
  cases m with
  | ok d =>
    intro vs H1 s1 r1
    have a1 := at_.ext s1
    obtain ⟨dx, fs, _, hp, rr, _⟩ := a1.mutS hL
    cases rr
    have q1 : BOk g kp E D ((F d).bind h) := q1
    refine ⟨q, dx, vs, rfl, hp, d, fun a => (a ∈ own ∧ a ≠ q) ∨ g.fm.z a, ⟨fun a z => ?_, fun P e => (a1.same.rmv (a1.new q qin).2.1 hp (fun _ z => nomatch z) rfl).tab P (ok.toOk.tab P e)⟩, ?_, ?_⟩
    · rcases z with ⟨z, zn⟩ | z
      · rw [rmv_ne zn]; exact (a1.new a z).1
      · have zn : a ≠ q := fun e => (a1.new q qin).2.2 (by rw [← e]; exact z)
        rw [rmv_ne zn]; exact a1.zin a z
    · rw [← ok.fmK]
      refine A.mono r1 fun a o z => ?_
      rcases RX.sh a o z with z | z
      · have zn : a ≠ q := fun e => z.2.1 (by rw [e]; exact qin)
        refine .inl ⟨?_, (fun y => nomatch y), fun y => y.elim (fun y => z.2.1 y.1) z.2.2⟩
        rcases z.1 with y | ⟨u, y⟩
        · exact .inl (by rw [cl_rmv_ne zn]; exact y)
        · exact .inr ⟨u, by rw [cl_rmv_ne zn]; exact y⟩
      · exact .inr z
    · rw [← ok.fmK]
      cases hd : F d with
      | ok r =>
        rw [hd] at q1
        intro H' dx' fs' s hx' rr'
        exact ⟨r, kp, own, a1.sup hL hp s hx' rr', q1⟩
      | ex c => exact absurd hd (hne d c)
      | no => rw [hd] at q1; exact q1
  | ex c => exact BOk.exx wk at_ q1
  | no => exact q1
end
end Hd
namespace Hd
open PySem PySem.Spec L2
inductive PV where
  | num (n : Int)
  | text (t : Tx)
  | tree (w : Tx) (its : List PV)
inductive PVR (R : RdR) : PV → V → Prop where
  | num {n : Int} : PVR R (.num n) (.int n)
  | text {t : Tx} : OkTx t → PVR R (.text t) (.str (toS t))
  | tree {w : Tx} {its : List PV} {a b : Addr} {vs : List V} : OkTx w → R a (.tup [.str (toS w), .ref b]) → R b (.lst vs) → its.length = vs.length → (∀ (i : Nat) x v, its[i]? = some x → vs[i]? = some v → PVR R x v) → PVR R (.tree w its) (.ref a)
theorem PVR.mono {R R' : RdR} (s : ∀ a o, R a o → R' a o) {x : PV} {v : V} (h : PVR R x v) : PVR R' x v := by
  induction h with
  | num => exact .num
  | text h => exact .text h
  | tree h0 h1 h2 h3 _ ih => exact .tree h0 (s _ _ h1) (s _ _ h2) h3 ih
def tPV : Ty PV := ⟨fun x v R => PVR R x v, fun h s => h.mono s⟩
abbrev PVt : Type := Tx × List PV × Unit
abbrev tPVt : Ty PVt := tTup (aCons tStr (aCons (tList tPV) aNil))
def mkTree (d : PVt) : PV := .tree d.1 d.2.1
def unTree : PV → M PVt
  | .tree w its => .ok (w, its, ())
  | _ => .no
def unNum : PV → M Int
  | .num n => .ok n
  | _ => .no
def unText : PV → M Tx
  | .text t => .ok t
  | _ => .no
def unTexts : List PV → M (List Tx)
  | [] => .ok []
  | x :: l => (unText x).bind fun t => (unTexts l).bind fun r => .ok (t :: r)
def isTree : PV → Bool
  | .tree _ _ => true
  | _ => false
theorem unTree_ne {d : PV} : ∀ c, unTree d ≠ .ex c := fun c => by cases d <;> exact fun h => nomatch h
theorem unNum_ne {d : PV} : ∀ c, unNum d ≠ .ex c := fun c => by cases d <;> exact fun h => nomatch h
theorem unText_ne {d : PV} : ∀ c, unText d ≠ .ex c := fun c => by cases d <;> exact fun h => nomatch h
theorem unTexts_ne : ∀ {d : List PV} (c), unTexts d ≠ .ex c
  | [], c => fun h => nomatch h
  | x :: l, c => by
    unfold unTexts
    cases e : unText x with
    | ok t =>
      rw [M.bind_ok]
      cases e2 : unTexts l with
      | ok r => exact fun h => nomatch h
      | ex c2 => exact absurd e2 (unTexts_ne c2)
      | no => exact fun h => nomatch h
    | ex c2 => exact absurd e (unText_ne c2)
    | no => exact fun h => nomatch h
theorem mkTree_r {d : PVt} {v : V} {R : RdR} (h : tPVt.rep d v R) : tPV.rep (mkTree d) v R := by
  obtain ⟨a, vs, e1, h1, w1, r1, e2, h2, w2, r2, e3, ⟨b, ws, e4, h4, h5⟩, h6⟩ := h
  cases (show r2 = [] from h6)
  obtain ⟨h2, o2⟩ := h2
  subst e1; subst e2; subst e3; subst e4; subst h2
  exact .tree o2 h1 h4 h5.length (reps_at h5)
theorem unTree_r {d : PV} {v : V} {R : RdR} {y : PVt} (h : tPV.rep d v R) (e : unTree d = .ok y) : tPVt.rep y v R := by
  cases h with
  | num => cases e
  | text _ => cases e
  | tree h0 h1 h2 h3 h4 => cases e; exact ⟨_, _, rfl, h1, _, _, rfl, ⟨rfl, h0⟩, _, _, rfl, ⟨_, _, rfl, h2, reps_of h3 h4⟩, rfl⟩
theorem unNum_r {d : PV} {v : V} {R : RdR} {y : Int} (h : tPV.rep d v R) (e : unNum d = .ok y) : tInt.rep y v R := by
  cases h with
  | num => cases e; rfl
  | text _ => cases e
  | tree h0 h1 h2 h3 h4 => cases e
theorem unText_r {d : PV} {v : V} {R : RdR} {y : Tx} (h : tPV.rep d v R) (e : unText d = .ok y) : tStr.rep y v R := by
  cases h with
  | num => cases e
  | text h => cases e; exact ⟨rfl, h⟩
  | tree h0 h1 h2 h3 h4 => cases e
theorem unTexts_rs {R : RdR} : ∀ {ds : List PV} {vs : List V} {ys : List Tx}, Reps tPV R ds vs → unTexts ds = .ok ys → Reps tStr R ys vs
  | [], _, _, .nil, e => by cases e; exact .nil
  | x :: l, _, _, .cons r rs, e => by
    unfold unTexts at e
    cases e1 : unText x with
    | ok t =>
      rw [e1, M.bind_ok] at e
      cases e2 : unTexts l with
      | ok q => rw [e2] at e; cases e; exact .cons (unText_r r e1) (unTexts_rs rs e2)
      | ex c => rw [e2] at e; cases e
      | no => rw [e2] at e; cases e
    | ex c => rw [e1] at e; cases e
    | no => rw [e1] at e; cases e
theorem texts_pv {R : RdR} : ∀ {ds : List Tx} {vs : List V}, Reps tStr R ds vs → Reps tPV R (ds.map .text) vs
  | _, _, .nil => .nil
  | _, _, .cons r rs => by
    obtain ⟨e, o⟩ := r
    subst e
    exact .cons (.text o) (texts_pv rs)
/-- what a value is, told by its worth -/
structure IsF {α : Type} (S : Ty α) (tyf : α → String) : Prop where
  t : ∀ {K d v R H}, Rdb K R H → S.rep d v R → TyX K H v (.type (tyf d))
def tyPV : PV → String
  | .num _ => "int"
  | .text _ => "str"
  | .tree _ _ => "tuple"
theorem if_pv : IsF tPV tyPV := ⟨fun {K d v R H} rb h => by
  cases h with
  | num => exact .base (.int _)
  | text h => exact .base (.str _)
  | tree h0 h1 h2 h3 h4 => exact RX.tyt rb h1⟩
section
variable {p : Pr} {sc : Scope} {NN VV GG : List Str} {k : Nat} {g : G} {L L' : List Slot} {a b c e e' : Expr} {es : List Expr} {md md' : Md} {α β γ δ ρ : Type} {S : Ty α} {T : Ty β} {A : Ar δ} {pos pp : Pos} {j : Nat}
theorem ev_mkTree {m : M PVt} (h : EvE g L e md tPVt m) : EvE g L e md tPV (m.bind fun d => .ok (mkTree d)) := ev_as (fun d v R r => mkTree_r r) h
theorem ev_pvNum {m : M Int} (h : EvE g L e md tInt m) : EvE g L e md tPV (m.bind fun d => .ok (.num d)) := ev_as (fun d v R r => by cases (show v = .int d from r); exact .num) h
theorem ev_pvTexts {m : M (List Tx)} (h : EvE g L e md (tList tStr) m) : EvE g L e md (tList tPV) (m.bind fun d => .ok (d.map .text)) := ev_as (S := tList tStr) (T := tList tPV) (fun d v R ⟨a, vs, e, h, r⟩ => ⟨a, vs, e, h, texts_pv r⟩) h
theorem ev_unTree {m : M PV} (h : EvE g L e md tPV m) : EvE g L e md tPVt (m.bind unTree) := ev_asM unTree_r unTree_ne h
theorem ev_unNum {m : M PV} (h : EvE g L e md tPV m) : EvE g L e md tInt (m.bind unNum) := ev_asM unNum_r unNum_ne h
theorem ev_unText {m : M PV} (h : EvE g L e md tPV m) : EvE g L e md tStr (m.bind unText) := ev_asM unText_r unText_ne h
theorem ev_unTexts {m : M (List PV)} (h : EvE g L e md (tList tPV) m) : EvE g L e md (tList tStr) (m.bind unTexts) := ev_asM (S := tList tPV) (T := tList tStr) (fun {d v R y} ⟨a, vs, e, h, r⟩ q => ⟨a, vs, e, h, unTexts_rs r q⟩) unTexts_ne h
theorem ev_isF {n : String} {tyf : α → String} {rf : α → Bool} {m : M α} (ok : Ok p sc NN VV GG k g) (hG : GG[j]? = some "isinstance") (hmg : p.mg "isinstance" = none) (hT : IsF S tyf) (hr : ∀ d, kitB (tyf d) n = some (rf d)) (ha : EvE g L a md S m) (hb : EvE g L b md (tTy n) (.ok ()))
    (hs1 : starEach (a :: [b]) g.X.env = (false, eval a g.X.env) :: starEach [b] g.X.env := by rfl) (hs2 : starEach [b] g.X.env = (false, eval b g.X.env) :: starEach [] g.X.env := by rfl) (hpl : (backTo pos (starEach [b] g.X.env)).any (·.1) = false := by rfl) :
    EvE g L (.Call (.Name "isinstance" pp) [a, b] [] pos) md' tBool (m.bind fun d => .ok (rf d)) := by
  have h := ev_callB (md' := md') (U := tBool) (A := aCons S (aCons (tTy n) aNil)) (f := fun d => .ok (rf d.1)) (fr := true) (pos := pos) (pp := pp) ok (id := "isinstance") call_isi ⟨fun {d xs R H Q} rb ⟨v, w, e1, h1, v2, w2, e2, h2, e3⟩ q => by
    subst e1; subst e2; cases (show w2 = [] from e3); cases h2
    exact ⟨v, .ty n, .type (tyf d.1), .type n, rf d.1, rfl, .ty n, hT.t (by rw [ok.K]; exact rb) h1, kit_ty (hr d.1), q _ _ (Same.refl _) rfl⟩⟩ (fun _ _ h => nomatch h) .fresh hG hmg (by decide +kernel) (eva_cons ha (eva_cons hb eva_nil hs2) hs1) hs1 hpl
  have e : (m.bind fun d => ((M.ok ()).bind fun d => (M.ok ()).bind fun e => M.ok (d, e)).bind fun e => M.ok (d, e)).bind (fun d => M.ok (rf d.1)) = m.bind fun d => .ok (rf d) := by cases m <;> rfl
  rwa [e] at h
theorem kit_i : kitB "int" "tuple" = some false := by decide +kernel
theorem kit_s : kitB "str" "tuple" = some false := by decide +kernel
theorem kit_t : kitB "tuple" "tuple" = some true := by decide +kernel
theorem kit_pv : ∀ d : PV, kitB (tyPV d) "tuple" = some (isTree d)
  | .num _ => kit_i
  | .text _ => kit_s
  | .tree _ _ => kit_t
theorem ev_isTree {m : M PV} (ok : Ok p sc NN VV GG k g) (hG : GG[j]? = some "isinstance") (hmg : p.mg "isinstance" = none) (ha : EvE g L a md tPV m) (hb : EvE g L b md (tTy "tuple") (.ok ()))
    (hs1 : starEach (a :: [b]) g.X.env = (false, eval a g.X.env) :: starEach [b] g.X.env := by rfl) (hs2 : starEach [b] g.X.env = (false, eval b g.X.env) :: starEach [] g.X.env := by rfl) (hpl : (backTo pos (starEach [b] g.X.env)).any (·.1) = false := by rfl) :
    EvE g L (.Call (.Name "isinstance" pp) [a, b] [] pos) md' tBool (m.bind fun d => .ok (isTree d)) := ev_isF ok hG hmg if_pv kit_pv ha hb hs1 hs2 hpl
/-- where nothing comes -/
theorem evb_no {st : List Stmt} {D : δ → Out} : EvB g L st D (.no : M δ) := ⟨fun pins s σ H D I ⟨kp, own, at_, q⟩ => q.elim⟩
end
end Hd
namespace Hd
open PySem PySem.Spec L2
/-- those not met before (m: the set of those met) -/
def newB {β : Type} : List Addr → Nat → (List Addr → Nat → β) → β
  | [], m, k => k [] m
  | a :: r, m, k => match Nat.beq (Nat.land 1 (Nat.shiftRight m a)) 0 with
    | true => newB r (Nat.lor m (Nat.shiftLeft 1 a)) fun l m' => k (a :: l) m'
    | false => newB r m k
def bfsB (g : Addr → Option Obj) : Nat → List Addr → Nat → List Addr
  | 0, _, _ => []
  | n + 1, fr, m => newB (fr.flatMap fun a => match g a with
    | some o => He.refsD o
    | none => []) m fun l m' => l ++ bfsB g n l m'
def asY (g : Addr → Option Obj) (n : Nat) : List Addr := PySem.cStatics :: mainGlobals :: bfsB g n [mainGlobals] (Nat.lor (Nat.shiftLeft 1 PySem.cStatics) (Nat.shiftLeft 1 mainGlobals))
def obsY (n : Nat) (fa : List He.Fa) (fn : List He.DefD) (ts : List He.Tab) (tf : List He.Defn) (ex : PySem.W.Frag → Bool) (g : Addr → Option Obj) : He.AlX := (He.obsT fa fn ts (He.frT g (asY g n)), ex (He.frT g (asY g n)) && He.tabsB g tf (He.frT g (asY g n)))
theorem saysY_of {n : Nat} {fa : List He.Fa} {fn : List He.DefD} {ts : List He.Tab} {tf : List He.Defn} {ex : PySem.W.Frag → Bool} {w : World} {h : Heap} (e : obsY n fa fn ts tf ex h.get? = He.valX fn ts w) : He.SaysX fa fn ts tf ex w h (He.frT h.get? (asY h.get? n)) := by
  have e1 : He.obsT fa fn ts (He.frT h.get? (asY h.get? n)) = He.valT fn ts w := congrArg (fun z : He.AlX => z.1) e
  have e2 : (ex (He.frT h.get? (asY h.get? n)) && He.tabsB h.get? tf (He.frT h.get? (asY h.get? n))) = true := congrArg (fun z : He.AlX => z.2) e
  obtain ⟨h1, h2⟩ := He.ba e2
  have key : ∀ p ∈ tf, PySem.W.codeHdIn (He.frT h.get? (asY h.get? n)) (He.cT (He.frT h.get? (asY h.get? n)) p).1 (He.cT (He.frT h.get? (asY h.get? n)) p).2 = true ∧ ∃ o, h.get? (He.cT (He.frT h.get? (asY h.get? n)) p).2 = some o ∧ He.emptyTab o = true := fun p hp => by
    obtain ⟨h3, h4⟩ := He.ba (List.all_eq_true.mp h2 p hp)
    refine ⟨h3, ?_⟩
    cases q : h.get? (He.cT (He.frT h.get? (asY h.get? n)) p).2 with
    | none =>
      rw [q] at h4
      cases h4
    | some o =>
      rw [q] at h4
      exact ⟨o, rfl, h4⟩
  exact ⟨e1, h1, fun p hp => (key p hp).1, fun p hp => by
    obtain ⟨_, o, q, z⟩ := key p hp
    exact He.frT_none q z, fun p hp => by
    obtain ⟨_, o, q, z⟩ := key p hp
    rw [q, He.emptyTab_eq z]⟩
def hookY (n : Nat) (fa : List He.Fa) (fn : List He.DefD) (ts : List He.Tab) (tf : List He.Defn) (ex : PySem.W.Frag → Bool) : PySem.W.Hook where
  α := He.AlX
  obs := fun s => obsY n fa fn ts tf ex s.heap.get?
  val := fun w => He.valX fn ts w
  says := fun w h => ∃ K : PySem.W.Frag, K.In h ∧ He.SaysX fa fn ts tf ex w h K
  of := fun _ _ e => ⟨_, He.frT_in, saysY_of e⟩
  keeps := fun _ _ _ ⟨K, hK, c⟩ k => ⟨K, PySem.W.Frag.In.keeps hK k, ⟨c.t, c.more, c.hd, c.out, fun p hp => k _ _ (c.empty p hp)⟩⟩
theorem obsY_eq {n : Nat} {fa : List He.Fa} {fn : List He.DefD} {ts : List He.Tab} {tf : List He.Defn} {ex : PySem.W.Frag → Bool} {g : Addr → Option Obj} {s : Shared} (h : ∀ a, g a = s.heap.get? a) : obsY n fa fn ts tf ex g = (hookY n fa fn ts tf ex).obs s := by
  have e : g = s.heap.get? := funext h
  rw [e] <;> rfl
theorem dic_of {fa : List He.Fa} {fn : List He.DefD} {ts : List He.Tab} {w : World} {K : PySem.W.Frag} (c : He.SaysT fa fn ts w K) (i : Nat) {t : He.Tab} (h : ts[i]? = some t := by rfl) : He.dicW K (t.1 K) = some (He.keysIn w.params t.2) := by
  have e : ts.map (fun t => He.dicW K (t.1 K)) = ts.map fun t => some (He.keysIn w.params t.2) := congrArg (fun z : He.AlT => z.2) c
  have e2 : (ts.map fun t => He.dicW K (t.1 K))[i]? = (ts.map fun t => some (He.keysIn w.params t.2))[i]? := by rw [e]
  rw [List.getElem?_map, List.getElem?_map, h] at e2
  exact Option.some.inj e2
def c_Piece_init (d : Int × Int × Unit) : M (Int × Int × Unit) := .ok (d.1, d.2.1, ())
theorem cPI_ne : ∀ d c, c_Piece_init d ≠ .ex c := fun _ _ h => nomatch h
theorem getM_nx {α : Type} {xs : List α} {i : Int} : NoEx (getM xs i) := fun c h => getM_ne h
end Hd
set_option maxHeartbeats 1000000
namespace Hd
open PySem PySem.Spec L2
def lOf {β : Type} (p : Pr) (iC : Nat) : List (Ec × β) → List V → List (Value × (Addr → Value → Option Addr → TS))
  | (d, _) :: r, v :: vs => (.ref (p.C d), fun _ _ _ => tAsg (fun σ H Q => Q v H) (gName iC)) :: lOf p iC r vs
  | _, _ => []
inductive Hds (p : Pr) (kn : List Ec) (GG : List Str) (L : List Slot) {α : Type} (S : Ty α) (y : Str) (iC : Nat) {β : Type} (LJ : β → List Slot) : List ExceptHandler → List (Ec × β) → List V → Prop
  | nil : Hds p kn GG L S y iC LJ [] [] []
  | cons {x : Str} {cx : Ec} {j : Nat} {np pos' p2 p3 : Pos} {e : Expr} {v : V} {dv : α} {h : β} {hs cl vs} (hcx : cx ∈ kn) (hx : p.mg x = some (.ref (p.C cx))) (hG : GG[j]? = some x) (he : ∀ Y : Cx, PE Y e (fun σ H Q => Q v H)) (hrep : ∀ R, S.rep dv v R)
      (hh : Wk (L.set iC (sV false S dv)) (LJ h)) (r : Hds p kn GG L S y iC LJ hs cl vs) (hsw : ∀ Y : Cx, swapsWith e (some (.Name y p2)) p3.line Y.env = pure false := by intro _; rfl) :
      Hds p kn GG L S y iC LJ (.ExceptHandler (some (.Name x np)) none [.Assign [.Name y p2] e p3] pos' :: hs) ((cx, h) :: cl) (v :: vs)
section
variable {p : Pr} {sc : Scope} {NN VV GG : List Str} {k : Nat} {g : G} {L L' : List Slot} {α β γ δ : Type} {S : Ty α} {pos : Pos} {st : List Stmt} {D : δ → Out}
theorem Hds.ok {kn : List Ec} {y : Str} {iC jC : Nat} {LJ : β → List Slot} {hs : List ExceptHandler} {cl : List (Ec × β)} {vs : List V} (ok : OkS p sc NN VV GG k g) (hNC : NN[iC]? = some y) (hVC : VV[jC]? = some y) (r : Hds p kn GG L S y iC LJ hs cl vs) : HdsOk g.X hs (lOf p iC cl vs) := by
  induction r with
  | nil => exact .nil
  | cons hcx hx hG he hrep hh r hsw ih =>
    obtain ⟨hg, ho⟩ := ok.gl hG
    refine .cons ⟨hg, (okName_d ho).1, .inl (by rw [ok.mg]; exact hx)⟩ (fun ad oE cl dd pn _ _ => ?_) ih
    exact pss_one (ps_set (i := iC) (by show g.X.N.Nodup; rw [ok.N]; exact ok.nd) (by show g.X.N[iC]? = _; rw [ok.N]; exact hNC) (ok.loc hVC) (he _) (hsw _) (.inl (ok.fnT y)))
end
end Hd
namespace Hd
open PySem PySem.Spec L2
def Okm {α : Type} (m : M α) (P : α → Prop) : Prop := ∃ a, m = .ok a ∧ P a
section
variable {α β γ ρ : Type} {m : M α} {f : α → M β} {P P' : α → Prop} {Q : β → Prop}
theorem okv {a : α} (h : P a) : Okm (.ok a) P := ⟨a, rfl, h⟩
theorem oke {a : α} (h : Okm m (· = a)) : m = .ok a := by
  obtain ⟨b, e, rfl⟩ := h
  exact e
theorem getM_at {xs : List α} {i : Int} {v : α} (h0 : 0 ≤ i) (h : xs[i.toNat]? = some v) : getM xs i = .ok v := by
  have hl : i.toNat < xs.length := (List.getElem?_eq_some_iff.mp h).1
  unfold getM L2.atI L2.ixN
  rw [if_pos h0, if_pos (by omega)]
  show (match xs[i.toNat]? with | some d => M.ok d | none => .no) = _
  rw [h]
theorem getM_nat {xs : List α} {i : Nat} {v : α} (h : xs[i]? = some v) : getM xs (i : Int) = .ok v := getM_at (by omega) (by rw [Int.toNat_natCast]; exact h)
theorem getS_at {x : Tx} {i : Int} {c : Nat} (h0 : 0 ≤ i) (h : x[i.toNat]? = some c) : getS x i = .ok [c] := by
  have hl : i.toNat < x.length := (List.getElem?_eq_some_iff.mp h).1
  unfold getS L2.atI L2.ixN
  rw [if_pos h0, if_pos (by omega)]
  show (match x[i.toNat]? with | some d => M.ok [d] | none => .no) = _
  rw [h]
theorem getS_nat {x : Tx} {i : Nat} {c : Nat} (h : x[i]? = some c) : getS x (i : Int) = .ok [c] := getS_at (by omega) (by rw [Int.toNat_natCast]; exact h)
theorem ok_push {xs : List α} {d : α} (h : xs.length < 1000000) : Okm (pushM xs d) (· = xs ++ [d]) := by
  unfold pushM
  rw [if_pos (Nat.lt_trans h (by decide))]
  exact okv rfl
theorem ok_cat {x y : Tx} (h : x.length + y.length ≤ 1000000) : Okm (catS x y) (· = x ++ y) := by
  unfold catS
  rw [if_pos (Nat.le_trans h (by decide))]
  exact okv rfl
theorem comp_eq {h : α → M (Option β)} {g : α → Option β} {xs : List α} (hl : xs.length ≤ 1000000) (hs : ∀ x ∈ xs, h x = .ok (g x)) : compM h xs = .ok (xs.filterMap g) := by
  unfold compM
  rw [if_pos (Nat.le_trans hl (by decide))]
  clear hl
  induction xs with
  | nil => rfl
  | cons x r ih =>
    show ((h x).nox.bind fun o => (compG h r).bind fun l => M.ok (o.toList ++ l)) = _
    rw [hs x List.mem_cons_self, ih fun y hy => hs y (List.mem_cons_of_mem _ hy)]
    show M.ok ((g x).toList ++ r.filterMap g) = _
    rw [List.filterMap_cons]
    cases g x <;> rfl
theorem comp_map {h : α → M (Option β)} {g : α → β} {xs : List α} (hl : xs.length ≤ 1000000) (hs : ∀ x ∈ xs, h x = .ok (some (g x))) : compM h xs = .ok (xs.map g) := by
  rw [comp_eq (g := fun x => some (g x)) hl hs]
  congr 1
  induction xs with
  | nil => rfl
  | cons x r ih => rw [List.filterMap_cons]; simp only [List.map_cons]; rw [ih (by simp at hl; omega) fun y hy => hs y (List.mem_cons_of_mem _ hy)]
end
theorem tx_nil : tx "" = [] := by decide +kernel
theorem sIx_at {n d : Nat} {i : Int} (h0 : 0 ≤ i) (h : i ≤ n) : HT.sIx n d (some i) = i.toNat := by
  simp only [HT.sIx]
  split <;> omega
theorem cut_mid {α : Type} {xs : List α} {a b : Int} (h0 : 0 ≤ a) (h1 : a ≤ b) (h2 : b ≤ xs.length) : cutL xs (some a) (some b) = (xs.drop a.toNat).take (b.toNat - a.toNat) := by
  unfold cutL; rw [sIx_at h0 (by omega), sIx_at (by omega) h2]
theorem cut_from {α : Type} {xs : List α} {a : Int} (h0 : 0 ≤ a) (h1 : a ≤ xs.length) : cutL xs (some a) none = xs.drop a.toNat := by
  unfold cutL; rw [sIx_at h0 (by omega)]
  show (xs.drop a.toNat).take (xs.length - a.toNat) = _
  rw [List.take_of_length_le (by rw [List.length_drop]; exact Nat.le_refl _)]
theorem cut_to {α : Type} {xs : List α} {b : Int} (h0 : 0 ≤ b) (h1 : b ≤ xs.length) : cutL xs none (some b) = xs.take b.toNat := by
  unfold cutL; rw [sIx_at h0 (by omega)]
  rfl
end Hd
set_option maxHeartbeats 0
namespace Hd
open PySem PySem.Spec L2
def topS (i : Nat) : Stmt := PySem.Challenge.pw_heddle_k58_texts_that_are_no_patterns.main.body.getD i (.Pass ⟨0, 0, 0, 0⟩)
def kn_ : List Ec := [.weave, .tooLarge, .noPattern, .unknown]
def kd_SHAPES : List (Tx × Tx) := [(tx "rows", tx ""), (tx "twill", tx "NN"), (tx "satin", tx "NN"), (tx "beside", tx "PP"), (tx "above", tx "PP"), (tx "mirror", tx "P"), (tx "upend", tx "P"), (tx "back", tx "P"), (tx "quarter", tx "P"), (tx "tile", tx "PNN"), (tx "blocks", tx "PPP"), (tx "lay", tx "PP")]
structure Facts (p : Pr) : Prop where
  g_all : p.mg "all" = none
  g_int : p.mg "int" = none
  g_isinstance : p.mg "isinstance" = none
  g_len : p.mg "len" = none
  g_list : p.mg "list" = none
  g_str : p.mg "str" = none
  g_tuple : p.mg "tuple" = none
  c_DEEPEST : ∃ t, p.mg "DEEPEST" = some (.int 12 t)
  c_FIGURES : ∃ t, p.mg "FIGURES" = some (.str (Str.ofString "0123456789") t)
  c_LETTERS : ∃ t, p.mg "LETTERS" = some (.str (Str.ofString "abcdefghijklmnopqrstuvwxyz") t)
  c_MOST_STRANDS : ∃ t, p.mg "MOST_STRANDS" = some (.int 40 t)
  x_NoPattern : ExF p "NoPattern" .noPattern
  x_TooLarge : ExF p "TooLarge" .tooLarge
  x_Unknown : ExF p "Unknown" .unknown
  x_WeaveError : ExF p "WeaveError" .weave
  kn : Kn p kn_
  t_SHAPES : KD p "SHAPES" kd_SHAPES
  pc : PcF p
  s_Given_init : ∃ f fd, FunD p.K "__init__" "Given.__init__" (defArgs ((clsBody (topS 7)).getD 0 (.Pass ⟨0, 0, 0, 0⟩))) (defBody ((clsBody (topS 7)).getD 0 (.Pass ⟨0, 0, 0, 0⟩))) (defScope ((clsBody (topS 7)).getD 0 (.Pass ⟨0, 0, 0, 0⟩))) [] [] f fd ∧ p.mg "Given" = some (.ref (cA p "Given")) ∧ ClsFn p.K (cA p "Given") "__init__" f
  s_Piece_init : ∃ f fd, FunD p.K "__init__" "Piece.__init__" (defArgs ((clsBody (topS 6)).getD 0 (.Pass ⟨0, 0, 0, 0⟩))) (defBody ((clsBody (topS 6)).getD 0 (.Pass ⟨0, 0, 0, 0⟩))) (defScope ((clsBody (topS 6)).getD 0 (.Pass ⟨0, 0, 0, 0⟩))) [] [] f fd ∧ p.mg "Piece" = some (.ref (cA p "Piece")) ∧ ClsFn p.K (cA p "Piece") "__init__" f
  a_Piece : Cls p.K (cA p "Piece")
  a_Given : Cls p.K (cA p "Given")
  a_Named : Cls p.K (cA p "Named")
  a_Twill : Cls p.K (cA p "Twill")
  a_Satin : Cls p.K (cA p "Satin")
  a_Beside : Cls p.K (cA p "Beside")
  a_Above : Cls p.K (cA p "Above")
  a_Mirrored : Cls p.K (cA p "Mirrored")
  a_Backed : Cls p.K (cA p "Backed")
  a_Upended : Cls p.K (cA p "Upended")
  a_Quartered : Cls p.K (cA p "Quartered")
  a_Repeated : Cls p.K (cA p "Repeated")
  a_Blocked : Cls p.K (cA p "Blocked")
  a_Covered : Cls p.K (cA p "Covered")
  n_Above_ends : NoAttr p.K (cA p "Above") "ends"
  n_Above_first : NoAttr p.K (cA p "Above") "first"
  n_Above_later : NoAttr p.K (cA p "Above") "later"
  n_Above_picks : NoAttr p.K (cA p "Above") "picks"
  n_Backed_ends : NoAttr p.K (cA p "Backed") "ends"
  n_Backed_inner : NoAttr p.K (cA p "Backed") "inner"
  n_Backed_picks : NoAttr p.K (cA p "Backed") "picks"
  n_Beside_ends : NoAttr p.K (cA p "Beside") "ends"
  n_Beside_left : NoAttr p.K (cA p "Beside") "left"
  n_Beside_picks : NoAttr p.K (cA p "Beside") "picks"
  n_Beside_right : NoAttr p.K (cA p "Beside") "right"
  n_Blocked_ends : NoAttr p.K (cA p "Blocked") "ends"
  n_Blocked_other : NoAttr p.K (cA p "Blocked") "other"
  n_Blocked_picks : NoAttr p.K (cA p "Blocked") "picks"
  n_Blocked_profile : NoAttr p.K (cA p "Blocked") "profile"
  n_Blocked_unit : NoAttr p.K (cA p "Blocked") "unit"
  n_Covered_ends : NoAttr p.K (cA p "Covered") "ends"
  n_Covered_lower_one : NoAttr p.K (cA p "Covered") "lower_one"
  n_Covered_picks : NoAttr p.K (cA p "Covered") "picks"
  n_Covered_upper_one : NoAttr p.K (cA p "Covered") "upper_one"
  n_Given_ends : NoAttr p.K (cA p "Given") "ends"
  n_Given_picks : NoAttr p.K (cA p "Given") "picks"
  n_Given_texts : NoAttr p.K (cA p "Given") "texts"
  n_Mirrored_ends : NoAttr p.K (cA p "Mirrored") "ends"
  n_Mirrored_inner : NoAttr p.K (cA p "Mirrored") "inner"
  n_Mirrored_picks : NoAttr p.K (cA p "Mirrored") "picks"
  n_Named_ends : NoAttr p.K (cA p "Named") "ends"
  n_Named_name : NoAttr p.K (cA p "Named") "name"
  n_Named_picks : NoAttr p.K (cA p "Named") "picks"
  n_Named_texts : NoAttr p.K (cA p "Named") "texts"
  n_Quartered_ends : NoAttr p.K (cA p "Quartered") "ends"
  n_Quartered_inner : NoAttr p.K (cA p "Quartered") "inner"
  n_Quartered_picks : NoAttr p.K (cA p "Quartered") "picks"
  n_Repeated_across : NoAttr p.K (cA p "Repeated") "across"
  n_Repeated_along : NoAttr p.K (cA p "Repeated") "along"
  n_Repeated_ends : NoAttr p.K (cA p "Repeated") "ends"
  n_Repeated_inner : NoAttr p.K (cA p "Repeated") "inner"
  n_Repeated_picks : NoAttr p.K (cA p "Repeated") "picks"
  n_Satin_ends : NoAttr p.K (cA p "Satin") "ends"
  n_Satin_picks : NoAttr p.K (cA p "Satin") "picks"
  n_Satin_step : NoAttr p.K (cA p "Satin") "step"
  n_Twill_ends : NoAttr p.K (cA p "Twill") "ends"
  n_Twill_many : NoAttr p.K (cA p "Twill") "many"
  n_Twill_more : NoAttr p.K (cA p "Twill") "more"
  n_Twill_picks : NoAttr p.K (cA p "Twill") "picks"
  n_Upended_ends : NoAttr p.K (cA p "Upended") "ends"
  n_Upended_inner : NoAttr p.K (cA p "Upended") "inner"
  n_Upended_picks : NoAttr p.K (cA p "Upended") "picks"
  d__law_plain : ∃ f fd, FunD p.K "_law_plain" "_law_plain" (defArgs (topS 42)) (defBody (topS 42)) (defScope (topS 42)) [] [] f fd ∧ p.mg "_law_plain" = some (.ref f)
  d__law_strange : ∃ f fd, FunD p.K "_law_strange" "_law_strange" (defArgs (topS 43)) (defBody (topS 43)) (defScope (topS 43)) [] [] f fd ∧ p.mg "_law_strange" = some (.ref f)
  d__law_deep : ∃ f fd, FunD p.K "_law_deep" "_law_deep" (defArgs (topS 45)) (defBody (topS 45)) (defScope (topS 45)) [] [] f fd ∧ p.mg "_law_deep" = some (.ref f)
  d__law_odd : ∃ f fd, FunD p.K "_law_odd" "_law_odd" (defArgs (topS 44)) (defBody (topS 44)) (defScope (topS 44)) [] [] f fd ∧ p.mg "_law_odd" = some (.ref f)
  d__law_text : ∃ f fd, FunD p.K "_law_text" "_law_text" (defArgs (topS 46)) (defBody (topS 46)) (defScope (topS 46)) [] [] f fd ∧ p.mg "_law_text" = some (.ref f)
  d_sign_sort : ∃ f fd, FunD p.K "sign_sort" "sign_sort" (defArgs (topS 26)) (defBody (topS 26)) (defScope (topS 26)) [] [] f fd ∧ p.mg "sign_sort" = some (.ref f)
  d_marks_of : ∃ f fd, FunD p.K "marks_of" "marks_of" (defArgs (topS 28)) (defBody (topS 28)) (defScope (topS 28)) [] [] f fd ∧ p.mg "marks_of" = some (.ref f)
  d_mark_at : ∃ f fd, FunD p.K "mark_at" "mark_at" (defArgs (topS 29)) (defBody (topS 29)) (defScope (topS 29)) [] [] f fd ∧ p.mg "mark_at" = some (.ref f)
  d_is_name : ∃ f fd, FunD p.K "is_name" "is_name" (defArgs (topS 27)) (defBody (topS 27)) (defScope (topS 27)) [] [] f fd ∧ p.mg "is_name" = some (.ref f)
  d_behind_mark : ∃ f fd, FunD p.K "behind_mark" "behind_mark" (defArgs (topS 30)) (defBody (topS 30)) (defScope (topS 30)) [] [] f fd ∧ p.mg "behind_mark" = some (.ref f)
  d_read_runs : ∃ f fd, FunD p.K "read_runs" "read_runs" (defArgs (topS 32)) (defBody (topS 32)) (defScope (topS 32)) [] [] f fd ∧ p.mg "read_runs" = some (.ref f)
  d_number_of : ∃ f fd, FunD p.K "number_of" "number_of" (defArgs (topS 31)) (defBody (topS 31)) (defScope (topS 31)) [] [] f fd ∧ p.mg "number_of" = some (.ref f)
  d_read_tree : ∃ f fd, FunD p.K "read_tree" "read_tree" (defArgs (topS 33)) (defBody (topS 33)) (defScope (topS 33)) [] [] f fd ∧ p.mg "read_tree" = some (.ref f)
  d_must_fit : ∃ f fd, FunD p.K "must_fit" "must_fit" (defArgs (topS 35)) (defBody (topS 35)) (defScope (topS 35)) [] [] f fd ∧ p.mg "must_fit" = some (.ref f)
  k_Given_init : ∃ f fd, FunD p.K "__init__" "Given.__init__" (defArgs ((clsBody (topS 7)).getD 0 (.Pass ⟨0, 0, 0, 0⟩))) (defBody ((clsBody (topS 7)).getD 0 (.Pass ⟨0, 0, 0, 0⟩))) (defScope ((clsBody (topS 7)).getD 0 (.Pass ⟨0, 0, 0, 0⟩))) [] [] f fd ∧ Mk p.K (cA p "Given") f ∧ p.mg "Given" = some (.ref (cA p "Given"))
  k_Named_init : ∃ f fd, FunD p.K "__init__" "Named.__init__" (defArgs ((clsBody (topS 8)).getD 0 (.Pass ⟨0, 0, 0, 0⟩))) (defBody ((clsBody (topS 8)).getD 0 (.Pass ⟨0, 0, 0, 0⟩))) (defScope ((clsBody (topS 8)).getD 0 (.Pass ⟨0, 0, 0, 0⟩))) [] [] f fd ∧ Mk p.K (cA p "Named") f ∧ p.mg "Named" = some (.ref (cA p "Named"))
  k_Twill_init : ∃ f fd, FunD p.K "__init__" "Twill.__init__" (defArgs ((clsBody (topS 9)).getD 0 (.Pass ⟨0, 0, 0, 0⟩))) (defBody ((clsBody (topS 9)).getD 0 (.Pass ⟨0, 0, 0, 0⟩))) (defScope ((clsBody (topS 9)).getD 0 (.Pass ⟨0, 0, 0, 0⟩))) [] [] f fd ∧ Mk p.K (cA p "Twill") f ∧ p.mg "Twill" = some (.ref (cA p "Twill"))
  d_no_common : ∃ f fd, FunD p.K "no_common" "no_common" (defArgs (topS 34)) (defBody (topS 34)) (defScope (topS 34)) [] [] f fd ∧ p.mg "no_common" = some (.ref f)
  k_Satin_init : ∃ f fd, FunD p.K "__init__" "Satin.__init__" (defArgs ((clsBody (topS 10)).getD 0 (.Pass ⟨0, 0, 0, 0⟩))) (defBody ((clsBody (topS 10)).getD 0 (.Pass ⟨0, 0, 0, 0⟩))) (defScope ((clsBody (topS 10)).getD 0 (.Pass ⟨0, 0, 0, 0⟩))) [] [] f fd ∧ Mk p.K (cA p "Satin") f ∧ p.mg "Satin" = some (.ref (cA p "Satin"))
  m_Piece_wide : ∃ f fd, FunD p.K "wide" "Piece.wide" (defArgs ((clsBody (topS 6)).getD 1 (.Pass ⟨0, 0, 0, 0⟩))) (defBody ((clsBody (topS 6)).getD 1 (.Pass ⟨0, 0, 0, 0⟩))) (defScope ((clsBody (topS 6)).getD 1 (.Pass ⟨0, 0, 0, 0⟩))) [] [] f fd ∧ ∀ c : PK, Cls p.K (cA p c.nm) ∧ Meth p.K (cA p c.nm) "wide" f
  m_Piece_high : ∃ f fd, FunD p.K "high" "Piece.high" (defArgs ((clsBody (topS 6)).getD 2 (.Pass ⟨0, 0, 0, 0⟩))) (defBody ((clsBody (topS 6)).getD 2 (.Pass ⟨0, 0, 0, 0⟩))) (defScope ((clsBody (topS 6)).getD 2 (.Pass ⟨0, 0, 0, 0⟩))) [] [] f fd ∧ ∀ c : PK, Cls p.K (cA p c.nm) ∧ Meth p.K (cA p c.nm) "high" f
  k_Repeated_init : ∃ f fd, FunD p.K "__init__" "Repeated.__init__" (defArgs ((clsBody (topS 17)).getD 0 (.Pass ⟨0, 0, 0, 0⟩))) (defBody ((clsBody (topS 17)).getD 0 (.Pass ⟨0, 0, 0, 0⟩))) (defScope ((clsBody (topS 17)).getD 0 (.Pass ⟨0, 0, 0, 0⟩))) [] [] f fd ∧ Mk p.K (cA p "Repeated") f ∧ p.mg "Repeated" = some (.ref (cA p "Repeated"))
  d_numbered_piece : ∃ f fd, FunD p.K "numbered_piece" "numbered_piece" (defArgs (topS 36)) (defBody (topS 36)) (defScope (topS 36)) [] [] f fd ∧ p.mg "numbered_piece" = some (.ref f)
  k_Mirrored_init : ∃ f fd, FunD p.K "__init__" "Mirrored.__init__" (defArgs ((clsBody (topS 13)).getD 0 (.Pass ⟨0, 0, 0, 0⟩))) (defBody ((clsBody (topS 13)).getD 0 (.Pass ⟨0, 0, 0, 0⟩))) (defScope ((clsBody (topS 13)).getD 0 (.Pass ⟨0, 0, 0, 0⟩))) [] [] f fd ∧ Mk p.K (cA p "Mirrored") f ∧ p.mg "Mirrored" = some (.ref (cA p "Mirrored"))
  k_Upended_init : ∃ f fd, FunD p.K "__init__" "Upended.__init__" (defArgs ((clsBody (topS 15)).getD 0 (.Pass ⟨0, 0, 0, 0⟩))) (defBody ((clsBody (topS 15)).getD 0 (.Pass ⟨0, 0, 0, 0⟩))) (defScope ((clsBody (topS 15)).getD 0 (.Pass ⟨0, 0, 0, 0⟩))) [] [] f fd ∧ Mk p.K (cA p "Upended") f ∧ p.mg "Upended" = some (.ref (cA p "Upended"))
  k_Backed_init : ∃ f fd, FunD p.K "__init__" "Mirrored.__init__" (defArgs ((clsBody (topS 13)).getD 0 (.Pass ⟨0, 0, 0, 0⟩))) (defBody ((clsBody (topS 13)).getD 0 (.Pass ⟨0, 0, 0, 0⟩))) (defScope ((clsBody (topS 13)).getD 0 (.Pass ⟨0, 0, 0, 0⟩))) [] [] f fd ∧ Mk p.K (cA p "Backed") f ∧ p.mg "Backed" = some (.ref (cA p "Backed"))
  k_Quartered_init : ∃ f fd, FunD p.K "__init__" "Quartered.__init__" (defArgs ((clsBody (topS 16)).getD 0 (.Pass ⟨0, 0, 0, 0⟩))) (defBody ((clsBody (topS 16)).getD 0 (.Pass ⟨0, 0, 0, 0⟩))) (defScope ((clsBody (topS 16)).getD 0 (.Pass ⟨0, 0, 0, 0⟩))) [] [] f fd ∧ Mk p.K (cA p "Quartered") f ∧ p.mg "Quartered" = some (.ref (cA p "Quartered"))
  d_turned_piece : ∃ f fd, FunD p.K "turned_piece" "turned_piece" (defArgs (topS 38)) (defBody (topS 38)) (defScope (topS 38)) [] [] f fd ∧ p.mg "turned_piece" = some (.ref f)
  k_Beside_init : ∃ f fd, FunD p.K "__init__" "Beside.__init__" (defArgs ((clsBody (topS 11)).getD 0 (.Pass ⟨0, 0, 0, 0⟩))) (defBody ((clsBody (topS 11)).getD 0 (.Pass ⟨0, 0, 0, 0⟩))) (defScope ((clsBody (topS 11)).getD 0 (.Pass ⟨0, 0, 0, 0⟩))) [] [] f fd ∧ Mk p.K (cA p "Beside") f ∧ p.mg "Beside" = some (.ref (cA p "Beside"))
  k_Above_init : ∃ f fd, FunD p.K "__init__" "Above.__init__" (defArgs ((clsBody (topS 12)).getD 0 (.Pass ⟨0, 0, 0, 0⟩))) (defBody ((clsBody (topS 12)).getD 0 (.Pass ⟨0, 0, 0, 0⟩))) (defScope ((clsBody (topS 12)).getD 0 (.Pass ⟨0, 0, 0, 0⟩))) [] [] f fd ∧ Mk p.K (cA p "Above") f ∧ p.mg "Above" = some (.ref (cA p "Above"))
  k_Covered_init : ∃ f fd, FunD p.K "__init__" "Covered.__init__" (defArgs ((clsBody (topS 19)).getD 0 (.Pass ⟨0, 0, 0, 0⟩))) (defBody ((clsBody (topS 19)).getD 0 (.Pass ⟨0, 0, 0, 0⟩))) (defScope ((clsBody (topS 19)).getD 0 (.Pass ⟨0, 0, 0, 0⟩))) [] [] f fd ∧ Mk p.K (cA p "Covered") f ∧ p.mg "Covered" = some (.ref (cA p "Covered"))
  k_Blocked_init : ∃ f fd, FunD p.K "__init__" "Blocked.__init__" (defArgs ((clsBody (topS 18)).getD 0 (.Pass ⟨0, 0, 0, 0⟩))) (defBody ((clsBody (topS 18)).getD 0 (.Pass ⟨0, 0, 0, 0⟩))) (defScope ((clsBody (topS 18)).getD 0 (.Pass ⟨0, 0, 0, 0⟩))) [] [] f fd ∧ Mk p.K (cA p "Blocked") f ∧ p.mg "Blocked" = some (.ref (cA p "Blocked"))
  d_joined_piece : ∃ f fd, FunD p.K "joined_piece" "joined_piece" (defArgs (topS 37)) (defBody (topS 37)) (defScope (topS 37)) [] [] f fd ∧ p.mg "joined_piece" = some (.ref f)
  d_worked_out : ∃ f fd, FunD p.K "worked_out" "worked_out" (defArgs (topS 39)) (defBody (topS 39)) (defScope (topS 39)) [] [] f fd ∧ p.mg "worked_out" = some (.ref f)
  d_read_pattern : ∃ f fd, FunD p.K "read_pattern" "read_pattern" (defArgs (topS 40)) (defBody (topS 40)) (defScope (topS 40)) [] [] f fd ∧ p.mg "read_pattern" = some (.ref f)
  d__law_right : ∃ f fd, FunD p.K "_law_right" "_law_right" (defArgs (topS 47)) (defBody (topS 47)) (defScope (topS 47)) [] [] f fd ∧ p.mg "_law_right" = some (.ref f)
  d_law : ∃ f fd, FunD p.K "law" "law" (defArgs (topS 48)) (defBody (topS 48)) (defScope (topS 48)) [] [] f fd ∧ p.mg "law" = some (.ref f)
abbrev s__law_plain : Stmt := (topS 42)
abbrev N__law_plain : List Str := ["cell", "a", "b", "size", "inner"]
abbrev V__law_plain : List Str := ["cell", "a", "b", "size", "inner"]
abbrev G__law_plain : List Str := ["str"]
theorem sc__law_plain : Sc s__law_plain N__law_plain V__law_plain ["cell"] G__law_plain := ⟨⟨rfl, rfl, rfl, by decide +kernel, rfl, by decide +kernel, by decide +kernel⟩, by decide +kernel, by decide +kernel, by decide +kernel⟩
def q__law_plain (cell1 : Int) : M (Tx × Int × Int × Unit) := M.bind (M.bind (M.ok (1 : Int)) fun y4 => M.bind (M.bind (M.ok cell1) fun y3 => M.ok (y3 % (5 : Int))) fun y5 => M.ok (y4 + y5)) fun a2 => M.bind (M.bind (M.ok (1 : Int)) fun y9 => M.bind (M.bind (M.bind (M.ok cell1) fun y7 => M.ok (y7 / (5 : Int))) fun y8 => M.ok (y8 % (5 : Int))) fun y10 => M.ok (y9 + y10)) fun b6 => M.bind (M.bind (M.bind (M.bind (M.ok cell1) fun y11 => M.ok (y11 / (25 : Int))) fun y12 => M.ok (y12 % (3 : Int))) fun y13 => M.bind (M.ok (0 : Int)) fun y14 => M.ok (decide (y13 = y14))) fun c15 => if c15 = true then M.bind (M.bind (M.bind (M.ok a2) fun y17 => M.bind (M.ok b6) fun y18 => M.ok (y17 + y18)) fun y19 => M.bind (M.ok (1 : Int)) fun y20 => M.ok (y19 + y20)) fun size16 => M.bind (M.bind (M.bind (M.bind (M.bind (M.bind (M.bind (M.ok (tx "twill(")) fun y23 => M.bind (M.bind (M.ok a2) fun y22 => strM y22) fun y24 => catS y23 y24) fun y25 => M.bind (M.ok (tx ",")) fun y26 => catS y25 y26) fun y30 => M.bind (M.bind (M.bind (M.ok b6) fun y27 => M.bind (M.ok (1 : Int)) fun y28 => M.ok (y27 + y28)) fun y29 => strM y29) fun y31 => catS y30 y31) fun y32 => M.bind (M.ok (tx "),satin(")) fun y33 => catS y32 y33) fun y35 => M.bind (M.bind (M.ok size16) fun y34 => strM y34) fun y36 => catS y35 y36) fun y37 => M.bind (M.ok (tx ",1)")) fun y38 => catS y37 y38) fun inner21 => (M.bind (M.bind (M.bind (M.ok (tx "beside(")) fun y39 => M.bind (M.ok inner21) fun y40 => catS y39 y40) fun y41 => M.bind (M.ok (tx ")")) fun y42 => catS y41 y42) fun y48 => M.bind (M.bind (M.bind (M.ok size16) fun y43 => M.ok ((2 : Int) * y43)) fun y46 => M.bind (M.bind (M.ok size16) fun y44 => M.bind (M.ok ()) fun y45 => M.ok (y44, y45)) fun y47 => M.ok (y46, y47)) fun y49 => M.ok (y48, y49)) else M.bind (M.bind (M.bind (M.bind (M.ok cell1) fun y54 => M.ok (y54 / (25 : Int))) fun y55 => M.ok (y55 % (3 : Int))) fun y56 => M.bind (M.ok (1 : Int)) fun y57 => M.ok (decide (y56 = y57))) fun c58 => if c58 = true then (M.bind (M.bind (M.bind (M.bind (M.bind (M.ok (tx "tile(known,")) fun y60 => M.bind (M.bind (M.ok a2) fun y59 => strM y59) fun y61 => catS y60 y61) fun y62 => M.bind (M.ok (tx ",")) fun y63 => catS y62 y63) fun y65 => M.bind (M.bind (M.ok b6) fun y64 => strM y64) fun y66 => catS y65 y66) fun y67 => M.bind (M.ok (tx ")")) fun y68 => catS y67 y68) fun y75 => M.bind (M.bind (M.bind (M.ok a2) fun y69 => M.ok ((2 : Int) * y69)) fun y73 => M.bind (M.bind (M.bind (M.ok b6) fun y70 => M.ok ((3 : Int) * y70)) fun y71 => M.bind (M.ok ()) fun y72 => M.ok (y71, y72)) fun y74 => M.ok (y73, y74)) fun y76 => M.ok (y75, y76)) else (M.bind (M.bind (M.bind (M.ok (tx "rows(")) fun y95 => M.bind (M.bind (M.ok (tx ",")) fun y93 => M.bind (M.bind (M.bind (M.bind (M.ok (tx "#.#")) fun y85 => M.bind (M.ok (none : Option Int)) fun y86 => M.bind (M.bind (M.bind (M.bind (M.ok a2) fun y81 => M.ok (y81 % (3 : Int))) fun y82 => M.bind (M.ok (1 : Int)) fun y83 => M.ok (y82 + y83)) fun y84 => M.ok (some y84)) fun y87 => M.ok (cutL y85 y86 y87)) fun y88 => M.bind (M.ok []) fun y89 => M.ok (y88 :: y89)) fun y91 => M.bind (M.ok b6) fun y92 => repM y91 y92) fun y94 => joinM y93 y94) fun y96 => catS y95 y96) fun y97 => M.bind (M.ok (tx ")")) fun y98 => catS y97 y98) fun y106 => M.bind (M.bind (M.bind (M.bind (M.ok a2) fun y99 => M.ok (y99 % (3 : Int))) fun y100 => M.bind (M.ok (1 : Int)) fun y101 => M.ok (y100 + y101)) fun y104 => M.bind (M.bind (M.ok b6) fun y102 => M.bind (M.ok ()) fun y103 => M.ok (y102, y103)) fun y105 => M.ok (y104, y105)) fun y107 => M.ok (y106, y107))
def f_law_plain (cell1 : Int) : M (Tx × Int × Int × Unit) := let a2 : Int := ((1 : Int) + (cell1 % (5 : Int))); let b6 : Int := ((1 : Int) + ((cell1 / (5 : Int)) % (5 : Int))); if (decide (((cell1 / (25 : Int)) % (3 : Int)) = (0 : Int))) = true then let size16 : Int := ((a2 + b6) + (1 : Int)); M.bind (M.bind (M.bind (M.bind (M.bind (M.bind (M.bind (strM a2) fun y24 => catS (tx "twill(") y24) fun y25 => catS y25 (tx ",")) fun y30 => M.bind (strM (b6 + (1 : Int))) fun y31 => catS y30 y31) fun y32 => catS y32 ((tx "),satin("))) fun y35 => M.bind (strM size16) fun y36 => catS y35 y36) fun y37 => catS y37 ((tx ",1)"))) fun inner21 => M.bind (M.bind (catS (tx "beside(") inner21) fun y41 => catS y41 ((tx ")"))) fun y50 => M.ok (y50, ((2 : Int) * size16), size16, ()) else if (decide (((cell1 / (25 : Int)) % (3 : Int)) = (1 : Int))) = true then M.bind (M.bind (M.bind (M.bind (M.bind (strM a2) fun y61 => catS (tx "tile(known,") y61) fun y62 => catS y62 (tx ",")) fun y65 => M.bind (strM b6) fun y66 => catS y65 y66) fun y67 => catS y67 ((tx ")"))) fun y77 => M.ok (y77, ((2 : Int) * a2), ((3 : Int) * b6), ()) else M.bind (M.bind (M.bind (M.bind (repM ([(cutL (tx "#.#") none (some ((a2 % (3 : Int)) + (1 : Int))))]) b6) fun y94 => joinM (tx ",") y94) fun y96 => catS (tx "rows(") y96) fun y97 => catS y97 ((tx ")"))) fun y108 => M.ok (y108, ((a2 % (3 : Int)) + (1 : Int)), b6, ())
def r__law_plain (d : (Int × Unit)) : M (Tx × Int × Int × Unit) := q__law_plain d.1
def c__law_plain (d : (Int × Unit)) : M (Tx × Int × Int × Unit) := f_law_plain d.1
theorem eq__law_plain : r__law_plain = c__law_plain := by funext d; first | (simp only [r__law_plain, c__law_plain, q__law_plain, f_law_plain, M.bind_assoc, M.bok]; done) | (simp only [r__law_plain, c__law_plain, q__law_plain, f_law_plain, M.bind_assoc, M.bok]; rfl)
theorem bb__law_plain {p : Pr} (X : Facts p) {g : G} (ok : OkS p (defScope s__law_plain) N__law_plain V__law_plain G__law_plain 0 g) (hX : g.LX = List.replicate N__law_plain.length sAny) (cell1 : Int) : EvB g [(sV false tInt cell1), sAny, sAny, sAny, sAny] (defBody s__law_plain) (fun r => .rt false (tTup (aCons tStr (aCons tInt (aCons tInt aNil)))) r) (q__law_plain cell1) := (evb_set ok (i := 1) (j := 1) rfl rfl (wkX hX rfl) .sh (ev_add (md' := .sh) ok.toOk (ev_int (md := .sh)) (ev_modC (md' := .sh) ok.toOk (by decide) (ev_vsh ok.toOk (i := 0) (j := 0) rfl rfl rfl) (ev_int (md := .sh)))) fun a2 => (evb_set ok (i := 2) (j := 2) rfl rfl (wkX hX rfl) .sh (ev_add (md' := .sh) ok.toOk (ev_int (md := .sh)) (ev_modC (md' := .sh) ok.toOk (by decide) (ev_divC (md' := .sh) ok.toOk (by decide) (by decide) (ev_vsh ok.toOk (i := 0) (j := 0) rfl rfl rfl) (ev_int (md := .sh))) (ev_int (md := .sh)))) fun b6 => (evb_ifx (wkX hX rfl) (evt_c ok.toOk (c_eq s_int) (ev_modC (md' := .sh) ok.toOk (by decide) (ev_divC (md' := .sh) ok.toOk (by decide) (by decide) (ev_vsh ok.toOk (i := 0) (j := 0) rfl rfl rfl) (ev_int (md := .sh))) (ev_int (md := .sh))) (ev_int (md := .sh))) (evb_set ok (i := 3) (j := 3) rfl rfl (wkX hX rfl) .sh (ev_add (md' := .sh) ok.toOk (ev_add (md' := .sh) ok.toOk (ev_vsh ok.toOk (i := 1) (j := 1) rfl rfl rfl) (ev_vsh ok.toOk (i := 2) (j := 2) rfl rfl rfl)) (ev_int (md := .sh))) fun size16 => (evb_set ok (i := 4) (j := 4) rfl rfl (wkX hX rfl) .sh (ev_catS (md' := .sh) ok.toOk (ev_catS (md' := .sh) ok.toOk (ev_catS (md' := .sh) ok.toOk (ev_catS (md' := .sh) ok.toOk (ev_catS (md' := .sh) ok.toOk (ev_catS (md' := .sh) ok.toOk (ev_str (md := .sh) (by decide +kernel)) (ev_strI (md' := .sh) ok.toOk (j := 0) rfl X.g_str (ev_vsh ok.toOk (i := 1) (j := 1) rfl rfl rfl))) (ev_str (md := .sh) (by decide +kernel))) (ev_strI (md' := .sh) ok.toOk (j := 0) rfl X.g_str (ev_add (md' := .sh) ok.toOk (ev_vsh ok.toOk (i := 2) (j := 2) rfl rfl rfl) (ev_int (md := .sh))))) (ev_str (md := .sh) (by decide +kernel))) (ev_strI (md' := .sh) ok.toOk (j := 0) rfl X.g_str (ev_vsh ok.toOk (i := 3) (j := 3) rfl rfl rfl))) (ev_str (md := .sh) (by decide +kernel))) fun inner21 => (evb_ret (wkX hX rfl) .sh (by intro _; rfl) (ev_tup (fun d vs R h => by rw [(lenS (lenS (lenS len0))) h]; decide) (eva_cons (ev_catS (md' := .sh) ok.toOk (ev_catS (md' := .sh) ok.toOk (ev_str (md := .sh) (by decide +kernel)) (ev_vsh ok.toOk (i := 4) (j := 4) rfl rfl rfl)) (ev_str (md := .sh) (by decide +kernel))) (eva_cons (ev_mulL (md' := .sh) ok.toOk (by decide) (ev_int (md := .sh)) (ev_vsh ok.toOk (i := 3) (j := 3) rfl rfl rfl)) (eva_cons (ev_vsh ok.toOk (i := 3) (j := 3) rfl rfl rfl) eva_nil))))))) (evb_ifx (wkX hX rfl) (evt_c ok.toOk (c_eq s_int) (ev_modC (md' := .sh) ok.toOk (by decide) (ev_divC (md' := .sh) ok.toOk (by decide) (by decide) (ev_vsh ok.toOk (i := 0) (j := 0) rfl rfl rfl) (ev_int (md := .sh))) (ev_int (md := .sh))) (ev_int (md := .sh))) (evb_ret (wkX hX rfl) .sh (by intro _; rfl) (ev_tup (fun d vs R h => by rw [(lenS (lenS (lenS len0))) h]; decide) (eva_cons (ev_catS (md' := .sh) ok.toOk (ev_catS (md' := .sh) ok.toOk (ev_catS (md' := .sh) ok.toOk (ev_catS (md' := .sh) ok.toOk (ev_str (md := .sh) (by decide +kernel)) (ev_strI (md' := .sh) ok.toOk (j := 0) rfl X.g_str (ev_vsh ok.toOk (i := 1) (j := 1) rfl rfl rfl))) (ev_str (md := .sh) (by decide +kernel))) (ev_strI (md' := .sh) ok.toOk (j := 0) rfl X.g_str (ev_vsh ok.toOk (i := 2) (j := 2) rfl rfl rfl))) (ev_str (md := .sh) (by decide +kernel))) (eva_cons (ev_mulL (md' := .sh) ok.toOk (by decide) (ev_int (md := .sh)) (ev_vsh ok.toOk (i := 1) (j := 1) rfl rfl rfl)) (eva_cons (ev_mulL (md' := .sh) ok.toOk (by decide) (ev_int (md := .sh)) (ev_vsh ok.toOk (i := 2) (j := 2) rfl rfl rfl)) eva_nil))))) (evb_ret (wkX hX rfl) .sh (by intro _; rfl) (ev_tup (fun d vs R h => by rw [(lenS (lenS (lenS len0))) h]; decide) (eva_cons (ev_catS (md' := .sh) ok.toOk (ev_catS (md' := .sh) ok.toOk (ev_str (md := .sh) (by decide +kernel)) (ev_join (md' := .sh) ok.toOk (ev_str (md := .sh) (by decide +kernel)) (ev_ofL (evl_rep (md := .sh) ok.toOk (evl_lstN (n := 1) (lnS ln0) (by decide) (evs_cons (ev_slS (md' := .sh) ok.toOk (ev_str (md := .sh) (by decide +kernel)) evo_none (evo_some (ev_add (md' := .sh) ok.toOk (ev_modC (md' := .sh) ok.toOk (by decide) (ev_vsh ok.toOk (i := 1) (j := 1) rfl rfl rfl) (ev_int (md := .sh))) (ev_int (md := .sh))))) evs_nil)) (ev_vsh ok.toOk (i := 2) (j := 2) rfl rfl rfl))))) (ev_str (md := .sh) (by decide +kernel))) (eva_cons (ev_add (md' := .sh) ok.toOk (ev_modC (md' := .sh) ok.toOk (by decide) (ev_vsh ok.toOk (i := 1) (j := 1) rfl rfl rfl) (ev_int (md := .sh))) (ev_int (md := .sh))) (eva_cons (ev_vsh ok.toOk (i := 2) (j := 2) rfl rfl rfl) eva_nil)))))))))
theorem b__law_plain {p : Pr} (X : Facts p) : Body p s__law_plain N__law_plain V__law_plain G__law_plain 0 (fun (d : (Int × Unit)) => [(sV false tInt d.1), sAny, sAny, sAny, sAny]) (fun r => .rt false (tTup (aCons tStr (aCons tInt (aCons tInt aNil)))) r) r__law_plain := fun g ok hX d => bb__law_plain X ok hX d.1
theorem fn__law_plain {p : Pr} (X : Facts p) : Fn p 1 "_law_plain" ["cell"] (spM p (aCons tInt aNil) (fun r => .rt false (tTup (aCons tStr (aCons tInt (aCons tInt aNil)))) r) c__law_plain) := by
  obtain ⟨f, fd, hF, hm⟩ := X.d__law_plain
  exact ⟨f, fd, eq__law_plain ▸ fn_rt (m := 4) hF sc__law_plain (.cons .nil) rfl rfl (b__law_plain X), hm, hF.kp, hF.bindsN fun _ _ _ _ _ _ us hl => match us, hl with | [_], _ => rfl⟩
abbrev s__law_strange : Stmt := (topS 43)
abbrev N__law_strange : List Str := ["cell", "some"]
abbrev V__law_strange : List Str := ["cell", "some"]
abbrev G__law_strange : List Str := ["len"]
theorem sc__law_strange : Sc s__law_strange N__law_strange V__law_strange ["cell"] G__law_strange := ⟨⟨rfl, rfl, rfl, by decide +kernel, rfl, by decide +kernel, by decide +kernel⟩, by decide +kernel, by decide +kernel, by decide +kernel⟩
def q__law_strange (cell1 : Int) : M Tx := M.bind (M.ok (tx "!\"$&'*+-/:;<=>?\x40[\\]^_`{|}~ABCDEFGHIJKLMNOPQRSTUVWXYZ")) fun some2 => M.bind (M.ok some2) fun y6 => M.bind (M.bind (M.ok cell1) fun y4 => M.bind (M.bind (M.ok some2) fun y3 => M.ok (y3.length : Int)) fun y5 => modM y4 y5) fun y7 => getS y6 y7
def f_law_strange (cell1 : Int) : M Tx := let some2 : Tx := (tx "!\"$&'*+-/:;<=>?\x40[\\]^_`{|}~ABCDEFGHIJKLMNOPQRSTUVWXYZ"); M.bind (modM cell1 (some2.length : Int)) fun y7 => getS some2 y7
def r__law_strange (d : (Int × Unit)) : M Tx := q__law_strange d.1
def c__law_strange (d : (Int × Unit)) : M Tx := f_law_strange d.1
theorem eq__law_strange : r__law_strange = c__law_strange := by funext d; first | (simp only [r__law_strange, c__law_strange, q__law_strange, f_law_strange, M.bind_assoc, M.bok]; done) | (simp only [r__law_strange, c__law_strange, q__law_strange, f_law_strange, M.bind_assoc, M.bok]; rfl)
theorem bb__law_strange {p : Pr} (X : Facts p) {g : G} (ok : OkS p (defScope s__law_strange) N__law_strange V__law_strange G__law_strange 0 g) (hX : g.LX = List.replicate N__law_strange.length sAny) (cell1 : Int) : EvB g [(sV false tInt cell1), sAny] (defBody s__law_strange) (fun r => .rt false tStr r) (q__law_strange cell1) := (evb_set ok (i := 1) (j := 1) rfl rfl (wkX hX rfl) .sh (ev_str (md := .sh) (by decide +kernel)) fun some2 => (evb_ret (wkX hX rfl) .sh (by intro _; rfl) (ev_ixS (md' := .sh) ok.toOk (ev_vsh ok.toOk (i := 1) (j := 1) rfl rfl rfl) (ev_mod (md' := .sh) ok.toOk (ev_vsh ok.toOk (i := 0) (j := 0) rfl rfl rfl) (ev_lenS (md' := .sh) ok.toOk (j := 0) rfl X.g_len (ev_vsh ok.toOk (i := 1) (j := 1) rfl rfl rfl))))))
theorem b__law_strange {p : Pr} (X : Facts p) : Body p s__law_strange N__law_strange V__law_strange G__law_strange 0 (fun (d : (Int × Unit)) => [(sV false tInt d.1), sAny]) (fun r => .rt false tStr r) r__law_strange := fun g ok hX d => bb__law_strange X ok hX d.1
theorem fn__law_strange {p : Pr} (X : Facts p) : Fn p 1 "_law_strange" ["cell"] (spM p (aCons tInt aNil) (fun r => .rt false tStr r) c__law_strange) := by
  obtain ⟨f, fd, hF, hm⟩ := X.d__law_strange
  exact ⟨f, fd, eq__law_strange ▸ fn_rt (m := 1) hF sc__law_strange (.cons .nil) rfl rfl (b__law_strange X), hm, hF.kp, hF.bindsN fun _ _ _ _ _ _ us hl => match us, hl with | [_], _ => rfl⟩
abbrev s__law_deep : Stmt := (topS 45)
abbrev N__law_deep : List Str := ["many"]
abbrev V__law_deep : List Str := ["many"]
abbrev G__law_deep : List Str := []
theorem sc__law_deep : Sc s__law_deep N__law_deep V__law_deep ["many"] G__law_deep := ⟨⟨rfl, rfl, rfl, by decide +kernel, rfl, by decide +kernel, by decide +kernel⟩, by decide +kernel, by decide +kernel, by decide +kernel⟩
def q__law_deep (many1 : Int) : M (Tx × Bool × Unit) := (M.bind (M.bind (M.bind (M.bind (M.ok (tx "mirror(")) fun y2 => M.bind (M.ok many1) fun y3 => repS y2 y3) fun y4 => M.bind (M.ok (tx "known")) fun y5 => catS y4 y5) fun y8 => M.bind (M.bind (M.ok (tx ")")) fun y6 => M.bind (M.ok many1) fun y7 => repS y6 y7) fun y9 => catS y8 y9) fun y14 => M.bind (M.bind (M.bind (M.ok many1) fun y10 => M.bind (M.ok (11 : Int)) fun y11 => M.ok (decide (y10 ≤ y11))) fun y12 => M.bind (M.ok ()) fun y13 => M.ok (y12, y13)) fun y15 => M.ok (y14, y15))
def f_law_deep (many1 : Int) : M (Tx × Bool × Unit) := M.bind (M.bind (M.bind (repS (tx "mirror(") many1) fun y4 => catS y4 (tx "known")) fun y8 => M.bind (repS ((tx ")")) many1) fun y9 => catS y8 y9) fun y16 => M.ok (y16, (decide (many1 ≤ (11 : Int))), ())
def r__law_deep (d : (Int × Unit)) : M (Tx × Bool × Unit) := q__law_deep d.1
def c__law_deep (d : (Int × Unit)) : M (Tx × Bool × Unit) := f_law_deep d.1
theorem eq__law_deep : r__law_deep = c__law_deep := by funext d; first | (simp only [r__law_deep, c__law_deep, q__law_deep, f_law_deep, M.bind_assoc, M.bok]; done) | (simp only [r__law_deep, c__law_deep, q__law_deep, f_law_deep, M.bind_assoc, M.bok]; rfl)
theorem bb__law_deep {p : Pr} (X : Facts p) {g : G} (ok : OkS p (defScope s__law_deep) N__law_deep V__law_deep G__law_deep 0 g) (hX : g.LX = List.replicate N__law_deep.length sAny) (many1 : Int) : EvB g [(sV false tInt many1)] (defBody s__law_deep) (fun r => .rt false (tTup (aCons tStr (aCons tBool aNil))) r) (q__law_deep many1) := (evb_ret (wkX hX rfl) .sh (by intro _; rfl) (ev_tup (fun d vs R h => by rw [(lenS (lenS len0)) h]; decide) (eva_cons (ev_catS (md' := .sh) ok.toOk (ev_catS (md' := .sh) ok.toOk (ev_repS (md' := .sh) ok.toOk (ev_str (md := .sh) (by decide +kernel)) (ev_vsh ok.toOk (i := 0) (j := 0) rfl rfl rfl)) (ev_str (md := .sh) (by decide +kernel))) (ev_repS (md' := .sh) ok.toOk (ev_str (md := .sh) (by decide +kernel)) (ev_vsh ok.toOk (i := 0) (j := 0) rfl rfl rfl))) (eva_cons (ev_c (md' := .sh) ok.toOk c_le (ev_vsh ok.toOk (i := 0) (j := 0) rfl rfl rfl) (ev_int (md := .sh))) eva_nil))))
theorem b__law_deep {p : Pr} (X : Facts p) : Body p s__law_deep N__law_deep V__law_deep G__law_deep 0 (fun (d : (Int × Unit)) => [(sV false tInt d.1)]) (fun r => .rt false (tTup (aCons tStr (aCons tBool aNil))) r) r__law_deep := fun g ok hX d => bb__law_deep X ok hX d.1
theorem fn__law_deep {p : Pr} (X : Facts p) : Fn p 1 "_law_deep" ["many"] (spM p (aCons tInt aNil) (fun r => .rt false (tTup (aCons tStr (aCons tBool aNil))) r) c__law_deep) := by
  obtain ⟨f, fd, hF, hm⟩ := X.d__law_deep
  exact ⟨f, fd, eq__law_deep ▸ fn_rt (m := 0) hF sc__law_deep (.cons .nil) rfl rfl (b__law_deep X), hm, hF.kp, hF.bindsN fun _ _ _ _ _ _ us hl => match us, hl with | [_], _ => rfl⟩
abbrev s__law_odd : Stmt := (topS 44)
abbrev N__law_odd : List Str := ["cell", "some"]
abbrev V__law_odd : List Str := ["cell", "some"]
abbrev G__law_odd : List Str := ["len"]
theorem sc__law_odd : Sc s__law_odd N__law_odd V__law_odd ["cell"] G__law_odd := ⟨⟨rfl, rfl, rfl, by decide +kernel, rfl, by decide +kernel, by decide +kernel⟩, by decide +kernel, by decide +kernel, by decide +kernel⟩
def q__law_odd (cell1 : Int) : M Tx := M.bind (M.bind (M.ok (tx "")) fun y95 => M.bind (M.bind (M.ok (tx " ")) fun y93 => M.bind (M.bind (M.ok (tx "()")) fun y91 => M.bind (M.bind (M.ok (tx "rows")) fun y89 => M.bind (M.bind (M.ok (tx "rows()")) fun y87 => M.bind (M.bind (M.ok (tx "rows(#,)")) fun y85 => M.bind (M.bind (M.ok (tx "rows(,#)")) fun y83 => M.bind (M.bind (M.ok (tx "rows(# #)")) fun y81 => M.bind (M.bind (M.ok (tx "rows(a)")) fun y79 => M.bind (M.bind (M.ok (tx "rows(1)")) fun y77 => M.bind (M.bind (M.ok (tx "rows(#")) fun y75 => M.bind (M.bind (M.ok (tx "twill(02,1)")) fun y73 => M.bind (M.bind (M.ok (tx "twill(2,001)")) fun y71 => M.bind (M.bind (M.ok (tx "twill(123,1)")) fun y69 => M.bind (M.bind (M.ok (tx "twill(,1)")) fun y67 => M.bind (M.bind (M.ok (tx "twill(2)")) fun y65 => M.bind (M.bind (M.ok (tx "twill(2,1,1)")) fun y63 => M.bind (M.bind (M.ok (tx "twill(known,1)")) fun y61 => M.bind (M.bind (M.ok (tx "twill(#,1)")) fun y59 => M.bind (M.bind (M.ok (tx "twill(2 2,1)")) fun y57 => M.bind (M.bind (M.ok (tx "twill 2,1")) fun y55 => M.bind (M.bind (M.ok (tx "twill[2,1]")) fun y53 => M.bind (M.bind (M.ok (tx "satin(5)")) fun y51 => M.bind (M.bind (M.ok (tx "satin(5,2,)")) fun y49 => M.bind (M.bind (M.ok (tx "tile(known,2)")) fun y47 => M.bind (M.bind (M.ok (tx "tile(2,known,2)")) fun y45 => M.bind (M.bind (M.ok (tx "tile(known,2,2,2)")) fun y43 => M.bind (M.bind (M.ok (tx "mirror()")) fun y41 => M.bind (M.bind (M.ok (tx "mirror(known,known)")) fun y39 => M.bind (M.bind (M.ok (tx "mirror(2)")) fun y37 => M.bind (M.bind (M.ok (tx "mirror(#)")) fun y35 => M.bind (M.bind (M.ok (tx "back known")) fun y33 => M.bind (M.bind (M.ok (tx "lay(known)")) fun y31 => M.bind (M.bind (M.ok (tx "blocks(known,known)")) fun y29 => M.bind (M.bind (M.ok (tx "beside(known known)")) fun y27 => M.bind (M.bind (M.ok (tx "beside(known,known,known)")) fun y25 => M.bind (M.bind (M.ok (tx "known()")) fun y23 => M.bind (M.bind (M.ok (tx "known(known)")) fun y21 => M.bind (M.bind (M.ok (tx "known known")) fun y19 => M.bind (M.bind (M.ok (tx "#")) fun y17 => M.bind (M.bind (M.ok (tx "2")) fun y15 => M.bind (M.bind (M.ok (tx "above(,)")) fun y13 => M.bind (M.bind (M.ok (tx "rows(#,##)")) fun y11 => M.bind (M.bind (M.ok (tx "rows(##.,#.)")) fun y9 => M.bind (M.bind (M.ok (tx "beside(nobody,twill(2))")) fun y7 => M.bind (M.bind (M.ok (tx "above(twill(30,30),known")) fun y5 => M.bind (M.bind (M.ok (tx "tile(nobody,2,2)x")) fun y3 => M.bind (M.ok []) fun y4 => M.ok (y3 :: y4)) fun y6 => M.ok (y5 :: y6)) fun y8 => M.ok (y7 :: y8)) fun y10 => M.ok (y9 :: y10)) fun y12 => M.ok (y11 :: y12)) fun y14 => M.ok (y13 :: y14)) fun y16 => M.ok (y15 :: y16)) fun y18 => M.ok (y17 :: y18)) fun y20 => M.ok (y19 :: y20)) fun y22 => M.ok (y21 :: y22)) fun y24 => M.ok (y23 :: y24)) fun y26 => M.ok (y25 :: y26)) fun y28 => M.ok (y27 :: y28)) fun y30 => M.ok (y29 :: y30)) fun y32 => M.ok (y31 :: y32)) fun y34 => M.ok (y33 :: y34)) fun y36 => M.ok (y35 :: y36)) fun y38 => M.ok (y37 :: y38)) fun y40 => M.ok (y39 :: y40)) fun y42 => M.ok (y41 :: y42)) fun y44 => M.ok (y43 :: y44)) fun y46 => M.ok (y45 :: y46)) fun y48 => M.ok (y47 :: y48)) fun y50 => M.ok (y49 :: y50)) fun y52 => M.ok (y51 :: y52)) fun y54 => M.ok (y53 :: y54)) fun y56 => M.ok (y55 :: y56)) fun y58 => M.ok (y57 :: y58)) fun y60 => M.ok (y59 :: y60)) fun y62 => M.ok (y61 :: y62)) fun y64 => M.ok (y63 :: y64)) fun y66 => M.ok (y65 :: y66)) fun y68 => M.ok (y67 :: y68)) fun y70 => M.ok (y69 :: y70)) fun y72 => M.ok (y71 :: y72)) fun y74 => M.ok (y73 :: y74)) fun y76 => M.ok (y75 :: y76)) fun y78 => M.ok (y77 :: y78)) fun y80 => M.ok (y79 :: y80)) fun y82 => M.ok (y81 :: y82)) fun y84 => M.ok (y83 :: y84)) fun y86 => M.ok (y85 :: y86)) fun y88 => M.ok (y87 :: y88)) fun y90 => M.ok (y89 :: y90)) fun y92 => M.ok (y91 :: y92)) fun y94 => M.ok (y93 :: y94)) fun y96 => M.ok (y95 :: y96)) fun some2 => M.bind (M.ok some2) fun y147 => M.bind (M.bind (M.ok cell1) fun y145 => M.bind (M.bind (M.ok some2) fun y144 => M.ok (y144.length : Int)) fun y146 => modM y145 y146) fun y148 => getM y147 y148
def f_law_odd (cell1 : Int) : M Tx := let some2 : (List Tx) := [(tx ""), (tx " "), (tx "()"), (tx "rows"), (tx "rows()"), (tx "rows(#,)"), (tx "rows(,#)"), (tx "rows(# #)"), (tx "rows(a)"), (tx "rows(1)"), (tx "rows(#"), (tx "twill(02,1)"), (tx "twill(2,001)"), (tx "twill(123,1)"), (tx "twill(,1)"), (tx "twill(2)"), (tx "twill(2,1,1)"), (tx "twill(known,1)"), (tx "twill(#,1)"), (tx "twill(2 2,1)"), (tx "twill 2,1"), (tx "twill[2,1]"), (tx "satin(5)"), (tx "satin(5,2,)"), (tx "tile(known,2)"), (tx "tile(2,known,2)"), (tx "tile(known,2,2,2)"), (tx "mirror()"), (tx "mirror(known,known)"), (tx "mirror(2)"), (tx "mirror(#)"), (tx "back known"), (tx "lay(known)"), (tx "blocks(known,known)"), (tx "beside(known known)"), (tx "beside(known,known,known)"), (tx "known()"), (tx "known(known)"), (tx "known known"), (tx "#"), (tx "2"), (tx "above(,)"), (tx "rows(#,##)"), (tx "rows(##.,#.)"), (tx "beside(nobody,twill(2))"), (tx "above(twill(30,30),known"), (tx "tile(nobody,2,2)x")]; M.bind (modM cell1 (some2.length : Int)) fun y148 => getM some2 y148
def r__law_odd (d : (Int × Unit)) : M Tx := q__law_odd d.1
def c__law_odd (d : (Int × Unit)) : M Tx := f_law_odd d.1
theorem eq__law_odd : r__law_odd = c__law_odd := by funext d; first | (simp only [r__law_odd, c__law_odd, q__law_odd, f_law_odd, M.bind_assoc, M.bok]; done) | (simp only [r__law_odd, c__law_odd, q__law_odd, f_law_odd, M.bind_assoc, M.bok]; rfl)
theorem bb__law_odd {p : Pr} (X : Facts p) {g : G} (ok : OkS p (defScope s__law_odd) N__law_odd V__law_odd G__law_odd 0 g) (hX : g.LX = List.replicate N__law_odd.length sAny) (cell1 : Int) : EvB g [(sV false tInt cell1), sAny] (defBody s__law_odd) (fun r => .rt false tStr r) (q__law_odd cell1) := (evb_set ok (i := 1) (j := 1) rfl rfl (wkX hX rfl) .sh (ev_ofL (evl_lstN (n := 47) (lnS (lnS (lnS (lnS (lnS (lnS (lnS (lnS (lnS (lnS (lnS (lnS (lnS (lnS (lnS (lnS (lnS (lnS (lnS (lnS (lnS (lnS (lnS (lnS (lnS (lnS (lnS (lnS (lnS (lnS (lnS (lnS (lnS (lnS (lnS (lnS (lnS (lnS (lnS (lnS (lnS (lnS (lnS (lnS (lnS (lnS (lnS ln0))))))))))))))))))))))))))))))))))))))))))))))) (by decide) (evs_cons (ev_str (md := .sh) (by decide +kernel)) (evs_cons (ev_str (md := .sh) (by decide +kernel)) (evs_cons (ev_str (md := .sh) (by decide +kernel)) (evs_cons (ev_str (md := .sh) (by decide +kernel)) (evs_cons (ev_str (md := .sh) (by decide +kernel)) (evs_cons (ev_str (md := .sh) (by decide +kernel)) (evs_cons (ev_str (md := .sh) (by decide +kernel)) (evs_cons (ev_str (md := .sh) (by decide +kernel)) (evs_cons (ev_str (md := .sh) (by decide +kernel)) (evs_cons (ev_str (md := .sh) (by decide +kernel)) (evs_cons (ev_str (md := .sh) (by decide +kernel)) (evs_cons (ev_str (md := .sh) (by decide +kernel)) (evs_cons (ev_str (md := .sh) (by decide +kernel)) (evs_cons (ev_str (md := .sh) (by decide +kernel)) (evs_cons (ev_str (md := .sh) (by decide +kernel)) (evs_cons (ev_str (md := .sh) (by decide +kernel)) (evs_cons (ev_str (md := .sh) (by decide +kernel)) (evs_cons (ev_str (md := .sh) (by decide +kernel)) (evs_cons (ev_str (md := .sh) (by decide +kernel)) (evs_cons (ev_str (md := .sh) (by decide +kernel)) (evs_cons (ev_str (md := .sh) (by decide +kernel)) (evs_cons (ev_str (md := .sh) (by decide +kernel)) (evs_cons (ev_str (md := .sh) (by decide +kernel)) (evs_cons (ev_str (md := .sh) (by decide +kernel)) (evs_cons (ev_str (md := .sh) (by decide +kernel)) (evs_cons (ev_str (md := .sh) (by decide +kernel)) (evs_cons (ev_str (md := .sh) (by decide +kernel)) (evs_cons (ev_str (md := .sh) (by decide +kernel)) (evs_cons (ev_str (md := .sh) (by decide +kernel)) (evs_cons (ev_str (md := .sh) (by decide +kernel)) (evs_cons (ev_str (md := .sh) (by decide +kernel)) (evs_cons (ev_str (md := .sh) (by decide +kernel)) (evs_cons (ev_str (md := .sh) (by decide +kernel)) (evs_cons (ev_str (md := .sh) (by decide +kernel)) (evs_cons (ev_str (md := .sh) (by decide +kernel)) (evs_cons (ev_str (md := .sh) (by decide +kernel)) (evs_cons (ev_str (md := .sh) (by decide +kernel)) (evs_cons (ev_str (md := .sh) (by decide +kernel)) (evs_cons (ev_str (md := .sh) (by decide +kernel)) (evs_cons (ev_str (md := .sh) (by decide +kernel)) (evs_cons (ev_str (md := .sh) (by decide +kernel)) (evs_cons (ev_str (md := .sh) (by decide +kernel)) (evs_cons (ev_str (md := .sh) (by decide +kernel)) (evs_cons (ev_str (md := .sh) (by decide +kernel)) (evs_cons (ev_str (md := .sh) (by decide +kernel)) (evs_cons (ev_str (md := .sh) (by decide +kernel)) (evs_cons (ev_str (md := .sh) (by decide +kernel)) evs_nil))))))))))))))))))))))))))))))))))))))))))))))))) fun some2 => (evb_ret (wkX hX rfl) .sh (by intro _; rfl) (ev_ixQ ok.toOk sq_l (ev_vsh ok.toOk (i := 1) (j := 1) rfl rfl rfl) (ev_mod (md' := .sh) ok.toOk (ev_vsh ok.toOk (i := 0) (j := 0) rfl rfl rfl) (ev_lenQ (md' := .sh) ok.toOk sq_l (j := 0) rfl X.g_len (ev_vsh ok.toOk (i := 1) (j := 1) rfl rfl rfl))))))
theorem b__law_odd {p : Pr} (X : Facts p) : Body p s__law_odd N__law_odd V__law_odd G__law_odd 0 (fun (d : (Int × Unit)) => [(sV false tInt d.1), sAny]) (fun r => .rt false tStr r) r__law_odd := fun g ok hX d => bb__law_odd X ok hX d.1
theorem fn__law_odd {p : Pr} (X : Facts p) : Fn p 1 "_law_odd" ["cell"] (spM p (aCons tInt aNil) (fun r => .rt false tStr r) c__law_odd) := by
  obtain ⟨f, fd, hF, hm⟩ := X.d__law_odd
  exact ⟨f, fd, eq__law_odd ▸ fn_rt (m := 1) hF sc__law_odd (.cons .nil) rfl rfl (b__law_odd X), hm, hF.kp, hF.bindsN fun _ _ _ _ _ _ us hl => match us, hl with | [_], _ => rfl⟩
abbrev s__law_text : Stmt := (topS 46)
abbrev N__law_text : List Str := ["cell", "way", "rest", "plain", "wide", "high", "at", "behind", "deep", "fits", "size", "name", "many"]
abbrev V__law_text : List Str := ["cell", "way", "rest", "plain", "wide", "high", "at", "behind", "deep", "fits", "size", "name", "many"]
abbrev G__law_text : List Str := ["_law_plain", "len", "_law_strange", "_law_deep", "int", "_law_odd"]
theorem sc__law_text : Sc s__law_text N__law_text V__law_text ["cell"] G__law_text := ⟨⟨rfl, rfl, rfl, by decide +kernel, rfl, by decide +kernel, by decide +kernel⟩, by decide +kernel, by decide +kernel, by decide +kernel⟩
def q__law_text (cell1 : Int) : M (Tx × Tx × Int × Int × Unit) := M.bind (M.bind (M.ok cell1) fun y3 => M.ok (y3 % (8 : Int))) fun way2 => M.bind (M.bind (M.ok cell1) fun y5 => M.ok (y5 / (8 : Int))) fun rest4 => M.bind (M.bind (M.bind (M.ok rest4) fun y6 => M.bind (M.ok ()) fun y7 => M.ok (y6, y7)) c__law_plain) fun t9 => M.bind (M.bind (M.ok way2) fun y10 => M.bind (M.ok (1 : Int)) fun y11 => M.ok (decide (y10 = y11))) fun c12 => if c12 = true then M.bind (M.bind (M.bind (M.ok rest4) fun y14 => M.ok (y14 / (75 : Int))) fun y18 => M.bind (M.bind (M.bind (M.ok t9.1) fun y15 => M.ok (y15.length : Int)) fun y16 => M.bind (M.ok (1 : Int)) fun y17 => M.ok (y16 + y17)) fun y19 => modM y18 y19) fun at13 => (M.bind (M.bind (M.bind (M.bind (M.ok t9.1) fun y21 => M.bind (M.ok (none : Option Int)) fun y22 => M.bind (M.bind (M.ok at13) fun y20 => M.ok (some y20)) fun y23 => M.ok (cutL y21 y22 y23)) fun y27 => M.bind (M.bind (M.bind (M.ok rest4) fun y24 => M.bind (M.ok ()) fun y25 => M.ok (y24, y25)) c__law_strange) fun y28 => catS y27 y28) fun y33 => M.bind (M.bind (M.ok t9.1) fun y30 => M.bind (M.bind (M.ok at13) fun y29 => M.ok (some y29)) fun y31 => M.bind (M.ok (none : Option Int)) fun y32 => M.ok (cutL y30 y31 y32)) fun y34 => catS y33 y34) fun y41 => M.bind (M.bind (M.ok (tx "NoPattern")) fun y39 => M.bind (M.bind (M.ok (0 : Int)) fun y37 => M.bind (M.bind (M.ok (0 : Int)) fun y35 => M.bind (M.ok ()) fun y36 => M.ok (y35, y36)) fun y38 => M.ok (y37, y38)) fun y40 => M.ok (y39, y40)) fun y42 => M.ok (y41, y42)) else M.bind (M.bind (M.ok way2) fun y48 => M.bind (M.ok (2 : Int)) fun y49 => M.ok (decide (y48 = y49))) fun c50 => if c50 = true then (M.bind (M.bind (M.ok t9.1) fun y53 => M.bind (M.ok (none : Option Int)) fun y54 => M.bind (M.bind (M.bind (M.ok (1 : Int)) fun y51 => M.ok (-y51)) fun y52 => M.ok (some y52)) fun y55 => M.ok (cutL y53 y54 y55)) fun y62 => M.bind (M.bind (M.ok (tx "NoPattern")) fun y60 => M.bind (M.bind (M.ok (0 : Int)) fun y58 => M.bind (M.bind (M.ok (0 : Int)) fun y56 => M.bind (M.ok ()) fun y57 => M.ok (y56, y57)) fun y59 => M.ok (y58, y59)) fun y61 => M.ok (y60, y61)) fun y63 => M.ok (y62, y63)) else M.bind (M.bind (M.ok way2) fun y69 => M.bind (M.ok (3 : Int)) fun y70 => M.ok (decide (y69 = y70))) fun c71 => if c71 = true then M.bind (M.bind ((M.bind (M.ok (tx ")")) fun y87 => M.bind (M.bind (M.ok (tx "(")) fun y85 => M.bind (M.bind (M.ok (tx ",")) fun y83 => M.bind (M.bind (M.ok (tx " a")) fun y81 => M.bind (M.bind (M.ok (tx "1")) fun y79 => M.bind (M.bind (M.ok (tx "#")) fun y77 => M.bind (M.bind (M.ok (tx " rows(#)")) fun y75 => M.bind (M.bind (M.ok (tx "()")) fun y73 => M.bind (M.ok []) fun y74 => M.ok (y73 :: y74)) fun y76 => M.ok (y75 :: y76)) fun y78 => M.ok (y77 :: y78)) fun y80 => M.ok (y79 :: y80)) fun y82 => M.ok (y81 :: y82)) fun y84 => M.ok (y83 :: y84)) fun y86 => M.ok (y85 :: y86)) fun y88 => M.ok (y87 :: y88))) fun y99 => M.bind (M.bind (M.bind (M.ok rest4) fun y97 => M.ok (y97 / (75 : Int))) fun y98 => M.ok (y98 % (8 : Int))) fun y100 => getM y99 y100) fun behind72 => (M.bind (M.bind (M.ok t9.1) fun y101 => M.bind (M.ok behind72) fun y102 => catS y101 y102) fun y109 => M.bind (M.bind (M.ok (tx "NoPattern")) fun y107 => M.bind (M.bind (M.ok (0 : Int)) fun y105 => M.bind (M.bind (M.ok (0 : Int)) fun y103 => M.bind (M.ok ()) fun y104 => M.ok (y103, y104)) fun y106 => M.ok (y105, y106)) fun y108 => M.ok (y107, y108)) fun y110 => M.ok (y109, y110)) else M.bind (M.bind (M.ok way2) fun y116 => M.bind (M.ok (4 : Int)) fun y117 => M.ok (decide (y116 = y117))) fun c118 => if c118 = true then M.bind (M.bind (M.bind (M.bind (M.ok (10 : Int)) fun y120 => M.bind (M.bind (M.ok rest4) fun y119 => M.ok (y119 % (4 : Int))) fun y121 => M.ok (y120 + y121)) fun y122 => M.bind (M.ok ()) fun y123 => M.ok (y122, y123)) c__law_deep) fun t125 => (M.bind (M.ok t125.1) fun y141 => M.bind (M.bind (M.bind (M.bind (M.ok (tx "NoPattern")) fun y128 => M.bind (M.bind (M.ok (tx "")) fun y126 => M.bind (M.ok []) fun y127 => M.ok (y126 :: y127)) fun y129 => M.ok (y128 :: y129)) fun y133 => M.bind (M.bind (M.ok t125.2.1) fun y132 => M.ok (bInt y132)) fun y134 => getM y133 y134) fun y139 => M.bind (M.bind (M.ok (2 : Int)) fun y137 => M.bind (M.bind (M.ok (3 : Int)) fun y135 => M.bind (M.ok ()) fun y136 => M.ok (y135, y136)) fun y138 => M.ok (y137, y138)) fun y140 => M.ok (y139, y140)) fun y142 => M.ok (y141, y142)) else M.bind (M.bind (M.ok way2) fun y148 => M.bind (M.ok (5 : Int)) fun y149 => M.ok (decide (y148 = y149))) fun c150 => if c150 = true then (M.bind (M.bind (M.bind (M.ok rest4) fun y151 => M.bind (M.ok ()) fun y152 => M.ok (y151, y152)) c__law_odd) fun y160 => M.bind (M.bind (M.ok (tx "NoPattern")) fun y158 => M.bind (M.bind (M.ok (0 : Int)) fun y156 => M.bind (M.bind (M.ok (0 : Int)) fun y154 => M.bind (M.ok ()) fun y155 => M.ok (y154, y155)) fun y157 => M.ok (y156, y157)) fun y159 => M.ok (y158, y159)) fun y161 => M.ok (y160, y161)) else M.bind (M.bind (M.ok way2) fun y167 => M.bind (M.ok (6 : Int)) fun y168 => M.ok (decide (y167 = y168))) fun c169 => if c169 = true then M.bind (M.bind (M.ok (19 : Int)) fun y172 => M.bind (M.bind (M.ok rest4) fun y171 => M.ok (y171 % (4 : Int))) fun y173 => M.ok (y172 + y173)) fun size170 => M.bind (M.bind (M.bind (M.ok (tx "known")) fun y175 => M.bind (M.ok (5 : Int)) fun y176 => repS y175 y176) fun y178 => M.bind (M.ok (none : Option Int)) fun y179 => M.bind (M.bind (M.ok size170) fun y177 => M.ok (some y177)) fun y180 => M.ok (cutL y178 y179 y180)) fun name174 => (M.bind (M.ok name174) fun y198 => M.bind (M.bind (M.bind (M.bind (M.ok (tx "NoPattern")) fun y183 => M.bind (M.bind (M.ok (tx "Unknown")) fun y181 => M.bind (M.ok []) fun y182 => M.ok (y181 :: y182)) fun y184 => M.ok (y183 :: y184)) fun y190 => M.bind (M.bind (M.bind (M.ok size170) fun y187 => M.bind (M.ok (21 : Int)) fun y188 => M.ok (decide (y187 < y188))) fun y189 => M.ok (bInt y189)) fun y191 => getM y190 y191) fun y196 => M.bind (M.bind (M.ok (0 : Int)) fun y194 => M.bind (M.bind (M.ok (0 : Int)) fun y192 => M.bind (M.ok ()) fun y193 => M.ok (y192, y193)) fun y195 => M.ok (y194, y195)) fun y197 => M.ok (y196, y197)) fun y199 => M.ok (y198, y199)) else M.bind (M.bind (M.ok way2) fun y205 => M.bind (M.ok (7 : Int)) fun y206 => M.ok (decide (y205 = y206))) fun c207 => if c207 = true then M.bind (M.bind (M.ok (39 : Int)) fun y210 => M.bind (M.bind (M.ok rest4) fun y209 => M.ok (y209 % (4 : Int))) fun y211 => M.ok (y210 + y211)) fun many208 => M.bind (M.bind (M.bind (M.bind (M.ok rest4) fun y212 => M.ok (y212 / (4 : Int))) fun y213 => M.ok (y213 % (2 : Int))) fun y214 => M.bind (M.ok (1 : Int)) fun y215 => M.ok (decide (y214 = y215))) fun c216 => if c216 = true then (M.bind (M.bind (M.bind (M.ok (tx "rows(")) fun y223 => M.bind (M.bind (M.bind (M.ok (tx "#..")) fun y217 => M.bind (M.ok (14 : Int)) fun y218 => repS y217 y218) fun y220 => M.bind (M.ok (none : Option Int)) fun y221 => M.bind (M.bind (M.ok many208) fun y219 => M.ok (some y219)) fun y222 => M.ok (cutL y220 y221 y222)) fun y224 => catS y223 y224) fun y225 => M.bind (M.ok (tx ")")) fun y226 => catS y225 y226) fun y244 => M.bind (M.bind (M.bind (M.bind (M.ok (tx "TooLarge")) fun y229 => M.bind (M.bind (M.ok (tx "")) fun y227 => M.bind (M.ok []) fun y228 => M.ok (y227 :: y228)) fun y230 => M.ok (y229 :: y230)) fun y236 => M.bind (M.bind (M.bind (M.ok many208) fun y233 => M.bind (M.ok (41 : Int)) fun y234 => M.ok (decide (y233 < y234))) fun y235 => M.ok (bInt y235)) fun y237 => getM y236 y237) fun y242 => M.bind (M.bind (M.ok many208) fun y240 => M.bind (M.bind (M.ok (1 : Int)) fun y238 => M.bind (M.ok ()) fun y239 => M.ok (y238, y239)) fun y241 => M.ok (y240, y241)) fun y243 => M.ok (y242, y243)) fun y245 => M.ok (y244, y245)) else (M.bind (M.bind (M.bind (M.ok (tx "rows(")) fun y258 => M.bind (M.bind (M.ok (tx ",")) fun y256 => M.bind (M.bind (M.bind (M.ok (tx "#.")) fun y251 => M.bind (M.ok []) fun y252 => M.ok (y251 :: y252)) fun y254 => M.bind (M.ok many208) fun y255 => repM y254 y255) fun y257 => joinM y256 y257) fun y259 => catS y258 y259) fun y260 => M.bind (M.ok (tx ")")) fun y261 => catS y260 y261) fun y279 => M.bind (M.bind (M.bind (M.bind (M.ok (tx "NoPattern")) fun y264 => M.bind (M.bind (M.ok (tx "")) fun y262 => M.bind (M.ok []) fun y263 => M.ok (y262 :: y263)) fun y265 => M.ok (y264 :: y265)) fun y271 => M.bind (M.bind (M.bind (M.ok many208) fun y268 => M.bind (M.ok (41 : Int)) fun y269 => M.ok (decide (y268 < y269))) fun y270 => M.ok (bInt y270)) fun y272 => getM y271 y272) fun y277 => M.bind (M.bind (M.ok (2 : Int)) fun y275 => M.bind (M.bind (M.ok many208) fun y273 => M.bind (M.ok ()) fun y274 => M.ok (y273, y274)) fun y276 => M.ok (y275, y276)) fun y278 => M.ok (y277, y278)) fun y280 => M.ok (y279, y280)) else (M.bind (M.ok t9.1) fun y293 => M.bind (M.bind (M.ok (tx "")) fun y291 => M.bind (M.bind (M.ok t9.2.1) fun y289 => M.bind (M.bind (M.ok t9.2.2.1) fun y287 => M.bind (M.ok ()) fun y288 => M.ok (y287, y288)) fun y290 => M.ok (y289, y290)) fun y292 => M.ok (y291, y292)) fun y294 => M.ok (y293, y294))
def f_law_text (cell1 : Int) : M (Tx × Tx × Int × Int × Unit) := let way2 : Int := (cell1 % (8 : Int)); let rest4 : Int := (cell1 / (8 : Int)); M.bind (f_law_plain rest4) fun t9 => if (decide (way2 = (1 : Int))) = true then M.bind (modM (rest4 / (75 : Int)) ((t9.1.length : Int) + (1 : Int))) fun at13 => M.bind (M.bind (M.bind (f_law_strange rest4) fun y28 => catS (cutL t9.1 none (some at13)) y28) fun y33 => catS y33 (cutL t9.1 (some at13) none)) fun y43 => M.ok (y43, (tx "NoPattern"), (0 : Int), (0 : Int), ()) else if (decide (way2 = (2 : Int))) = true then M.ok ((cutL t9.1 none (some (-(1 : Int)))), (tx "NoPattern"), (0 : Int), (0 : Int), ()) else if (decide (way2 = (3 : Int))) = true then M.bind (getM ([((tx ")")), (tx "("), (tx ","), (tx " a"), (tx "1"), (tx "#"), (tx " rows(#)"), (tx "()")]) ((rest4 / (75 : Int)) % (8 : Int))) fun behind72 => M.bind (catS t9.1 behind72) fun y111 => M.ok (y111, (tx "NoPattern"), (0 : Int), (0 : Int), ()) else if (decide (way2 = (4 : Int))) = true then M.bind (f_law_deep ((10 : Int) + (rest4 % (4 : Int)))) fun t125 => M.bind (getM ([(tx "NoPattern"), (tx "")]) (bInt t125.2.1)) fun y144 => M.ok (t125.1, y144, (2 : Int), (3 : Int), ()) else if (decide (way2 = (5 : Int))) = true then M.bind (f_law_odd rest4) fun y162 => M.ok (y162, (tx "NoPattern"), (0 : Int), (0 : Int), ()) else if (decide (way2 = (6 : Int))) = true then let size170 : Int := ((19 : Int) + (rest4 % (4 : Int))); M.bind (M.bind (repS (tx "known") (5 : Int)) fun y178 => M.ok (cutL y178 none (some size170))) fun name174 => M.bind (getM ([(tx "NoPattern"), (tx "Unknown")]) (bInt (decide (size170 < (21 : Int))))) fun y201 => M.ok (name174, y201, (0 : Int), (0 : Int), ()) else if (decide (way2 = (7 : Int))) = true then let many208 : Int := ((39 : Int) + (rest4 % (4 : Int))); if (decide (((rest4 / (4 : Int)) % (2 : Int)) = (1 : Int))) = true then M.bind (M.bind (M.bind (M.bind (repS (tx "#..") (14 : Int)) fun y220 => M.ok (cutL y220 none (some many208))) fun y224 => catS (tx "rows(") y224) fun y225 => catS y225 ((tx ")"))) fun y246 => M.bind (getM ([(tx "TooLarge"), (tx "")]) (bInt (decide (many208 < (41 : Int))))) fun y247 => M.ok (y246, y247, many208, (1 : Int), ()) else M.bind (M.bind (M.bind (M.bind (repM ([(tx "#.")]) many208) fun y257 => joinM (tx ",") y257) fun y259 => catS (tx "rows(") y259) fun y260 => catS y260 ((tx ")"))) fun y281 => M.bind (getM ([(tx "NoPattern"), (tx "")]) (bInt (decide (many208 < (41 : Int))))) fun y282 => M.ok (y281, y282, (2 : Int), many208, ()) else M.ok (t9.1, (tx ""), t9.2.1, t9.2.2.1, ())
def r__law_text (d : (Int × Unit)) : M (Tx × Tx × Int × Int × Unit) := q__law_text d.1
def c__law_text (d : (Int × Unit)) : M (Tx × Tx × Int × Int × Unit) := f_law_text d.1
theorem eq__law_text : r__law_text = c__law_text := by funext d; first | (simp only [r__law_text, c__law_text, q__law_text, f_law_text, M.bind_assoc, M.bok, c__law_deep, c__law_odd, c__law_plain, c__law_strange]; done) | (simp only [r__law_text, c__law_text, q__law_text, f_law_text, M.bind_assoc, M.bok, c__law_deep, c__law_odd, c__law_plain, c__law_strange]; rfl)
theorem bb__law_text {p : Pr} (X : Facts p) {g : G} (ok : OkS p (defScope s__law_text) N__law_text V__law_text G__law_text 1 g) (hX : g.LX = List.replicate N__law_text.length sAny) (cell1 : Int) : EvB g [(sV false tInt cell1), sAny, sAny, sAny, sAny, sAny, sAny, sAny, sAny, sAny, sAny, sAny, sAny] (defBody s__law_text) (fun r => .rt false (tTup (aCons tStr (aCons tStr (aCons tInt (aCons tInt aNil))))) r) (q__law_text cell1) := (evb_set ok (i := 1) (j := 1) rfl rfl (wkX hX rfl) .sh (ev_modC (md' := .sh) ok.toOk (by decide) (ev_vsh ok.toOk (i := 0) (j := 0) rfl rfl rfl) (ev_int (md := .sh))) fun way2 => (evb_set ok (i := 2) (j := 2) rfl rfl (wkX hX rfl) .sh (ev_divC (md' := .sh) ok.toOk (by decide) (by decide) (ev_vsh ok.toOk (i := 0) (j := 0) rfl rfl rfl) (ev_int (md := .sh))) fun rest4 => (evb_asg ok (wkX hX rfl) (ev_call (md' := .sh) ok.toOk (fn__law_plain X) (by decide) (j := 0) rfl .sh (eva_cons (md := .sh) (ev_vsh ok.toOk (i := 2) (j := 2) rfl rfl rfl) eva_nil)) (evg_tup ok.toOk (lenS (lenS (lenS len0))) (evgs_cons (evg_name ok (i := 3) (j := 3) rfl rfl) fun _ => (evgs_cons (evg_name ok (i := 4) (j := 4) rfl rfl) fun _ => (evgs_cons (evg_name ok (i := 5) (j := 5) rfl rfl) fun _ => evgs_nil)))) fun t9 => (evb_ifx (wkX hX rfl) (evt_c ok.toOk (c_eq s_int) (ev_vsh ok.toOk (i := 1) (j := 1) rfl rfl rfl) (ev_int (md := .sh))) (evb_set ok (i := 6) (j := 6) rfl rfl (wkX hX rfl) .sh (ev_mod (md' := .sh) ok.toOk (ev_divC (md' := .sh) ok.toOk (by decide) (by decide) (ev_vsh ok.toOk (i := 2) (j := 2) rfl rfl rfl) (ev_int (md := .sh))) (ev_add (md' := .sh) ok.toOk (ev_lenS (md' := .sh) ok.toOk (j := 1) rfl X.g_len (ev_vsh ok.toOk (i := 3) (j := 3) rfl rfl rfl)) (ev_int (md := .sh)))) fun at13 => (evb_ret (wkX hX rfl) .sh (by intro _; rfl) (ev_tup (fun d vs R h => by rw [(lenS (lenS (lenS (lenS len0)))) h]; decide) (eva_cons (ev_catS (md' := .sh) ok.toOk (ev_catS (md' := .sh) ok.toOk (ev_slS (md' := .sh) ok.toOk (ev_vsh ok.toOk (i := 3) (j := 3) rfl rfl rfl) evo_none (evo_some (ev_vsh ok.toOk (i := 6) (j := 6) rfl rfl rfl))) (ev_call (md' := .sh) ok.toOk (fn__law_strange X) (by decide) (j := 2) rfl .sh (eva_cons (md := .sh) (ev_vsh ok.toOk (i := 2) (j := 2) rfl rfl rfl) eva_nil))) (ev_slS (md' := .sh) ok.toOk (ev_vsh ok.toOk (i := 3) (j := 3) rfl rfl rfl) (evo_some (ev_vsh ok.toOk (i := 6) (j := 6) rfl rfl rfl)) evo_none)) (eva_cons (ev_str (md := .sh) (by decide +kernel)) (eva_cons (ev_int (md := .sh)) (eva_cons (ev_int (md := .sh)) eva_nil))))))) (evb_ifx (wkX hX rfl) (evt_c ok.toOk (c_eq s_int) (ev_vsh ok.toOk (i := 1) (j := 1) rfl rfl rfl) (ev_int (md := .sh))) (evb_ret (wkX hX rfl) .sh (by intro _; rfl) (ev_tup (fun d vs R h => by rw [(lenS (lenS (lenS (lenS len0)))) h]; decide) (eva_cons (ev_slS (md' := .sh) ok.toOk (ev_vsh ok.toOk (i := 3) (j := 3) rfl rfl rfl) evo_none (evo_some (ev_neg (md' := .sh) ok.toOk (ev_int (md := .sh))))) (eva_cons (ev_str (md := .sh) (by decide +kernel)) (eva_cons (ev_int (md := .sh)) (eva_cons (ev_int (md := .sh)) eva_nil)))))) (evb_ifx (wkX hX rfl) (evt_c ok.toOk (c_eq s_int) (ev_vsh ok.toOk (i := 1) (j := 1) rfl rfl rfl) (ev_int (md := .sh))) (evb_set ok (i := 7) (j := 7) rfl rfl (wkX hX rfl) .sh (ev_ixQ ok.toOk sq_l (ev_ofL (evl_lstN (n := 8) (lnS (lnS (lnS (lnS (lnS (lnS (lnS (lnS ln0)))))))) (by decide) (evs_cons (ev_str (md := .sh) (by decide +kernel)) (evs_cons (ev_str (md := .sh) (by decide +kernel)) (evs_cons (ev_str (md := .sh) (by decide +kernel)) (evs_cons (ev_str (md := .sh) (by decide +kernel)) (evs_cons (ev_str (md := .sh) (by decide +kernel)) (evs_cons (ev_str (md := .sh) (by decide +kernel)) (evs_cons (ev_str (md := .sh) (by decide +kernel)) (evs_cons (ev_str (md := .sh) (by decide +kernel)) evs_nil)))))))))) (ev_modC (md' := .sh) ok.toOk (by decide) (ev_divC (md' := .sh) ok.toOk (by decide) (by decide) (ev_vsh ok.toOk (i := 2) (j := 2) rfl rfl rfl) (ev_int (md := .sh))) (ev_int (md := .sh)))) fun behind72 => (evb_ret (wkX hX rfl) .sh (by intro _; rfl) (ev_tup (fun d vs R h => by rw [(lenS (lenS (lenS (lenS len0)))) h]; decide) (eva_cons (ev_catS (md' := .sh) ok.toOk (ev_vsh ok.toOk (i := 3) (j := 3) rfl rfl rfl) (ev_vsh ok.toOk (i := 7) (j := 7) rfl rfl rfl)) (eva_cons (ev_str (md := .sh) (by decide +kernel)) (eva_cons (ev_int (md := .sh)) (eva_cons (ev_int (md := .sh)) eva_nil))))))) (evb_ifx (wkX hX rfl) (evt_c ok.toOk (c_eq s_int) (ev_vsh ok.toOk (i := 1) (j := 1) rfl rfl rfl) (ev_int (md := .sh))) (evb_asg ok (wkX hX rfl) (ev_call (md' := .sh) ok.toOk (fn__law_deep X) (by decide) (j := 3) rfl .sh (eva_cons (md := .sh) (ev_add (md' := .sh) ok.toOk (ev_int (md := .sh)) (ev_modC (md' := .sh) ok.toOk (by decide) (ev_vsh ok.toOk (i := 2) (j := 2) rfl rfl rfl) (ev_int (md := .sh)))) eva_nil)) (evg_tup ok.toOk (lenS (lenS len0)) (evgs_cons (evg_name ok (i := 8) (j := 8) rfl rfl) fun _ => (evgs_cons (evg_name ok (i := 9) (j := 9) rfl rfl) fun _ => evgs_nil))) fun t125 => (evb_ret (wkX hX rfl) .sh (by intro _; rfl) (ev_tup (fun d vs R h => by rw [(lenS (lenS (lenS (lenS len0)))) h]; decide) (eva_cons (ev_vsh ok.toOk (i := 8) (j := 8) rfl rfl rfl) (eva_cons (ev_ixQ ok.toOk sq_l (ev_ofL (evl_lstN (n := 2) (lnS (lnS ln0)) (by decide) (evs_cons (ev_str (md := .sh) (by decide +kernel)) (evs_cons (ev_str (md := .sh) (by decide +kernel)) evs_nil)))) (ev_intB (md' := .sh) ok.toOk (j := 4) rfl X.g_int (ev_vsh ok.toOk (i := 9) (j := 9) rfl rfl rfl))) (eva_cons (ev_int (md := .sh)) (eva_cons (ev_int (md := .sh)) eva_nil))))))) (evb_ifx (wkX hX rfl) (evt_c ok.toOk (c_eq s_int) (ev_vsh ok.toOk (i := 1) (j := 1) rfl rfl rfl) (ev_int (md := .sh))) (evb_ret (wkX hX rfl) .sh (by intro _; rfl) (ev_tup (fun d vs R h => by rw [(lenS (lenS (lenS (lenS len0)))) h]; decide) (eva_cons (ev_call (md' := .sh) ok.toOk (fn__law_odd X) (by decide) (j := 5) rfl .sh (eva_cons (md := .sh) (ev_vsh ok.toOk (i := 2) (j := 2) rfl rfl rfl) eva_nil)) (eva_cons (ev_str (md := .sh) (by decide +kernel)) (eva_cons (ev_int (md := .sh)) (eva_cons (ev_int (md := .sh)) eva_nil)))))) (evb_ifx (wkX hX rfl) (evt_c ok.toOk (c_eq s_int) (ev_vsh ok.toOk (i := 1) (j := 1) rfl rfl rfl) (ev_int (md := .sh))) (evb_set ok (i := 10) (j := 10) rfl rfl (wkX hX rfl) .sh (ev_add (md' := .sh) ok.toOk (ev_int (md := .sh)) (ev_modC (md' := .sh) ok.toOk (by decide) (ev_vsh ok.toOk (i := 2) (j := 2) rfl rfl rfl) (ev_int (md := .sh)))) fun size170 => (evb_set ok (i := 11) (j := 11) rfl rfl (wkX hX rfl) .sh (ev_slS (md' := .sh) ok.toOk (ev_repS (md' := .sh) ok.toOk (ev_str (md := .sh) (by decide +kernel)) (ev_int (md := .sh))) evo_none (evo_some (ev_vsh ok.toOk (i := 10) (j := 10) rfl rfl rfl))) fun name174 => (evb_ret (wkX hX rfl) .sh (by intro _; rfl) (ev_tup (fun d vs R h => by rw [(lenS (lenS (lenS (lenS len0)))) h]; decide) (eva_cons (ev_vsh ok.toOk (i := 11) (j := 11) rfl rfl rfl) (eva_cons (ev_ixQ ok.toOk sq_l (ev_ofL (evl_lstN (n := 2) (lnS (lnS ln0)) (by decide) (evs_cons (ev_str (md := .sh) (by decide +kernel)) (evs_cons (ev_str (md := .sh) (by decide +kernel)) evs_nil)))) (ev_intB (md' := .sh) ok.toOk (j := 4) rfl X.g_int (ev_c (md' := .sh) ok.toOk c_lt (ev_vsh ok.toOk (i := 10) (j := 10) rfl rfl rfl) (ev_int (md := .sh))))) (eva_cons (ev_int (md := .sh)) (eva_cons (ev_int (md := .sh)) eva_nil)))))))) (evb_ifx (wkX hX rfl) (evt_c ok.toOk (c_eq s_int) (ev_vsh ok.toOk (i := 1) (j := 1) rfl rfl rfl) (ev_int (md := .sh))) (evb_set ok (i := 12) (j := 12) rfl rfl (wkX hX rfl) .sh (ev_add (md' := .sh) ok.toOk (ev_int (md := .sh)) (ev_modC (md' := .sh) ok.toOk (by decide) (ev_vsh ok.toOk (i := 2) (j := 2) rfl rfl rfl) (ev_int (md := .sh)))) fun many208 => (evb_ifx (wkX hX rfl) (evt_c ok.toOk (c_eq s_int) (ev_modC (md' := .sh) ok.toOk (by decide) (ev_divC (md' := .sh) ok.toOk (by decide) (by decide) (ev_vsh ok.toOk (i := 2) (j := 2) rfl rfl rfl) (ev_int (md := .sh))) (ev_int (md := .sh))) (ev_int (md := .sh))) (evb_ret (wkX hX rfl) .sh (by intro _; rfl) (ev_tup (fun d vs R h => by rw [(lenS (lenS (lenS (lenS len0)))) h]; decide) (eva_cons (ev_catS (md' := .sh) ok.toOk (ev_catS (md' := .sh) ok.toOk (ev_str (md := .sh) (by decide +kernel)) (ev_slS (md' := .sh) ok.toOk (ev_repS (md' := .sh) ok.toOk (ev_str (md := .sh) (by decide +kernel)) (ev_int (md := .sh))) evo_none (evo_some (ev_vsh ok.toOk (i := 12) (j := 12) rfl rfl rfl)))) (ev_str (md := .sh) (by decide +kernel))) (eva_cons (ev_ixQ ok.toOk sq_l (ev_ofL (evl_lstN (n := 2) (lnS (lnS ln0)) (by decide) (evs_cons (ev_str (md := .sh) (by decide +kernel)) (evs_cons (ev_str (md := .sh) (by decide +kernel)) evs_nil)))) (ev_intB (md' := .sh) ok.toOk (j := 4) rfl X.g_int (ev_c (md' := .sh) ok.toOk c_lt (ev_vsh ok.toOk (i := 12) (j := 12) rfl rfl rfl) (ev_int (md := .sh))))) (eva_cons (ev_vsh ok.toOk (i := 12) (j := 12) rfl rfl rfl) (eva_cons (ev_int (md := .sh)) eva_nil)))))) (evb_ret (wkX hX rfl) .sh (by intro _; rfl) (ev_tup (fun d vs R h => by rw [(lenS (lenS (lenS (lenS len0)))) h]; decide) (eva_cons (ev_catS (md' := .sh) ok.toOk (ev_catS (md' := .sh) ok.toOk (ev_str (md := .sh) (by decide +kernel)) (ev_join (md' := .sh) ok.toOk (ev_str (md := .sh) (by decide +kernel)) (ev_ofL (evl_rep (md := .sh) ok.toOk (evl_lstN (n := 1) (lnS ln0) (by decide) (evs_cons (ev_str (md := .sh) (by decide +kernel)) evs_nil)) (ev_vsh ok.toOk (i := 12) (j := 12) rfl rfl rfl))))) (ev_str (md := .sh) (by decide +kernel))) (eva_cons (ev_ixQ ok.toOk sq_l (ev_ofL (evl_lstN (n := 2) (lnS (lnS ln0)) (by decide) (evs_cons (ev_str (md := .sh) (by decide +kernel)) (evs_cons (ev_str (md := .sh) (by decide +kernel)) evs_nil)))) (ev_intB (md' := .sh) ok.toOk (j := 4) rfl X.g_int (ev_c (md' := .sh) ok.toOk c_lt (ev_vsh ok.toOk (i := 12) (j := 12) rfl rfl rfl) (ev_int (md := .sh))))) (eva_cons (ev_int (md := .sh)) (eva_cons (ev_vsh ok.toOk (i := 12) (j := 12) rfl rfl rfl) eva_nil)))))))) (evb_ret (wkX hX rfl) .sh (by intro _; rfl) (ev_tup (fun d vs R h => by rw [(lenS (lenS (lenS (lenS len0)))) h]; decide) (eva_cons (ev_vsh ok.toOk (i := 3) (j := 3) rfl rfl rfl) (eva_cons (ev_str (md := .sh) (by decide +kernel)) (eva_cons (ev_vsh ok.toOk (i := 4) (j := 4) rfl rfl rfl) (eva_cons (ev_vsh ok.toOk (i := 5) (j := 5) rfl rfl rfl) eva_nil))))))))))))))))
theorem b__law_text {p : Pr} (X : Facts p) : Body p s__law_text N__law_text V__law_text G__law_text 1 (fun (d : (Int × Unit)) => [(sV false tInt d.1), sAny, sAny, sAny, sAny, sAny, sAny, sAny, sAny, sAny, sAny, sAny, sAny]) (fun r => .rt false (tTup (aCons tStr (aCons tStr (aCons tInt (aCons tInt aNil))))) r) r__law_text := fun g ok hX d => bb__law_text X ok hX d.1
theorem fn__law_text {p : Pr} (X : Facts p) : Fn p 2 "_law_text" ["cell"] (spM p (aCons tInt aNil) (fun r => .rt false (tTup (aCons tStr (aCons tStr (aCons tInt (aCons tInt aNil))))) r) c__law_text) := by
  obtain ⟨f, fd, hF, hm⟩ := X.d__law_text
  exact ⟨f, fd, eq__law_text ▸ fn_rt (m := 12) hF sc__law_text (.cons .nil) rfl rfl (b__law_text X), hm, hF.kp, hF.bindsN fun _ _ _ _ _ _ us hl => match us, hl with | [_], _ => rfl⟩
abbrev s_sign_sort : Stmt := (topS 26)
abbrev N_sign_sort : List Str := ["sign"]
abbrev V_sign_sort : List Str := ["sign"]
abbrev G_sign_sort : List Str := ["LETTERS", "FIGURES"]
theorem sc_sign_sort : Sc s_sign_sort N_sign_sort V_sign_sort ["sign"] G_sign_sort := ⟨⟨rfl, rfl, rfl, by decide +kernel, rfl, by decide +kernel, by decide +kernel⟩, by decide +kernel, by decide +kernel, by decide +kernel⟩
def q_sign_sort (sign1 : Tx) : M Tx := M.bind (M.bind (M.ok sign1) fun y2 => M.bind (M.ok (tx "abcdefghijklmnopqrstuvwxyz")) fun y3 => inSM y2 y3) fun c4 => if c4 = true then M.ok (tx "word") else M.bind (M.bind (M.ok sign1) fun y6 => M.bind (M.ok (tx "0123456789")) fun y7 => inSM y6 y7) fun c8 => if c8 = true then M.ok (tx "number") else M.bind (M.bind (M.ok sign1) fun y10 => M.bind (M.ok (tx "#.")) fun y11 => inSM y10 y11) fun c12 => if c12 = true then M.ok (tx "run") else M.ok (tx "")
def f_sign_sort (sign1 : Tx) : M Tx := M.bind (inSM sign1 (tx "abcdefghijklmnopqrstuvwxyz")) fun c17 => if c17 = true then M.ok (tx "word") else M.bind (inSM sign1 (tx "0123456789")) fun c16 => if c16 = true then M.ok (tx "number") else M.bind (inSM sign1 (tx "#.")) fun c15 => if c15 = true then M.ok (tx "run") else M.ok (tx "")
def r_sign_sort (d : (Tx × Unit)) : M Tx := q_sign_sort d.1
def c_sign_sort (d : (Tx × Unit)) : M Tx := f_sign_sort d.1
theorem eq_sign_sort : r_sign_sort = c_sign_sort := by funext d; first | (simp only [r_sign_sort, c_sign_sort, q_sign_sort, f_sign_sort, M.bind_assoc, M.bok]; done) | (simp only [r_sign_sort, c_sign_sort, q_sign_sort, f_sign_sort, M.bind_assoc, M.bok]; rfl)
theorem bb_sign_sort {p : Pr} (X : Facts p) {g : G} (ok : OkS p (defScope s_sign_sort) N_sign_sort V_sign_sort G_sign_sort 0 g) (hX : g.LX = List.replicate N_sign_sort.length sAny) (sign1 : Tx) : EvB g [(sV false tStr sign1)] (defBody s_sign_sort) (fun r => .rt false tStr r) (q_sign_sort sign1) := (evb_ifx (wkX hX rfl) (evt_inS ok.toOk (ev_vsh ok.toOk (i := 0) (j := 0) rfl rfl rfl) (ev_gstr (md := .sh) ok.toOk (j := 0) rfl X.c_LETTERS (by decide +kernel))) (evb_ret (wkX hX rfl) .sh (by intro _; rfl) (ev_str (md := .sh) (by decide +kernel))) (evb_ifx (wkX hX rfl) (evt_inS ok.toOk (ev_vsh ok.toOk (i := 0) (j := 0) rfl rfl rfl) (ev_gstr (md := .sh) ok.toOk (j := 1) rfl X.c_FIGURES (by decide +kernel))) (evb_ret (wkX hX rfl) .sh (by intro _; rfl) (ev_str (md := .sh) (by decide +kernel))) (evb_ifx (wkX hX rfl) (evt_inS ok.toOk (ev_vsh ok.toOk (i := 0) (j := 0) rfl rfl rfl) (ev_str (md := .sh) (by decide +kernel))) (evb_ret (wkX hX rfl) .sh (by intro _; rfl) (ev_str (md := .sh) (by decide +kernel))) (evb_ret (wkX hX rfl) .sh (by intro _; rfl) (ev_str (md := .sh) (by decide +kernel))))))
theorem b_sign_sort {p : Pr} (X : Facts p) : Body p s_sign_sort N_sign_sort V_sign_sort G_sign_sort 0 (fun (d : (Tx × Unit)) => [(sV false tStr d.1)]) (fun r => .rt false tStr r) r_sign_sort := fun g ok hX d => bb_sign_sort X ok hX d.1
theorem fn_sign_sort {p : Pr} (X : Facts p) : Fn p 1 "sign_sort" ["sign"] (spM p (aCons tStr aNil) (fun r => .rt false tStr r) c_sign_sort) := by
  obtain ⟨f, fd, hF, hm⟩ := X.d_sign_sort
  exact ⟨f, fd, eq_sign_sort ▸ fn_rt (m := 0) hF sc_sign_sort (.cons .nil) rfl rfl (b_sign_sort X), hm, hF.kp, hF.bindsN fun _ _ _ _ _ _ us hl => match us, hl with | [_], _ => rfl⟩
abbrev s_marks_of : Stmt := (topS 28)
abbrev N_marks_of : List Str := ["text", "marks", "at", "behind", "sort"]
abbrev V_marks_of : List Str := ["text", "marks", "at", "behind", "sort"]
abbrev G_marks_of : List Str := ["len", "sign_sort", "NoPattern"]
theorem sc_marks_of : Sc s_marks_of N_marks_of V_marks_of ["text"] G_marks_of := ⟨⟨rfl, rfl, rfl, by decide +kernel, rfl, by decide +kernel, by decide +kernel⟩, by decide +kernel, by decide +kernel, by decide +kernel⟩
def r_f_marks_of_t1 (text1 : Tx) (sort11 : Tx) : (Int) → M Bool := fun s20 => M.bind (M.bind (M.ok s20) fun y22 => M.bind (M.bind (M.ok text1) fun y21 => M.ok (y21.length : Int)) fun y23 => M.ok (decide (y22 < y23))) fun c31 => if c31 = true then M.bind (M.bind (M.bind (M.bind (M.ok text1) fun y24 => M.bind (M.ok s20) fun y25 => getS y24 y25) fun y26 => M.bind (M.ok ()) fun y27 => M.ok (y26, y27)) c_sign_sort) fun y29 => M.bind (M.ok sort11) fun y30 => M.ok (decide (y29 = y30)) else M.ok false
def f_marks_of_t1 (text1 : Tx) (sort11 : Tx) : (Int) → M Bool := fun s20 => if (decide (s20 < (text1.length : Int))) = true then M.bind (M.bind (getS text1 s20) fun y28 => f_sign_sort y28) fun y29 => M.ok (decide (y29 = sort11)) else M.ok false
theorem eq_f_marks_of_t1 (text1 : Tx) (sort11 : Tx) : r_f_marks_of_t1 text1 sort11 = f_marks_of_t1 text1 sort11 := by funext s20; first | (simp only [r_f_marks_of_t1, f_marks_of_t1, M.bind_assoc, M.bok, c_sign_sort]; done) | (simp only [r_f_marks_of_t1, f_marks_of_t1, M.bind_assoc, M.bok, c_sign_sort]; rfl)
def r_f_marks_of_w2  : (Int) → M (Int) := fun s20 => M.bind (M.bind (M.ok s20) fun y34 => M.bind (M.ok (1 : Int)) fun y35 => M.ok (y34 + y35)) fun behind33 => M.ok behind33
def f_marks_of_w2  : (Int) → M (Int) := fun s20 => let behind33 : Int := (s20 + (1 : Int)); M.ok behind33
theorem eq_f_marks_of_w2  : r_f_marks_of_w2  = f_marks_of_w2  := by funext s20; first | (simp only [r_f_marks_of_w2, f_marks_of_w2, M.bind_assoc, M.bok, eq_f_marks_of_t1, c_sign_sort]; done) | (simp only [r_f_marks_of_w2, f_marks_of_w2, M.bind_assoc, M.bok, eq_f_marks_of_t1, c_sign_sort]; rfl)
def r_f_marks_of_t3 (text1 : Tx) : ((List Tx) × Int) → M Bool := fun s4 => M.bind (M.ok s4.2) fun y6 => M.bind (M.bind (M.ok text1) fun y5 => M.ok (y5.length : Int)) fun y7 => M.ok (decide (y6 < y7))
def f_marks_of_t3 (text1 : Tx) : ((List Tx) × Int) → M Bool := fun s4 => M.ok (decide (s4.2 < (text1.length : Int)))
theorem eq_f_marks_of_t3 (text1 : Tx) : r_f_marks_of_t3 text1 = f_marks_of_t3 text1 := by funext s4; first | (simp only [r_f_marks_of_t3, f_marks_of_t3, M.bind_assoc, M.bok, eq_f_marks_of_t1, eq_f_marks_of_w2, c_sign_sort]; done) | (simp only [r_f_marks_of_t3, f_marks_of_t3, M.bind_assoc, M.bok, eq_f_marks_of_t1, eq_f_marks_of_w2, c_sign_sort]; rfl)
def r_f_marks_of_w4 (text1 : Tx) : ((List Tx) × Int) → M ((List Tx) × Int) := fun s4 => M.bind (M.bind (M.ok s4.2) fun y9 => M.bind (M.ok (1 : Int)) fun y10 => M.ok (y9 + y10)) fun behind8 => M.bind (M.bind (M.bind (M.bind (M.ok text1) fun y12 => M.bind (M.ok s4.2) fun y13 => getS y12 y13) fun y14 => M.bind (M.ok ()) fun y15 => M.ok (y14, y15)) c_sign_sort) fun sort11 => M.bind (M.bind (M.ok sort11) fun y17 => M.bind (M.ok (tx "")) fun y18 => M.ok (!decide (y17 = y18))) fun c19 => M.bind (if c19 = true then M.bind (whileM (r_f_marks_of_t1 text1 sort11) r_f_marks_of_w2 fuel behind8) fun (s36 : (Int)) => M.ok s36 else M.bind (M.bind (M.bind (M.ok text1) fun y37 => M.bind (M.ok s4.2) fun y38 => getS y37 y38) fun y39 => M.bind (M.ok (tx "(), ")) fun y40 => notinSM y39 y40) fun c41 => if c41 = true then M.ex .noPattern else M.ok behind8) fun (s43 : (Int)) => M.bind (M.bind (M.bind (M.ok text1) fun y44 => M.bind (M.ok s4.2) fun y45 => getS y44 y45) fun y46 => M.bind (M.ok (tx " ")) fun y47 => M.ok (!decide (y46 = y47))) fun c48 => M.bind (if c48 = true then M.bind (M.bind (M.ok text1) fun y52 => M.bind (M.bind (M.ok s4.2) fun y50 => M.ok (some y50)) fun y53 => M.bind (M.bind (M.ok s43) fun y51 => M.ok (some y51)) fun y54 => M.ok (cutL y52 y53 y54)) fun y55 => M.bind (pushM s4.1 y55) fun marks49 => M.ok marks49 else M.ok s4.1) fun (s56 : ((List Tx))) => M.bind (M.ok s43) fun at57 => M.ok (s56, at57)
def f_marks_of_w4 (text1 : Tx) : ((List Tx) × Int) → M ((List Tx) × Int) := fun s4 => let behind8 : Int := (s4.2 + (1 : Int)); M.bind (M.bind (getS text1 s4.2) fun y16 => f_sign_sort y16) fun sort11 => M.bind (if (!decide (sort11 = (tx ""))) = true then M.bind (whileM (f_marks_of_t1 text1 sort11) f_marks_of_w2 fuel behind8) fun (s36 : (Int)) => M.ok s36 else M.bind (M.bind (getS text1 s4.2) fun y39 => notinSM y39 (tx "(), ")) fun c42 => if c42 = true then M.ex .noPattern else M.ok behind8) fun (s43 : (Int)) => M.bind (M.bind (getS text1 s4.2) fun y46 => M.ok (!decide (y46 = (tx " ")))) fun c48 => M.bind (if c48 = true then M.bind (pushM s4.1 (cutL text1 (some s4.2) (some s43))) fun marks49 => M.ok marks49 else M.ok s4.1) fun (s56 : ((List Tx))) => let at57 : Int := s43; M.ok (s56, at57)
theorem eq_f_marks_of_w4 (text1 : Tx) : r_f_marks_of_w4 text1 = f_marks_of_w4 text1 := by funext s4; first | (simp only [r_f_marks_of_w4, f_marks_of_w4, M.bind_assoc, M.bok, eq_f_marks_of_t1, eq_f_marks_of_w2, eq_f_marks_of_t3, c_sign_sort]; done) | (simp only [r_f_marks_of_w4, f_marks_of_w4, M.bind_assoc, M.bok, eq_f_marks_of_t1, eq_f_marks_of_w2, eq_f_marks_of_t3, c_sign_sort]; rfl)
def q_marks_of (text1 : Tx) : M (List Tx) := M.bind (M.ok []) fun marks2 => M.bind (M.ok (0 : Int)) fun at3 => M.bind (whileM (r_f_marks_of_t3 text1) (r_f_marks_of_w4 text1) fuel (marks2, at3)) fun (s58 : ((List Tx) × Int)) => M.ok s58.1
def f_marks_of (text1 : Tx) : M (List Tx) := let marks2 : (List Tx) := []; let at3 : Int := (0 : Int); M.bind (whileM (f_marks_of_t3 text1) (f_marks_of_w4 text1) fuel (marks2, at3)) fun (s58 : ((List Tx) × Int)) => M.ok s58.1
def r_marks_of (d : (Tx × Unit)) : M (List Tx) := q_marks_of d.1
def c_marks_of (d : (Tx × Unit)) : M (List Tx) := f_marks_of d.1
theorem eq_marks_of : r_marks_of = c_marks_of := by funext d; first | (simp only [r_marks_of, c_marks_of, q_marks_of, f_marks_of, M.bind_assoc, M.bok, eq_f_marks_of_t1, eq_f_marks_of_w2, eq_f_marks_of_t3, eq_f_marks_of_w4, c_sign_sort]; done) | (simp only [r_marks_of, c_marks_of, q_marks_of, f_marks_of, M.bind_assoc, M.bok, eq_f_marks_of_t1, eq_f_marks_of_w2, eq_f_marks_of_t3, eq_f_marks_of_w4, c_sign_sort]; rfl)
theorem bb_marks_of {p : Pr} (X : Facts p) {g : G} (ok : OkS p (defScope s_marks_of) N_marks_of V_marks_of G_marks_of 1 g) (hX : g.LX = List.replicate N_marks_of.length sAny) (text1 : Tx) : EvB g [(sV false tStr text1), sAny, sAny, sAny, sAny] (defBody s_marks_of) (fun r => .rtL false tStr r) (q_marks_of text1) := (evb_own ok (i := 1) (j := 1) rfl rfl (wkX hX rfl) .sh (evl_nil (md := .sh) (S := tStr)) fun marks2 => (evb_set ok (i := 2) (j := 2) rfl rfl (wkX hX rfl) .sh (ev_int (md := .sh)) fun at3 => (evb_while (LF := (fun (s4 : ((List Tx) × Int)) => [(sV false tStr text1), (sOwn false tStr s4.1), (sV false tInt s4.2), sAny, sAny])) (s0 := (marks2, at3)) ok (fun _ => wkX hX rfl) (Wk.s (Wk.s (Wk.s (Wk.s (Wk.s Wk.n))))) (fun s4 => (evt_c ok.toOk c_lt (ev_vsh ok.toOk (i := 2) (j := 2) rfl rfl rfl) (ev_lenS (md' := .sh) ok.toOk (j := 0) rfl X.g_len (ev_vsh ok.toOk (i := 0) (j := 0) rfl rfl rfl)))) (fun s4 => (evb_set ok (i := 3) (j := 3) rfl rfl (wkX hX rfl) .sh (ev_add (md' := .sh) ok.toOk (ev_vsh ok.toOk (i := 2) (j := 2) rfl rfl rfl) (ev_int (md := .sh))) fun behind8 => (evb_set ok (i := 4) (j := 4) rfl rfl (wkX hX rfl) .sh (ev_call (md' := .sh) ok.toOk (fn_sign_sort X) (by decide) (j := 1) rfl .sh (eva_cons (md := .sh) (ev_ixS (md' := .sh) ok.toOk (ev_vsh ok.toOk (i := 0) (j := 0) rfl rfl rfl) (ev_vsh ok.toOk (i := 2) (j := 2) rfl rfl rfl)) eva_nil)) fun sort11 => (evb_if (LJ := (fun (s43 : (Int)) => [(sV false tStr text1), (sOwn false tStr s4.1), (sV false tInt s4.2), (sV false tInt s43), (sV false tStr sort11)])) (wkX hX rfl) (evt_c ok.toOk (c_ne s_str) (ev_vsh ok.toOk (i := 4) (j := 4) rfl rfl rfl) (ev_str (md := .sh) (by decide +kernel))) (evb_while (LF := (fun (s20 : (Int)) => [(sV false tStr text1), (sOwn false tStr s4.1), (sV false tInt s4.2), (sV false tInt s20), (sV false tStr sort11)])) (s0 := behind8) ok (fun _ => wkX hX rfl) (Wk.s (Wk.s (Wk.s (Wk.s (Wk.s Wk.n))))) (fun s20 => (EvW.t (evw_and (evt_c ok.toOk c_lt (ev_vsh ok.toOk (i := 3) (j := 3) rfl rfl rfl) (ev_lenS (md' := .sh) ok.toOk (j := 0) rfl X.g_len (ev_vsh ok.toOk (i := 0) (j := 0) rfl rfl rfl))) (evw_and1 (evt_c ok.toOk (c_eq s_str) (ev_call (md' := .sh) ok.toOk (fn_sign_sort X) (by decide) (j := 1) rfl .sh (eva_cons (md := .sh) (ev_ixS (md' := .sh) ok.toOk (ev_vsh ok.toOk (i := 0) (j := 0) rfl rfl rfl) (ev_vsh ok.toOk (i := 3) (j := 3) rfl rfl rfl)) eva_nil)) (ev_vsh ok.toOk (i := 4) (j := 4) rfl rfl rfl)))))) (fun s20 => (evb_set ok (i := 3) (j := 3) rfl rfl (wkX hX rfl) .sh (ev_add (md' := .sh) ok.toOk (ev_vsh ok.toOk (i := 3) (j := 3) rfl rfl rfl) (ev_int (md := .sh))) fun behind33 => (evb_go (by rfl) (Wk.s (Wk.s (Wk.s (Wk.s (Wk.s Wk.n)))))))) fun s36 => (evb_nx (by rfl) (Wk.s (Wk.s (Wk.s (Wk.s (Wk.s Wk.n))))))) (evb_ifr ok (wkX hX rfl) X.x_NoPattern (jj := 0) (j := 2) rfl (evt_notinS ok.toOk (ev_ixS (md' := .sh) ok.toOk (ev_vsh ok.toOk (i := 0) (j := 0) rfl rfl rfl) (ev_vsh ok.toOk (i := 2) (j := 2) rfl rfl rfl)) (ev_str (md := .sh) (by decide +kernel))) (evb_nx (by rfl) (Wk.s (Wk.s (Wk.s (Wk.s (Wk.s Wk.n))))))) fun s43 => (evb_if (LJ := (fun (s56 : ((List Tx))) => [(sV false tStr text1), (sOwn false tStr s56), (sV false tInt s4.2), (sV false tInt s43), (sV false tStr sort11)])) (wkX hX rfl) (evt_c ok.toOk (c_ne s_str) (ev_ixS (md' := .sh) ok.toOk (ev_vsh ok.toOk (i := 0) (j := 0) rfl rfl rfl) (ev_vsh ok.toOk (i := 2) (j := 2) rfl rfl rfl)) (ev_str (md := .sh) (by decide +kernel))) (evb_append ok (wkX hX rfl) (i := 1) (j := 1) rfl rfl rfl .sh (ev_slS (md' := .sh) ok.toOk (ev_vsh ok.toOk (i := 0) (j := 0) rfl rfl rfl) (evo_some (ev_vsh ok.toOk (i := 2) (j := 2) rfl rfl rfl)) (evo_some (ev_vsh ok.toOk (i := 3) (j := 3) rfl rfl rfl))) fun marks49 => (evb_nx (by rfl) (Wk.s (Wk.s (Wk.s (Wk.s (Wk.s Wk.n))))))) (evb_nx (by rfl) (Wk.s (Wk.s (Wk.s (Wk.s (Wk.s Wk.n)))))) fun s56 => (evb_set ok (i := 2) (j := 2) rfl rfl (wkX hX rfl) .sh (ev_vsh ok.toOk (i := 3) (j := 3) rfl rfl rfl) fun at57 => (evb_go (by rfl) (Wk.s (Wk.s (Wk.s (Wk.a (Wk.a Wk.n)))))))))))) fun s58 => (evb_retOwn ok.toOk (i := 1) (j := 1) rfl rfl rfl (.inl rfl) (by rfl)))))
theorem b_marks_of {p : Pr} (X : Facts p) : Body p s_marks_of N_marks_of V_marks_of G_marks_of 1 (fun (d : (Tx × Unit)) => [(sV false tStr d.1), sAny, sAny, sAny, sAny]) (fun r => .rtL false tStr r) r_marks_of := fun g ok hX d => bb_marks_of X ok hX d.1
theorem fn_marks_of {p : Pr} (X : Facts p) : Fn p 2 "marks_of" ["text"] (spM p (aCons tStr aNil) (fun r => .rtL false tStr r) c_marks_of) := by
  obtain ⟨f, fd, hF, hm⟩ := X.d_marks_of
  exact ⟨f, fd, eq_marks_of ▸ fn_rtL (m := 4) hF sc_marks_of (.cons .nil) rfl rfl (b_marks_of X), hm, hF.kp, hF.bindsN fun _ _ _ _ _ _ us hl => match us, hl with | [_], _ => rfl⟩
abbrev s_mark_at : Stmt := (topS 29)
abbrev N_mark_at : List Str := ["marks", "at"]
abbrev V_mark_at : List Str := ["marks", "at"]
abbrev G_mark_at : List Str := ["len"]
theorem sc_mark_at : Sc s_mark_at N_mark_at V_mark_at ["marks", "at"] G_mark_at := ⟨⟨rfl, rfl, rfl, by decide +kernel, rfl, by decide +kernel, by decide +kernel⟩, by decide +kernel, by decide +kernel, by decide +kernel⟩
def q_mark_at (marks1 : (List Tx)) (at2 : Int) : M Tx := M.bind (M.bind (M.ok at2) fun y4 => M.bind (M.bind (M.ok marks1) fun y3 => M.ok (y3.length : Int)) fun y5 => M.ok (decide (y4 < y5))) fun c6 => if c6 = true then M.bind (M.ok marks1) fun y7 => M.bind (M.ok at2) fun y8 => getM y7 y8 else M.ok (tx "")
def f_mark_at (marks1 : (List Tx)) (at2 : Int) : M Tx := if (decide (at2 < (marks1.length : Int))) = true then getM marks1 at2 else M.ok (tx "")
def r_mark_at (d : ((List Tx) × Int × Unit)) : M Tx := q_mark_at d.1 d.2.1
def c_mark_at (d : ((List Tx) × Int × Unit)) : M Tx := f_mark_at d.1 d.2.1
theorem eq_mark_at : r_mark_at = c_mark_at := by funext d; first | (simp only [r_mark_at, c_mark_at, q_mark_at, f_mark_at, M.bind_assoc, M.bok]; done) | (simp only [r_mark_at, c_mark_at, q_mark_at, f_mark_at, M.bind_assoc, M.bok]; rfl)
theorem bb_mark_at {p : Pr} (X : Facts p) {g : G} (ok : OkS p (defScope s_mark_at) N_mark_at V_mark_at G_mark_at 0 g) (hX : g.LX = List.replicate N_mark_at.length sAny) (marks1 : (List Tx)) (at2 : Int) : EvB g [(sV false (tList tStr) marks1), (sV false tInt at2)] (defBody s_mark_at) (fun r => .rt false tStr r) (q_mark_at marks1 at2) := (evb_ifx (wkX hX rfl) (evt_c ok.toOk c_lt (ev_vsh ok.toOk (i := 1) (j := 1) rfl rfl rfl) (ev_lenQ (md' := .sh) ok.toOk sq_l (j := 0) rfl X.g_len (ev_vsh ok.toOk (i := 0) (j := 0) rfl rfl rfl))) (evb_ret (wkX hX rfl) .sh (by intro _; rfl) (ev_ixQ ok.toOk sq_l (ev_vsh ok.toOk (i := 0) (j := 0) rfl rfl rfl) (ev_vsh ok.toOk (i := 1) (j := 1) rfl rfl rfl))) (evb_ret (wkX hX rfl) .sh (by intro _; rfl) (ev_str (md := .sh) (by decide +kernel))))
theorem b_mark_at {p : Pr} (X : Facts p) : Body p s_mark_at N_mark_at V_mark_at G_mark_at 0 (fun (d : ((List Tx) × Int × Unit)) => [(sV false (tList tStr) d.1), (sV false tInt d.2.1)]) (fun r => .rt false tStr r) r_mark_at := fun g ok hX d => bb_mark_at X ok hX d.1 d.2.1
theorem fn_mark_at {p : Pr} (X : Facts p) : Fn p 1 "mark_at" ["marks", "at"] (spM p (aCons (tList tStr) (aCons tInt aNil)) (fun r => .rt false tStr r) c_mark_at) := by
  obtain ⟨f, fd, hF, hm⟩ := X.d_mark_at
  exact ⟨f, fd, eq_mark_at ▸ fn_rt (m := 0) hF sc_mark_at (.cons (.cons .nil)) rfl rfl (b_mark_at X), hm, hF.kp, hF.bindsN fun _ _ _ _ _ _ us hl => match us, hl with | [_, _], _ => rfl⟩
abbrev s_is_name : Stmt := (topS 27)
abbrev N_is_name : List Str := ["word", "sign"]
abbrev V_is_name : List Str := ["word"]
abbrev G_is_name : List Str := ["len", "SHAPES", "all"]
theorem sc_is_name : Sc s_is_name N_is_name V_is_name ["word"] G_is_name := ⟨⟨rfl, rfl, rfl, by decide +kernel, rfl, by decide +kernel, by decide +kernel⟩, by decide +kernel, by decide +kernel, by decide +kernel⟩
def q_is_name (word1 : Tx) : M Bool := M.bind (M.ok ((decide (word1 = (tx ""))) || ((decide ((20 : Int) < (word1.length : Int))) || (kget kd_SHAPES word1).isSome))) fun c10 => if c10 = true then M.ok false else M.bind (M.bind (M.bind (M.ok word1) fun y12 => M.ok (y12.map fun c => [c])) fun xs18 => compM (fun sign13 => M.bind (M.ok true) fun c16 => if c16 = true then M.bind (M.bind (M.ok sign13) fun y14 => M.bind (M.ok (tx "abcdefghijklmnopqrstuvwxyz")) fun y15 => inSM y14 y15) fun y17 => M.ok (some y17) else M.ok none) xs18) fun y19 => M.ok (y19.all id)
def f_is_name (word1 : Tx) : M Bool := if ((decide (word1 = (tx ""))) || ((decide ((20 : Int) < (word1.length : Int))) || (kget kd_SHAPES word1).isSome)) = true then M.ok false else M.bind (compM (fun sign13 => M.bind (inSM sign13 (tx "abcdefghijklmnopqrstuvwxyz")) fun y17 => M.ok (some y17)) (word1.map fun c => [c])) fun y19 => M.ok (y19.all id)
def r_is_name (d : (Tx × Unit)) : M Bool := q_is_name d.1
def c_is_name (d : (Tx × Unit)) : M Bool := f_is_name d.1
theorem eq_is_name : r_is_name = c_is_name := by funext d; first | (simp only [r_is_name, c_is_name, q_is_name, f_is_name, M.bind_assoc, M.bok]; done) | (simp only [r_is_name, c_is_name, q_is_name, f_is_name, M.bind_assoc, M.bok]; rfl)
theorem bb_is_name {p : Pr} (X : Facts p) {g : G} (ok : OkS p (defScope s_is_name) N_is_name V_is_name G_is_name 0 g) (hX : g.LX = List.replicate N_is_name.length sAny) (word1 : Tx) : EvB g [(sV false tStr word1), sAny] (defBody s_is_name) (fun r => .rt false tBool r) (q_is_name word1) := (evb_ifx (wkX hX rfl) (EvW.t (evw_orP (pureT (m := M.bind (M.ok word1) fun y2 => M.bind (M.ok (tx "")) fun y3 => M.ok (decide (y2 = y3))) (evt_c ok.toOk (c_eq s_str) (ev_vsh ok.toOk (i := 0) (j := 0) rfl rfl rfl) (ev_str (md := .sh) (by decide +kernel))) rfl) (pureW (m := M.ok ((decide ((20 : Int) < (word1.length : Int))) || (kget kd_SHAPES word1).isSome)) (evw_orP (pureT (m := M.bind (M.bind (M.ok word1) fun y4 => M.ok (y4.length : Int)) fun y5 => M.bind (M.ok (20 : Int)) fun y6 => M.ok (decide (y6 < y5))) (evt_c ok.toOk c_gt (ev_lenS (md' := .sh) ok.toOk (j := 0) rfl X.g_len (ev_vsh ok.toOk (i := 0) (j := 0) rfl rfl rfl)) (ev_int (md := .sh))) rfl) (pureW (m := M.bind (M.ok word1) fun y7 => M.ok ((kget kd_SHAPES y7).isSome)) (evw_or1 (evt_inK ok.toOk X.t_SHAPES (j := 1) rfl (ev_vsh ok.toOk (i := 0) (j := 0) rfl rfl rfl))) rfl)) rfl))) (evb_ret (wkX hX rfl) .sh (by intro _; rfl) (ev_bool (md := .sh))) (evb_ret (wkX hX rfl) .sh (by intro _; rfl) (ev_all (md' := .sh) ok.toOk (j := 2) rfl X.g_all (ev_ofL (evl_lc (md := .sh) (VV' := ["sign"]) (GG' := ["LETTERS"]) (i := 1) ok.toOk (evi_str (ev_vsh ok.toOk (i := 0) (j := 0) rfl rfl rfl)) rfl rfl no_any (by decide +kernel) (by decide +kernel) (by decide +kernel) (by decide +kernel) (fun g' okc sign13 => evpts_nil) (fun g' okc sign13 => (ev_inS (md' := .sh) okc (ev_vsh okc (i := 1) (j := 0) rfl rfl rfl) (ev_gstr (md := .sh) okc (j := 0) rfl X.c_LETTERS (by decide +kernel)))))))))
theorem b_is_name {p : Pr} (X : Facts p) : Body p s_is_name N_is_name V_is_name G_is_name 0 (fun (d : (Tx × Unit)) => [(sV false tStr d.1), sAny]) (fun r => .rt false tBool r) r_is_name := fun g ok hX d => bb_is_name X ok hX d.1
theorem fn_is_name {p : Pr} (X : Facts p) : Fn p 1 "is_name" ["word"] (spM p (aCons tStr aNil) (fun r => .rt false tBool r) c_is_name) := by
  obtain ⟨f, fd, hF, hm⟩ := X.d_is_name
  exact ⟨f, fd, eq_is_name ▸ fn_rt (m := 1) hF sc_is_name (.cons .nil) rfl rfl (b_is_name X), hm, hF.kp, hF.bindsN fun _ _ _ _ _ _ us hl => match us, hl with | [_], _ => rfl⟩
abbrev s_behind_mark : Stmt := (topS 30)
abbrev N_behind_mark : List Str := ["marks", "at", "due"]
abbrev V_behind_mark : List Str := ["marks", "at", "due"]
abbrev G_behind_mark : List Str := ["mark_at", "NoPattern"]
theorem sc_behind_mark : Sc s_behind_mark N_behind_mark V_behind_mark ["marks", "at", "due"] G_behind_mark := ⟨⟨rfl, rfl, rfl, by decide +kernel, rfl, by decide +kernel, by decide +kernel⟩, by decide +kernel, by decide +kernel, by decide +kernel⟩
def q_behind_mark (marks1 : (List Tx)) (at2 : Int) (due3 : Tx) : M Int := M.bind (M.bind (M.bind (M.bind (M.ok marks1) fun y6 => M.bind (M.bind (M.ok at2) fun y4 => M.bind (M.ok ()) fun y5 => M.ok (y4, y5)) fun y7 => M.ok (y6, y7)) c_mark_at) fun y10 => M.bind (M.ok due3) fun y11 => M.ok (!decide (y10 = y11))) fun c15 => if c15 = true then M.ex .noPattern else M.bind (M.ok at2) fun y12 => M.bind (M.ok (1 : Int)) fun y13 => M.ok (y12 + y13)
def f_behind_mark (marks1 : (List Tx)) (at2 : Int) (due3 : Tx) : M Int := M.bind (M.bind (f_mark_at marks1 at2) fun y10 => M.ok (!decide (y10 = due3))) fun c16 => if c16 = true then M.ex .noPattern else M.ok (at2 + (1 : Int))
def r_behind_mark (d : ((List Tx) × Int × Tx × Unit)) : M Int := q_behind_mark d.1 d.2.1 d.2.2.1
def c_behind_mark (d : ((List Tx) × Int × Tx × Unit)) : M Int := f_behind_mark d.1 d.2.1 d.2.2.1
theorem eq_behind_mark : r_behind_mark = c_behind_mark := by funext d; first | (simp only [r_behind_mark, c_behind_mark, q_behind_mark, f_behind_mark, M.bind_assoc, M.bok, c_mark_at]; done) | (simp only [r_behind_mark, c_behind_mark, q_behind_mark, f_behind_mark, M.bind_assoc, M.bok, c_mark_at]; rfl)
theorem bb_behind_mark {p : Pr} (X : Facts p) {g : G} (ok : OkS p (defScope s_behind_mark) N_behind_mark V_behind_mark G_behind_mark 1 g) (hX : g.LX = List.replicate N_behind_mark.length sAny) (marks1 : (List Tx)) (at2 : Int) (due3 : Tx) : EvB g [(sV false (tList tStr) marks1), (sV false tInt at2), (sV false tStr due3)] (defBody s_behind_mark) (fun r => .rt false tInt r) (q_behind_mark marks1 at2 due3) := (evb_ifr ok (wkX hX rfl) X.x_NoPattern (jj := 0) (j := 1) rfl (evt_c ok.toOk (c_ne s_str) (ev_call (md' := .sh) ok.toOk (fn_mark_at X) (by decide) (j := 0) rfl .sh (eva_cons (md := .sh) (ev_vsh ok.toOk (i := 0) (j := 0) rfl rfl rfl) (eva_cons (md := .sh) (ev_vsh ok.toOk (i := 1) (j := 1) rfl rfl rfl) eva_nil))) (ev_vsh ok.toOk (i := 2) (j := 2) rfl rfl rfl)) (evb_ret (wkX hX rfl) .sh (by intro _; rfl) (ev_add (md' := .sh) ok.toOk (ev_vsh ok.toOk (i := 1) (j := 1) rfl rfl rfl) (ev_int (md := .sh)))))
theorem b_behind_mark {p : Pr} (X : Facts p) : Body p s_behind_mark N_behind_mark V_behind_mark G_behind_mark 1 (fun (d : ((List Tx) × Int × Tx × Unit)) => [(sV false (tList tStr) d.1), (sV false tInt d.2.1), (sV false tStr d.2.2.1)]) (fun r => .rt false tInt r) r_behind_mark := fun g ok hX d => bb_behind_mark X ok hX d.1 d.2.1 d.2.2.1
theorem fn_behind_mark {p : Pr} (X : Facts p) : Fn p 2 "behind_mark" ["marks", "at", "due"] (spM p (aCons (tList tStr) (aCons tInt (aCons tStr aNil))) (fun r => .rt false tInt r) c_behind_mark) := by
  obtain ⟨f, fd, hF, hm⟩ := X.d_behind_mark
  exact ⟨f, fd, eq_behind_mark ▸ fn_rt (m := 0) hF sc_behind_mark (.cons (.cons (.cons .nil))) rfl rfl (b_behind_mark X), hm, hF.kp, hF.bindsN fun _ _ _ _ _ _ us hl => match us, hl with | [_, _, _], _ => rfl⟩
abbrev s_read_runs : Stmt := (topS 32)
abbrev N_read_runs : List Str := ["marks", "at", "runs", "mark"]
abbrev V_read_runs : List Str := ["marks", "at", "runs", "mark"]
abbrev G_read_runs : List Str := ["mark_at", "len", "MOST_STRANDS", "behind_mark", "NoPattern"]
theorem sc_read_runs : Sc s_read_runs N_read_runs V_read_runs ["marks", "at"] G_read_runs := ⟨⟨rfl, rfl, rfl, by decide +kernel, rfl, by decide +kernel, by decide +kernel⟩, by decide +kernel, by decide +kernel, by decide +kernel⟩
def r_f_read_runs_t1  : (Int × (List Tx)) → M Bool := fun s4 => M.ok true
def f_read_runs_t1  : (Int × (List Tx)) → M Bool := fun s4 => M.ok true
theorem eq_f_read_runs_t1  : r_f_read_runs_t1  = f_read_runs_t1  := by funext s4; first | (simp only [r_f_read_runs_t1, f_read_runs_t1, M.bind_assoc, M.bok, c_behind_mark, c_mark_at]; done) | (simp only [r_f_read_runs_t1, f_read_runs_t1, M.bind_assoc, M.bok, c_behind_mark, c_mark_at]; rfl)
def r_f_read_runs_w2 (marks1 : (List Tx)) : (Int × (List Tx)) → M (Fl (Int × (List Tx)) ((List Tx) × Int × Unit)) := fun s4 => M.bind (M.bind (M.bind (M.ok marks1) fun y8 => M.bind (M.bind (M.ok s4.1) fun y6 => M.bind (M.ok ()) fun y7 => M.ok (y6, y7)) fun y9 => M.ok (y8, y9)) c_mark_at) fun mark5 => M.bind (M.bind (M.bind (M.ok mark5) fun y12 => M.bind (M.ok (tx "")) fun y13 => M.ok (decide (y12 = y13))) fun c23 => if c23 = true then M.ok true else M.bind (M.bind (M.bind (M.ok mark5) fun y14 => M.bind (M.ok (0 : Int)) fun y15 => getS y14 y15) fun y16 => M.bind (M.ok (tx "#.")) fun y17 => notinSM y16 y17) fun c21 => if c21 = true then M.ok true else M.bind (M.bind (M.ok s4.2) fun y18 => M.ok (y18.length : Int)) fun y19 => M.bind (M.ok (40 : Int)) fun y20 => M.ok (decide (y19 = y20))) fun c60 => if c60 = true then M.ex .noPattern else M.bind (M.ok mark5) fun y26 => M.bind (pushM s4.2 y26) fun runs25 => M.bind (M.bind (M.bind (M.bind (M.ok marks1) fun y31 => M.bind (M.bind (M.bind (M.ok s4.1) fun y27 => M.bind (M.ok (1 : Int)) fun y28 => M.ok (y27 + y28)) fun y29 => M.bind (M.ok ()) fun y30 => M.ok (y29, y30)) fun y32 => M.ok (y31, y32)) c_mark_at) fun y35 => M.bind (M.ok (tx ",")) fun y36 => M.ok (!decide (y35 = y36))) fun c37 => if c37 = true then M.bind ((M.bind (M.ok runs25) fun y51 => M.bind ((M.bind (M.bind ((M.bind (M.ok marks1) fun y44 => M.bind ((M.bind (M.bind (M.ok s4.1) fun y38 => M.bind (M.ok (1 : Int)) fun y39 => M.ok (y38 + y39)) fun y42 => M.bind ((M.bind (M.ok (tx ")")) fun y40 => M.bind (M.ok ()) fun y41 => M.ok (y40, y41))) fun y43 => M.ok (y42, y43))) fun y45 => M.ok (y44, y45))) c_behind_mark) fun y49 => M.bind (M.ok ()) fun y50 => M.ok (y49, y50))) fun y52 => M.ok (y51, y52))) fun r55 => M.ok (Fl.rt r55) else M.bind (M.bind (M.ok s4.1) fun y57 => M.bind (M.ok (2 : Int)) fun y58 => M.ok (y57 + y58)) fun at56 => M.ok (Fl.nx (at56, runs25))
def f_read_runs_w2 (marks1 : (List Tx)) : (Int × (List Tx)) → M (Fl (Int × (List Tx)) ((List Tx) × Int × Unit)) := fun s4 => M.bind (f_mark_at marks1 s4.1) fun mark5 => M.bind (if (decide (mark5 = (tx ""))) = true then M.ok true else M.bind (M.bind (getS mark5 (0 : Int)) fun y16 => notinSM y16 (tx "#.")) fun c22 => if c22 = true then M.ok true else M.ok (decide ((s4.2.length : Int) = (40 : Int)))) fun c61 => if c61 = true then M.ex .noPattern else M.bind (pushM s4.2 mark5) fun runs25 => M.bind (M.bind (f_mark_at marks1 (s4.1 + (1 : Int))) fun y35 => M.ok (!decide (y35 = (tx ",")))) fun c59 => if c59 = true then M.bind (M.bind (f_behind_mark marks1 (s4.1 + (1 : Int)) ((tx ")"))) fun y54 => M.ok (runs25, y54, ())) fun r55 => M.ok (Fl.rt r55) else let at56 : Int := (s4.1 + (2 : Int)); M.ok (Fl.nx (at56, runs25))
theorem eq_f_read_runs_w2 (marks1 : (List Tx)) : r_f_read_runs_w2 marks1 = f_read_runs_w2 marks1 := by funext s4; first | (simp only [r_f_read_runs_w2, f_read_runs_w2, M.bind_assoc, M.bok, eq_f_read_runs_t1, c_behind_mark, c_mark_at]; done) | (simp only [r_f_read_runs_w2, f_read_runs_w2, M.bind_assoc, M.bok, eq_f_read_runs_t1, c_behind_mark, c_mark_at]; rfl)
def q_read_runs (marks1 : (List Tx)) (at2 : Int) : M ((List Tx) × Int × Unit) := M.bind (M.ok []) fun runs3 => M.bind (whileF r_f_read_runs_t1 (r_f_read_runs_w2 marks1) fuel (at2, runs3)) (Fl.el (fun (s62 : (Int × (List Tx))) => M.no) fun r63 => M.ok r63)
def f_read_runs (marks1 : (List Tx)) (at2 : Int) : M ((List Tx) × Int × Unit) := let runs3 : (List Tx) := []; M.bind (whileF f_read_runs_t1 (f_read_runs_w2 marks1) fuel (at2, runs3)) (Fl.el (fun (s62 : (Int × (List Tx))) => M.no) fun r63 => M.ok r63)
def r_read_runs (d : ((List Tx) × Int × Unit)) : M ((List Tx) × Int × Unit) := q_read_runs d.1 d.2.1
def c_read_runs (d : ((List Tx) × Int × Unit)) : M ((List Tx) × Int × Unit) := f_read_runs d.1 d.2.1
theorem eq_read_runs : r_read_runs = c_read_runs := by funext d; first | (simp only [r_read_runs, c_read_runs, q_read_runs, f_read_runs, M.bind_assoc, M.bok, eq_f_read_runs_t1, eq_f_read_runs_w2, c_behind_mark, c_mark_at]; done) | (simp only [r_read_runs, c_read_runs, q_read_runs, f_read_runs, M.bind_assoc, M.bok, eq_f_read_runs_t1, eq_f_read_runs_w2, c_behind_mark, c_mark_at]; rfl)
theorem bb_read_runs {p : Pr} (X : Facts p) {g : G} (ok : OkS p (defScope s_read_runs) N_read_runs V_read_runs G_read_runs 2 g) (hX : g.LX = List.replicate N_read_runs.length sAny) (marks1 : (List Tx)) (at2 : Int) : EvB g [(sV false (tList tStr) marks1), (sV false tInt at2), sAny, sAny] (defBody s_read_runs) (fun r => .rt false (tTup (aCons (tList tStr) (aCons tInt aNil))) r) (q_read_runs marks1 at2) := (evb_own ok (i := 2) (j := 2) rfl rfl (wkX hX rfl) .sh (evl_nil (md := .sh) (S := tStr)) fun runs3 => (evb_whileF (LF := (fun (s4 : (Int × (List Tx))) => [(sV false (tList tStr) marks1), (sV false tInt s4.1), (sOwn false tStr s4.2), sAny])) (s0 := (at2, runs3)) (dr := fun r63 => r63) ok (fun _ => wkX hX rfl) (Wk.s (Wk.s (Wk.s (Wk.s Wk.n)))) (fun s4 => (evt_of (ev_bool (md := .sh)))) (fun s4 => (evb_set ok (i := 3) (j := 3) rfl rfl (wkX hX rfl) .sh (ev_call (md' := .sh) ok.toOk (fn_mark_at X) (by decide) (j := 0) rfl .sh (eva_cons (md := .sh) (ev_vsh ok.toOk (i := 0) (j := 0) rfl rfl rfl) (eva_cons (md := .sh) (ev_vsh ok.toOk (i := 1) (j := 1) rfl rfl rfl) eva_nil))) fun mark5 => (evb_ifr ok (wkX hX rfl) X.x_NoPattern (jj := 0) (j := 4) rfl (evt_borrow (i := 2) rfl (EvW.t (evw_or (evt_c ok.toOk (c_eq s_str) (ev_vsh ok.toOk (i := 3) (j := 3) rfl rfl rfl) (ev_str (md := .sh) (by decide +kernel))) (evw_or (evt_notinS ok.toOk (ev_ixS (md' := .sh) ok.toOk (ev_vsh ok.toOk (i := 3) (j := 3) rfl rfl rfl) (ev_int (md := .sh))) (ev_str (md := .sh) (by decide +kernel))) (evw_or1 (evt_c ok.toOk (c_eq s_int) (ev_lenQ (md' := .sh) ok.toOk sq_l (j := 1) rfl X.g_len (ev_vsh ok.toOk (i := 2) (j := 2) rfl rfl rfl)) (ev_gint (md := .sh) ok.toOk (j := 2) rfl X.c_MOST_STRANDS))))))) (evb_append ok (wkX hX rfl) (i := 2) (j := 2) rfl rfl rfl .sh (ev_vsh ok.toOk (i := 3) (j := 3) rfl rfl rfl) fun runs25 => (evb_ifx (wkX hX rfl) (evt_c ok.toOk (c_ne s_str) (ev_call (md' := .sh) ok.toOk (fn_mark_at X) (by decide) (j := 0) rfl .sh (eva_cons (md := .sh) (ev_vsh ok.toOk (i := 0) (j := 0) rfl rfl rfl) (eva_cons (md := .sh) (ev_add (md' := .sh) ok.toOk (ev_vsh ok.toOk (i := 1) (j := 1) rfl rfl rfl) (ev_int (md := .sh))) eva_nil))) (ev_str (md := .sh) (by decide +kernel))) (evb_freeze (i := 2) rfl (evb_retF (mk := fun r55 => Fl.rt r55) (wkX hX rfl) .sh (by intro _; rfl) (ev_tup (fun d vs R h => by rw [(lenS (lenS len0)) h]; decide) (eva_cons (ev_vsh ok.toOk (i := 2) (j := 2) rfl rfl rfl) (eva_cons (ev_call (md' := .sh) ok.toOk (fn_behind_mark X) (by decide) (j := 3) rfl .sh (eva_cons (md := .sh) (ev_vsh ok.toOk (i := 0) (j := 0) rfl rfl rfl) (eva_cons (md := .sh) (ev_add (md' := .sh) ok.toOk (ev_vsh ok.toOk (i := 1) (j := 1) rfl rfl rfl) (ev_int (md := .sh))) (eva_cons (md := .sh) (ev_str (md := .sh) (by decide +kernel)) eva_nil)))) eva_nil))))) (evb_set ok (i := 1) (j := 1) rfl rfl (wkX hX rfl) .sh (ev_add (md' := .sh) ok.toOk (ev_vsh ok.toOk (i := 1) (j := 1) rfl rfl rfl) (ev_int (md := .sh))) fun at56 => (evb_go (by rfl) (Wk.s (Wk.s (Wk.s (Wk.a Wk.n))))))))))) fun s62 => evb_no))
theorem b_read_runs {p : Pr} (X : Facts p) : Body p s_read_runs N_read_runs V_read_runs G_read_runs 2 (fun (d : ((List Tx) × Int × Unit)) => [(sV false (tList tStr) d.1), (sV false tInt d.2.1), sAny, sAny]) (fun r => .rt false (tTup (aCons (tList tStr) (aCons tInt aNil))) r) r_read_runs := fun g ok hX d => bb_read_runs X ok hX d.1 d.2.1
theorem fn_read_runs {p : Pr} (X : Facts p) : Fn p 3 "read_runs" ["marks", "at"] (spM p (aCons (tList tStr) (aCons tInt aNil)) (fun r => .rt false (tTup (aCons (tList tStr) (aCons tInt aNil))) r) c_read_runs) := by
  obtain ⟨f, fd, hF, hm⟩ := X.d_read_runs
  exact ⟨f, fd, eq_read_runs ▸ fn_rt (m := 2) hF sc_read_runs (.cons (.cons .nil)) rfl rfl (b_read_runs X), hm, hF.kp, hF.bindsN fun _ _ _ _ _ _ us hl => match us, hl with | [_, _], _ => rfl⟩
abbrev s_number_of : Stmt := (topS 31)
abbrev N_number_of : List Str := ["mark"]
abbrev V_number_of : List Str := ["mark"]
abbrev G_number_of : List Str := ["FIGURES", "len", "int", "NoPattern"]
theorem sc_number_of : Sc s_number_of N_number_of V_number_of ["mark"] G_number_of := ⟨⟨rfl, rfl, rfl, by decide +kernel, rfl, by decide +kernel, by decide +kernel⟩, by decide +kernel, by decide +kernel, by decide +kernel⟩
def q_number_of (mark1 : Tx) : M Int := M.bind (M.bind (M.bind (M.ok mark1) fun y2 => M.bind (M.ok (tx "")) fun y3 => M.ok (decide (y2 = y3))) fun c24 => if c24 = true then M.ok true else M.bind (M.bind (M.bind (M.ok mark1) fun y4 => M.bind (M.ok (0 : Int)) fun y5 => getS y4 y5) fun y6 => M.bind (M.ok (tx "0123456789")) fun y7 => notinSM y6 y7) fun c22 => if c22 = true then M.ok true else M.bind (M.bind (M.bind (M.ok mark1) fun y8 => M.ok (y8.length : Int)) fun y9 => M.bind (M.ok (2 : Int)) fun y10 => M.ok (decide (y10 < y9))) fun c20 => if c20 = true then M.ok true else M.bind (M.bind (M.bind (M.ok mark1) fun y11 => M.ok (y11.length : Int)) fun y12 => M.bind (M.ok (2 : Int)) fun y13 => M.ok (decide (y12 = y13))) fun c18 => if c18 = true then M.bind (M.bind (M.ok mark1) fun y14 => M.bind (M.ok (0 : Int)) fun y15 => getS y14 y15) fun y16 => M.bind (M.ok (tx "0")) fun y17 => M.ok (decide (y16 = y17)) else M.ok false) fun c28 => if c28 = true then M.ex .noPattern else M.bind (M.ok mark1) fun y26 => intS y26
def f_number_of (mark1 : Tx) : M Int := M.bind (if (decide (mark1 = (tx ""))) = true then M.ok true else M.bind (M.bind (getS mark1 (0 : Int)) fun y6 => notinSM y6 (tx "0123456789")) fun c23 => if c23 = true then M.ok true else if (decide ((2 : Int) < (mark1.length : Int))) = true then M.ok true else if (decide ((mark1.length : Int) = (2 : Int))) = true then M.bind (getS mark1 (0 : Int)) fun y16 => M.ok (decide (y16 = (tx "0"))) else M.ok false) fun c29 => if c29 = true then M.ex .noPattern else intS mark1
def r_number_of (d : (Tx × Unit)) : M Int := q_number_of d.1
def c_number_of (d : (Tx × Unit)) : M Int := f_number_of d.1
theorem eq_number_of : r_number_of = c_number_of := by funext d; first | (simp only [r_number_of, c_number_of, q_number_of, f_number_of, M.bind_assoc, M.bok]; done) | (simp only [r_number_of, c_number_of, q_number_of, f_number_of, M.bind_assoc, M.bok]; rfl)
theorem bb_number_of {p : Pr} (X : Facts p) {g : G} (ok : OkS p (defScope s_number_of) N_number_of V_number_of G_number_of 0 g) (hX : g.LX = List.replicate N_number_of.length sAny) (mark1 : Tx) : EvB g [(sV false tStr mark1)] (defBody s_number_of) (fun r => .rt false tInt r) (q_number_of mark1) := (evb_ifr ok (wkX hX rfl) X.x_NoPattern (jj := 0) (j := 3) rfl (EvW.t (evw_or (evt_c ok.toOk (c_eq s_str) (ev_vsh ok.toOk (i := 0) (j := 0) rfl rfl rfl) (ev_str (md := .sh) (by decide +kernel))) (evw_or (evt_notinS ok.toOk (ev_ixS (md' := .sh) ok.toOk (ev_vsh ok.toOk (i := 0) (j := 0) rfl rfl rfl) (ev_int (md := .sh))) (ev_gstr (md := .sh) ok.toOk (j := 0) rfl X.c_FIGURES (by decide +kernel))) (evw_or (evt_c ok.toOk c_gt (ev_lenS (md' := .sh) ok.toOk (j := 1) rfl X.g_len (ev_vsh ok.toOk (i := 0) (j := 0) rfl rfl rfl)) (ev_int (md := .sh))) (evw_or1 (EvW.t (evw_and (evt_c ok.toOk (c_eq s_int) (ev_lenS (md' := .sh) ok.toOk (j := 1) rfl X.g_len (ev_vsh ok.toOk (i := 0) (j := 0) rfl rfl rfl)) (ev_int (md := .sh))) (evw_and1 (evt_c ok.toOk (c_eq s_str) (ev_ixS (md' := .sh) ok.toOk (ev_vsh ok.toOk (i := 0) (j := 0) rfl rfl rfl) (ev_int (md := .sh))) (ev_str (md := .sh) (by decide +kernel))))))))))) (evb_ret (wkX hX rfl) .sh (by intro _; rfl) (ev_intS (md' := .sh) ok.toOk (j := 2) rfl X.g_int (ev_vsh ok.toOk (i := 0) (j := 0) rfl rfl rfl))))
theorem b_number_of {p : Pr} (X : Facts p) : Body p s_number_of N_number_of V_number_of G_number_of 0 (fun (d : (Tx × Unit)) => [(sV false tStr d.1)]) (fun r => .rt false tInt r) r_number_of := fun g ok hX d => bb_number_of X ok hX d.1
theorem fn_number_of {p : Pr} (X : Facts p) : Fn p 1 "number_of" ["mark"] (spM p (aCons tStr aNil) (fun r => .rt false tInt r) c_number_of) := by
  obtain ⟨f, fd, hF, hm⟩ := X.d_number_of
  exact ⟨f, fd, eq_number_of ▸ fn_rt (m := 0) hF sc_number_of (.cons .nil) rfl rfl (b_number_of X), hm, hF.kp, hF.bindsN fun _ _ _ _ _ _ us hl => match us, hl with | [_], _ => rfl⟩
abbrev s_read_tree : Stmt := (topS 33)
abbrev N_read_tree : List Str := ["marks", "at", "deep", "word", "runs", "things", "kind", "thing"]
abbrev V_read_tree : List Str := ["marks", "at", "deep", "word", "runs", "things", "kind", "thing"]
abbrev G_read_tree : List Str := ["mark_at", "DEEPEST", "is_name", "SHAPES", "behind_mark", "read_runs", "len", "read_tree", "number_of", "NoPattern"]
theorem sc_read_tree : Sc s_read_tree N_read_tree V_read_tree ["marks", "at", "deep"] G_read_tree := ⟨⟨rfl, rfl, rfl, by decide +kernel, rfl, by decide +kernel, by decide +kernel⟩, by decide +kernel, by decide +kernel, by decide +kernel⟩
def r_f_read_tree_l1 (marks1 : (List Tx)) (deep3 : Int) (z_read_tree : (List Tx) → Int → Int → M (PV × Int × Unit)) : (Int × (List PV)) → Tx → M (Int × (List PV)) := fun s74 kind75 => M.bind (M.bind (M.bind (M.ok s74.2) fun y76 => M.ok (y76.length : Int)) fun y77 => M.bind (M.ok (0 : Int)) fun y78 => M.ok (decide (y78 < y77))) fun c79 => M.bind (if c79 = true then M.bind (M.bind (M.bind (M.ok marks1) fun y85 => M.bind (M.bind (M.ok s74.1) fun y83 => M.bind (M.bind (M.ok (tx ",")) fun y81 => M.bind (M.ok ()) fun y82 => M.ok (y81, y82)) fun y84 => M.ok (y83, y84)) fun y86 => M.ok (y85, y86)) c_behind_mark) fun at80 => M.ok at80 else M.ok s74.1) fun (s90 : (Int)) => M.bind (M.bind (M.ok kind75) fun y91 => M.bind (M.ok (tx "P")) fun y92 => M.ok (decide (y91 = y92))) fun c93 => M.bind (if c93 = true then M.bind (M.bind (M.bind (M.ok marks1) fun y100 => M.bind (M.bind (M.ok s90) fun y98 => M.bind (M.bind (M.bind (M.ok deep3) fun y94 => M.bind (M.ok (1 : Int)) fun y95 => M.ok (y94 + y95)) fun y96 => M.bind (M.ok ()) fun y97 => M.ok (y96, y97)) fun y99 => M.ok (y98, y99)) fun y101 => M.ok (y100, y101)) (fun d => z_read_tree d.1 d.2.1 d.2.2.1)) fun t105 => M.ok (t105.2.1, t105.1) else M.bind (M.bind (M.bind (M.bind (M.bind (M.bind (M.ok marks1) fun y109 => M.bind (M.bind (M.ok s90) fun y107 => M.bind (M.ok ()) fun y108 => M.ok (y107, y108)) fun y110 => M.ok (y109, y110)) c_mark_at) fun y113 => M.bind (M.ok ()) fun y114 => M.ok (y113, y114)) c_number_of) fun y116 => M.ok (PV.num y116)) fun thing106 => M.bind (M.bind (M.ok s90) fun y118 => M.bind (M.ok (1 : Int)) fun y119 => M.ok (y118 + y119)) fun at117 => M.ok (at117, thing106)) fun (s120 : (Int × PV)) => M.bind (M.ok s120.2) fun y122 => M.bind (pushM s74.2 y122) fun things121 => M.ok (s120.1, things121)
def f_read_tree_l1 (marks1 : (List Tx)) (deep3 : Int) (z_read_tree : (List Tx) → Int → Int → M (PV × Int × Unit)) : (Int × (List PV)) → Tx → M (Int × (List PV)) := fun s74 kind75 => M.bind (if (decide ((0 : Int) < (s74.2.length : Int))) = true then M.bind (f_behind_mark marks1 s74.1 (tx ",")) fun at80 => M.ok at80 else M.ok s74.1) fun (s90 : (Int)) => M.bind (if (decide (kind75 = (tx "P"))) = true then M.bind (z_read_tree marks1 s90 (deep3 + (1 : Int))) fun t105 => M.ok (t105.2.1, t105.1) else M.bind (M.bind (M.bind (f_mark_at marks1 s90) fun y115 => f_number_of y115) fun y116 => M.ok (PV.num y116)) fun thing106 => let at117 : Int := (s90 + (1 : Int)); M.ok (at117, thing106)) fun (s120 : (Int × PV)) => M.bind (pushM s74.2 s120.2) fun things121 => M.ok (s120.1, things121)
theorem eq_f_read_tree_l1 (marks1 : (List Tx)) (deep3 : Int) (z_read_tree : (List Tx) → Int → Int → M (PV × Int × Unit)) : r_f_read_tree_l1 marks1 deep3 z_read_tree = f_read_tree_l1 marks1 deep3 z_read_tree := by funext s74 kind75; first | (simp only [r_f_read_tree_l1, f_read_tree_l1, M.bind_assoc, M.bok, c_behind_mark, c_is_name, c_mark_at, c_number_of, c_read_runs]; done) | (simp only [r_f_read_tree_l1, f_read_tree_l1, M.bind_assoc, M.bok, c_behind_mark, c_is_name, c_mark_at, c_number_of, c_read_runs]; rfl)
def q_read_tree (z_read_tree : (List Tx) → Int → Int → M (PV × Int × Unit)) (marks1 : (List Tx)) (at2 : Int) (deep3 : Int) : M (PV × Int × Unit) := M.bind (M.bind (M.bind (M.ok marks1) fun y7 => M.bind (M.bind (M.ok at2) fun y5 => M.bind (M.ok ()) fun y6 => M.ok (y5, y6)) fun y8 => M.ok (y7, y8)) c_mark_at) fun word4 => M.bind (M.bind (M.ok deep3) fun y11 => M.bind (M.ok (12 : Int)) fun y12 => M.ok (decide (y12 < y11))) fun c152 => if c152 = true then M.ex .noPattern else M.bind (M.bind (M.bind (M.ok word4) fun y13 => M.bind (M.ok ()) fun y14 => M.ok (y13, y14)) c_is_name) fun c16 => if c16 = true then (M.bind (M.bind (M.bind (M.ok word4) fun y19 => M.bind (M.bind (M.ok []) fun y17 => M.bind (M.ok ()) fun y18 => M.ok (y17, y18)) fun y20 => M.ok (y19, y20)) fun y23 => M.ok (mkTree y23)) fun y28 => M.bind (M.bind (M.bind (M.ok at2) fun y24 => M.bind (M.ok (1 : Int)) fun y25 => M.ok (y24 + y25)) fun y26 => M.bind (M.ok ()) fun y27 => M.ok (y26, y27)) fun y29 => M.ok (y28, y29)) else M.bind (M.bind (M.ok word4) fun y33 => M.ok (!(kget kd_SHAPES y33).isSome)) fun c149 => if c149 = true then M.ex .noPattern else M.bind (M.bind (M.bind (M.ok marks1) fun y41 => M.bind (M.bind (M.bind (M.ok at2) fun y35 => M.bind (M.ok (1 : Int)) fun y36 => M.ok (y35 + y36)) fun y39 => M.bind (M.bind (M.ok (tx "(")) fun y37 => M.bind (M.ok ()) fun y38 => M.ok (y37, y38)) fun y40 => M.ok (y39, y40)) fun y42 => M.ok (y41, y42)) c_behind_mark) fun at34 => M.bind (M.bind (M.ok word4) fun y46 => M.bind (M.ok (tx "rows")) fun y47 => M.ok (decide (y46 = y47))) fun c48 => if c48 = true then M.bind (M.bind (M.bind (M.ok marks1) fun y51 => M.bind (M.bind (M.ok at34) fun y49 => M.bind (M.ok ()) fun y50 => M.ok (y49, y50)) fun y52 => M.ok (y51, y52)) c_read_runs) fun t55 => (M.bind (M.bind (M.bind (M.ok word4) fun y59 => M.bind (M.bind (M.bind (M.ok t55.1) fun y56 => M.ok (y56.map PV.text)) fun y57 => M.bind (M.ok ()) fun y58 => M.ok (y57, y58)) fun y60 => M.ok (y59, y60)) fun y63 => M.ok (mkTree y63)) fun y66 => M.bind (M.bind (M.ok t55.2.1) fun y64 => M.bind (M.ok ()) fun y65 => M.ok (y64, y65)) fun y67 => M.ok (y66, y67)) else M.bind (M.ok []) fun things71 => M.bind (M.bind (M.bind (M.ok word4) fun y72 => kgetM kd_SHAPES y72) fun y73 => M.ok (y73.map fun c => [c])) fun xs123 => M.bind (forM (r_f_read_tree_l1 marks1 deep3 z_read_tree) (at34, things71) xs123) fun (s124 : (Int × (List PV))) => (M.bind (M.bind (M.bind (M.ok word4) fun y127 => M.bind (M.bind (M.ok s124.2) fun y125 => M.bind (M.ok ()) fun y126 => M.ok (y125, y126)) fun y128 => M.ok (y127, y128)) fun y131 => M.ok (mkTree y131)) fun y143 => M.bind ((M.bind (M.bind ((M.bind (M.ok marks1) fun y136 => M.bind ((M.bind (M.ok s124.1) fun y134 => M.bind ((M.bind (M.ok (tx ")")) fun y132 => M.bind (M.ok ()) fun y133 => M.ok (y132, y133))) fun y135 => M.ok (y134, y135))) fun y137 => M.ok (y136, y137))) c_behind_mark) fun y141 => M.bind (M.ok ()) fun y142 => M.ok (y141, y142))) fun y144 => M.ok (y143, y144))
def fb_read_tree (z_read_tree : (List Tx) → Int → Int → M (PV × Int × Unit)) (marks1 : (List Tx)) (at2 : Int) (deep3 : Int) : M (PV × Int × Unit) := M.bind (f_mark_at marks1 at2) fun word4 => if (decide ((12 : Int) < deep3)) = true then M.ex .noPattern else M.bind (f_is_name word4) fun c151 => if c151 = true then M.ok ((mkTree (word4, ([]), ())), (at2 + (1 : Int)), ()) else if (!(kget kd_SHAPES word4).isSome) = true then M.ex .noPattern else M.bind (f_behind_mark marks1 (at2 + (1 : Int)) (tx "(")) fun at34 => if (decide (word4 = (tx "rows"))) = true then M.bind (f_read_runs marks1 at34) fun t55 => M.ok ((mkTree (word4, (t55.1.map PV.text), ())), t55.2.1, ()) else let things71 : (List PV) := []; M.bind (M.bind (kgetM kd_SHAPES word4) fun y73 => M.ok (y73.map fun c => [c])) fun xs123 => M.bind (forM (f_read_tree_l1 marks1 deep3 z_read_tree) (at34, things71) xs123) fun (s124 : (Int × (List PV))) => M.bind (f_behind_mark marks1 s124.1 ((tx ")"))) fun y146 => M.ok ((mkTree (word4, s124.2, ())), y146, ())
def r_read_tree (z_read_tree : (List Tx) → Int → Int → M (PV × Int × Unit)) (d : ((List Tx) × Int × Int × Unit)) : M (PV × Int × Unit) := q_read_tree z_read_tree d.1 d.2.1 d.2.2.1
def cb_read_tree (z_read_tree : (List Tx) → Int → Int → M (PV × Int × Unit)) (d : ((List Tx) × Int × Int × Unit)) : M (PV × Int × Unit) := fb_read_tree z_read_tree d.1 d.2.1 d.2.2.1
theorem eq_read_tree (z_read_tree : (List Tx) → Int → Int → M (PV × Int × Unit)) : r_read_tree z_read_tree = cb_read_tree z_read_tree := by funext d; first | (simp only [r_read_tree, cb_read_tree, q_read_tree, fb_read_tree, M.bind_assoc, M.bok, eq_f_read_tree_l1, c_behind_mark, c_is_name, c_mark_at, c_number_of, c_read_runs]; done) | (simp only [r_read_tree, cb_read_tree, q_read_tree, fb_read_tree, M.bind_assoc, M.bok, eq_f_read_tree_l1, c_behind_mark, c_is_name, c_mark_at, c_number_of, c_read_runs]; rfl)
theorem bb_read_tree {p : Pr} (X : Facts p) {kf kk : Nat} (z_read_tree : (List Tx) → Int → Int → M (PV × Int × Unit)) (Z_read_tree : Fn p kf "read_tree" ["marks", "at", "deep"] (spM p (aCons (tList tStr) (aCons tInt (aCons tInt aNil))) (fun r => .rt false (tTup (aCons tPV (aCons tInt aNil))) r) (fun d => z_read_tree d.1 d.2.1 d.2.2.1))) {g : G} (h0 : 3 ≤ kk) (hkf : kf ≤ kk) (ok : OkS p (defScope s_read_tree) N_read_tree V_read_tree G_read_tree kk g) (hX : g.LX = List.replicate N_read_tree.length sAny) (marks1 : (List Tx)) (at2 : Int) (deep3 : Int) : EvB g [(sV false (tList tStr) marks1), (sV false tInt at2), (sV false tInt deep3), sAny, sAny, sAny, sAny, sAny] (defBody s_read_tree) (fun r => .rt false (tTup (aCons tPV (aCons tInt aNil))) r) (q_read_tree z_read_tree marks1 at2 deep3) := (evb_set ok (i := 3) (j := 3) rfl rfl (wkX hX rfl) .sh (ev_call (md' := .sh) ok.toOk (fn_mark_at X) (Nat.le_trans (by decide) h0) (j := 0) rfl .sh (eva_cons (md := .sh) (ev_vsh ok.toOk (i := 0) (j := 0) rfl rfl rfl) (eva_cons (md := .sh) (ev_vsh ok.toOk (i := 1) (j := 1) rfl rfl rfl) eva_nil))) fun word4 => (evb_ifr ok (wkX hX rfl) X.x_NoPattern (jj := 0) (j := 9) rfl (evt_c ok.toOk c_gt (ev_vsh ok.toOk (i := 2) (j := 2) rfl rfl rfl) (ev_gint (md := .sh) ok.toOk (j := 1) rfl X.c_DEEPEST)) (evb_ifx (wkX hX rfl) (evt_of (ev_call (md' := .sh) ok.toOk (fn_is_name X) (Nat.le_trans (by decide) h0) (j := 2) rfl .sh (eva_cons (md := .sh) (ev_vsh ok.toOk (i := 3) (j := 3) rfl rfl rfl) eva_nil))) (evb_ret (wkX hX rfl) .sh (by intro _; rfl) (ev_tup (fun d vs R h => by rw [(lenS (lenS len0)) h]; decide) (eva_cons (ev_mkTree (ev_tup (fun d vs R h => by rw [(lenS (lenS len0)) h]; decide) (eva_cons (ev_vsh ok.toOk (i := 3) (j := 3) rfl rfl rfl) (eva_cons (ev_ofL (evl_nil (md := .sh) (S := tPV))) eva_nil)))) (eva_cons (ev_add (md' := .sh) ok.toOk (ev_vsh ok.toOk (i := 1) (j := 1) rfl rfl rfl) (ev_int (md := .sh))) eva_nil)))) (evb_ifr ok (wkX hX rfl) X.x_NoPattern (jj := 0) (j := 9) rfl (evt_notinK ok.toOk X.t_SHAPES (j := 3) rfl (ev_vsh ok.toOk (i := 3) (j := 3) rfl rfl rfl)) (evb_set ok (i := 1) (j := 1) rfl rfl (wkX hX rfl) .sh (ev_call (md' := .sh) ok.toOk (fn_behind_mark X) (Nat.le_trans (by decide) h0) (j := 4) rfl .sh (eva_cons (md := .sh) (ev_vsh ok.toOk (i := 0) (j := 0) rfl rfl rfl) (eva_cons (md := .sh) (ev_add (md' := .sh) ok.toOk (ev_vsh ok.toOk (i := 1) (j := 1) rfl rfl rfl) (ev_int (md := .sh))) (eva_cons (md := .sh) (ev_str (md := .sh) (by decide +kernel)) eva_nil)))) fun at34 => (evb_ifx (wkX hX rfl) (evt_c ok.toOk (c_eq s_str) (ev_vsh ok.toOk (i := 3) (j := 3) rfl rfl rfl) (ev_str (md := .sh) (by decide +kernel))) (evb_asg ok (wkX hX rfl) (ev_call (md' := .sh) ok.toOk (fn_read_runs X) (Nat.le_trans (by decide) h0) (j := 5) rfl .sh (eva_cons (md := .sh) (ev_vsh ok.toOk (i := 0) (j := 0) rfl rfl rfl) (eva_cons (md := .sh) (ev_vsh ok.toOk (i := 1) (j := 1) rfl rfl rfl) eva_nil))) (evg_tup ok.toOk (lenS (lenS len0)) (evgs_cons (evg_name ok (i := 4) (j := 4) rfl rfl) fun _ => (evgs_cons (evg_name ok (i := 1) (j := 1) rfl rfl) fun _ => evgs_nil))) fun t55 => (evb_ret (wkX hX rfl) .sh (by intro _; rfl) (ev_tup (fun d vs R h => by rw [(lenS (lenS len0)) h]; decide) (eva_cons (ev_mkTree (ev_tup (fun d vs R h => by rw [(lenS (lenS len0)) h]; decide) (eva_cons (ev_vsh ok.toOk (i := 3) (j := 3) rfl rfl rfl) (eva_cons (ev_pvTexts (ev_vsh ok.toOk (i := 4) (j := 4) rfl rfl rfl)) eva_nil)))) (eva_cons (ev_vsh ok.toOk (i := 1) (j := 1) rfl rfl rfl) eva_nil))))) (evb_own ok (i := 5) (j := 5) rfl rfl (wkX hX rfl) .sh (evl_nil (md := .sh) (S := tPV)) fun things71 => (evb_for (LF := (fun (s74 : (Int × (List PV))) => [(sV false (tList tStr) marks1), (sV false tInt s74.1), (sV false tInt deep3), (sV false tStr word4), sAny, (sOwn false tPV s74.2), sAny, sAny])) (s0 := (at34, things71)) ok (wkX hX rfl) (evi_str (ev_subK ok.toOk X.t_SHAPES (j := 3) rfl (ev_vsh ok.toOk (i := 3) (j := 3) rfl rfl rfl))) (Wk.s (Wk.s (Wk.s (Wk.s (Wk.s (Wk.s (Wk.s (Wk.s Wk.n)))))))) (fun _ => evg_name ok (i := 6) (j := 6) rfl rfl) (fun s74 kind75 => (evb_if (LJ := (fun (s90 : (Int)) => [(sV false (tList tStr) marks1), (sV false tInt s90), (sV false tInt deep3), (sV false tStr word4), sAny, (sOwn false tPV s74.2), (sV false tStr kind75), sAny])) (wkX hX rfl) (evt_borrow (i := 5) rfl (evt_c ok.toOk c_gt (ev_lenQ (md' := .sh) ok.toOk sq_l (j := 6) rfl X.g_len (ev_vsh ok.toOk (i := 5) (j := 5) rfl rfl rfl)) (ev_int (md := .sh)))) (evb_set ok (i := 1) (j := 1) rfl rfl (wkX hX rfl) .sh (ev_call (md' := .sh) ok.toOk (fn_behind_mark X) (Nat.le_trans (by decide) h0) (j := 4) rfl .sh (eva_cons (md := .sh) (ev_vsh ok.toOk (i := 0) (j := 0) rfl rfl rfl) (eva_cons (md := .sh) (ev_vsh ok.toOk (i := 1) (j := 1) rfl rfl rfl) (eva_cons (md := .sh) (ev_str (md := .sh) (by decide +kernel)) eva_nil)))) fun at80 => (evb_nx (by rfl) (Wk.s (Wk.s (Wk.s (Wk.s (Wk.s (Wk.s (Wk.s (Wk.s Wk.n)))))))))) (evb_nx (by rfl) (Wk.s (Wk.s (Wk.s (Wk.s (Wk.s (Wk.s (Wk.s (Wk.s Wk.n))))))))) fun s90 => (evb_if (LJ := (fun (s120 : (Int × PV)) => [(sV false (tList tStr) marks1), (sV false tInt s120.1), (sV false tInt deep3), (sV false tStr word4), sAny, (sOwn false tPV s74.2), (sV false tStr kind75), (sV false tPV s120.2)])) (wkX hX rfl) (evt_c ok.toOk (c_eq s_str) (ev_vsh ok.toOk (i := 6) (j := 6) rfl rfl rfl) (ev_str (md := .sh) (by decide +kernel))) (evb_asg ok (wkX hX rfl) (ev_call (md' := .sh) ok.toOk Z_read_tree hkf (j := 7) rfl .sh (eva_cons (md := .sh) (ev_vsh ok.toOk (i := 0) (j := 0) rfl rfl rfl) (eva_cons (md := .sh) (ev_vsh ok.toOk (i := 1) (j := 1) rfl rfl rfl) (eva_cons (md := .sh) (ev_add (md' := .sh) ok.toOk (ev_vsh ok.toOk (i := 2) (j := 2) rfl rfl rfl) (ev_int (md := .sh))) eva_nil)))) (evg_tup ok.toOk (lenS (lenS len0)) (evgs_cons (evg_name ok (i := 7) (j := 7) rfl rfl) fun _ => (evgs_cons (evg_name ok (i := 1) (j := 1) rfl rfl) fun _ => evgs_nil))) fun t105 => (evb_nx (by rfl) (Wk.s (Wk.s (Wk.s (Wk.s (Wk.s (Wk.s (Wk.s (Wk.s Wk.n)))))))))) (evb_set ok (i := 7) (j := 7) rfl rfl (wkX hX rfl) .sh (ev_pvNum (ev_call (md' := .sh) ok.toOk (fn_number_of X) (Nat.le_trans (by decide) h0) (j := 8) rfl .sh (eva_cons (md := .sh) (ev_call (md' := .sh) ok.toOk (fn_mark_at X) (Nat.le_trans (by decide) h0) (j := 0) rfl .sh (eva_cons (md := .sh) (ev_vsh ok.toOk (i := 0) (j := 0) rfl rfl rfl) (eva_cons (md := .sh) (ev_vsh ok.toOk (i := 1) (j := 1) rfl rfl rfl) eva_nil))) eva_nil))) fun thing106 => (evb_set ok (i := 1) (j := 1) rfl rfl (wkX hX rfl) .sh (ev_add (md' := .sh) ok.toOk (ev_vsh ok.toOk (i := 1) (j := 1) rfl rfl rfl) (ev_int (md := .sh))) fun at117 => (evb_nx (by rfl) (Wk.s (Wk.s (Wk.s (Wk.s (Wk.s (Wk.s (Wk.s (Wk.s Wk.n))))))))))) fun s120 => (evb_append ok (wkX hX rfl) (i := 5) (j := 5) rfl rfl rfl .sh (ev_vsh ok.toOk (i := 7) (j := 7) rfl rfl rfl) fun things121 => (evb_go (by rfl) (Wk.s (Wk.s (Wk.s (Wk.s (Wk.s (Wk.s (Wk.a (Wk.a Wk.n))))))))))))) fun s124 => (evb_freeze (i := 5) rfl (evb_ret (wkX hX rfl) .sh (by intro _; rfl) (ev_tup (fun d vs R h => by rw [(lenS (lenS len0)) h]; decide) (eva_cons (ev_mkTree (ev_tup (fun d vs R h => by rw [(lenS (lenS len0)) h]; decide) (eva_cons (ev_vsh ok.toOk (i := 3) (j := 3) rfl rfl rfl) (eva_cons (ev_vsh ok.toOk (i := 5) (j := 5) rfl rfl rfl) eva_nil)))) (eva_cons (ev_call (md' := .sh) ok.toOk (fn_behind_mark X) (Nat.le_trans (by decide) h0) (j := 4) rfl .sh (eva_cons (md := .sh) (ev_vsh ok.toOk (i := 0) (j := 0) rfl rfl rfl) (eva_cons (md := .sh) (ev_vsh ok.toOk (i := 1) (j := 1) rfl rfl rfl) (eva_cons (md := .sh) (ev_str (md := .sh) (by decide +kernel)) eva_nil)))) eva_nil)))))))))))))
theorem fs_read_tree {p : Pr} (X : Facts p) {kf kk : Nat} (z_read_tree : (List Tx) → Int → Int → M (PV × Int × Unit)) (Z_read_tree : Fn p kf "read_tree" ["marks", "at", "deep"] (spM p (aCons (tList tStr) (aCons tInt (aCons tInt aNil))) (fun r => .rt false (tTup (aCons tPV (aCons tInt aNil))) r) (fun d => z_read_tree d.1 d.2.1 d.2.2.1))) (h0 : 3 ≤ kk) (hkf : kf ≤ kk) : Fn p (kk + 1) "read_tree" ["marks", "at", "deep"] (spM p (aCons (tList tStr) (aCons tInt (aCons tInt aNil))) (fun r => .rt false (tTup (aCons tPV (aCons tInt aNil))) r) (cb_read_tree z_read_tree)) := by
  obtain ⟨f, fd, hF, hm⟩ := X.d_read_tree
  exact ⟨f, fd, eq_read_tree z_read_tree ▸ fn_rt (m := 5) hF sc_read_tree (.cons (.cons (.cons .nil))) rfl rfl (fun g ok hX d => bb_read_tree X z_read_tree Z_read_tree h0 hkf ok hX d.1 d.2.1 d.2.2.1), hm, hF.kp, hF.bindsN fun _ _ _ _ _ _ us hl => match us, hl with | [_, _, _], _ => rfl⟩
theorem f0_read_tree {p : Pr} (X : Facts p) (kk : Nat) : Fn p (kk + 1) "read_tree" ["marks", "at", "deep"] (spM p (aCons (tList tStr) (aCons tInt (aCons tInt aNil))) (fun r => .rt false (tTup (aCons tPV (aCons tInt aNil))) r) (fun (_ : ((List Tx) × Int × Int × Unit)) => .no)) := by
  obtain ⟨f, fd, hF, hm⟩ := X.d_read_tree
  exact ⟨f, fd, fn_rt (m := 5) hF sc_read_tree (.cons (.cons (.cons .nil))) rfl rfl body_no, hm, hF.kp, hF.bindsN fun _ _ _ _ _ _ us hl => match us, hl with | [_, _, _], _ => rfl⟩
def FF_read_tree : Nat → ((List Tx) → Int → Int → M (PV × Int × Unit))
  | 0 => (fun _ _ _ => M.no)
  | n + 1 => let z := FF_read_tree n; (fb_read_tree z)
theorem fnF_read_tree {p : Pr} (X : Facts p) : ∀ n : Nat, (Fn p (3 + n + 1) "read_tree" ["marks", "at", "deep"] (spM p (aCons (tList tStr) (aCons tInt (aCons tInt aNil))) (fun r => .rt false (tTup (aCons tPV (aCons tInt aNil))) r) (fun d => (FF_read_tree n) d.1 d.2.1 d.2.2.1)))
  | 0 => f0_read_tree X 3
  | n + 1 => fs_read_tree X ((FF_read_tree n)) (fnF_read_tree X n) (by omega) (Nat.le_refl _)
def f_read_tree (x0 : (List Tx)) (x1 : Int) (x2 : Int) : M (PV × Int × Unit) := (FF_read_tree 24) x0 x1 x2
def c_read_tree (d : ((List Tx) × Int × Int × Unit)) : M (PV × Int × Unit) := f_read_tree d.1 d.2.1 d.2.2.1
theorem fn_read_tree {p : Pr} (X : Facts p) : Fn p (28) "read_tree" ["marks", "at", "deep"] (spM p (aCons (tList tStr) (aCons tInt (aCons tInt aNil))) (fun r => .rt false (tTup (aCons tPV (aCons tInt aNil))) r) c_read_tree) := (fnF_read_tree X 24)
abbrev s_must_fit : Stmt := (topS 35)
abbrev N_must_fit : List Str := ["fits"]
abbrev V_must_fit : List Str := ["fits"]
abbrev G_must_fit : List Str := ["NoPattern"]
theorem sc_must_fit : Sc s_must_fit N_must_fit V_must_fit ["fits"] G_must_fit := ⟨⟨rfl, rfl, rfl, by decide +kernel, rfl, by decide +kernel, by decide +kernel⟩, by decide +kernel, by decide +kernel, by decide +kernel⟩
def q_must_fit (fits1 : Bool) : M Unit := M.bind (M.bind (M.ok fits1) fun y2 => M.ok (!y2)) fun c3 => if c3 = true then M.ex .noPattern else M.ok ()
def f_must_fit (fits1 : Bool) : M Unit := if (!fits1) = true then M.ex .noPattern else M.ok ()
def r_must_fit (d : (Bool × Unit)) : M Unit := q_must_fit d.1
def c_must_fit (d : (Bool × Unit)) : M Unit := f_must_fit d.1
theorem eq_must_fit : r_must_fit = c_must_fit := by funext d; first | (simp only [r_must_fit, c_must_fit, q_must_fit, f_must_fit, M.bind_assoc, M.bok]; done) | (simp only [r_must_fit, c_must_fit, q_must_fit, f_must_fit, M.bind_assoc, M.bok]; rfl)
theorem bb_must_fit {p : Pr} (X : Facts p) {g : G} (ok : OkS p (defScope s_must_fit) N_must_fit V_must_fit G_must_fit 0 g) (hX : g.LX = List.replicate N_must_fit.length sAny) (fits1 : Bool) : EvB g [(sV false tBool fits1)] (defBody s_must_fit) (fun _ => .nx (List.replicate 1 sAny)) (q_must_fit fits1) := (evb_ifr ok (wkX hX rfl) X.x_NoPattern (jj := 0) (j := 0) rfl (evt_not (evt_of (ev_vsh ok.toOk (i := 0) (j := 0) rfl rfl rfl))) (evb_nx (by rfl) (Wk.a Wk.n)))
theorem b_must_fit {p : Pr} (X : Facts p) : Body p s_must_fit N_must_fit V_must_fit G_must_fit 0 (fun (d : (Bool × Unit)) => [(sV false tBool d.1)]) (fun _ => .nx (List.replicate 1 sAny)) r_must_fit := fun g ok hX d => bb_must_fit X ok hX d.1
theorem fn_must_fit {p : Pr} (X : Facts p) : Fn p 1 "must_fit" ["fits"] (spM p (aCons tBool aNil) (fun r => .rt false tNone r) c_must_fit) := by
  obtain ⟨f, fd, hF, hm⟩ := X.d_must_fit
  exact ⟨f, fd, eq_must_fit ▸ fn_nx (m := 0) hF sc_must_fit (.cons .nil) rfl rfl (b_must_fit X), hm, hF.kp, hF.bindsN fun _ _ _ _ _ _ us hl => match us, hl with | [_], _ => rfl⟩
abbrev s_Piece_init : Stmt := ((clsBody (topS 6)).getD 0 (.Pass ⟨0, 0, 0, 0⟩))
abbrev N_Piece_init : List Str := ["self", "ends", "picks"]
abbrev V_Piece_init : List Str := ["self", "ends", "picks"]
abbrev G_Piece_init : List Str := []
theorem sc_Piece_init : Sc s_Piece_init N_Piece_init V_Piece_init ["self", "ends", "picks"] G_Piece_init := ⟨⟨rfl, rfl, rfl, by decide +kernel, rfl, by decide +kernel, by decide +kernel⟩, by decide +kernel, by decide +kernel, by decide +kernel⟩
theorem bb_Piece_init {p : Pr} {C : Addr} (hc : Cls p.K C) (n1 : NoAttr p.K C "ends") (n2 : NoAttr p.K C "picks") {k : Nat} {g : G} (ok : OkS p (defScope s_Piece_init) N_Piece_init V_Piece_init G_Piece_init k g) (hX : g.LX = List.replicate N_Piece_init.length sAny) (x0 : Addr) (d : Int × Int × Unit) : EvB g (sSelf x0 C [] :: ([(sV false tInt d.1), (sV false tInt d.2.1)] ++ List.replicate 0 sAny)) (defBody s_Piece_init) (fun r => .nx (sSelf x0 C [⟨"ends", Int, tInt, r.1⟩, ⟨"picks", Int, tInt, r.2.1⟩] :: List.replicate 2 sAny)) (M.bind (.ok d.1) fun f1 => M.bind (.ok d.2.1) fun f2 => .ok (f1, f2, ())) := (evb_fld ok (wkX hX rfl) (i := 0) (j := 0) rfl rfl rfl hc n1 (nm := []) rfl (by decide +kernel) (by decide) (ev_vsh ok.toOk (i := 1) (j := 1) rfl rfl rfl) fun f1 => (evb_fld ok (wkX hX rfl) (i := 0) (j := 0) rfl rfl rfl hc n2 (nm := ["ends"]) rfl (by decide +kernel) (by decide) (ev_vsh ok.toOk (i := 2) (j := 2) rfl rfl rfl) fun f2 => (evb_nx (by rfl) (Wk.s (Wk.a (Wk.a Wk.n))))))
theorem su_Piece {p : Pr} (X : Facts p) {C : Addr} (hc : Cls p.K C) (n1 : NoAttr p.K C "ends") (n2 : NoAttr p.K C "picks") : FcF p 2 "Piece" "__init__" ["self", "ends", "picks"] (spS p C (aCons tInt (aCons tInt aNil)) (fun r : Int × Int × Unit => [⟨"ends", Int, tInt, r.1⟩, ⟨"picks", Int, tInt, r.2.1⟩]) c_Piece_init) := by
  obtain ⟨f, fd, hF, hmg, hcf⟩ := X.s_Piece_init
  exact ⟨f, fd, fn_initS (k := 1) (m := 0) hF sc_Piece_init (.cons (.cons .nil)) rfl rfl (fun x g ok hX d => bb_Piece_init hc n1 n2 ok hX x d), hmg, hcf, hF.bindsN fun _ _ _ _ _ _ us hl => match us, hl with | [_, _, _], _ => rfl⟩
abbrev s_Given_init : Stmt := ((clsBody (topS 7)).getD 0 (.Pass ⟨0, 0, 0, 0⟩))
abbrev N_Given_init : List Str := ["self", "texts"]
abbrev V_Given_init : List Str := ["self", "texts"]
abbrev G_Given_init : List Str := ["len", "list", "Piece"]
theorem sc_Given_init : Sc s_Given_init N_Given_init V_Given_init ["self", "texts"] G_Given_init := ⟨⟨rfl, rfl, rfl, by decide +kernel, rfl, by decide +kernel, by decide +kernel⟩, by decide +kernel, by decide +kernel, by decide +kernel⟩
def q_Given_init (texts1 : (List Tx)) : M O_Given := M.bind (M.bind (M.bind (M.bind (M.ok texts1) fun y2 => M.bind (M.ok (0 : Int)) fun y3 => getM y2 y3) fun y4 => M.ok (y4.length : Int)) fun y8 => M.bind (M.bind (M.bind (M.ok texts1) fun y5 => M.ok (y5.length : Int)) fun y6 => M.bind (M.ok ()) fun y7 => M.ok (y6, y7)) fun y9 => M.ok (y8, y9)) fun d12 => M.bind (c_Piece_init d12) fun u10 => M.bind (M.ok texts1) fun ftexts11 => M.ok (u10.1, u10.2.1, ftexts11, ())
def f_Given_init (texts1 : (List Tx)) : M O_Given := M.bind (M.bind (M.bind (getM texts1 (0 : Int)) fun y4 => M.ok (y4.length : Int)) fun y13 => M.ok (y13, (texts1.length : Int), ())) fun (u10 : Int × Int × Unit) => let ftexts11 : (List Tx) := texts1; M.ok (u10.1, u10.2.1, ftexts11, ())
def r_Given_init (d : ((List Tx) × Unit)) : M O_Given := q_Given_init d.1
def c_Given_init (d : ((List Tx) × Unit)) : M O_Given := f_Given_init d.1
theorem eq_Given_init : r_Given_init = c_Given_init := by funext d; first | (simp only [r_Given_init, c_Given_init, q_Given_init, f_Given_init, M.bind_assoc, M.bok, c_Piece_init]; done) | (simp only [r_Given_init, c_Given_init, q_Given_init, f_Given_init, M.bind_assoc, M.bok, c_Piece_init]; rfl)
theorem bb_Given_init {p : Pr} (X : Facts p) {g : G} (ok : OkS p (defScope s_Given_init) N_Given_init V_Given_init G_Given_init 2 g) (hX : g.LX = List.replicate N_Given_init.length sAny) (x0 : Addr) (texts1 : (List Tx)) : EvB g (sSelf x0 (cA p "Given") [] :: ([(sV false (tList tStr) texts1)] ++ List.replicate 0 sAny)) (defBody s_Given_init) (fun r => .nx (sSelf x0 (cA p "Given") (fl_Given p r) :: List.replicate 1 sAny)) (q_Given_init texts1) := (evb_super (md := .sh) (fl := (fun (r : Int × Int × Unit) => [⟨"ends", Int, tInt, r.1⟩, ⟨"picks", Int, tInt, r.2.1⟩])) ok (wkX hX rfl) (su_Piece X X.a_Given X.n_Given_ends X.n_Given_picks) cPI_ne (by decide) (j := 2) rfl (i := 0) (j2 := 0) rfl rfl rfl (eva_cons (md := .sh) (ev_lenS (md' := .sh) ok.toOk (j := 0) rfl X.g_len (ev_ixQ ok.toOk sq_l (ev_vsh ok.toOk (i := 1) (j := 1) rfl rfl rfl) (ev_int (md := .sh)))) (eva_cons (md := .sh) (ev_lenQ (md' := .sh) ok.toOk sq_l (j := 0) rfl X.g_len (ev_vsh ok.toOk (i := 1) (j := 1) rfl rfl rfl)) eva_nil)) fun u10 => (evb_fld ok (wkX hX rfl) (i := 0) (j := 0) rfl rfl rfl X.a_Given X.n_Given_texts (nm := ["ends", "picks"]) rfl (by decide +kernel) (by decide) (ev_ofL (evl_copyQ (md := .sh) ok.toOk sq_l (j := 1) rfl X.g_list (ev_vsh ok.toOk (i := 1) (j := 1) rfl rfl rfl))) fun ftexts11 => (evb_nx (by rfl) (Wk.s (Wk.a Wk.n)))))
theorem mk_Given_init {p : Pr} (X : Facts p) : MkF p 3 "Given" ["texts"] (spI p (cA p "Given") (aCons (tList tStr) aNil) (fl_Given p) c_Given_init) := by
  obtain ⟨f, fd, hF, hmk, hm⟩ := X.k_Given_init
  exact ⟨f, fd, eq_Given_init ▸ fn_init (m := 0) hF sc_Given_init (.cons .nil) rfl rfl (fun x g ok hX d => bb_Given_init X ok hX x d.1), hmk, hm, hF.bindsN fun _ _ _ _ _ _ us hl => match us, hl with | [_, _], _ => rfl⟩
abbrev s_Given_init_Named : Stmt := ((clsBody (topS 7)).getD 0 (.Pass ⟨0, 0, 0, 0⟩))
abbrev N_Given_init_Named : List Str := ["self", "texts"]
abbrev V_Given_init_Named : List Str := ["self", "texts"]
abbrev G_Given_init_Named : List Str := ["len", "list", "Piece"]
theorem sc_Given_init_Named : Sc s_Given_init_Named N_Given_init_Named V_Given_init_Named ["self", "texts"] G_Given_init_Named := ⟨⟨rfl, rfl, rfl, by decide +kernel, rfl, by decide +kernel, by decide +kernel⟩, by decide +kernel, by decide +kernel, by decide +kernel⟩
def q_Given_init_Named (texts1 : (List Tx)) : M O_Given := M.bind (M.bind (M.bind (M.bind (M.ok texts1) fun y2 => M.bind (M.ok (0 : Int)) fun y3 => getM y2 y3) fun y4 => M.ok (y4.length : Int)) fun y8 => M.bind (M.bind (M.bind (M.ok texts1) fun y5 => M.ok (y5.length : Int)) fun y6 => M.bind (M.ok ()) fun y7 => M.ok (y6, y7)) fun y9 => M.ok (y8, y9)) fun d12 => M.bind (c_Piece_init d12) fun u10 => M.bind (M.ok texts1) fun ftexts11 => M.ok (u10.1, u10.2.1, ftexts11, ())
def f_Given_init_Named (texts1 : (List Tx)) : M O_Given := M.bind (M.bind (M.bind (getM texts1 (0 : Int)) fun y4 => M.ok (y4.length : Int)) fun y13 => M.ok (y13, (texts1.length : Int), ())) fun (u10 : Int × Int × Unit) => let ftexts11 : (List Tx) := texts1; M.ok (u10.1, u10.2.1, ftexts11, ())
def r_Given_init_Named (d : ((List Tx) × Unit)) : M O_Given := q_Given_init_Named d.1
def c_Given_init_Named (d : ((List Tx) × Unit)) : M O_Given := f_Given_init_Named d.1
theorem eq_Given_init_Named : r_Given_init_Named = c_Given_init_Named := by funext d; first | (simp only [r_Given_init_Named, c_Given_init_Named, q_Given_init_Named, f_Given_init_Named, M.bind_assoc, M.bok, c_Piece_init]; done) | (simp only [r_Given_init_Named, c_Given_init_Named, q_Given_init_Named, f_Given_init_Named, M.bind_assoc, M.bok, c_Piece_init]; rfl)
theorem bb_Given_init_Named {p : Pr} (X : Facts p) {g : G} (ok : OkS p (defScope s_Given_init_Named) N_Given_init_Named V_Given_init_Named G_Given_init_Named 2 g) (hX : g.LX = List.replicate N_Given_init_Named.length sAny) (x0 : Addr) (texts1 : (List Tx)) : EvB g (sSelf x0 (cA p "Named") [] :: ([(sV false (tList tStr) texts1)] ++ List.replicate 0 sAny)) (defBody s_Given_init_Named) (fun r => .nx (sSelf x0 (cA p "Named") (fl_Given p r) :: List.replicate 1 sAny)) (q_Given_init_Named texts1) := (evb_super (md := .sh) (fl := (fun (r : Int × Int × Unit) => [⟨"ends", Int, tInt, r.1⟩, ⟨"picks", Int, tInt, r.2.1⟩])) ok (wkX hX rfl) (su_Piece X X.a_Named X.n_Named_ends X.n_Named_picks) cPI_ne (by decide) (j := 2) rfl (i := 0) (j2 := 0) rfl rfl rfl (eva_cons (md := .sh) (ev_lenS (md' := .sh) ok.toOk (j := 0) rfl X.g_len (ev_ixQ ok.toOk sq_l (ev_vsh ok.toOk (i := 1) (j := 1) rfl rfl rfl) (ev_int (md := .sh)))) (eva_cons (md := .sh) (ev_lenQ (md' := .sh) ok.toOk sq_l (j := 0) rfl X.g_len (ev_vsh ok.toOk (i := 1) (j := 1) rfl rfl rfl)) eva_nil)) fun u10 => (evb_fld ok (wkX hX rfl) (i := 0) (j := 0) rfl rfl rfl X.a_Named X.n_Named_texts (nm := ["ends", "picks"]) rfl (by decide +kernel) (by decide) (ev_ofL (evl_copyQ (md := .sh) ok.toOk sq_l (j := 1) rfl X.g_list (ev_vsh ok.toOk (i := 1) (j := 1) rfl rfl rfl))) fun ftexts11 => (evb_nx (by rfl) (Wk.s (Wk.a Wk.n)))))
theorem ne_Given_init_Named : ∀ d c, c_Given_init_Named d ≠ .ex c := fun d => by unfold c_Given_init_Named f_Given_init_Named; repeat first | exact nx_ok | exact getM_nx | refine NoEx.bind ?_ fun _ => ?_ | dsimp only
theorem fc_Given_init_Named {p : Pr} (X : Facts p) : FcF p 3 "Given" "__init__" ["self", "texts"] (spS p (cA p "Named") (aCons (tList tStr) aNil) (fl_Given p) c_Given_init_Named) := by
  obtain ⟨f, fd, hF, hmg, hcf⟩ := X.s_Given_init
  exact ⟨f, fd, eq_Given_init_Named ▸ fn_initS (m := 0) hF sc_Given_init_Named (.cons .nil) rfl rfl (fun x g ok hX d => bb_Given_init_Named X ok hX x d.1), hmg, hcf, hF.bindsN fun _ _ _ _ _ _ us hl => match us, hl with | [_, _], _ => rfl⟩
abbrev s_Named_init : Stmt := ((clsBody (topS 8)).getD 0 (.Pass ⟨0, 0, 0, 0⟩))
abbrev N_Named_init : List Str := ["self", "name", "texts"]
abbrev V_Named_init : List Str := ["self", "name", "texts"]
abbrev G_Named_init : List Str := ["Given"]
theorem sc_Named_init : Sc s_Named_init N_Named_init V_Named_init ["self", "name", "texts"] G_Named_init := ⟨⟨rfl, rfl, rfl, by decide +kernel, rfl, by decide +kernel, by decide +kernel⟩, by decide +kernel, by decide +kernel, by decide +kernel⟩
def q_Named_init (name1 : Tx) (texts2 : (List Tx)) : M O_Named := M.bind (M.bind (M.ok texts2) fun y3 => M.bind (M.ok ()) fun y4 => M.ok (y3, y4)) fun d7 => M.bind (c_Given_init_Named d7) fun u5 => M.bind (M.ok name1) fun fname6 => M.ok (u5.1, u5.2.1, u5.2.2.1, fname6, ())
def f_Named_init (name1 : Tx) (texts2 : (List Tx)) : M O_Named := M.bind (f_Given_init_Named texts2) fun (u5 : O_Given) => let fname6 : Tx := name1; M.ok (u5.1, u5.2.1, u5.2.2.1, fname6, ())
def r_Named_init (d : (Tx × (List Tx) × Unit)) : M O_Named := q_Named_init d.1 d.2.1
def c_Named_init (d : (Tx × (List Tx) × Unit)) : M O_Named := f_Named_init d.1 d.2.1
theorem eq_Named_init : r_Named_init = c_Named_init := by funext d; first | (simp only [r_Named_init, c_Named_init, q_Named_init, f_Named_init, M.bind_assoc, M.bok, c_Given_init_Named]; done) | (simp only [r_Named_init, c_Named_init, q_Named_init, f_Named_init, M.bind_assoc, M.bok, c_Given_init_Named]; rfl)
theorem bb_Named_init {p : Pr} (X : Facts p) {g : G} (ok : OkS p (defScope s_Named_init) N_Named_init V_Named_init G_Named_init 4 g) (hX : g.LX = List.replicate N_Named_init.length sAny) (x0 : Addr) (name1 : Tx) (texts2 : (List Tx)) : EvB g (sSelf x0 (cA p "Named") [] :: ([(sV false tStr name1), (sV false (tList tStr) texts2)] ++ List.replicate 0 sAny)) (defBody s_Named_init) (fun r => .nx (sSelf x0 (cA p "Named") (fl_Named p r) :: List.replicate 2 sAny)) (q_Named_init name1 texts2) := (evb_super (md := .sh) (fl := (fun (r : O_Given) => [⟨"ends", Int, tInt, r.1⟩, ⟨"picks", Int, tInt, r.2.1⟩, ⟨"texts", (List Tx), (tList tStr), r.2.2.1⟩])) ok (wkX hX rfl) (fc_Given_init_Named X) ne_Given_init_Named (by decide) (j := 0) rfl (i := 0) (j2 := 0) rfl rfl rfl (eva_cons (md := .sh) (ev_vsh ok.toOk (i := 2) (j := 2) rfl rfl rfl) eva_nil) fun u5 => (evb_fld ok (wkX hX rfl) (i := 0) (j := 0) rfl rfl rfl X.a_Named X.n_Named_name (nm := ["ends", "picks", "texts"]) rfl (by decide +kernel) (by decide) (ev_vsh ok.toOk (i := 1) (j := 1) rfl rfl rfl) fun fname6 => (evb_nx (by rfl) (Wk.s (Wk.a (Wk.a Wk.n))))))
theorem mk_Named_init {p : Pr} (X : Facts p) : MkF p 5 "Named" ["name", "texts"] (spI p (cA p "Named") (aCons tStr (aCons (tList tStr) aNil)) (fl_Named p) c_Named_init) := by
  obtain ⟨f, fd, hF, hmk, hm⟩ := X.k_Named_init
  exact ⟨f, fd, eq_Named_init ▸ fn_init (m := 0) hF sc_Named_init (.cons (.cons .nil)) rfl rfl (fun x g ok hX d => bb_Named_init X ok hX x d.1 d.2.1), hmk, hm, hF.bindsN fun _ _ _ _ _ _ us hl => match us, hl with | [_, _, _], _ => rfl⟩
abbrev s_Twill_init : Stmt := ((clsBody (topS 9)).getD 0 (.Pass ⟨0, 0, 0, 0⟩))
abbrev N_Twill_init : List Str := ["self", "many", "more"]
abbrev V_Twill_init : List Str := ["self", "many", "more"]
abbrev G_Twill_init : List Str := ["Piece"]
theorem sc_Twill_init : Sc s_Twill_init N_Twill_init V_Twill_init ["self", "many", "more"] G_Twill_init := ⟨⟨rfl, rfl, rfl, by decide +kernel, rfl, by decide +kernel, by decide +kernel⟩, by decide +kernel, by decide +kernel, by decide +kernel⟩
def q_Twill_init (many1 : Int) (more2 : Int) : M O_Twill := M.bind (M.bind (M.bind (M.ok many1) fun y3 => M.bind (M.ok more2) fun y4 => M.ok (y3 + y4)) fun y9 => M.bind (M.bind (M.bind (M.ok many1) fun y5 => M.bind (M.ok more2) fun y6 => M.ok (y5 + y6)) fun y7 => M.bind (M.ok ()) fun y8 => M.ok (y7, y8)) fun y10 => M.ok (y9, y10)) fun d14 => M.bind (c_Piece_init d14) fun u11 => M.bind (M.ok many1) fun fmany12 => M.bind (M.ok more2) fun fmore13 => M.ok (u11.1, u11.2.1, fmany12, fmore13, ())
def f_Twill_init (many1 : Int) (more2 : Int) : M O_Twill := M.bind (M.ok ((many1 + more2), (many1 + more2), ())) fun (u11 : Int × Int × Unit) => let fmany12 : Int := many1; let fmore13 : Int := more2; M.ok (u11.1, u11.2.1, fmany12, fmore13, ())
def r_Twill_init (d : (Int × Int × Unit)) : M O_Twill := q_Twill_init d.1 d.2.1
def c_Twill_init (d : (Int × Int × Unit)) : M O_Twill := f_Twill_init d.1 d.2.1
theorem eq_Twill_init : r_Twill_init = c_Twill_init := by funext d; first | (simp only [r_Twill_init, c_Twill_init, q_Twill_init, f_Twill_init, M.bind_assoc, M.bok, c_Piece_init]; done) | (simp only [r_Twill_init, c_Twill_init, q_Twill_init, f_Twill_init, M.bind_assoc, M.bok, c_Piece_init]; rfl)
theorem bb_Twill_init {p : Pr} (X : Facts p) {g : G} (ok : OkS p (defScope s_Twill_init) N_Twill_init V_Twill_init G_Twill_init 2 g) (hX : g.LX = List.replicate N_Twill_init.length sAny) (x0 : Addr) (many1 : Int) (more2 : Int) : EvB g (sSelf x0 (cA p "Twill") [] :: ([(sV false tInt many1), (sV false tInt more2)] ++ List.replicate 0 sAny)) (defBody s_Twill_init) (fun r => .nx (sSelf x0 (cA p "Twill") (fl_Twill p r) :: List.replicate 2 sAny)) (q_Twill_init many1 more2) := (evb_super (md := .sh) (fl := (fun (r : Int × Int × Unit) => [⟨"ends", Int, tInt, r.1⟩, ⟨"picks", Int, tInt, r.2.1⟩])) ok (wkX hX rfl) (su_Piece X X.a_Twill X.n_Twill_ends X.n_Twill_picks) cPI_ne (by decide) (j := 0) rfl (i := 0) (j2 := 0) rfl rfl rfl (eva_cons (md := .sh) (ev_add (md' := .sh) ok.toOk (ev_vsh ok.toOk (i := 1) (j := 1) rfl rfl rfl) (ev_vsh ok.toOk (i := 2) (j := 2) rfl rfl rfl)) (eva_cons (md := .sh) (ev_add (md' := .sh) ok.toOk (ev_vsh ok.toOk (i := 1) (j := 1) rfl rfl rfl) (ev_vsh ok.toOk (i := 2) (j := 2) rfl rfl rfl)) eva_nil)) fun u11 => (evb_fld ok (wkX hX rfl) (i := 0) (j := 0) rfl rfl rfl X.a_Twill X.n_Twill_many (nm := ["ends", "picks"]) rfl (by decide +kernel) (by decide) (ev_vsh ok.toOk (i := 1) (j := 1) rfl rfl rfl) fun fmany12 => (evb_fld ok (wkX hX rfl) (i := 0) (j := 0) rfl rfl rfl X.a_Twill X.n_Twill_more (nm := ["ends", "picks", "many"]) rfl (by decide +kernel) (by decide) (ev_vsh ok.toOk (i := 2) (j := 2) rfl rfl rfl) fun fmore13 => (evb_nx (by rfl) (Wk.s (Wk.a (Wk.a Wk.n)))))))
theorem mk_Twill_init {p : Pr} (X : Facts p) : MkF p 3 "Twill" ["many", "more"] (spI p (cA p "Twill") (aCons tInt (aCons tInt aNil)) (fl_Twill p) c_Twill_init) := by
  obtain ⟨f, fd, hF, hmk, hm⟩ := X.k_Twill_init
  exact ⟨f, fd, eq_Twill_init ▸ fn_init (m := 0) hF sc_Twill_init (.cons (.cons .nil)) rfl rfl (fun x g ok hX d => bb_Twill_init X ok hX x d.1 d.2.1), hmk, hm, hF.bindsN fun _ _ _ _ _ _ us hl => match us, hl with | [_, _, _], _ => rfl⟩
abbrev s_no_common : Stmt := (topS 34)
abbrev N_no_common : List Str := ["many", "step", "rest"]
abbrev V_no_common : List Str := ["many", "step", "rest"]
abbrev G_no_common : List Str := []
theorem sc_no_common : Sc s_no_common N_no_common V_no_common ["many", "step"] G_no_common := ⟨⟨rfl, rfl, rfl, by decide +kernel, rfl, by decide +kernel, by decide +kernel⟩, by decide +kernel, by decide +kernel, by decide +kernel⟩
def r_f_no_common_t1  : (Int × Int) → M Bool := fun s3 => M.bind (M.ok s3.2) fun y4 => M.bind (M.ok (0 : Int)) fun y5 => M.ok (decide (y5 < y4))
def f_no_common_t1  : (Int × Int) → M Bool := fun s3 => M.ok (decide ((0 : Int) < s3.2))
theorem eq_f_no_common_t1  : r_f_no_common_t1  = f_no_common_t1  := by funext s3; first | (simp only [r_f_no_common_t1, f_no_common_t1, M.bind_assoc, M.bok]; done) | (simp only [r_f_no_common_t1, f_no_common_t1, M.bind_assoc, M.bok]; rfl)
def r_f_no_common_w2  : (Int × Int) → M (Int × Int) := fun s3 => M.bind (M.bind (M.ok s3.1) fun y7 => M.bind (M.ok s3.2) fun y8 => modM y7 y8) fun rest6 => M.bind (M.ok s3.2) fun many9 => M.bind (M.ok rest6) fun step10 => M.ok (many9, step10)
def f_no_common_w2  : (Int × Int) → M (Int × Int) := fun s3 => M.bind (modM s3.1 s3.2) fun rest6 => let many9 : Int := s3.2; let step10 : Int := rest6; M.ok (many9, step10)
theorem eq_f_no_common_w2  : r_f_no_common_w2  = f_no_common_w2  := by funext s3; first | (simp only [r_f_no_common_w2, f_no_common_w2, M.bind_assoc, M.bok, eq_f_no_common_t1]; done) | (simp only [r_f_no_common_w2, f_no_common_w2, M.bind_assoc, M.bok, eq_f_no_common_t1]; rfl)
def q_no_common (many1 : Int) (step2 : Int) : M Bool := M.bind (whileM r_f_no_common_t1 r_f_no_common_w2 fuel (many1, step2)) fun (s11 : (Int × Int)) => M.bind (M.ok s11.1) fun y12 => M.bind (M.ok (1 : Int)) fun y13 => M.ok (decide (y12 = y13))
def f_no_common (many1 : Int) (step2 : Int) : M Bool := M.bind (whileM f_no_common_t1 f_no_common_w2 fuel (many1, step2)) fun (s11 : (Int × Int)) => M.ok (decide (s11.1 = (1 : Int)))
def r_no_common (d : (Int × Int × Unit)) : M Bool := q_no_common d.1 d.2.1
def c_no_common (d : (Int × Int × Unit)) : M Bool := f_no_common d.1 d.2.1
theorem eq_no_common : r_no_common = c_no_common := by funext d; first | (simp only [r_no_common, c_no_common, q_no_common, f_no_common, M.bind_assoc, M.bok, eq_f_no_common_t1, eq_f_no_common_w2]; done) | (simp only [r_no_common, c_no_common, q_no_common, f_no_common, M.bind_assoc, M.bok, eq_f_no_common_t1, eq_f_no_common_w2]; rfl)
theorem bb_no_common {p : Pr} (X : Facts p) {g : G} (ok : OkS p (defScope s_no_common) N_no_common V_no_common G_no_common 0 g) (hX : g.LX = List.replicate N_no_common.length sAny) (many1 : Int) (step2 : Int) : EvB g [(sV false tInt many1), (sV false tInt step2), sAny] (defBody s_no_common) (fun r => .rt false tBool r) (q_no_common many1 step2) := (evb_while (LF := (fun (s3 : (Int × Int)) => [(sV false tInt s3.1), (sV false tInt s3.2), sAny])) (s0 := (many1, step2)) ok (fun _ => wkX hX rfl) (Wk.s (Wk.s (Wk.s Wk.n))) (fun s3 => (evt_c ok.toOk c_gt (ev_vsh ok.toOk (i := 1) (j := 1) rfl rfl rfl) (ev_int (md := .sh)))) (fun s3 => (evb_set ok (i := 2) (j := 2) rfl rfl (wkX hX rfl) .sh (ev_mod (md' := .sh) ok.toOk (ev_vsh ok.toOk (i := 0) (j := 0) rfl rfl rfl) (ev_vsh ok.toOk (i := 1) (j := 1) rfl rfl rfl)) fun rest6 => (evb_set ok (i := 0) (j := 0) rfl rfl (wkX hX rfl) .sh (ev_vsh ok.toOk (i := 1) (j := 1) rfl rfl rfl) fun many9 => (evb_set ok (i := 1) (j := 1) rfl rfl (wkX hX rfl) .sh (ev_vsh ok.toOk (i := 2) (j := 2) rfl rfl rfl) fun step10 => (evb_go (by rfl) (Wk.s (Wk.s (Wk.a Wk.n)))))))) fun s11 => (evb_ret (wkX hX rfl) .sh (by intro _; rfl) (ev_c (md' := .sh) ok.toOk (c_eq s_int) (ev_vsh ok.toOk (i := 0) (j := 0) rfl rfl rfl) (ev_int (md := .sh)))))
theorem b_no_common {p : Pr} (X : Facts p) : Body p s_no_common N_no_common V_no_common G_no_common 0 (fun (d : (Int × Int × Unit)) => [(sV false tInt d.1), (sV false tInt d.2.1), sAny]) (fun r => .rt false tBool r) r_no_common := fun g ok hX d => bb_no_common X ok hX d.1 d.2.1
theorem fn_no_common {p : Pr} (X : Facts p) : Fn p 1 "no_common" ["many", "step"] (spM p (aCons tInt (aCons tInt aNil)) (fun r => .rt false tBool r) c_no_common) := by
  obtain ⟨f, fd, hF, hm⟩ := X.d_no_common
  exact ⟨f, fd, eq_no_common ▸ fn_rt (m := 1) hF sc_no_common (.cons (.cons .nil)) rfl rfl (b_no_common X), hm, hF.kp, hF.bindsN fun _ _ _ _ _ _ us hl => match us, hl with | [_, _], _ => rfl⟩
abbrev s_Satin_init : Stmt := ((clsBody (topS 10)).getD 0 (.Pass ⟨0, 0, 0, 0⟩))
abbrev N_Satin_init : List Str := ["self", "many", "step"]
abbrev V_Satin_init : List Str := ["self", "many", "step"]
abbrev G_Satin_init : List Str := ["Piece"]
theorem sc_Satin_init : Sc s_Satin_init N_Satin_init V_Satin_init ["self", "many", "step"] G_Satin_init := ⟨⟨rfl, rfl, rfl, by decide +kernel, rfl, by decide +kernel, by decide +kernel⟩, by decide +kernel, by decide +kernel, by decide +kernel⟩
def q_Satin_init (many1 : Int) (step2 : Int) : M O_Satin := M.bind (M.bind (M.ok many1) fun y5 => M.bind (M.bind (M.ok many1) fun y3 => M.bind (M.ok ()) fun y4 => M.ok (y3, y4)) fun y6 => M.ok (y5, y6)) fun d9 => M.bind (c_Piece_init d9) fun u7 => M.bind (M.ok step2) fun fstep8 => M.ok (u7.1, u7.2.1, fstep8, ())
def f_Satin_init (many1 : Int) (step2 : Int) : M O_Satin := M.bind (M.ok (many1, many1, ())) fun (u7 : Int × Int × Unit) => let fstep8 : Int := step2; M.ok (u7.1, u7.2.1, fstep8, ())
def r_Satin_init (d : (Int × Int × Unit)) : M O_Satin := q_Satin_init d.1 d.2.1
def c_Satin_init (d : (Int × Int × Unit)) : M O_Satin := f_Satin_init d.1 d.2.1
theorem eq_Satin_init : r_Satin_init = c_Satin_init := by funext d; first | (simp only [r_Satin_init, c_Satin_init, q_Satin_init, f_Satin_init, M.bind_assoc, M.bok, c_Piece_init]; done) | (simp only [r_Satin_init, c_Satin_init, q_Satin_init, f_Satin_init, M.bind_assoc, M.bok, c_Piece_init]; rfl)
theorem bb_Satin_init {p : Pr} (X : Facts p) {g : G} (ok : OkS p (defScope s_Satin_init) N_Satin_init V_Satin_init G_Satin_init 2 g) (hX : g.LX = List.replicate N_Satin_init.length sAny) (x0 : Addr) (many1 : Int) (step2 : Int) : EvB g (sSelf x0 (cA p "Satin") [] :: ([(sV false tInt many1), (sV false tInt step2)] ++ List.replicate 0 sAny)) (defBody s_Satin_init) (fun r => .nx (sSelf x0 (cA p "Satin") (fl_Satin p r) :: List.replicate 2 sAny)) (q_Satin_init many1 step2) := (evb_super (md := .sh) (fl := (fun (r : Int × Int × Unit) => [⟨"ends", Int, tInt, r.1⟩, ⟨"picks", Int, tInt, r.2.1⟩])) ok (wkX hX rfl) (su_Piece X X.a_Satin X.n_Satin_ends X.n_Satin_picks) cPI_ne (by decide) (j := 0) rfl (i := 0) (j2 := 0) rfl rfl rfl (eva_cons (md := .sh) (ev_vsh ok.toOk (i := 1) (j := 1) rfl rfl rfl) (eva_cons (md := .sh) (ev_vsh ok.toOk (i := 1) (j := 1) rfl rfl rfl) eva_nil)) fun u7 => (evb_fld ok (wkX hX rfl) (i := 0) (j := 0) rfl rfl rfl X.a_Satin X.n_Satin_step (nm := ["ends", "picks"]) rfl (by decide +kernel) (by decide) (ev_vsh ok.toOk (i := 2) (j := 2) rfl rfl rfl) fun fstep8 => (evb_nx (by rfl) (Wk.s (Wk.a (Wk.a Wk.n))))))
theorem mk_Satin_init {p : Pr} (X : Facts p) : MkF p 3 "Satin" ["many", "step"] (spI p (cA p "Satin") (aCons tInt (aCons tInt aNil)) (fl_Satin p) c_Satin_init) := by
  obtain ⟨f, fd, hF, hmk, hm⟩ := X.k_Satin_init
  exact ⟨f, fd, eq_Satin_init ▸ fn_init (m := 0) hF sc_Satin_init (.cons (.cons .nil)) rfl rfl (fun x g ok hX d => bb_Satin_init X ok hX x d.1 d.2.1), hmk, hm, hF.bindsN fun _ _ _ _ _ _ us hl => match us, hl with | [_, _, _], _ => rfl⟩
abbrev s_Piece_wide : Stmt := ((clsBody (topS 6)).getD 1 (.Pass ⟨0, 0, 0, 0⟩))
abbrev N_Piece_wide : List Str := ["self"]
abbrev V_Piece_wide : List Str := ["self"]
abbrev G_Piece_wide : List Str := []
theorem sc_Piece_wide : Sc s_Piece_wide N_Piece_wide V_Piece_wide ["self"] G_Piece_wide := ⟨⟨rfl, rfl, rfl, by decide +kernel, rfl, by decide +kernel, by decide +kernel⟩, by decide +kernel, by decide +kernel, by decide +kernel⟩
def q_Piece_wide (self1 : Pc) : M Int := M.bind (M.ok self1) fun y2 => M.ok y2.ends
def f_Piece_wide (self1 : Pc) : M Int := M.ok self1.ends
def r_Piece_wide (d : (Pc × Unit)) : M Int := q_Piece_wide d.1
def c_Piece_wide (d : (Pc × Unit)) : M Int := f_Piece_wide d.1
theorem eq_Piece_wide : r_Piece_wide = c_Piece_wide := by funext d; first | (simp only [r_Piece_wide, c_Piece_wide, q_Piece_wide, f_Piece_wide, M.bind_assoc, M.bok]; done) | (simp only [r_Piece_wide, c_Piece_wide, q_Piece_wide, f_Piece_wide, M.bind_assoc, M.bok]; rfl)
theorem bb_Piece_wide {p : Pr} (X : Facts p) {g : G} (ok : OkS p (defScope s_Piece_wide) N_Piece_wide V_Piece_wide G_Piece_wide 0 g) (hX : g.LX = List.replicate N_Piece_wide.length sAny) (self1 : Pc) : EvB g [(sV false (tPc p) self1)] (defBody s_Piece_wide) (fun r => .rt false tInt r) (q_Piece_wide self1) := (evb_ret (wkX hX rfl) .sh (by intro _; rfl) (ev_pcE ok.toOk X.pc (ev_vsh ok.toOk (i := 0) (j := 0) rfl rfl rfl)))
theorem b_Piece_wide {p : Pr} (X : Facts p) : Body p s_Piece_wide N_Piece_wide V_Piece_wide G_Piece_wide 0 (fun (d : (Pc × Unit)) => [(sV false (tPc p) d.1)]) (fun r => .rt false tInt r) r_Piece_wide := fun g ok hX d => bb_Piece_wide X ok hX d.1
theorem mu_Piece_wide {p : Pr} (X : Facts p) : MuF p 1 "wide" [] (spM p (aCons (tPc p) aNil) (fun r => .rt false tInt r) c_Piece_wide) := by
  obtain ⟨f, fd, hF, hc⟩ := X.m_Piece_wide
  exact ⟨f, fd, eq_Piece_wide ▸ fn_rt (m := 0) hF sc_Piece_wide (.cons .nil) rfl rfl (b_Piece_wide X), hc, hF.bindsN fun _ _ _ _ _ _ us hl => match us, hl with | [_], _ => rfl⟩
abbrev s_Piece_high : Stmt := ((clsBody (topS 6)).getD 2 (.Pass ⟨0, 0, 0, 0⟩))
abbrev N_Piece_high : List Str := ["self"]
abbrev V_Piece_high : List Str := ["self"]
abbrev G_Piece_high : List Str := []
theorem sc_Piece_high : Sc s_Piece_high N_Piece_high V_Piece_high ["self"] G_Piece_high := ⟨⟨rfl, rfl, rfl, by decide +kernel, rfl, by decide +kernel, by decide +kernel⟩, by decide +kernel, by decide +kernel, by decide +kernel⟩
def q_Piece_high (self1 : Pc) : M Int := M.bind (M.ok self1) fun y2 => M.ok y2.picks
def f_Piece_high (self1 : Pc) : M Int := M.ok self1.picks
def r_Piece_high (d : (Pc × Unit)) : M Int := q_Piece_high d.1
def c_Piece_high (d : (Pc × Unit)) : M Int := f_Piece_high d.1
theorem eq_Piece_high : r_Piece_high = c_Piece_high := by funext d; first | (simp only [r_Piece_high, c_Piece_high, q_Piece_high, f_Piece_high, M.bind_assoc, M.bok]; done) | (simp only [r_Piece_high, c_Piece_high, q_Piece_high, f_Piece_high, M.bind_assoc, M.bok]; rfl)
theorem bb_Piece_high {p : Pr} (X : Facts p) {g : G} (ok : OkS p (defScope s_Piece_high) N_Piece_high V_Piece_high G_Piece_high 0 g) (hX : g.LX = List.replicate N_Piece_high.length sAny) (self1 : Pc) : EvB g [(sV false (tPc p) self1)] (defBody s_Piece_high) (fun r => .rt false tInt r) (q_Piece_high self1) := (evb_ret (wkX hX rfl) .sh (by intro _; rfl) (ev_pcQ ok.toOk X.pc (ev_vsh ok.toOk (i := 0) (j := 0) rfl rfl rfl)))
theorem b_Piece_high {p : Pr} (X : Facts p) : Body p s_Piece_high N_Piece_high V_Piece_high G_Piece_high 0 (fun (d : (Pc × Unit)) => [(sV false (tPc p) d.1)]) (fun r => .rt false tInt r) r_Piece_high := fun g ok hX d => bb_Piece_high X ok hX d.1
theorem mu_Piece_high {p : Pr} (X : Facts p) : MuF p 1 "high" [] (spM p (aCons (tPc p) aNil) (fun r => .rt false tInt r) c_Piece_high) := by
  obtain ⟨f, fd, hF, hc⟩ := X.m_Piece_high
  exact ⟨f, fd, eq_Piece_high ▸ fn_rt (m := 0) hF sc_Piece_high (.cons .nil) rfl rfl (b_Piece_high X), hc, hF.bindsN fun _ _ _ _ _ _ us hl => match us, hl with | [_], _ => rfl⟩
abbrev s_Repeated_init : Stmt := ((clsBody (topS 17)).getD 0 (.Pass ⟨0, 0, 0, 0⟩))
abbrev N_Repeated_init : List Str := ["self", "inner", "across", "along"]
abbrev V_Repeated_init : List Str := ["self", "inner", "across", "along"]
abbrev G_Repeated_init : List Str := ["Piece"]
theorem sc_Repeated_init : Sc s_Repeated_init N_Repeated_init V_Repeated_init ["self", "inner", "across", "along"] G_Repeated_init := ⟨⟨rfl, rfl, rfl, by decide +kernel, rfl, by decide +kernel, by decide +kernel⟩, by decide +kernel, by decide +kernel, by decide +kernel⟩
def q_Repeated_init (inner1 : Pc) (across2 : Int) (along3 : Int) : M O_Repeated := M.bind (M.bind (M.bind (M.bind (M.ok inner1) fun y4 => c_Piece_wide (y4, ())) fun y6 => M.bind (M.ok across2) fun y7 => mulM y6 y7) fun y14 => M.bind (M.bind (M.bind (M.bind (M.ok inner1) fun y8 => c_Piece_high (y8, ())) fun y10 => M.bind (M.ok along3) fun y11 => mulM y10 y11) fun y12 => M.bind (M.ok ()) fun y13 => M.ok (y12, y13)) fun y15 => M.ok (y14, y15)) fun d20 => M.bind (c_Piece_init d20) fun u16 => M.bind (M.ok inner1) fun finner17 => M.bind (M.ok across2) fun facross18 => M.bind (M.ok along3) fun falong19 => M.ok (u16.1, u16.2.1, finner17, facross18, falong19, ())
def f_Repeated_init (inner1 : Pc) (across2 : Int) (along3 : Int) : M O_Repeated := M.bind (M.bind (M.bind (f_Piece_wide inner1) fun y6 => mulM y6 across2) fun y21 => M.bind (M.bind (f_Piece_high inner1) fun y10 => mulM y10 along3) fun y22 => M.ok (y21, y22, ())) fun (u16 : Int × Int × Unit) => let finner17 : Pc := inner1; let facross18 : Int := across2; let falong19 : Int := along3; M.ok (u16.1, u16.2.1, finner17, facross18, falong19, ())
def r_Repeated_init (d : (Pc × Int × Int × Unit)) : M O_Repeated := q_Repeated_init d.1 d.2.1 d.2.2.1
def c_Repeated_init (d : (Pc × Int × Int × Unit)) : M O_Repeated := f_Repeated_init d.1 d.2.1 d.2.2.1
theorem eq_Repeated_init : r_Repeated_init = c_Repeated_init := by funext d; first | (simp only [r_Repeated_init, c_Repeated_init, q_Repeated_init, f_Repeated_init, M.bind_assoc, M.bok, c_Piece_init, c_Piece_high, c_Piece_wide]; done) | (simp only [r_Repeated_init, c_Repeated_init, q_Repeated_init, f_Repeated_init, M.bind_assoc, M.bok, c_Piece_init, c_Piece_high, c_Piece_wide]; rfl)
theorem bb_Repeated_init {p : Pr} (X : Facts p) {g : G} (ok : OkS p (defScope s_Repeated_init) N_Repeated_init V_Repeated_init G_Repeated_init 2 g) (hX : g.LX = List.replicate N_Repeated_init.length sAny) (x0 : Addr) (inner1 : Pc) (across2 : Int) (along3 : Int) : EvB g (sSelf x0 (cA p "Repeated") [] :: ([(sV false (tPc p) inner1), (sV false tInt across2), (sV false tInt along3)] ++ List.replicate 0 sAny)) (defBody s_Repeated_init) (fun r => .nx (sSelf x0 (cA p "Repeated") (fl_Repeated p r) :: List.replicate 3 sAny)) (q_Repeated_init inner1 across2 along3) := (evb_super (md := .sh) (fl := (fun (r : Int × Int × Unit) => [⟨"ends", Int, tInt, r.1⟩, ⟨"picks", Int, tInt, r.2.1⟩])) ok (wkX hX rfl) (su_Piece X X.a_Repeated X.n_Repeated_ends X.n_Repeated_picks) cPI_ne (by decide) (j := 0) rfl (i := 0) (j2 := 0) rfl rfl rfl (eva_cons (md := .sh) (ev_mul (md' := .sh) ok.toOk (ev_pcMeth0 (T := tInt) (F := fun d => c_Piece_wide (d, ())) ok.toOk (fun d => (mu_Piece_wide X).at d) (by decide) (by decide +kernel) (ev_sh (ev_vsh ok.toOk (i := 1) (j := 1) rfl rfl rfl))) (ev_vsh ok.toOk (i := 2) (j := 2) rfl rfl rfl)) (eva_cons (md := .sh) (ev_mul (md' := .sh) ok.toOk (ev_pcMeth0 (T := tInt) (F := fun d => c_Piece_high (d, ())) ok.toOk (fun d => (mu_Piece_high X).at d) (by decide) (by decide +kernel) (ev_sh (ev_vsh ok.toOk (i := 1) (j := 1) rfl rfl rfl))) (ev_vsh ok.toOk (i := 3) (j := 3) rfl rfl rfl)) eva_nil)) fun u16 => (evb_fld ok (wkX hX rfl) (i := 0) (j := 0) rfl rfl rfl X.a_Repeated X.n_Repeated_inner (nm := ["ends", "picks"]) rfl (by decide +kernel) (by decide) (ev_vsh ok.toOk (i := 1) (j := 1) rfl rfl rfl) fun finner17 => (evb_fld ok (wkX hX rfl) (i := 0) (j := 0) rfl rfl rfl X.a_Repeated X.n_Repeated_across (nm := ["ends", "picks", "inner"]) rfl (by decide +kernel) (by decide) (ev_vsh ok.toOk (i := 2) (j := 2) rfl rfl rfl) fun facross18 => (evb_fld ok (wkX hX rfl) (i := 0) (j := 0) rfl rfl rfl X.a_Repeated X.n_Repeated_along (nm := ["ends", "picks", "inner", "across"]) rfl (by decide +kernel) (by decide) (ev_vsh ok.toOk (i := 3) (j := 3) rfl rfl rfl) fun falong19 => (evb_nx (by rfl) (Wk.s (Wk.a (Wk.a (Wk.a Wk.n)))))))))
theorem mk_Repeated_init {p : Pr} (X : Facts p) : MkF p 3 "Repeated" ["inner", "across", "along"] (spI p (cA p "Repeated") (aCons (tPc p) (aCons tInt (aCons tInt aNil))) (fl_Repeated p) c_Repeated_init) := by
  obtain ⟨f, fd, hF, hmk, hm⟩ := X.k_Repeated_init
  exact ⟨f, fd, eq_Repeated_init ▸ fn_init (m := 0) hF sc_Repeated_init (.cons (.cons (.cons .nil))) rfl rfl (fun x g ok hX d => bb_Repeated_init X ok hX x d.1 d.2.1 d.2.2.1), hmk, hm, hF.bindsN fun _ _ _ _ _ _ us hl => match us, hl with | [_, _, _, _], _ => rfl⟩
abbrev s_numbered_piece : Stmt := (topS 36)
abbrev N_numbered_piece : List Str := ["word", "things"]
abbrev V_numbered_piece : List Str := ["word", "things"]
abbrev G_numbered_piece : List Str := ["must_fit", "Twill", "no_common", "Satin", "Repeated"]
theorem sc_numbered_piece : Sc s_numbered_piece N_numbered_piece V_numbered_piece ["word", "things"] G_numbered_piece := ⟨⟨rfl, rfl, rfl, by decide +kernel, rfl, by decide +kernel, by decide +kernel⟩, by decide +kernel, by decide +kernel, by decide +kernel⟩
def q_numbered_piece (word1 : Tx) (things2 : (List (Pc ⊕ Int))) : M Pc := M.bind (M.bind (M.ok word1) fun y3 => M.bind (M.ok (tx "twill")) fun y4 => M.ok (decide (y3 = y4))) fun c5 => if c5 = true then M.bind (M.bind (M.bind (M.bind (M.bind (M.bind (M.bind (M.ok things2) fun y6 => M.bind (M.ok (0 : Int)) fun y7 => getM y6 y7) fun y8 => unr y8) fun y9 => M.bind (M.ok (0 : Int)) fun y10 => M.ok (decide (y10 < y9))) fun c16 => if c16 = true then M.bind (M.bind (M.bind (M.ok things2) fun y11 => M.bind (M.ok (1 : Int)) fun y12 => getM y11 y12) fun y13 => unr y13) fun y14 => M.bind (M.ok (0 : Int)) fun y15 => M.ok (decide (y15 < y14)) else M.ok false) fun y18 => M.bind (M.ok ()) fun y19 => M.ok (y18, y19)) c_must_fit) fun u21 => M.bind (M.bind (M.bind (M.bind (M.bind (M.ok things2) fun y22 => M.bind (M.ok (0 : Int)) fun y23 => getM y22 y23) fun y24 => unr y24) fun y30 => M.bind (M.bind (M.bind (M.bind (M.ok things2) fun y25 => M.bind (M.ok (1 : Int)) fun y26 => getM y25 y26) fun y27 => unr y27) fun y28 => M.bind (M.ok ()) fun y29 => M.ok (y28, y29)) fun y31 => M.ok (y30, y31)) c_Twill_init) fun y34 => M.ok (mk_Twill y34) else M.bind (M.bind (M.ok word1) fun y36 => M.bind (M.ok (tx "satin")) fun y37 => M.ok (decide (y36 = y37))) fun c38 => if c38 = true then M.bind (M.bind (M.bind (M.bind (M.bind (M.ok (0 : Int)) fun y42 => M.bind (M.bind (M.bind (M.ok things2) fun y39 => M.bind (M.ok (1 : Int)) fun y40 => getM y39 y40) fun y41 => unr y41) fun y43 => M.ok (decide (y42 < y43))) fun c66 => if c66 = true then M.bind (M.bind (M.bind (M.bind (M.ok things2) fun y44 => M.bind (M.ok (1 : Int)) fun y45 => getM y44 y45) fun y46 => unr y46) fun y50 => M.bind (M.bind (M.bind (M.ok things2) fun y47 => M.bind (M.ok (0 : Int)) fun y48 => getM y47 y48) fun y49 => unr y49) fun y51 => M.ok (decide (y50 < y51))) fun c64 => if c64 = true then M.bind (M.bind (M.bind (M.bind (M.ok things2) fun y52 => M.bind (M.ok (0 : Int)) fun y53 => getM y52 y53) fun y54 => unr y54) fun y60 => M.bind (M.bind (M.bind (M.bind (M.ok things2) fun y55 => M.bind (M.ok (1 : Int)) fun y56 => getM y55 y56) fun y57 => unr y57) fun y58 => M.bind (M.ok ()) fun y59 => M.ok (y58, y59)) fun y61 => M.ok (y60, y61)) c_no_common else M.ok false else M.ok false) fun y68 => M.bind (M.ok ()) fun y69 => M.ok (y68, y69)) c_must_fit) fun u71 => M.bind (M.bind (M.bind (M.bind (M.bind (M.ok things2) fun y72 => M.bind (M.ok (0 : Int)) fun y73 => getM y72 y73) fun y74 => unr y74) fun y80 => M.bind (M.bind (M.bind (M.bind (M.ok things2) fun y75 => M.bind (M.ok (1 : Int)) fun y76 => getM y75 y76) fun y77 => unr y77) fun y78 => M.bind (M.ok ()) fun y79 => M.ok (y78, y79)) fun y81 => M.ok (y80, y81)) c_Satin_init) fun y84 => M.ok (mk_Satin y84) else M.bind (M.bind (M.bind (M.bind (M.bind (M.bind (M.bind (M.ok things2) fun y86 => M.bind (M.ok (1 : Int)) fun y87 => getM y86 y87) fun y88 => unr y88) fun y89 => M.bind (M.ok (0 : Int)) fun y90 => M.ok (decide (y90 < y89))) fun c96 => if c96 = true then M.bind (M.bind (M.bind (M.ok things2) fun y91 => M.bind (M.ok (2 : Int)) fun y92 => getM y91 y92) fun y93 => unr y93) fun y94 => M.bind (M.ok (0 : Int)) fun y95 => M.ok (decide (y95 < y94)) else M.ok false) fun y98 => M.bind (M.ok ()) fun y99 => M.ok (y98, y99)) c_must_fit) fun u101 => M.bind (M.bind (M.bind (M.bind (M.bind (M.ok things2) fun y102 => M.bind (M.ok (0 : Int)) fun y103 => getM y102 y103) fun y104 => unl y104) fun y115 => M.bind (M.bind (M.bind (M.bind (M.ok things2) fun y105 => M.bind (M.ok (1 : Int)) fun y106 => getM y105 y106) fun y107 => unr y107) fun y113 => M.bind (M.bind (M.bind (M.bind (M.ok things2) fun y108 => M.bind (M.ok (2 : Int)) fun y109 => getM y108 y109) fun y110 => unr y110) fun y111 => M.bind (M.ok ()) fun y112 => M.ok (y111, y112)) fun y114 => M.ok (y113, y114)) fun y116 => M.ok (y115, y116)) c_Repeated_init) fun y120 => M.ok (mk_Repeated y120)
def f_numbered_piece (word1 : Tx) (things2 : (List (Pc ⊕ Int))) : M Pc := if (decide (word1 = (tx "twill"))) = true then M.bind (M.bind (M.bind (M.bind (M.bind (getM things2 (0 : Int)) fun y8 => unr y8) fun y9 => M.ok (decide ((0 : Int) < y9))) fun c17 => if c17 = true then M.bind (M.bind (getM things2 (1 : Int)) fun y13 => unr y13) fun y14 => M.ok (decide ((0 : Int) < y14)) else M.ok false) fun y20 => f_must_fit y20) fun u21 => M.bind (M.bind (M.bind (getM things2 (0 : Int)) fun y24 => unr y24) fun y32 => M.bind (M.bind (getM things2 (1 : Int)) fun y27 => unr y27) fun y33 => f_Twill_init y32 y33) fun y34 => M.ok (mk_Twill y34) else if (decide (word1 = (tx "satin"))) = true then M.bind (M.bind (M.bind (M.bind (M.bind (getM things2 (1 : Int)) fun y41 => unr y41) fun y43 => M.ok (decide ((0 : Int) < y43))) fun c67 => if c67 = true then M.bind (M.bind (M.bind (getM things2 (1 : Int)) fun y46 => unr y46) fun y50 => M.bind (M.bind (getM things2 (0 : Int)) fun y49 => unr y49) fun y51 => M.ok (decide (y50 < y51))) fun c65 => if c65 = true then M.bind (M.bind (getM things2 (0 : Int)) fun y54 => unr y54) fun y62 => M.bind (M.bind (getM things2 (1 : Int)) fun y57 => unr y57) fun y63 => f_no_common y62 y63 else M.ok false else M.ok false) fun y70 => f_must_fit y70) fun u71 => M.bind (M.bind (M.bind (getM things2 (0 : Int)) fun y74 => unr y74) fun y82 => M.bind (M.bind (getM things2 (1 : Int)) fun y77 => unr y77) fun y83 => f_Satin_init y82 y83) fun y84 => M.ok (mk_Satin y84) else M.bind (M.bind (M.bind (M.bind (M.bind (getM things2 (1 : Int)) fun y88 => unr y88) fun y89 => M.ok (decide ((0 : Int) < y89))) fun c97 => if c97 = true then M.bind (M.bind (getM things2 (2 : Int)) fun y93 => unr y93) fun y94 => M.ok (decide ((0 : Int) < y94)) else M.ok false) fun y100 => f_must_fit y100) fun u101 => M.bind (M.bind (M.bind (getM things2 (0 : Int)) fun y104 => unl y104) fun y117 => M.bind (M.bind (getM things2 (1 : Int)) fun y107 => unr y107) fun y118 => M.bind (M.bind (getM things2 (2 : Int)) fun y110 => unr y110) fun y119 => f_Repeated_init y117 y118 y119) fun y120 => M.ok (mk_Repeated y120)
def r_numbered_piece (d : (Tx × (List (Pc ⊕ Int)) × Unit)) : M Pc := q_numbered_piece d.1 d.2.1
def c_numbered_piece (d : (Tx × (List (Pc ⊕ Int)) × Unit)) : M Pc := f_numbered_piece d.1 d.2.1
theorem eq_numbered_piece : r_numbered_piece = c_numbered_piece := by funext d; first | (simp only [r_numbered_piece, c_numbered_piece, q_numbered_piece, f_numbered_piece, M.bind_assoc, M.bok, c_Repeated_init, c_Satin_init, c_Twill_init, c_must_fit, c_no_common]; done) | (simp only [r_numbered_piece, c_numbered_piece, q_numbered_piece, f_numbered_piece, M.bind_assoc, M.bok, c_Repeated_init, c_Satin_init, c_Twill_init, c_must_fit, c_no_common]; rfl)
theorem bb_numbered_piece {p : Pr} (X : Facts p) {g : G} (ok : OkS p (defScope s_numbered_piece) N_numbered_piece V_numbered_piece G_numbered_piece 4 g) (hX : g.LX = List.replicate N_numbered_piece.length sAny) (word1 : Tx) (things2 : (List (Pc ⊕ Int))) : EvB g [(sV false tStr word1), (sV false (tList (tSum (tPc p) tInt)) things2)] (defBody s_numbered_piece) (fun r => .rt false (tPc p) r) (q_numbered_piece word1 things2) := (evb_ifx (wkX hX rfl) (evt_c ok.toOk (c_eq s_str) (ev_vsh ok.toOk (i := 0) (j := 0) rfl rfl rfl) (ev_str (md := .sh) (by decide +kernel))) (evb_expr (wkX hX rfl) (ev_call (md' := .sh) ok.toOk (fn_must_fit X) (by decide) (j := 0) rfl .sh (eva_cons (md := .sh) (ev_and (ev_c (md' := .sh) ok.toOk c_gt (ev_unr (ev_ixQ ok.toOk sq_l (ev_vsh ok.toOk (i := 1) (j := 1) rfl rfl rfl) (ev_int (md := .sh)))) (ev_int (md := .sh))) (ev_one (ev_c (md' := .sh) ok.toOk c_gt (ev_unr (ev_ixQ ok.toOk sq_l (ev_vsh ok.toOk (i := 1) (j := 1) rfl rfl rfl) (ev_int (md := .sh)))) (ev_int (md := .sh))))) eva_nil)) fun u21 => (evb_ret (wkX hX rfl) .sh (by intro _; rfl) (ev_as (T := tPc p) (d2 := mk_Twill) (fun d v R r => pcM_Twill r) (ev_make ok.toOk (mk_Twill_init X) (by decide) (j := 1) rfl (eva_cons (md := .sh) (ev_unr (ev_ixQ ok.toOk sq_l (ev_vsh ok.toOk (i := 1) (j := 1) rfl rfl rfl) (ev_int (md := .sh)))) (eva_cons (md := .sh) (ev_unr (ev_ixQ ok.toOk sq_l (ev_vsh ok.toOk (i := 1) (j := 1) rfl rfl rfl) (ev_int (md := .sh)))) eva_nil)))))) (evb_ifx (wkX hX rfl) (evt_c ok.toOk (c_eq s_str) (ev_vsh ok.toOk (i := 0) (j := 0) rfl rfl rfl) (ev_str (md := .sh) (by decide +kernel))) (evb_expr (wkX hX rfl) (ev_call (md' := .sh) ok.toOk (fn_must_fit X) (by decide) (j := 0) rfl .sh (eva_cons (md := .sh) (ev_and (ev_c (md' := .sh) ok.toOk c_lt (ev_int (md := .sh)) (ev_unr (ev_ixQ ok.toOk sq_l (ev_vsh ok.toOk (i := 1) (j := 1) rfl rfl rfl) (ev_int (md := .sh))))) (ev_and (ev_c (md' := .sh) ok.toOk c_lt (ev_unr (ev_ixQ ok.toOk sq_l (ev_vsh ok.toOk (i := 1) (j := 1) rfl rfl rfl) (ev_int (md := .sh)))) (ev_unr (ev_ixQ ok.toOk sq_l (ev_vsh ok.toOk (i := 1) (j := 1) rfl rfl rfl) (ev_int (md := .sh))))) (ev_one (ev_call (md' := .sh) ok.toOk (fn_no_common X) (by decide) (j := 2) rfl .sh (eva_cons (md := .sh) (ev_unr (ev_ixQ ok.toOk sq_l (ev_vsh ok.toOk (i := 1) (j := 1) rfl rfl rfl) (ev_int (md := .sh)))) (eva_cons (md := .sh) (ev_unr (ev_ixQ ok.toOk sq_l (ev_vsh ok.toOk (i := 1) (j := 1) rfl rfl rfl) (ev_int (md := .sh)))) eva_nil)))))) eva_nil)) fun u71 => (evb_ret (wkX hX rfl) .sh (by intro _; rfl) (ev_as (T := tPc p) (d2 := mk_Satin) (fun d v R r => pcM_Satin r) (ev_make ok.toOk (mk_Satin_init X) (by decide) (j := 3) rfl (eva_cons (md := .sh) (ev_unr (ev_ixQ ok.toOk sq_l (ev_vsh ok.toOk (i := 1) (j := 1) rfl rfl rfl) (ev_int (md := .sh)))) (eva_cons (md := .sh) (ev_unr (ev_ixQ ok.toOk sq_l (ev_vsh ok.toOk (i := 1) (j := 1) rfl rfl rfl) (ev_int (md := .sh)))) eva_nil)))))) (evb_expr (wkX hX rfl) (ev_call (md' := .sh) ok.toOk (fn_must_fit X) (by decide) (j := 0) rfl .sh (eva_cons (md := .sh) (ev_and (ev_c (md' := .sh) ok.toOk c_gt (ev_unr (ev_ixQ ok.toOk sq_l (ev_vsh ok.toOk (i := 1) (j := 1) rfl rfl rfl) (ev_int (md := .sh)))) (ev_int (md := .sh))) (ev_one (ev_c (md' := .sh) ok.toOk c_gt (ev_unr (ev_ixQ ok.toOk sq_l (ev_vsh ok.toOk (i := 1) (j := 1) rfl rfl rfl) (ev_int (md := .sh)))) (ev_int (md := .sh))))) eva_nil)) fun u101 => (evb_ret (wkX hX rfl) .sh (by intro _; rfl) (ev_as (T := tPc p) (d2 := mk_Repeated) (fun d v R r => pcM_Repeated r) (ev_make ok.toOk (mk_Repeated_init X) (by decide) (j := 4) rfl (eva_cons (md := .sh) (ev_unl (ev_ixQ ok.toOk sq_l (ev_vsh ok.toOk (i := 1) (j := 1) rfl rfl rfl) (ev_int (md := .sh)))) (eva_cons (md := .sh) (ev_unr (ev_ixQ ok.toOk sq_l (ev_vsh ok.toOk (i := 1) (j := 1) rfl rfl rfl) (ev_int (md := .sh)))) (eva_cons (md := .sh) (ev_unr (ev_ixQ ok.toOk sq_l (ev_vsh ok.toOk (i := 1) (j := 1) rfl rfl rfl) (ev_int (md := .sh)))) eva_nil)))))))))
theorem b_numbered_piece {p : Pr} (X : Facts p) : Body p s_numbered_piece N_numbered_piece V_numbered_piece G_numbered_piece 4 (fun (d : (Tx × (List (Pc ⊕ Int)) × Unit)) => [(sV false tStr d.1), (sV false (tList (tSum (tPc p) tInt)) d.2.1)]) (fun r => .rt false (tPc p) r) r_numbered_piece := fun g ok hX d => bb_numbered_piece X ok hX d.1 d.2.1
theorem fn_numbered_piece {p : Pr} (X : Facts p) : Fn p 5 "numbered_piece" ["word", "things"] (spM p (aCons tStr (aCons (tList (tSum (tPc p) tInt)) aNil)) (fun r => .rt false (tPc p) r) c_numbered_piece) := by
  obtain ⟨f, fd, hF, hm⟩ := X.d_numbered_piece
  exact ⟨f, fd, eq_numbered_piece ▸ fn_rt (m := 0) hF sc_numbered_piece (.cons (.cons .nil)) rfl rfl (b_numbered_piece X), hm, hF.kp, hF.bindsN fun _ _ _ _ _ _ us hl => match us, hl with | [_, _], _ => rfl⟩
abbrev s_Mirrored_init : Stmt := ((clsBody (topS 13)).getD 0 (.Pass ⟨0, 0, 0, 0⟩))
abbrev N_Mirrored_init : List Str := ["self", "inner"]
abbrev V_Mirrored_init : List Str := ["self", "inner"]
abbrev G_Mirrored_init : List Str := ["Piece"]
theorem sc_Mirrored_init : Sc s_Mirrored_init N_Mirrored_init V_Mirrored_init ["self", "inner"] G_Mirrored_init := ⟨⟨rfl, rfl, rfl, by decide +kernel, rfl, by decide +kernel, by decide +kernel⟩, by decide +kernel, by decide +kernel, by decide +kernel⟩
def q_Mirrored_init (inner1 : Pc) : M O_Mirrored := M.bind (M.bind (M.bind (M.ok inner1) fun y2 => c_Piece_wide (y2, ())) fun y8 => M.bind (M.bind (M.bind (M.ok inner1) fun y4 => c_Piece_high (y4, ())) fun y6 => M.bind (M.ok ()) fun y7 => M.ok (y6, y7)) fun y9 => M.ok (y8, y9)) fun d12 => M.bind (c_Piece_init d12) fun u10 => M.bind (M.ok inner1) fun finner11 => M.ok (u10.1, u10.2.1, finner11, ())
def f_Mirrored_init (inner1 : Pc) : M O_Mirrored := M.bind (M.bind (f_Piece_wide inner1) fun y13 => M.bind (f_Piece_high inner1) fun y14 => M.ok (y13, y14, ())) fun (u10 : Int × Int × Unit) => let finner11 : Pc := inner1; M.ok (u10.1, u10.2.1, finner11, ())
def r_Mirrored_init (d : (Pc × Unit)) : M O_Mirrored := q_Mirrored_init d.1
def c_Mirrored_init (d : (Pc × Unit)) : M O_Mirrored := f_Mirrored_init d.1
theorem eq_Mirrored_init : r_Mirrored_init = c_Mirrored_init := by funext d; first | (simp only [r_Mirrored_init, c_Mirrored_init, q_Mirrored_init, f_Mirrored_init, M.bind_assoc, M.bok, c_Piece_init, c_Piece_high, c_Piece_wide]; done) | (simp only [r_Mirrored_init, c_Mirrored_init, q_Mirrored_init, f_Mirrored_init, M.bind_assoc, M.bok, c_Piece_init, c_Piece_high, c_Piece_wide]; rfl)
theorem bb_Mirrored_init {p : Pr} (X : Facts p) {g : G} (ok : OkS p (defScope s_Mirrored_init) N_Mirrored_init V_Mirrored_init G_Mirrored_init 2 g) (hX : g.LX = List.replicate N_Mirrored_init.length sAny) (x0 : Addr) (inner1 : Pc) : EvB g (sSelf x0 (cA p "Mirrored") [] :: ([(sV false (tPc p) inner1)] ++ List.replicate 0 sAny)) (defBody s_Mirrored_init) (fun r => .nx (sSelf x0 (cA p "Mirrored") (fl_Mirrored p r) :: List.replicate 1 sAny)) (q_Mirrored_init inner1) := (evb_super (md := .sh) (fl := (fun (r : Int × Int × Unit) => [⟨"ends", Int, tInt, r.1⟩, ⟨"picks", Int, tInt, r.2.1⟩])) ok (wkX hX rfl) (su_Piece X X.a_Mirrored X.n_Mirrored_ends X.n_Mirrored_picks) cPI_ne (by decide) (j := 0) rfl (i := 0) (j2 := 0) rfl rfl rfl (eva_cons (md := .sh) (ev_pcMeth0 (T := tInt) (F := fun d => c_Piece_wide (d, ())) ok.toOk (fun d => (mu_Piece_wide X).at d) (by decide) (by decide +kernel) (ev_sh (ev_vsh ok.toOk (i := 1) (j := 1) rfl rfl rfl))) (eva_cons (md := .sh) (ev_pcMeth0 (T := tInt) (F := fun d => c_Piece_high (d, ())) ok.toOk (fun d => (mu_Piece_high X).at d) (by decide) (by decide +kernel) (ev_sh (ev_vsh ok.toOk (i := 1) (j := 1) rfl rfl rfl))) eva_nil)) fun u10 => (evb_fld ok (wkX hX rfl) (i := 0) (j := 0) rfl rfl rfl X.a_Mirrored X.n_Mirrored_inner (nm := ["ends", "picks"]) rfl (by decide +kernel) (by decide) (ev_vsh ok.toOk (i := 1) (j := 1) rfl rfl rfl) fun finner11 => (evb_nx (by rfl) (Wk.s (Wk.a Wk.n)))))
theorem mk_Mirrored_init {p : Pr} (X : Facts p) : MkF p 3 "Mirrored" ["inner"] (spI p (cA p "Mirrored") (aCons (tPc p) aNil) (fl_Mirrored p) c_Mirrored_init) := by
  obtain ⟨f, fd, hF, hmk, hm⟩ := X.k_Mirrored_init
  exact ⟨f, fd, eq_Mirrored_init ▸ fn_init (m := 0) hF sc_Mirrored_init (.cons .nil) rfl rfl (fun x g ok hX d => bb_Mirrored_init X ok hX x d.1), hmk, hm, hF.bindsN fun _ _ _ _ _ _ us hl => match us, hl with | [_, _], _ => rfl⟩
abbrev s_Upended_init : Stmt := ((clsBody (topS 15)).getD 0 (.Pass ⟨0, 0, 0, 0⟩))
abbrev N_Upended_init : List Str := ["self", "inner"]
abbrev V_Upended_init : List Str := ["self", "inner"]
abbrev G_Upended_init : List Str := ["Piece"]
theorem sc_Upended_init : Sc s_Upended_init N_Upended_init V_Upended_init ["self", "inner"] G_Upended_init := ⟨⟨rfl, rfl, rfl, by decide +kernel, rfl, by decide +kernel, by decide +kernel⟩, by decide +kernel, by decide +kernel, by decide +kernel⟩
def q_Upended_init (inner1 : Pc) : M O_Upended := M.bind (M.bind (M.bind (M.ok inner1) fun y2 => c_Piece_wide (y2, ())) fun y8 => M.bind (M.bind (M.bind (M.ok inner1) fun y4 => c_Piece_high (y4, ())) fun y6 => M.bind (M.ok ()) fun y7 => M.ok (y6, y7)) fun y9 => M.ok (y8, y9)) fun d12 => M.bind (c_Piece_init d12) fun u10 => M.bind (M.ok inner1) fun finner11 => M.ok (u10.1, u10.2.1, finner11, ())
def f_Upended_init (inner1 : Pc) : M O_Upended := M.bind (M.bind (f_Piece_wide inner1) fun y13 => M.bind (f_Piece_high inner1) fun y14 => M.ok (y13, y14, ())) fun (u10 : Int × Int × Unit) => let finner11 : Pc := inner1; M.ok (u10.1, u10.2.1, finner11, ())
def r_Upended_init (d : (Pc × Unit)) : M O_Upended := q_Upended_init d.1
def c_Upended_init (d : (Pc × Unit)) : M O_Upended := f_Upended_init d.1
theorem eq_Upended_init : r_Upended_init = c_Upended_init := by funext d; first | (simp only [r_Upended_init, c_Upended_init, q_Upended_init, f_Upended_init, M.bind_assoc, M.bok, c_Piece_init, c_Piece_high, c_Piece_wide]; done) | (simp only [r_Upended_init, c_Upended_init, q_Upended_init, f_Upended_init, M.bind_assoc, M.bok, c_Piece_init, c_Piece_high, c_Piece_wide]; rfl)
theorem bb_Upended_init {p : Pr} (X : Facts p) {g : G} (ok : OkS p (defScope s_Upended_init) N_Upended_init V_Upended_init G_Upended_init 2 g) (hX : g.LX = List.replicate N_Upended_init.length sAny) (x0 : Addr) (inner1 : Pc) : EvB g (sSelf x0 (cA p "Upended") [] :: ([(sV false (tPc p) inner1)] ++ List.replicate 0 sAny)) (defBody s_Upended_init) (fun r => .nx (sSelf x0 (cA p "Upended") (fl_Upended p r) :: List.replicate 1 sAny)) (q_Upended_init inner1) := (evb_super (md := .sh) (fl := (fun (r : Int × Int × Unit) => [⟨"ends", Int, tInt, r.1⟩, ⟨"picks", Int, tInt, r.2.1⟩])) ok (wkX hX rfl) (su_Piece X X.a_Upended X.n_Upended_ends X.n_Upended_picks) cPI_ne (by decide) (j := 0) rfl (i := 0) (j2 := 0) rfl rfl rfl (eva_cons (md := .sh) (ev_pcMeth0 (T := tInt) (F := fun d => c_Piece_wide (d, ())) ok.toOk (fun d => (mu_Piece_wide X).at d) (by decide) (by decide +kernel) (ev_sh (ev_vsh ok.toOk (i := 1) (j := 1) rfl rfl rfl))) (eva_cons (md := .sh) (ev_pcMeth0 (T := tInt) (F := fun d => c_Piece_high (d, ())) ok.toOk (fun d => (mu_Piece_high X).at d) (by decide) (by decide +kernel) (ev_sh (ev_vsh ok.toOk (i := 1) (j := 1) rfl rfl rfl))) eva_nil)) fun u10 => (evb_fld ok (wkX hX rfl) (i := 0) (j := 0) rfl rfl rfl X.a_Upended X.n_Upended_inner (nm := ["ends", "picks"]) rfl (by decide +kernel) (by decide) (ev_vsh ok.toOk (i := 1) (j := 1) rfl rfl rfl) fun finner11 => (evb_nx (by rfl) (Wk.s (Wk.a Wk.n)))))
theorem mk_Upended_init {p : Pr} (X : Facts p) : MkF p 3 "Upended" ["inner"] (spI p (cA p "Upended") (aCons (tPc p) aNil) (fl_Upended p) c_Upended_init) := by
  obtain ⟨f, fd, hF, hmk, hm⟩ := X.k_Upended_init
  exact ⟨f, fd, eq_Upended_init ▸ fn_init (m := 0) hF sc_Upended_init (.cons .nil) rfl rfl (fun x g ok hX d => bb_Upended_init X ok hX x d.1), hmk, hm, hF.bindsN fun _ _ _ _ _ _ us hl => match us, hl with | [_, _], _ => rfl⟩
abbrev s_Backed_init : Stmt := ((clsBody (topS 13)).getD 0 (.Pass ⟨0, 0, 0, 0⟩))
abbrev N_Backed_init : List Str := ["self", "inner"]
abbrev V_Backed_init : List Str := ["self", "inner"]
abbrev G_Backed_init : List Str := ["Piece"]
theorem sc_Backed_init : Sc s_Backed_init N_Backed_init V_Backed_init ["self", "inner"] G_Backed_init := ⟨⟨rfl, rfl, rfl, by decide +kernel, rfl, by decide +kernel, by decide +kernel⟩, by decide +kernel, by decide +kernel, by decide +kernel⟩
def q_Backed_init (inner1 : Pc) : M O_Backed := M.bind (M.bind (M.bind (M.ok inner1) fun y2 => c_Piece_wide (y2, ())) fun y8 => M.bind (M.bind (M.bind (M.ok inner1) fun y4 => c_Piece_high (y4, ())) fun y6 => M.bind (M.ok ()) fun y7 => M.ok (y6, y7)) fun y9 => M.ok (y8, y9)) fun d12 => M.bind (c_Piece_init d12) fun u10 => M.bind (M.ok inner1) fun finner11 => M.ok (u10.1, u10.2.1, finner11, ())
def f_Backed_init (inner1 : Pc) : M O_Backed := M.bind (M.bind (f_Piece_wide inner1) fun y13 => M.bind (f_Piece_high inner1) fun y14 => M.ok (y13, y14, ())) fun (u10 : Int × Int × Unit) => let finner11 : Pc := inner1; M.ok (u10.1, u10.2.1, finner11, ())
def r_Backed_init (d : (Pc × Unit)) : M O_Backed := q_Backed_init d.1
def c_Backed_init (d : (Pc × Unit)) : M O_Backed := f_Backed_init d.1
theorem eq_Backed_init : r_Backed_init = c_Backed_init := by funext d; first | (simp only [r_Backed_init, c_Backed_init, q_Backed_init, f_Backed_init, M.bind_assoc, M.bok, c_Piece_init, c_Piece_high, c_Piece_wide]; done) | (simp only [r_Backed_init, c_Backed_init, q_Backed_init, f_Backed_init, M.bind_assoc, M.bok, c_Piece_init, c_Piece_high, c_Piece_wide]; rfl)
theorem bb_Backed_init {p : Pr} (X : Facts p) {g : G} (ok : OkS p (defScope s_Backed_init) N_Backed_init V_Backed_init G_Backed_init 2 g) (hX : g.LX = List.replicate N_Backed_init.length sAny) (x0 : Addr) (inner1 : Pc) : EvB g (sSelf x0 (cA p "Backed") [] :: ([(sV false (tPc p) inner1)] ++ List.replicate 0 sAny)) (defBody s_Backed_init) (fun r => .nx (sSelf x0 (cA p "Backed") (fl_Backed p r) :: List.replicate 1 sAny)) (q_Backed_init inner1) := (evb_super (md := .sh) (fl := (fun (r : Int × Int × Unit) => [⟨"ends", Int, tInt, r.1⟩, ⟨"picks", Int, tInt, r.2.1⟩])) ok (wkX hX rfl) (su_Piece X X.a_Backed X.n_Backed_ends X.n_Backed_picks) cPI_ne (by decide) (j := 0) rfl (i := 0) (j2 := 0) rfl rfl rfl (eva_cons (md := .sh) (ev_pcMeth0 (T := tInt) (F := fun d => c_Piece_wide (d, ())) ok.toOk (fun d => (mu_Piece_wide X).at d) (by decide) (by decide +kernel) (ev_sh (ev_vsh ok.toOk (i := 1) (j := 1) rfl rfl rfl))) (eva_cons (md := .sh) (ev_pcMeth0 (T := tInt) (F := fun d => c_Piece_high (d, ())) ok.toOk (fun d => (mu_Piece_high X).at d) (by decide) (by decide +kernel) (ev_sh (ev_vsh ok.toOk (i := 1) (j := 1) rfl rfl rfl))) eva_nil)) fun u10 => (evb_fld ok (wkX hX rfl) (i := 0) (j := 0) rfl rfl rfl X.a_Backed X.n_Backed_inner (nm := ["ends", "picks"]) rfl (by decide +kernel) (by decide) (ev_vsh ok.toOk (i := 1) (j := 1) rfl rfl rfl) fun finner11 => (evb_nx (by rfl) (Wk.s (Wk.a Wk.n)))))
theorem mk_Backed_init {p : Pr} (X : Facts p) : MkF p 3 "Backed" ["inner"] (spI p (cA p "Backed") (aCons (tPc p) aNil) (fl_Backed p) c_Backed_init) := by
  obtain ⟨f, fd, hF, hmk, hm⟩ := X.k_Backed_init
  exact ⟨f, fd, eq_Backed_init ▸ fn_init (m := 0) hF sc_Backed_init (.cons .nil) rfl rfl (fun x g ok hX d => bb_Backed_init X ok hX x d.1), hmk, hm, hF.bindsN fun _ _ _ _ _ _ us hl => match us, hl with | [_, _], _ => rfl⟩
abbrev s_Quartered_init : Stmt := ((clsBody (topS 16)).getD 0 (.Pass ⟨0, 0, 0, 0⟩))
abbrev N_Quartered_init : List Str := ["self", "inner"]
abbrev V_Quartered_init : List Str := ["self", "inner"]
abbrev G_Quartered_init : List Str := ["Piece"]
theorem sc_Quartered_init : Sc s_Quartered_init N_Quartered_init V_Quartered_init ["self", "inner"] G_Quartered_init := ⟨⟨rfl, rfl, rfl, by decide +kernel, rfl, by decide +kernel, by decide +kernel⟩, by decide +kernel, by decide +kernel, by decide +kernel⟩
def q_Quartered_init (inner1 : Pc) : M O_Quartered := M.bind (M.bind (M.bind (M.ok inner1) fun y2 => c_Piece_high (y2, ())) fun y8 => M.bind (M.bind (M.bind (M.ok inner1) fun y4 => c_Piece_wide (y4, ())) fun y6 => M.bind (M.ok ()) fun y7 => M.ok (y6, y7)) fun y9 => M.ok (y8, y9)) fun d12 => M.bind (c_Piece_init d12) fun u10 => M.bind (M.ok inner1) fun finner11 => M.ok (u10.1, u10.2.1, finner11, ())
def f_Quartered_init (inner1 : Pc) : M O_Quartered := M.bind (M.bind (f_Piece_high inner1) fun y13 => M.bind (f_Piece_wide inner1) fun y14 => M.ok (y13, y14, ())) fun (u10 : Int × Int × Unit) => let finner11 : Pc := inner1; M.ok (u10.1, u10.2.1, finner11, ())
def r_Quartered_init (d : (Pc × Unit)) : M O_Quartered := q_Quartered_init d.1
def c_Quartered_init (d : (Pc × Unit)) : M O_Quartered := f_Quartered_init d.1
theorem eq_Quartered_init : r_Quartered_init = c_Quartered_init := by funext d; first | (simp only [r_Quartered_init, c_Quartered_init, q_Quartered_init, f_Quartered_init, M.bind_assoc, M.bok, c_Piece_init, c_Piece_high, c_Piece_wide]; done) | (simp only [r_Quartered_init, c_Quartered_init, q_Quartered_init, f_Quartered_init, M.bind_assoc, M.bok, c_Piece_init, c_Piece_high, c_Piece_wide]; rfl)
theorem bb_Quartered_init {p : Pr} (X : Facts p) {g : G} (ok : OkS p (defScope s_Quartered_init) N_Quartered_init V_Quartered_init G_Quartered_init 2 g) (hX : g.LX = List.replicate N_Quartered_init.length sAny) (x0 : Addr) (inner1 : Pc) : EvB g (sSelf x0 (cA p "Quartered") [] :: ([(sV false (tPc p) inner1)] ++ List.replicate 0 sAny)) (defBody s_Quartered_init) (fun r => .nx (sSelf x0 (cA p "Quartered") (fl_Quartered p r) :: List.replicate 1 sAny)) (q_Quartered_init inner1) := (evb_super (md := .sh) (fl := (fun (r : Int × Int × Unit) => [⟨"ends", Int, tInt, r.1⟩, ⟨"picks", Int, tInt, r.2.1⟩])) ok (wkX hX rfl) (su_Piece X X.a_Quartered X.n_Quartered_ends X.n_Quartered_picks) cPI_ne (by decide) (j := 0) rfl (i := 0) (j2 := 0) rfl rfl rfl (eva_cons (md := .sh) (ev_pcMeth0 (T := tInt) (F := fun d => c_Piece_high (d, ())) ok.toOk (fun d => (mu_Piece_high X).at d) (by decide) (by decide +kernel) (ev_sh (ev_vsh ok.toOk (i := 1) (j := 1) rfl rfl rfl))) (eva_cons (md := .sh) (ev_pcMeth0 (T := tInt) (F := fun d => c_Piece_wide (d, ())) ok.toOk (fun d => (mu_Piece_wide X).at d) (by decide) (by decide +kernel) (ev_sh (ev_vsh ok.toOk (i := 1) (j := 1) rfl rfl rfl))) eva_nil)) fun u10 => (evb_fld ok (wkX hX rfl) (i := 0) (j := 0) rfl rfl rfl X.a_Quartered X.n_Quartered_inner (nm := ["ends", "picks"]) rfl (by decide +kernel) (by decide) (ev_vsh ok.toOk (i := 1) (j := 1) rfl rfl rfl) fun finner11 => (evb_nx (by rfl) (Wk.s (Wk.a Wk.n)))))
theorem mk_Quartered_init {p : Pr} (X : Facts p) : MkF p 3 "Quartered" ["inner"] (spI p (cA p "Quartered") (aCons (tPc p) aNil) (fl_Quartered p) c_Quartered_init) := by
  obtain ⟨f, fd, hF, hmk, hm⟩ := X.k_Quartered_init
  exact ⟨f, fd, eq_Quartered_init ▸ fn_init (m := 0) hF sc_Quartered_init (.cons .nil) rfl rfl (fun x g ok hX d => bb_Quartered_init X ok hX x d.1), hmk, hm, hF.bindsN fun _ _ _ _ _ _ us hl => match us, hl with | [_, _], _ => rfl⟩
abbrev s_turned_piece : Stmt := (topS 38)
abbrev N_turned_piece : List Str := ["word", "inner"]
abbrev V_turned_piece : List Str := ["word", "inner"]
abbrev G_turned_piece : List Str := ["Mirrored", "Upended", "Backed", "Quartered"]
theorem sc_turned_piece : Sc s_turned_piece N_turned_piece V_turned_piece ["word", "inner"] G_turned_piece := ⟨⟨rfl, rfl, rfl, by decide +kernel, rfl, by decide +kernel, by decide +kernel⟩, by decide +kernel, by decide +kernel, by decide +kernel⟩
def q_turned_piece (word1 : Tx) (inner2 : Pc) : M Pc := M.bind (M.bind (M.ok word1) fun y3 => M.bind (M.ok (tx "mirror")) fun y4 => M.ok (decide (y3 = y4))) fun c5 => if c5 = true then M.bind (M.bind (M.bind (M.ok inner2) fun y6 => M.bind (M.ok ()) fun y7 => M.ok (y6, y7)) c_Mirrored_init) fun y9 => M.ok (mk_Mirrored y9) else M.bind (M.bind (M.ok word1) fun y11 => M.bind (M.ok (tx "upend")) fun y12 => M.ok (decide (y11 = y12))) fun c13 => if c13 = true then M.bind (M.bind (M.bind (M.ok inner2) fun y14 => M.bind (M.ok ()) fun y15 => M.ok (y14, y15)) c_Upended_init) fun y17 => M.ok (mk_Upended y17) else M.bind (M.bind (M.ok word1) fun y19 => M.bind (M.ok (tx "back")) fun y20 => M.ok (decide (y19 = y20))) fun c21 => if c21 = true then M.bind (M.bind (M.bind (M.ok inner2) fun y22 => M.bind (M.ok ()) fun y23 => M.ok (y22, y23)) c_Backed_init) fun y25 => M.ok (mk_Backed y25) else M.bind (M.bind (M.bind (M.ok inner2) fun y27 => M.bind (M.ok ()) fun y28 => M.ok (y27, y28)) c_Quartered_init) fun y30 => M.ok (mk_Quartered y30)
def f_turned_piece (word1 : Tx) (inner2 : Pc) : M Pc := if (decide (word1 = (tx "mirror"))) = true then M.bind (f_Mirrored_init inner2) fun y9 => M.ok (mk_Mirrored y9) else if (decide (word1 = (tx "upend"))) = true then M.bind (f_Upended_init inner2) fun y17 => M.ok (mk_Upended y17) else if (decide (word1 = (tx "back"))) = true then M.bind (f_Backed_init inner2) fun y25 => M.ok (mk_Backed y25) else M.bind (f_Quartered_init inner2) fun y30 => M.ok (mk_Quartered y30)
def r_turned_piece (d : (Tx × Pc × Unit)) : M Pc := q_turned_piece d.1 d.2.1
def c_turned_piece (d : (Tx × Pc × Unit)) : M Pc := f_turned_piece d.1 d.2.1
theorem eq_turned_piece : r_turned_piece = c_turned_piece := by funext d; first | (simp only [r_turned_piece, c_turned_piece, q_turned_piece, f_turned_piece, M.bind_assoc, M.bok, c_Backed_init, c_Mirrored_init, c_Quartered_init, c_Upended_init]; done) | (simp only [r_turned_piece, c_turned_piece, q_turned_piece, f_turned_piece, M.bind_assoc, M.bok, c_Backed_init, c_Mirrored_init, c_Quartered_init, c_Upended_init]; rfl)
theorem bb_turned_piece {p : Pr} (X : Facts p) {g : G} (ok : OkS p (defScope s_turned_piece) N_turned_piece V_turned_piece G_turned_piece 4 g) (hX : g.LX = List.replicate N_turned_piece.length sAny) (word1 : Tx) (inner2 : Pc) : EvB g [(sV false tStr word1), (sV false (tPc p) inner2)] (defBody s_turned_piece) (fun r => .rt false (tPc p) r) (q_turned_piece word1 inner2) := (evb_ifx (wkX hX rfl) (evt_c ok.toOk (c_eq s_str) (ev_vsh ok.toOk (i := 0) (j := 0) rfl rfl rfl) (ev_str (md := .sh) (by decide +kernel))) (evb_ret (wkX hX rfl) .sh (by intro _; rfl) (ev_as (T := tPc p) (d2 := mk_Mirrored) (fun d v R r => pcM_Mirrored r) (ev_make ok.toOk (mk_Mirrored_init X) (by decide) (j := 0) rfl (eva_cons (md := .sh) (ev_vsh ok.toOk (i := 1) (j := 1) rfl rfl rfl) eva_nil)))) (evb_ifx (wkX hX rfl) (evt_c ok.toOk (c_eq s_str) (ev_vsh ok.toOk (i := 0) (j := 0) rfl rfl rfl) (ev_str (md := .sh) (by decide +kernel))) (evb_ret (wkX hX rfl) .sh (by intro _; rfl) (ev_as (T := tPc p) (d2 := mk_Upended) (fun d v R r => pcM_Upended r) (ev_make ok.toOk (mk_Upended_init X) (by decide) (j := 1) rfl (eva_cons (md := .sh) (ev_vsh ok.toOk (i := 1) (j := 1) rfl rfl rfl) eva_nil)))) (evb_ifx (wkX hX rfl) (evt_c ok.toOk (c_eq s_str) (ev_vsh ok.toOk (i := 0) (j := 0) rfl rfl rfl) (ev_str (md := .sh) (by decide +kernel))) (evb_ret (wkX hX rfl) .sh (by intro _; rfl) (ev_as (T := tPc p) (d2 := mk_Backed) (fun d v R r => pcM_Backed r) (ev_make ok.toOk (mk_Backed_init X) (by decide) (j := 2) rfl (eva_cons (md := .sh) (ev_vsh ok.toOk (i := 1) (j := 1) rfl rfl rfl) eva_nil)))) (evb_ret (wkX hX rfl) .sh (by intro _; rfl) (ev_as (T := tPc p) (d2 := mk_Quartered) (fun d v R r => pcM_Quartered r) (ev_make ok.toOk (mk_Quartered_init X) (by decide) (j := 3) rfl (eva_cons (md := .sh) (ev_vsh ok.toOk (i := 1) (j := 1) rfl rfl rfl) eva_nil)))))))
theorem b_turned_piece {p : Pr} (X : Facts p) : Body p s_turned_piece N_turned_piece V_turned_piece G_turned_piece 4 (fun (d : (Tx × Pc × Unit)) => [(sV false tStr d.1), (sV false (tPc p) d.2.1)]) (fun r => .rt false (tPc p) r) r_turned_piece := fun g ok hX d => bb_turned_piece X ok hX d.1 d.2.1
theorem fn_turned_piece {p : Pr} (X : Facts p) : Fn p 5 "turned_piece" ["word", "inner"] (spM p (aCons tStr (aCons (tPc p) aNil)) (fun r => .rt false (tPc p) r) c_turned_piece) := by
  obtain ⟨f, fd, hF, hm⟩ := X.d_turned_piece
  exact ⟨f, fd, eq_turned_piece ▸ fn_rt (m := 0) hF sc_turned_piece (.cons (.cons .nil)) rfl rfl (b_turned_piece X), hm, hF.kp, hF.bindsN fun _ _ _ _ _ _ us hl => match us, hl with | [_, _], _ => rfl⟩
abbrev s_Beside_init : Stmt := ((clsBody (topS 11)).getD 0 (.Pass ⟨0, 0, 0, 0⟩))
abbrev N_Beside_init : List Str := ["self", "left", "right"]
abbrev V_Beside_init : List Str := ["self", "left", "right"]
abbrev G_Beside_init : List Str := ["Piece"]
theorem sc_Beside_init : Sc s_Beside_init N_Beside_init V_Beside_init ["self", "left", "right"] G_Beside_init := ⟨⟨rfl, rfl, rfl, by decide +kernel, rfl, by decide +kernel, by decide +kernel⟩, by decide +kernel, by decide +kernel, by decide +kernel⟩
def q_Beside_init (left1 : Pc) (right2 : Pc) : M O_Beside := M.bind (M.bind (M.bind (M.bind (M.ok left1) fun y3 => c_Piece_wide (y3, ())) fun y7 => M.bind (M.bind (M.ok right2) fun y5 => c_Piece_wide (y5, ())) fun y8 => M.ok (y7 + y8)) fun y13 => M.bind (M.bind (M.bind (M.ok left1) fun y9 => c_Piece_high (y9, ())) fun y11 => M.bind (M.ok ()) fun y12 => M.ok (y11, y12)) fun y14 => M.ok (y13, y14)) fun d18 => M.bind (c_Piece_init d18) fun u15 => M.bind (M.ok left1) fun fleft16 => M.bind (M.ok right2) fun fright17 => M.ok (u15.1, u15.2.1, fleft16, fright17, ())
def f_Beside_init (left1 : Pc) (right2 : Pc) : M O_Beside := M.bind (M.bind (M.bind (f_Piece_wide left1) fun y7 => M.bind (f_Piece_wide right2) fun y8 => M.ok (y7 + y8)) fun y19 => M.bind (f_Piece_high left1) fun y20 => M.ok (y19, y20, ())) fun (u15 : Int × Int × Unit) => let fleft16 : Pc := left1; let fright17 : Pc := right2; M.ok (u15.1, u15.2.1, fleft16, fright17, ())
def r_Beside_init (d : (Pc × Pc × Unit)) : M O_Beside := q_Beside_init d.1 d.2.1
def c_Beside_init (d : (Pc × Pc × Unit)) : M O_Beside := f_Beside_init d.1 d.2.1
theorem eq_Beside_init : r_Beside_init = c_Beside_init := by funext d; first | (simp only [r_Beside_init, c_Beside_init, q_Beside_init, f_Beside_init, M.bind_assoc, M.bok, c_Piece_init, c_Piece_high, c_Piece_wide]; done) | (simp only [r_Beside_init, c_Beside_init, q_Beside_init, f_Beside_init, M.bind_assoc, M.bok, c_Piece_init, c_Piece_high, c_Piece_wide]; rfl)
theorem bb_Beside_init {p : Pr} (X : Facts p) {g : G} (ok : OkS p (defScope s_Beside_init) N_Beside_init V_Beside_init G_Beside_init 2 g) (hX : g.LX = List.replicate N_Beside_init.length sAny) (x0 : Addr) (left1 : Pc) (right2 : Pc) : EvB g (sSelf x0 (cA p "Beside") [] :: ([(sV false (tPc p) left1), (sV false (tPc p) right2)] ++ List.replicate 0 sAny)) (defBody s_Beside_init) (fun r => .nx (sSelf x0 (cA p "Beside") (fl_Beside p r) :: List.replicate 2 sAny)) (q_Beside_init left1 right2) := (evb_super (md := .sh) (fl := (fun (r : Int × Int × Unit) => [⟨"ends", Int, tInt, r.1⟩, ⟨"picks", Int, tInt, r.2.1⟩])) ok (wkX hX rfl) (su_Piece X X.a_Beside X.n_Beside_ends X.n_Beside_picks) cPI_ne (by decide) (j := 0) rfl (i := 0) (j2 := 0) rfl rfl rfl (eva_cons (md := .sh) (ev_add (md' := .sh) ok.toOk (ev_pcMeth0 (T := tInt) (F := fun d => c_Piece_wide (d, ())) ok.toOk (fun d => (mu_Piece_wide X).at d) (by decide) (by decide +kernel) (ev_sh (ev_vsh ok.toOk (i := 1) (j := 1) rfl rfl rfl))) (ev_pcMeth0 (T := tInt) (F := fun d => c_Piece_wide (d, ())) ok.toOk (fun d => (mu_Piece_wide X).at d) (by decide) (by decide +kernel) (ev_sh (ev_vsh ok.toOk (i := 2) (j := 2) rfl rfl rfl)))) (eva_cons (md := .sh) (ev_pcMeth0 (T := tInt) (F := fun d => c_Piece_high (d, ())) ok.toOk (fun d => (mu_Piece_high X).at d) (by decide) (by decide +kernel) (ev_sh (ev_vsh ok.toOk (i := 1) (j := 1) rfl rfl rfl))) eva_nil)) fun u15 => (evb_fld ok (wkX hX rfl) (i := 0) (j := 0) rfl rfl rfl X.a_Beside X.n_Beside_left (nm := ["ends", "picks"]) rfl (by decide +kernel) (by decide) (ev_vsh ok.toOk (i := 1) (j := 1) rfl rfl rfl) fun fleft16 => (evb_fld ok (wkX hX rfl) (i := 0) (j := 0) rfl rfl rfl X.a_Beside X.n_Beside_right (nm := ["ends", "picks", "left"]) rfl (by decide +kernel) (by decide) (ev_vsh ok.toOk (i := 2) (j := 2) rfl rfl rfl) fun fright17 => (evb_nx (by rfl) (Wk.s (Wk.a (Wk.a Wk.n)))))))
theorem mk_Beside_init {p : Pr} (X : Facts p) : MkF p 3 "Beside" ["left", "right"] (spI p (cA p "Beside") (aCons (tPc p) (aCons (tPc p) aNil)) (fl_Beside p) c_Beside_init) := by
  obtain ⟨f, fd, hF, hmk, hm⟩ := X.k_Beside_init
  exact ⟨f, fd, eq_Beside_init ▸ fn_init (m := 0) hF sc_Beside_init (.cons (.cons .nil)) rfl rfl (fun x g ok hX d => bb_Beside_init X ok hX x d.1 d.2.1), hmk, hm, hF.bindsN fun _ _ _ _ _ _ us hl => match us, hl with | [_, _, _], _ => rfl⟩
abbrev s_Above_init : Stmt := ((clsBody (topS 12)).getD 0 (.Pass ⟨0, 0, 0, 0⟩))
abbrev N_Above_init : List Str := ["self", "first", "later"]
abbrev V_Above_init : List Str := ["self", "first", "later"]
abbrev G_Above_init : List Str := ["Piece"]
theorem sc_Above_init : Sc s_Above_init N_Above_init V_Above_init ["self", "first", "later"] G_Above_init := ⟨⟨rfl, rfl, rfl, by decide +kernel, rfl, by decide +kernel, by decide +kernel⟩, by decide +kernel, by decide +kernel, by decide +kernel⟩
def q_Above_init (first1 : Pc) (later2 : Pc) : M O_Above := M.bind (M.bind (M.bind (M.ok first1) fun y3 => c_Piece_wide (y3, ())) fun y13 => M.bind (M.bind (M.bind (M.bind (M.ok first1) fun y5 => c_Piece_high (y5, ())) fun y9 => M.bind (M.bind (M.ok later2) fun y7 => c_Piece_high (y7, ())) fun y10 => M.ok (y9 + y10)) fun y11 => M.bind (M.ok ()) fun y12 => M.ok (y11, y12)) fun y14 => M.ok (y13, y14)) fun d18 => M.bind (c_Piece_init d18) fun u15 => M.bind (M.ok first1) fun ffirst16 => M.bind (M.ok later2) fun flater17 => M.ok (u15.1, u15.2.1, ffirst16, flater17, ())
def f_Above_init (first1 : Pc) (later2 : Pc) : M O_Above := M.bind (M.bind (f_Piece_wide first1) fun y19 => M.bind (M.bind (f_Piece_high first1) fun y9 => M.bind (f_Piece_high later2) fun y10 => M.ok (y9 + y10)) fun y20 => M.ok (y19, y20, ())) fun (u15 : Int × Int × Unit) => let ffirst16 : Pc := first1; let flater17 : Pc := later2; M.ok (u15.1, u15.2.1, ffirst16, flater17, ())
def r_Above_init (d : (Pc × Pc × Unit)) : M O_Above := q_Above_init d.1 d.2.1
def c_Above_init (d : (Pc × Pc × Unit)) : M O_Above := f_Above_init d.1 d.2.1
theorem eq_Above_init : r_Above_init = c_Above_init := by funext d; first | (simp only [r_Above_init, c_Above_init, q_Above_init, f_Above_init, M.bind_assoc, M.bok, c_Piece_init, c_Piece_high, c_Piece_wide]; done) | (simp only [r_Above_init, c_Above_init, q_Above_init, f_Above_init, M.bind_assoc, M.bok, c_Piece_init, c_Piece_high, c_Piece_wide]; rfl)
theorem bb_Above_init {p : Pr} (X : Facts p) {g : G} (ok : OkS p (defScope s_Above_init) N_Above_init V_Above_init G_Above_init 2 g) (hX : g.LX = List.replicate N_Above_init.length sAny) (x0 : Addr) (first1 : Pc) (later2 : Pc) : EvB g (sSelf x0 (cA p "Above") [] :: ([(sV false (tPc p) first1), (sV false (tPc p) later2)] ++ List.replicate 0 sAny)) (defBody s_Above_init) (fun r => .nx (sSelf x0 (cA p "Above") (fl_Above p r) :: List.replicate 2 sAny)) (q_Above_init first1 later2) := (evb_super (md := .sh) (fl := (fun (r : Int × Int × Unit) => [⟨"ends", Int, tInt, r.1⟩, ⟨"picks", Int, tInt, r.2.1⟩])) ok (wkX hX rfl) (su_Piece X X.a_Above X.n_Above_ends X.n_Above_picks) cPI_ne (by decide) (j := 0) rfl (i := 0) (j2 := 0) rfl rfl rfl (eva_cons (md := .sh) (ev_pcMeth0 (T := tInt) (F := fun d => c_Piece_wide (d, ())) ok.toOk (fun d => (mu_Piece_wide X).at d) (by decide) (by decide +kernel) (ev_sh (ev_vsh ok.toOk (i := 1) (j := 1) rfl rfl rfl))) (eva_cons (md := .sh) (ev_add (md' := .sh) ok.toOk (ev_pcMeth0 (T := tInt) (F := fun d => c_Piece_high (d, ())) ok.toOk (fun d => (mu_Piece_high X).at d) (by decide) (by decide +kernel) (ev_sh (ev_vsh ok.toOk (i := 1) (j := 1) rfl rfl rfl))) (ev_pcMeth0 (T := tInt) (F := fun d => c_Piece_high (d, ())) ok.toOk (fun d => (mu_Piece_high X).at d) (by decide) (by decide +kernel) (ev_sh (ev_vsh ok.toOk (i := 2) (j := 2) rfl rfl rfl)))) eva_nil)) fun u15 => (evb_fld ok (wkX hX rfl) (i := 0) (j := 0) rfl rfl rfl X.a_Above X.n_Above_first (nm := ["ends", "picks"]) rfl (by decide +kernel) (by decide) (ev_vsh ok.toOk (i := 1) (j := 1) rfl rfl rfl) fun ffirst16 => (evb_fld ok (wkX hX rfl) (i := 0) (j := 0) rfl rfl rfl X.a_Above X.n_Above_later (nm := ["ends", "picks", "first"]) rfl (by decide +kernel) (by decide) (ev_vsh ok.toOk (i := 2) (j := 2) rfl rfl rfl) fun flater17 => (evb_nx (by rfl) (Wk.s (Wk.a (Wk.a Wk.n)))))))
theorem mk_Above_init {p : Pr} (X : Facts p) : MkF p 3 "Above" ["first", "later"] (spI p (cA p "Above") (aCons (tPc p) (aCons (tPc p) aNil)) (fl_Above p) c_Above_init) := by
  obtain ⟨f, fd, hF, hmk, hm⟩ := X.k_Above_init
  exact ⟨f, fd, eq_Above_init ▸ fn_init (m := 0) hF sc_Above_init (.cons (.cons .nil)) rfl rfl (fun x g ok hX d => bb_Above_init X ok hX x d.1 d.2.1), hmk, hm, hF.bindsN fun _ _ _ _ _ _ us hl => match us, hl with | [_, _, _], _ => rfl⟩
abbrev s_Covered_init : Stmt := ((clsBody (topS 19)).getD 0 (.Pass ⟨0, 0, 0, 0⟩))
abbrev N_Covered_init : List Str := ["self", "upper", "lower"]
abbrev V_Covered_init : List Str := ["self", "upper", "lower"]
abbrev G_Covered_init : List Str := ["Piece"]
theorem sc_Covered_init : Sc s_Covered_init N_Covered_init V_Covered_init ["self", "upper", "lower"] G_Covered_init := ⟨⟨rfl, rfl, rfl, by decide +kernel, rfl, by decide +kernel, by decide +kernel⟩, by decide +kernel, by decide +kernel, by decide +kernel⟩
def q_Covered_init (upper1 : Pc) (lower2 : Pc) : M O_Covered := M.bind (M.bind (M.bind (M.bind (M.ok upper1) fun y3 => c_Piece_wide (y3, ())) fun y7 => M.bind (M.bind (M.ok lower2) fun y5 => c_Piece_wide (y5, ())) fun y8 => M.ok (y7 + y8)) fun y17 => M.bind (M.bind (M.bind (M.bind (M.ok upper1) fun y9 => c_Piece_high (y9, ())) fun y13 => M.bind (M.bind (M.ok lower2) fun y11 => c_Piece_high (y11, ())) fun y14 => M.ok (y13 + y14)) fun y15 => M.bind (M.ok ()) fun y16 => M.ok (y15, y16)) fun y18 => M.ok (y17, y18)) fun d22 => M.bind (c_Piece_init d22) fun u19 => M.bind (M.ok upper1) fun fupperone20 => M.bind (M.ok lower2) fun flowerone21 => M.ok (u19.1, u19.2.1, fupperone20, flowerone21, ())
def f_Covered_init (upper1 : Pc) (lower2 : Pc) : M O_Covered := M.bind (M.bind (M.bind (f_Piece_wide upper1) fun y7 => M.bind (f_Piece_wide lower2) fun y8 => M.ok (y7 + y8)) fun y23 => M.bind (M.bind (f_Piece_high upper1) fun y13 => M.bind (f_Piece_high lower2) fun y14 => M.ok (y13 + y14)) fun y24 => M.ok (y23, y24, ())) fun (u19 : Int × Int × Unit) => let fupperone20 : Pc := upper1; let flowerone21 : Pc := lower2; M.ok (u19.1, u19.2.1, fupperone20, flowerone21, ())
def r_Covered_init (d : (Pc × Pc × Unit)) : M O_Covered := q_Covered_init d.1 d.2.1
def c_Covered_init (d : (Pc × Pc × Unit)) : M O_Covered := f_Covered_init d.1 d.2.1
theorem eq_Covered_init : r_Covered_init = c_Covered_init := by funext d; first | (simp only [r_Covered_init, c_Covered_init, q_Covered_init, f_Covered_init, M.bind_assoc, M.bok, c_Piece_init, c_Piece_high, c_Piece_wide]; done) | (simp only [r_Covered_init, c_Covered_init, q_Covered_init, f_Covered_init, M.bind_assoc, M.bok, c_Piece_init, c_Piece_high, c_Piece_wide]; rfl)
theorem bb_Covered_init {p : Pr} (X : Facts p) {g : G} (ok : OkS p (defScope s_Covered_init) N_Covered_init V_Covered_init G_Covered_init 2 g) (hX : g.LX = List.replicate N_Covered_init.length sAny) (x0 : Addr) (upper1 : Pc) (lower2 : Pc) : EvB g (sSelf x0 (cA p "Covered") [] :: ([(sV false (tPc p) upper1), (sV false (tPc p) lower2)] ++ List.replicate 0 sAny)) (defBody s_Covered_init) (fun r => .nx (sSelf x0 (cA p "Covered") (fl_Covered p r) :: List.replicate 2 sAny)) (q_Covered_init upper1 lower2) := (evb_super (md := .sh) (fl := (fun (r : Int × Int × Unit) => [⟨"ends", Int, tInt, r.1⟩, ⟨"picks", Int, tInt, r.2.1⟩])) ok (wkX hX rfl) (su_Piece X X.a_Covered X.n_Covered_ends X.n_Covered_picks) cPI_ne (by decide) (j := 0) rfl (i := 0) (j2 := 0) rfl rfl rfl (eva_cons (md := .sh) (ev_add (md' := .sh) ok.toOk (ev_pcMeth0 (T := tInt) (F := fun d => c_Piece_wide (d, ())) ok.toOk (fun d => (mu_Piece_wide X).at d) (by decide) (by decide +kernel) (ev_sh (ev_vsh ok.toOk (i := 1) (j := 1) rfl rfl rfl))) (ev_pcMeth0 (T := tInt) (F := fun d => c_Piece_wide (d, ())) ok.toOk (fun d => (mu_Piece_wide X).at d) (by decide) (by decide +kernel) (ev_sh (ev_vsh ok.toOk (i := 2) (j := 2) rfl rfl rfl)))) (eva_cons (md := .sh) (ev_add (md' := .sh) ok.toOk (ev_pcMeth0 (T := tInt) (F := fun d => c_Piece_high (d, ())) ok.toOk (fun d => (mu_Piece_high X).at d) (by decide) (by decide +kernel) (ev_sh (ev_vsh ok.toOk (i := 1) (j := 1) rfl rfl rfl))) (ev_pcMeth0 (T := tInt) (F := fun d => c_Piece_high (d, ())) ok.toOk (fun d => (mu_Piece_high X).at d) (by decide) (by decide +kernel) (ev_sh (ev_vsh ok.toOk (i := 2) (j := 2) rfl rfl rfl)))) eva_nil)) fun u19 => (evb_fld ok (wkX hX rfl) (i := 0) (j := 0) rfl rfl rfl X.a_Covered X.n_Covered_upper_one (nm := ["ends", "picks"]) rfl (by decide +kernel) (by decide) (ev_vsh ok.toOk (i := 1) (j := 1) rfl rfl rfl) fun fupperone20 => (evb_fld ok (wkX hX rfl) (i := 0) (j := 0) rfl rfl rfl X.a_Covered X.n_Covered_lower_one (nm := ["ends", "picks", "upper_one"]) rfl (by decide +kernel) (by decide) (ev_vsh ok.toOk (i := 2) (j := 2) rfl rfl rfl) fun flowerone21 => (evb_nx (by rfl) (Wk.s (Wk.a (Wk.a Wk.n)))))))
theorem mk_Covered_init {p : Pr} (X : Facts p) : MkF p 3 "Covered" ["upper", "lower"] (spI p (cA p "Covered") (aCons (tPc p) (aCons (tPc p) aNil)) (fl_Covered p) c_Covered_init) := by
  obtain ⟨f, fd, hF, hmk, hm⟩ := X.k_Covered_init
  exact ⟨f, fd, eq_Covered_init ▸ fn_init (m := 0) hF sc_Covered_init (.cons (.cons .nil)) rfl rfl (fun x g ok hX d => bb_Covered_init X ok hX x d.1 d.2.1), hmk, hm, hF.bindsN fun _ _ _ _ _ _ us hl => match us, hl with | [_, _, _], _ => rfl⟩
abbrev s_Blocked_init : Stmt := ((clsBody (topS 18)).getD 0 (.Pass ⟨0, 0, 0, 0⟩))
abbrev N_Blocked_init : List Str := ["self", "profile", "unit", "other"]
abbrev V_Blocked_init : List Str := ["self", "profile", "unit", "other"]
abbrev G_Blocked_init : List Str := ["Piece"]
theorem sc_Blocked_init : Sc s_Blocked_init N_Blocked_init V_Blocked_init ["self", "profile", "unit", "other"] G_Blocked_init := ⟨⟨rfl, rfl, rfl, by decide +kernel, rfl, by decide +kernel, by decide +kernel⟩, by decide +kernel, by decide +kernel, by decide +kernel⟩
def q_Blocked_init (profile1 : Pc) (unit2 : Pc) (other3 : Pc) : M O_Blocked := M.bind (M.bind (M.bind (M.bind (M.ok profile1) fun y4 => c_Piece_wide (y4, ())) fun y8 => M.bind (M.bind (M.ok unit2) fun y6 => c_Piece_wide (y6, ())) fun y9 => mulM y8 y9) fun y18 => M.bind (M.bind (M.bind (M.bind (M.ok profile1) fun y10 => c_Piece_high (y10, ())) fun y14 => M.bind (M.bind (M.ok unit2) fun y12 => c_Piece_high (y12, ())) fun y15 => mulM y14 y15) fun y16 => M.bind (M.ok ()) fun y17 => M.ok (y16, y17)) fun y19 => M.ok (y18, y19)) fun d24 => M.bind (c_Piece_init d24) fun u20 => M.bind (M.ok profile1) fun fprofile21 => M.bind (M.ok unit2) fun funit22 => M.bind (M.ok other3) fun fother23 => M.ok (u20.1, u20.2.1, fprofile21, funit22, fother23, ())
def f_Blocked_init (profile1 : Pc) (unit2 : Pc) (other3 : Pc) : M O_Blocked := M.bind (M.bind (M.bind (f_Piece_wide profile1) fun y8 => M.bind (f_Piece_wide unit2) fun y9 => mulM y8 y9) fun y25 => M.bind (M.bind (f_Piece_high profile1) fun y14 => M.bind (f_Piece_high unit2) fun y15 => mulM y14 y15) fun y26 => M.ok (y25, y26, ())) fun (u20 : Int × Int × Unit) => let fprofile21 : Pc := profile1; let funit22 : Pc := unit2; let fother23 : Pc := other3; M.ok (u20.1, u20.2.1, fprofile21, funit22, fother23, ())
def r_Blocked_init (d : (Pc × Pc × Pc × Unit)) : M O_Blocked := q_Blocked_init d.1 d.2.1 d.2.2.1
def c_Blocked_init (d : (Pc × Pc × Pc × Unit)) : M O_Blocked := f_Blocked_init d.1 d.2.1 d.2.2.1
theorem eq_Blocked_init : r_Blocked_init = c_Blocked_init := by funext d; first | (simp only [r_Blocked_init, c_Blocked_init, q_Blocked_init, f_Blocked_init, M.bind_assoc, M.bok, c_Piece_init, c_Piece_high, c_Piece_wide]; done) | (simp only [r_Blocked_init, c_Blocked_init, q_Blocked_init, f_Blocked_init, M.bind_assoc, M.bok, c_Piece_init, c_Piece_high, c_Piece_wide]; rfl)
theorem bb_Blocked_init {p : Pr} (X : Facts p) {g : G} (ok : OkS p (defScope s_Blocked_init) N_Blocked_init V_Blocked_init G_Blocked_init 2 g) (hX : g.LX = List.replicate N_Blocked_init.length sAny) (x0 : Addr) (profile1 : Pc) (unit2 : Pc) (other3 : Pc) : EvB g (sSelf x0 (cA p "Blocked") [] :: ([(sV false (tPc p) profile1), (sV false (tPc p) unit2), (sV false (tPc p) other3)] ++ List.replicate 0 sAny)) (defBody s_Blocked_init) (fun r => .nx (sSelf x0 (cA p "Blocked") (fl_Blocked p r) :: List.replicate 3 sAny)) (q_Blocked_init profile1 unit2 other3) := (evb_super (md := .sh) (fl := (fun (r : Int × Int × Unit) => [⟨"ends", Int, tInt, r.1⟩, ⟨"picks", Int, tInt, r.2.1⟩])) ok (wkX hX rfl) (su_Piece X X.a_Blocked X.n_Blocked_ends X.n_Blocked_picks) cPI_ne (by decide) (j := 0) rfl (i := 0) (j2 := 0) rfl rfl rfl (eva_cons (md := .sh) (ev_mul (md' := .sh) ok.toOk (ev_pcMeth0 (T := tInt) (F := fun d => c_Piece_wide (d, ())) ok.toOk (fun d => (mu_Piece_wide X).at d) (by decide) (by decide +kernel) (ev_sh (ev_vsh ok.toOk (i := 1) (j := 1) rfl rfl rfl))) (ev_pcMeth0 (T := tInt) (F := fun d => c_Piece_wide (d, ())) ok.toOk (fun d => (mu_Piece_wide X).at d) (by decide) (by decide +kernel) (ev_sh (ev_vsh ok.toOk (i := 2) (j := 2) rfl rfl rfl)))) (eva_cons (md := .sh) (ev_mul (md' := .sh) ok.toOk (ev_pcMeth0 (T := tInt) (F := fun d => c_Piece_high (d, ())) ok.toOk (fun d => (mu_Piece_high X).at d) (by decide) (by decide +kernel) (ev_sh (ev_vsh ok.toOk (i := 1) (j := 1) rfl rfl rfl))) (ev_pcMeth0 (T := tInt) (F := fun d => c_Piece_high (d, ())) ok.toOk (fun d => (mu_Piece_high X).at d) (by decide) (by decide +kernel) (ev_sh (ev_vsh ok.toOk (i := 2) (j := 2) rfl rfl rfl)))) eva_nil)) fun u20 => (evb_fld ok (wkX hX rfl) (i := 0) (j := 0) rfl rfl rfl X.a_Blocked X.n_Blocked_profile (nm := ["ends", "picks"]) rfl (by decide +kernel) (by decide) (ev_vsh ok.toOk (i := 1) (j := 1) rfl rfl rfl) fun fprofile21 => (evb_fld ok (wkX hX rfl) (i := 0) (j := 0) rfl rfl rfl X.a_Blocked X.n_Blocked_unit (nm := ["ends", "picks", "profile"]) rfl (by decide +kernel) (by decide) (ev_vsh ok.toOk (i := 2) (j := 2) rfl rfl rfl) fun funit22 => (evb_fld ok (wkX hX rfl) (i := 0) (j := 0) rfl rfl rfl X.a_Blocked X.n_Blocked_other (nm := ["ends", "picks", "profile", "unit"]) rfl (by decide +kernel) (by decide) (ev_vsh ok.toOk (i := 3) (j := 3) rfl rfl rfl) fun fother23 => (evb_nx (by rfl) (Wk.s (Wk.a (Wk.a (Wk.a Wk.n)))))))))
theorem mk_Blocked_init {p : Pr} (X : Facts p) : MkF p 3 "Blocked" ["profile", "unit", "other"] (spI p (cA p "Blocked") (aCons (tPc p) (aCons (tPc p) (aCons (tPc p) aNil))) (fl_Blocked p) c_Blocked_init) := by
  obtain ⟨f, fd, hF, hmk, hm⟩ := X.k_Blocked_init
  exact ⟨f, fd, eq_Blocked_init ▸ fn_init (m := 0) hF sc_Blocked_init (.cons (.cons (.cons .nil))) rfl rfl (fun x g ok hX d => bb_Blocked_init X ok hX x d.1 d.2.1 d.2.2.1), hmk, hm, hF.bindsN fun _ _ _ _ _ _ us hl => match us, hl with | [_, _, _, _], _ => rfl⟩
abbrev s_joined_piece : Stmt := (topS 37)
abbrev N_joined_piece : List Str := ["word", "things", "wide", "high"]
abbrev V_joined_piece : List Str := ["word", "things", "wide", "high"]
abbrev G_joined_piece : List Str := ["must_fit", "Beside", "Above", "Covered", "Blocked"]
theorem sc_joined_piece : Sc s_joined_piece N_joined_piece V_joined_piece ["word", "things"] G_joined_piece := ⟨⟨rfl, rfl, rfl, by decide +kernel, rfl, by decide +kernel, by decide +kernel⟩, by decide +kernel, by decide +kernel, by decide +kernel⟩
def q_joined_piece (word1 : Tx) (things2 : (List (Pc ⊕ Int))) : M Pc := M.bind (M.bind (M.bind (M.bind (M.bind (M.ok things2) fun y5 => M.bind (M.bind (M.ok (2 : Int)) fun y4 => M.ok (-y4)) fun y6 => getM y5 y6) fun y7 => unl y7) fun y8 => c_Piece_wide (y8, ())) fun y16 => M.bind (M.bind (M.bind (M.bind (M.ok things2) fun y11 => M.bind (M.bind (M.ok (1 : Int)) fun y10 => M.ok (-y10)) fun y12 => getM y11 y12) fun y13 => unl y13) fun y14 => c_Piece_wide (y14, ())) fun y17 => M.ok (decide (y16 = y17))) fun wide3 => M.bind (M.bind (M.bind (M.bind (M.bind (M.ok things2) fun y20 => M.bind (M.bind (M.ok (2 : Int)) fun y19 => M.ok (-y19)) fun y21 => getM y20 y21) fun y22 => unl y22) fun y23 => c_Piece_high (y23, ())) fun y31 => M.bind (M.bind (M.bind (M.bind (M.ok things2) fun y26 => M.bind (M.bind (M.ok (1 : Int)) fun y25 => M.ok (-y25)) fun y27 => getM y26 y27) fun y28 => unl y28) fun y29 => c_Piece_high (y29, ())) fun y32 => M.ok (decide (y31 = y32))) fun high18 => M.bind (M.bind (M.ok word1) fun y33 => M.bind (M.ok (tx "beside")) fun y34 => M.ok (decide (y33 = y34))) fun c35 => if c35 = true then M.bind (M.bind (M.bind (M.ok high18) fun y36 => M.bind (M.ok ()) fun y37 => M.ok (y36, y37)) c_must_fit) fun u39 => M.bind (M.bind (M.bind (M.bind (M.bind (M.ok things2) fun y40 => M.bind (M.ok (0 : Int)) fun y41 => getM y40 y41) fun y42 => unl y42) fun y48 => M.bind (M.bind (M.bind (M.bind (M.ok things2) fun y43 => M.bind (M.ok (1 : Int)) fun y44 => getM y43 y44) fun y45 => unl y45) fun y46 => M.bind (M.ok ()) fun y47 => M.ok (y46, y47)) fun y49 => M.ok (y48, y49)) c_Beside_init) fun y52 => M.ok (mk_Beside y52) else M.bind (M.bind (M.ok word1) fun y54 => M.bind (M.ok (tx "above")) fun y55 => M.ok (decide (y54 = y55))) fun c56 => if c56 = true then M.bind (M.bind (M.bind (M.ok wide3) fun y57 => M.bind (M.ok ()) fun y58 => M.ok (y57, y58)) c_must_fit) fun u60 => M.bind (M.bind (M.bind (M.bind (M.bind (M.ok things2) fun y61 => M.bind (M.ok (0 : Int)) fun y62 => getM y61 y62) fun y63 => unl y63) fun y69 => M.bind (M.bind (M.bind (M.bind (M.ok things2) fun y64 => M.bind (M.ok (1 : Int)) fun y65 => getM y64 y65) fun y66 => unl y66) fun y67 => M.bind (M.ok ()) fun y68 => M.ok (y67, y68)) fun y70 => M.ok (y69, y70)) c_Above_init) fun y73 => M.ok (mk_Above y73) else M.bind (M.bind (M.bind (M.ok (wide3 && high18)) fun y76 => M.bind (M.ok ()) fun y77 => M.ok (y76, y77)) c_must_fit) fun u79 => M.bind (M.bind (M.ok word1) fun y80 => M.bind (M.ok (tx "lay")) fun y81 => M.ok (decide (y80 = y81))) fun c82 => if c82 = true then M.bind (M.bind (M.bind (M.bind (M.bind (M.ok things2) fun y83 => M.bind (M.ok (0 : Int)) fun y84 => getM y83 y84) fun y85 => unl y85) fun y91 => M.bind (M.bind (M.bind (M.bind (M.ok things2) fun y86 => M.bind (M.ok (1 : Int)) fun y87 => getM y86 y87) fun y88 => unl y88) fun y89 => M.bind (M.ok ()) fun y90 => M.ok (y89, y90)) fun y92 => M.ok (y91, y92)) c_Covered_init) fun y95 => M.ok (mk_Covered y95) else M.bind (M.bind (M.bind (M.bind (M.bind (M.ok things2) fun y97 => M.bind (M.ok (0 : Int)) fun y98 => getM y97 y98) fun y99 => unl y99) fun y110 => M.bind (M.bind (M.bind (M.bind (M.ok things2) fun y100 => M.bind (M.ok (1 : Int)) fun y101 => getM y100 y101) fun y102 => unl y102) fun y108 => M.bind (M.bind (M.bind (M.bind (M.ok things2) fun y103 => M.bind (M.ok (2 : Int)) fun y104 => getM y103 y104) fun y105 => unl y105) fun y106 => M.bind (M.ok ()) fun y107 => M.ok (y106, y107)) fun y109 => M.ok (y108, y109)) fun y111 => M.ok (y110, y111)) c_Blocked_init) fun y115 => M.ok (mk_Blocked y115)
def f_joined_piece (word1 : Tx) (things2 : (List (Pc ⊕ Int))) : M Pc := M.bind (M.bind (M.bind (M.bind (getM things2 (-(2 : Int))) fun y7 => unl y7) fun y9 => f_Piece_wide y9) fun y16 => M.bind (M.bind (M.bind (getM things2 (-(1 : Int))) fun y13 => unl y13) fun y15 => f_Piece_wide y15) fun y17 => M.ok (decide (y16 = y17))) fun wide3 => M.bind (M.bind (M.bind (M.bind (getM things2 (-(2 : Int))) fun y22 => unl y22) fun y24 => f_Piece_high y24) fun y31 => M.bind (M.bind (M.bind (getM things2 (-(1 : Int))) fun y28 => unl y28) fun y30 => f_Piece_high y30) fun y32 => M.ok (decide (y31 = y32))) fun high18 => if (decide (word1 = (tx "beside"))) = true then M.bind (f_must_fit high18) fun u39 => M.bind (M.bind (M.bind (getM things2 (0 : Int)) fun y42 => unl y42) fun y50 => M.bind (M.bind (getM things2 (1 : Int)) fun y45 => unl y45) fun y51 => f_Beside_init y50 y51) fun y52 => M.ok (mk_Beside y52) else if (decide (word1 = (tx "above"))) = true then M.bind (f_must_fit wide3) fun u60 => M.bind (M.bind (M.bind (getM things2 (0 : Int)) fun y63 => unl y63) fun y71 => M.bind (M.bind (getM things2 (1 : Int)) fun y66 => unl y66) fun y72 => f_Above_init y71 y72) fun y73 => M.ok (mk_Above y73) else M.bind (f_must_fit (wide3 && high18)) fun u79 => if (decide (word1 = (tx "lay"))) = true then M.bind (M.bind (M.bind (getM things2 (0 : Int)) fun y85 => unl y85) fun y93 => M.bind (M.bind (getM things2 (1 : Int)) fun y88 => unl y88) fun y94 => f_Covered_init y93 y94) fun y95 => M.ok (mk_Covered y95) else M.bind (M.bind (M.bind (getM things2 (0 : Int)) fun y99 => unl y99) fun y112 => M.bind (M.bind (getM things2 (1 : Int)) fun y102 => unl y102) fun y113 => M.bind (M.bind (getM things2 (2 : Int)) fun y105 => unl y105) fun y114 => f_Blocked_init y112 y113 y114) fun y115 => M.ok (mk_Blocked y115)
def r_joined_piece (d : (Tx × (List (Pc ⊕ Int)) × Unit)) : M Pc := q_joined_piece d.1 d.2.1
def c_joined_piece (d : (Tx × (List (Pc ⊕ Int)) × Unit)) : M Pc := f_joined_piece d.1 d.2.1
theorem eq_joined_piece : r_joined_piece = c_joined_piece := by funext d; first | (simp only [r_joined_piece, c_joined_piece, q_joined_piece, f_joined_piece, M.bind_assoc, M.bok, c_Above_init, c_Beside_init, c_Blocked_init, c_Covered_init, c_Piece_high, c_Piece_wide, c_must_fit]; done) | (simp only [r_joined_piece, c_joined_piece, q_joined_piece, f_joined_piece, M.bind_assoc, M.bok, c_Above_init, c_Beside_init, c_Blocked_init, c_Covered_init, c_Piece_high, c_Piece_wide, c_must_fit]; rfl)
theorem bb_joined_piece {p : Pr} (X : Facts p) {g : G} (ok : OkS p (defScope s_joined_piece) N_joined_piece V_joined_piece G_joined_piece 4 g) (hX : g.LX = List.replicate N_joined_piece.length sAny) (word1 : Tx) (things2 : (List (Pc ⊕ Int))) : EvB g [(sV false tStr word1), (sV false (tList (tSum (tPc p) tInt)) things2), sAny, sAny] (defBody s_joined_piece) (fun r => .rt false (tPc p) r) (q_joined_piece word1 things2) := (evb_set ok (i := 2) (j := 2) rfl rfl (wkX hX rfl) .sh (ev_c (md' := .sh) ok.toOk (c_eq s_int) (ev_pcMeth0 (T := tInt) (F := fun d => c_Piece_wide (d, ())) ok.toOk (fun d => (mu_Piece_wide X).at d) (by decide) (by decide +kernel) (ev_sh (ev_unl (ev_ixQ ok.toOk sq_l (ev_vsh ok.toOk (i := 1) (j := 1) rfl rfl rfl) (ev_neg (md' := .sh) ok.toOk (ev_int (md := .sh))))))) (ev_pcMeth0 (T := tInt) (F := fun d => c_Piece_wide (d, ())) ok.toOk (fun d => (mu_Piece_wide X).at d) (by decide) (by decide +kernel) (ev_sh (ev_unl (ev_ixQ ok.toOk sq_l (ev_vsh ok.toOk (i := 1) (j := 1) rfl rfl rfl) (ev_neg (md' := .sh) ok.toOk (ev_int (md := .sh)))))))) fun wide3 => (evb_set ok (i := 3) (j := 3) rfl rfl (wkX hX rfl) .sh (ev_c (md' := .sh) ok.toOk (c_eq s_int) (ev_pcMeth0 (T := tInt) (F := fun d => c_Piece_high (d, ())) ok.toOk (fun d => (mu_Piece_high X).at d) (by decide) (by decide +kernel) (ev_sh (ev_unl (ev_ixQ ok.toOk sq_l (ev_vsh ok.toOk (i := 1) (j := 1) rfl rfl rfl) (ev_neg (md' := .sh) ok.toOk (ev_int (md := .sh))))))) (ev_pcMeth0 (T := tInt) (F := fun d => c_Piece_high (d, ())) ok.toOk (fun d => (mu_Piece_high X).at d) (by decide) (by decide +kernel) (ev_sh (ev_unl (ev_ixQ ok.toOk sq_l (ev_vsh ok.toOk (i := 1) (j := 1) rfl rfl rfl) (ev_neg (md' := .sh) ok.toOk (ev_int (md := .sh)))))))) fun high18 => (evb_ifx (wkX hX rfl) (evt_c ok.toOk (c_eq s_str) (ev_vsh ok.toOk (i := 0) (j := 0) rfl rfl rfl) (ev_str (md := .sh) (by decide +kernel))) (evb_expr (wkX hX rfl) (ev_call (md' := .sh) ok.toOk (fn_must_fit X) (by decide) (j := 0) rfl .sh (eva_cons (md := .sh) (ev_vsh ok.toOk (i := 3) (j := 3) rfl rfl rfl) eva_nil)) fun u39 => (evb_ret (wkX hX rfl) .sh (by intro _; rfl) (ev_as (T := tPc p) (d2 := mk_Beside) (fun d v R r => pcM_Beside r) (ev_make ok.toOk (mk_Beside_init X) (by decide) (j := 1) rfl (eva_cons (md := .sh) (ev_unl (ev_ixQ ok.toOk sq_l (ev_vsh ok.toOk (i := 1) (j := 1) rfl rfl rfl) (ev_int (md := .sh)))) (eva_cons (md := .sh) (ev_unl (ev_ixQ ok.toOk sq_l (ev_vsh ok.toOk (i := 1) (j := 1) rfl rfl rfl) (ev_int (md := .sh)))) eva_nil)))))) (evb_ifx (wkX hX rfl) (evt_c ok.toOk (c_eq s_str) (ev_vsh ok.toOk (i := 0) (j := 0) rfl rfl rfl) (ev_str (md := .sh) (by decide +kernel))) (evb_expr (wkX hX rfl) (ev_call (md' := .sh) ok.toOk (fn_must_fit X) (by decide) (j := 0) rfl .sh (eva_cons (md := .sh) (ev_vsh ok.toOk (i := 2) (j := 2) rfl rfl rfl) eva_nil)) fun u60 => (evb_ret (wkX hX rfl) .sh (by intro _; rfl) (ev_as (T := tPc p) (d2 := mk_Above) (fun d v R r => pcM_Above r) (ev_make ok.toOk (mk_Above_init X) (by decide) (j := 2) rfl (eva_cons (md := .sh) (ev_unl (ev_ixQ ok.toOk sq_l (ev_vsh ok.toOk (i := 1) (j := 1) rfl rfl rfl) (ev_int (md := .sh)))) (eva_cons (md := .sh) (ev_unl (ev_ixQ ok.toOk sq_l (ev_vsh ok.toOk (i := 1) (j := 1) rfl rfl rfl) (ev_int (md := .sh)))) eva_nil)))))) (evb_expr (wkX hX rfl) (ev_call (md' := .sh) ok.toOk (fn_must_fit X) (by decide) (j := 0) rfl .sh (eva_cons (md := .sh) (ev_andP (pureE (m := M.ok wide3) (ev_vsh ok.toOk (i := 2) (j := 2) rfl rfl rfl) rfl) (pureE (m := M.ok high18) (ev_one (ev_vsh ok.toOk (i := 3) (j := 3) rfl rfl rfl)) rfl)) eva_nil)) fun u79 => (evb_ifx (wkX hX rfl) (evt_c ok.toOk (c_eq s_str) (ev_vsh ok.toOk (i := 0) (j := 0) rfl rfl rfl) (ev_str (md := .sh) (by decide +kernel))) (evb_ret (wkX hX rfl) .sh (by intro _; rfl) (ev_as (T := tPc p) (d2 := mk_Covered) (fun d v R r => pcM_Covered r) (ev_make ok.toOk (mk_Covered_init X) (by decide) (j := 3) rfl (eva_cons (md := .sh) (ev_unl (ev_ixQ ok.toOk sq_l (ev_vsh ok.toOk (i := 1) (j := 1) rfl rfl rfl) (ev_int (md := .sh)))) (eva_cons (md := .sh) (ev_unl (ev_ixQ ok.toOk sq_l (ev_vsh ok.toOk (i := 1) (j := 1) rfl rfl rfl) (ev_int (md := .sh)))) eva_nil))))) (evb_ret (wkX hX rfl) .sh (by intro _; rfl) (ev_as (T := tPc p) (d2 := mk_Blocked) (fun d v R r => pcM_Blocked r) (ev_make ok.toOk (mk_Blocked_init X) (by decide) (j := 4) rfl (eva_cons (md := .sh) (ev_unl (ev_ixQ ok.toOk sq_l (ev_vsh ok.toOk (i := 1) (j := 1) rfl rfl rfl) (ev_int (md := .sh)))) (eva_cons (md := .sh) (ev_unl (ev_ixQ ok.toOk sq_l (ev_vsh ok.toOk (i := 1) (j := 1) rfl rfl rfl) (ev_int (md := .sh)))) (eva_cons (md := .sh) (ev_unl (ev_ixQ ok.toOk sq_l (ev_vsh ok.toOk (i := 1) (j := 1) rfl rfl rfl) (ev_int (md := .sh)))) eva_nil))))))))))))
theorem b_joined_piece {p : Pr} (X : Facts p) : Body p s_joined_piece N_joined_piece V_joined_piece G_joined_piece 4 (fun (d : (Tx × (List (Pc ⊕ Int)) × Unit)) => [(sV false tStr d.1), (sV false (tList (tSum (tPc p) tInt)) d.2.1), sAny, sAny]) (fun r => .rt false (tPc p) r) r_joined_piece := fun g ok hX d => bb_joined_piece X ok hX d.1 d.2.1
theorem fn_joined_piece {p : Pr} (X : Facts p) : Fn p 5 "joined_piece" ["word", "things"] (spM p (aCons tStr (aCons (tList (tSum (tPc p) tInt)) aNil)) (fun r => .rt false (tPc p) r) c_joined_piece) := by
  obtain ⟨f, fd, hF, hm⟩ := X.d_joined_piece
  exact ⟨f, fd, eq_joined_piece ▸ fn_rt (m := 2) hF sc_joined_piece (.cons (.cons .nil)) rfl rfl (b_joined_piece X), hm, hF.kp, hF.bindsN fun _ _ _ _ _ _ us hl => match us, hl with | [_, _], _ => rfl⟩
abbrev s_worked_out : Stmt := (topS 39)
abbrev N_worked_out : List Str := ["tree", "known", "word", "piece", "things", "thing", "run"]
abbrev V_worked_out : List Str := ["tree", "known", "word", "piece", "things", "thing"]
abbrev G_worked_out : List Str := ["all", "must_fit", "Given", "SHAPES", "Named", "Unknown", "tuple", "isinstance", "worked_out", "numbered_piece", "len", "turned_piece", "joined_piece", "MOST_STRANDS", "TooLarge"]
theorem sc_worked_out : Sc s_worked_out N_worked_out V_worked_out ["tree", "known"] G_worked_out := ⟨⟨rfl, rfl, rfl, by decide +kernel, rfl, by decide +kernel, by decide +kernel⟩, by decide +kernel, by decide +kernel, by decide +kernel⟩
def r_f_worked_out_l1 (known2 : (List (Key × (List Tx)))) (z_worked_out : PV → (List (Key × (List Tx))) → M Pc) : ((List (Pc ⊕ Int))) → PV → M ((List (Pc ⊕ Int))) := fun s57 thing58 => M.bind (M.bind (M.ok thing58) fun y59 => M.ok (isTree y59)) fun c60 => if c60 = true then M.bind (M.bind (M.bind (M.bind (M.ok thing58) fun y64 => M.bind (M.bind (M.ok known2) fun y62 => M.bind (M.ok ()) fun y63 => M.ok (y62, y63)) fun y65 => M.ok (y64, y65)) (fun d => z_worked_out d.1 d.2.1)) fun y68 => M.ok (Sum.inl y68)) fun y69 => M.bind (pushM s57 y69) fun things61 => M.ok things61 else M.bind (M.bind (M.bind (M.ok thing58) fun y71 => unNum y71) fun y72 => M.ok (Sum.inr y72)) fun y73 => M.bind (pushM s57 y73) fun things70 => M.ok things70
def f_worked_out_l1 (known2 : (List (Key × (List Tx)))) (z_worked_out : PV → (List (Key × (List Tx))) → M Pc) : ((List (Pc ⊕ Int))) → PV → M ((List (Pc ⊕ Int))) := fun s57 thing58 => if (isTree thing58) = true then M.bind (M.bind (z_worked_out thing58 known2) fun y68 => M.ok (Sum.inl y68)) fun y69 => M.bind (pushM s57 y69) fun things61 => M.ok things61 else M.bind (M.bind (unNum thing58) fun y72 => M.ok (Sum.inr y72)) fun y73 => M.bind (pushM s57 y73) fun things70 => M.ok things70
theorem eq_f_worked_out_l1 (known2 : (List (Key × (List Tx)))) (z_worked_out : PV → (List (Key × (List Tx))) → M Pc) : r_f_worked_out_l1 known2 z_worked_out = f_worked_out_l1 known2 z_worked_out := by funext s57 thing58; first | (simp only [r_f_worked_out_l1, f_worked_out_l1, M.bind_assoc, M.bok, c_Given_init, c_Named_init, c_Piece_high, c_Piece_wide, c_joined_piece, c_must_fit, c_numbered_piece, c_turned_piece]; done) | (simp only [r_f_worked_out_l1, f_worked_out_l1, M.bind_assoc, M.bok, c_Given_init, c_Named_init, c_Piece_high, c_Piece_wide, c_joined_piece, c_must_fit, c_numbered_piece, c_turned_piece]; rfl)
def q_worked_out (z_worked_out : PV → (List (Key × (List Tx))) → M Pc) (tree1 : PV) (known2 : (List (Key × (List Tx)))) : M Pc := M.bind (M.bind (M.bind (M.ok tree1) fun y4 => unTree y4) fun y5 => M.ok y5.1) fun word3 => M.bind (M.bind (M.ok word3) fun y6 => M.bind (M.ok (tx "rows")) fun y7 => M.ok (decide (y6 = y7))) fun c8 => M.bind (if c8 = true then M.bind (M.bind (M.bind (M.bind (M.bind (M.bind (M.bind (M.ok tree1) fun y9 => unTree y9) fun y10 => M.ok y10.2.1) fun xs24 => compM (fun run11 => M.bind (M.ok true) fun c22 => if c22 = true then M.bind (M.bind (M.bind (M.bind (M.ok run11) fun y12 => unText y12) fun y13 => M.ok (y13.length : Int)) fun y20 => M.bind (M.bind (M.bind (M.bind (M.bind (M.bind (M.ok tree1) fun y14 => unTree y14) fun y15 => M.ok y15.2.1) fun y16 => M.bind (M.ok (0 : Int)) fun y17 => getM y16 y17) fun y18 => unText y18) fun y19 => M.ok (y19.length : Int)) fun y21 => M.ok (decide (y20 = y21))) fun y23 => M.ok (some y23) else M.ok none) xs24) fun y25 => M.ok (y25.all id)) fun y26 => M.bind (M.ok ()) fun y27 => M.ok (y26, y27)) c_must_fit) fun u29 => M.bind (M.bind (M.bind (M.bind (M.bind (M.bind (M.bind (M.ok tree1) fun y31 => unTree y31) fun y32 => M.ok y32.2.1) fun y33 => unTexts y33) fun y34 => M.bind (M.ok ()) fun y35 => M.ok (y34, y35)) c_Given_init) fun y37 => M.ok (mk_Given y37)) fun piece30 => M.ok piece30 else M.bind (M.bind (M.ok word3) fun y38 => M.ok (!(kget kd_SHAPES y38).isSome)) fun c39 => if c39 = true then M.bind (M.bind (M.ok word3) fun y40 => M.bind (M.ok known2) fun y41 => M.ok (!(dgetL y41 (kS y40)).isSome)) fun c52 => if c52 = true then M.ex .unknown else M.bind (M.bind (M.bind (M.bind (M.ok word3) fun y47 => M.bind (M.bind (M.bind (M.ok known2) fun y43 => M.bind (M.ok word3) fun y44 => getDM y43 (kS y44)) fun y45 => M.bind (M.ok ()) fun y46 => M.ok (y45, y46)) fun y48 => M.ok (y47, y48)) c_Named_init) fun y51 => M.ok (mk_Named y51)) fun piece42 => M.ok piece42 else M.bind (M.ok []) fun things54 => M.bind (M.bind (M.bind (M.ok tree1) fun y55 => unTree y55) fun y56 => M.ok y56.2.1) fun xs75 => M.bind (forM (r_f_worked_out_l1 known2 z_worked_out) things54 xs75) fun (s76 : ((List (Pc ⊕ Int)))) => M.bind (M.bind (M.ok (tx "N")) fun y78 => M.bind (M.bind (M.ok word3) fun y77 => kgetM kd_SHAPES y77) fun y79 => inSM y78 y79) fun c80 => if c80 = true then M.bind (M.bind (M.bind (M.ok word3) fun y85 => M.bind (M.bind (M.ok s76) fun y83 => M.bind (M.ok ()) fun y84 => M.ok (y83, y84)) fun y86 => M.ok (y85, y86)) c_numbered_piece) fun piece82 => M.ok piece82 else M.bind (M.bind (M.bind (M.ok s76) fun y89 => M.ok (y89.length : Int)) fun y90 => M.bind (M.ok (1 : Int)) fun y91 => M.ok (decide (y90 = y91))) fun c92 => if c92 = true then M.bind (M.bind (M.bind (M.ok word3) fun y98 => M.bind (M.bind (M.bind (M.bind (M.ok (0 : Int)) fun y94 => getM s76 y94) fun y95 => unl y95) fun y96 => M.bind (M.ok ()) fun y97 => M.ok (y96, y97)) fun y99 => M.ok (y98, y99)) c_turned_piece) fun piece93 => M.ok piece93 else M.bind (M.bind (M.bind (M.ok word3) fun y106 => M.bind (M.bind (M.ok s76) fun y104 => M.bind (M.ok ()) fun y105 => M.ok (y104, y105)) fun y107 => M.ok (y106, y107)) c_joined_piece) fun piece103 => M.ok piece103) fun (s113 : (Pc)) => M.bind (M.bind (M.bind (M.bind (M.ok s113) fun y114 => c_Piece_wide (y114, ())) fun y116 => M.bind (M.ok (40 : Int)) fun y117 => M.ok (decide (y117 < y116))) fun c122 => if c122 = true then M.ok true else M.bind (M.bind (M.ok s113) fun y118 => c_Piece_high (y118, ())) fun y120 => M.bind (M.ok (40 : Int)) fun y121 => M.ok (decide (y121 < y120))) fun c125 => if c125 = true then M.ex .tooLarge else M.ok s113
def fb_worked_out (z_worked_out : PV → (List (Key × (List Tx))) → M Pc) (tree1 : PV) (known2 : (List (Key × (List Tx)))) : M Pc := M.bind (M.bind (unTree tree1) fun y5 => M.ok y5.1) fun word3 => M.bind (if (decide (word3 = (tx "rows"))) = true then M.bind (M.bind (M.bind (M.bind (M.bind (unTree tree1) fun y10 => M.ok y10.2.1) fun xs24 => compM (fun run11 => M.bind (M.bind (M.bind (unText run11) fun y13 => M.ok (y13.length : Int)) fun y20 => M.bind (M.bind (M.bind (M.bind (M.bind (unTree tree1) fun y15 => M.ok y15.2.1) fun y16 => getM y16 (0 : Int)) fun y18 => unText y18) fun y19 => M.ok (y19.length : Int)) fun y21 => M.ok (decide (y20 = y21))) fun y23 => M.ok (some y23)) xs24) fun y25 => M.ok (y25.all id)) fun y28 => f_must_fit y28) fun u29 => M.bind (M.bind (M.bind (M.bind (M.bind (unTree tree1) fun y32 => M.ok y32.2.1) fun y33 => unTexts y33) fun y36 => f_Given_init y36) fun y37 => M.ok (mk_Given y37)) fun piece30 => M.ok piece30 else if (!(kget kd_SHAPES word3).isSome) = true then if (!(dgetL known2 (kS word3)).isSome) = true then M.ex .unknown else M.bind (M.bind (M.bind (getDM known2 (kS word3)) fun y50 => f_Named_init word3 y50) fun y51 => M.ok (mk_Named y51)) fun piece42 => M.ok piece42 else let things54 : (List (Pc ⊕ Int)) := []; M.bind (M.bind (unTree tree1) fun y56 => M.ok y56.2.1) fun xs75 => M.bind (forM (f_worked_out_l1 known2 z_worked_out) things54 xs75) fun (s76 : ((List (Pc ⊕ Int)))) => M.bind (M.bind (kgetM kd_SHAPES word3) fun y79 => inSM (tx "N") y79) fun c111 => if c111 = true then M.bind (f_numbered_piece word3 s76) fun piece82 => M.ok piece82 else if (decide ((s76.length : Int) = (1 : Int))) = true then M.bind (M.bind (M.bind (getM s76 (0 : Int)) fun y95 => unl y95) fun y101 => f_turned_piece word3 y101) fun piece93 => M.ok piece93 else M.bind (f_joined_piece word3 s76) fun piece103 => M.ok piece103) fun (s113 : (Pc)) => M.bind (M.bind (M.bind (f_Piece_wide s113) fun y116 => M.ok (decide ((40 : Int) < y116))) fun c123 => if c123 = true then M.ok true else M.bind (f_Piece_high s113) fun y120 => M.ok (decide ((40 : Int) < y120))) fun c126 => if c126 = true then M.ex .tooLarge else M.ok s113
def r_worked_out (z_worked_out : PV → (List (Key × (List Tx))) → M Pc) (d : (PV × (List (Key × (List Tx))) × Unit)) : M Pc := q_worked_out z_worked_out d.1 d.2.1
def cb_worked_out (z_worked_out : PV → (List (Key × (List Tx))) → M Pc) (d : (PV × (List (Key × (List Tx))) × Unit)) : M Pc := fb_worked_out z_worked_out d.1 d.2.1
theorem eq_worked_out (z_worked_out : PV → (List (Key × (List Tx))) → M Pc) : r_worked_out z_worked_out = cb_worked_out z_worked_out := by funext d; first | (simp only [r_worked_out, cb_worked_out, q_worked_out, fb_worked_out, M.bind_assoc, M.bok, eq_f_worked_out_l1, c_Given_init, c_Named_init, c_Piece_high, c_Piece_wide, c_joined_piece, c_must_fit, c_numbered_piece, c_turned_piece]; done) | (simp only [r_worked_out, cb_worked_out, q_worked_out, fb_worked_out, M.bind_assoc, M.bok, eq_f_worked_out_l1, c_Given_init, c_Named_init, c_Piece_high, c_Piece_wide, c_joined_piece, c_must_fit, c_numbered_piece, c_turned_piece]; rfl)
theorem bb_worked_out {p : Pr} (X : Facts p) {kf kk : Nat} (z_worked_out : PV → (List (Key × (List Tx))) → M Pc) (Z_worked_out : Fn p kf "worked_out" ["tree", "known"] (spM p (aCons tPV (aCons (tDict (tList tStr)) aNil)) (fun r => .rt false (tPc p) r) (fun d => z_worked_out d.1 d.2.1))) {g : G} (h0 : 6 ≤ kk) (hkf : kf ≤ kk) (ok : OkS p (defScope s_worked_out) N_worked_out V_worked_out G_worked_out kk g) (hX : g.LX = List.replicate N_worked_out.length sAny) (tree1 : PV) (known2 : (List (Key × (List Tx)))) : EvB g [(sV false tPV tree1), (sV false (tDict (tList tStr)) known2), sAny, sAny, sAny, sAny, sAny] (defBody s_worked_out) (fun r => .rt false (tPc p) r) (q_worked_out z_worked_out tree1 known2) := (evb_set ok (i := 2) (j := 2) rfl rfl (wkX hX rfl) .sh (ev_ixA (n := 0) ok.toOk .z (ev_unTree (ev_vsh ok.toOk (i := 0) (j := 0) rfl rfl rfl)) (ev_int (md := .sh))) fun word3 => (evb_if (LJ := (fun (s113 : (Pc)) => [(sV false tPV tree1), (sV false (tDict (tList tStr)) known2), (sV false tStr word3), (sV false (tPc p) s113), sAny, sAny, sAny])) (wkX hX rfl) (evt_c ok.toOk (c_eq s_str) (ev_vsh ok.toOk (i := 2) (j := 2) rfl rfl rfl) (ev_str (md := .sh) (by decide +kernel))) (evb_expr (wkX hX rfl) (ev_call (md' := .sh) ok.toOk (fn_must_fit X) (Nat.le_trans (by decide) h0) (j := 1) rfl .sh (eva_cons (md := .sh) (ev_all (md' := .sh) ok.toOk (j := 0) rfl X.g_all (ev_ofL (evl_lc (md := .sh) (VV' := ["run", "tree"]) (GG' := ["len"]) (i := 6) ok.toOk (evi_seq ok.toOk sq_l (ev_ixA (n := 1) ok.toOk (.s .z) (ev_unTree (ev_vsh ok.toOk (i := 0) (j := 0) rfl rfl rfl)) (ev_int (md := .sh)))) rfl rfl no_any (by decide +kernel) (by decide +kernel) (by decide +kernel) (by decide +kernel) (fun g' okc run11 => evpts_nil) (fun g' okc run11 => (ev_c (md' := .sh) okc (c_eq s_int) (ev_lenS (md' := .sh) okc (j := 0) rfl X.g_len (ev_unText (ev_vsh okc (i := 6) (j := 0) rfl rfl rfl))) (ev_lenS (md' := .sh) okc (j := 0) rfl X.g_len (ev_unText (ev_ixQ okc sq_l (ev_ixA (n := 1) okc (.s .z) (ev_unTree (ev_vsh okc (i := 0) (j := 1) rfl rfl rfl)) (ev_int (md := .sh))) (ev_int (md := .sh)))))))))) eva_nil)) fun u29 => (evb_set ok (i := 3) (j := 3) rfl rfl (wkX hX rfl) .sh (ev_as (T := tPc p) (d2 := mk_Given) (fun d v R r => pcM_Given r) (ev_make ok.toOk (mk_Given_init X) (Nat.le_trans (by decide) h0) (j := 2) rfl (eva_cons (md := .sh) (ev_unTexts (ev_ixA (n := 1) ok.toOk (.s .z) (ev_unTree (ev_vsh ok.toOk (i := 0) (j := 0) rfl rfl rfl)) (ev_int (md := .sh)))) eva_nil))) fun piece30 => (evb_nx (by rfl) (Wk.s (Wk.s (Wk.s (Wk.s (Wk.s (Wk.s (Wk.s Wk.n)))))))))) (evb_ifl (wkX hX rfl) (evt_notinK ok.toOk X.t_SHAPES (j := 3) rfl (ev_vsh ok.toOk (i := 2) (j := 2) rfl rfl rfl)) (evb_ifr ok (wkX hX rfl) X.x_Unknown (jj := 0) (j := 5) rfl (evt_notinVS ok.toOk (ev_vsh ok.toOk (i := 2) (j := 2) rfl rfl rfl) (ev_vsh ok.toOk (i := 1) (j := 1) rfl rfl rfl)) (evb_set ok (i := 3) (j := 3) rfl rfl (wkX hX rfl) .sh (ev_as (T := tPc p) (d2 := mk_Named) (fun d v R r => pcM_Named r) (ev_make ok.toOk (mk_Named_init X) (Nat.le_trans (by decide) h0) (j := 4) rfl (eva_cons (md := .sh) (ev_vsh ok.toOk (i := 2) (j := 2) rfl rfl rfl) (eva_cons (md := .sh) (ev_subVS ok.toOk (ev_vsh ok.toOk (i := 1) (j := 1) rfl rfl rfl) (ev_vsh ok.toOk (i := 2) (j := 2) rfl rfl rfl)) eva_nil)))) fun piece42 => (evb_nx (by rfl) (Wk.s (Wk.s (Wk.s (Wk.s (Wk.s (Wk.s (Wk.s Wk.n)))))))))) (evb_own ok (i := 4) (j := 4) rfl rfl (wkX hX rfl) .sh (evl_nil (md := .sh) (S := (tSum (tPc p) tInt))) fun things54 => (evb_for (LF := (fun (s57 : ((List (Pc ⊕ Int)))) => [(sV false tPV tree1), (sV false (tDict (tList tStr)) known2), (sV false tStr word3), sAny, (sOwn false (tSum (tPc p) tInt) s57), sAny, sAny])) (s0 := things54) ok (wkX hX rfl) (evi_seq ok.toOk sq_l (ev_ixA (n := 1) ok.toOk (.s .z) (ev_unTree (ev_vsh ok.toOk (i := 0) (j := 0) rfl rfl rfl)) (ev_int (md := .sh)))) (Wk.s (Wk.s (Wk.s (Wk.s (Wk.s (Wk.s (Wk.s Wk.n))))))) (fun _ => evg_name ok (i := 5) (j := 5) rfl rfl) (fun s57 thing58 => (evb_ifl (wkX hX rfl) (evt_of (ev_isTree (md' := .sh) ok.toOk (j := 7) rfl X.g_isinstance (ev_vsh ok.toOk (i := 5) (j := 5) rfl rfl rfl) (ev_ty (n := "tuple") (md := .sh) ok.toOk (j := 6) rfl X.g_tuple (by decide +kernel)))) (evb_append ok (wkX hX rfl) (i := 4) (j := 4) rfl rfl rfl .sh (ev_inl (ev_call (md' := .sh) ok.toOk Z_worked_out hkf (j := 8) rfl .sh (eva_cons (md := .sh) (ev_vsh ok.toOk (i := 5) (j := 5) rfl rfl rfl) (eva_cons (md := .sh) (ev_vsh ok.toOk (i := 1) (j := 1) rfl rfl rfl) eva_nil)))) fun things61 => (evb_go (by rfl) (Wk.s (Wk.s (Wk.s (Wk.s (Wk.s (Wk.a (Wk.s Wk.n))))))))) (evb_append ok (wkX hX rfl) (i := 4) (j := 4) rfl rfl rfl .sh (ev_inr (ev_unNum (ev_vsh ok.toOk (i := 5) (j := 5) rfl rfl rfl))) fun things70 => (evb_go (by rfl) (Wk.s (Wk.s (Wk.s (Wk.s (Wk.s (Wk.a (Wk.s Wk.n))))))))))) fun s76 => (evb_ifl (wkX hX rfl) (evt_inS ok.toOk (ev_str (md := .sh) (by decide +kernel)) (ev_subK ok.toOk X.t_SHAPES (j := 3) rfl (ev_vsh ok.toOk (i := 2) (j := 2) rfl rfl rfl))) (evb_freeze (i := 4) rfl (evb_set ok (i := 3) (j := 3) rfl rfl (wkX hX rfl) .sh (ev_call (md' := .sh) ok.toOk (fn_numbered_piece X) (Nat.le_trans (by decide) h0) (j := 9) rfl .sh (eva_cons (md := .sh) (ev_vsh ok.toOk (i := 2) (j := 2) rfl rfl rfl) (eva_cons (md := .sh) (ev_vsh ok.toOk (i := 4) (j := 4) rfl rfl rfl) eva_nil))) fun piece82 => (evb_nx (by rfl) (Wk.s (Wk.s (Wk.s (Wk.s (Wk.a (Wk.s (Wk.s Wk.n)))))))))) (evb_ifl (wkX hX rfl) (evt_borrow (i := 4) rfl (evt_c ok.toOk (c_eq s_int) (ev_lenQ (md' := .sh) ok.toOk sq_l (j := 10) rfl X.g_len (ev_vsh ok.toOk (i := 4) (j := 4) rfl rfl rfl)) (ev_int (md := .sh)))) (evb_set ok (i := 3) (j := 3) rfl rfl (wkX hX rfl) .sh (ev_call (md' := .sh) ok.toOk (fn_turned_piece X) (Nat.le_trans (by decide) h0) (j := 11) rfl .sh (eva_cons (md := .sh) (ev_vsh ok.toOk (i := 2) (j := 2) rfl rfl rfl) (eva_cons (md := .sh) (ev_unl (ev_ixOwn ok.toOk (i := 4) (j := 4) rfl rfl rfl (ev_int (md := .sh)))) eva_nil))) fun piece93 => (evb_nx (by rfl) (Wk.s (Wk.s (Wk.s (Wk.s (Wk.a (Wk.s (Wk.s Wk.n))))))))) (evb_freeze (i := 4) rfl (evb_set ok (i := 3) (j := 3) rfl rfl (wkX hX rfl) .sh (ev_call (md' := .sh) ok.toOk (fn_joined_piece X) (Nat.le_trans (by decide) h0) (j := 12) rfl .sh (eva_cons (md := .sh) (ev_vsh ok.toOk (i := 2) (j := 2) rfl rfl rfl) (eva_cons (md := .sh) (ev_vsh ok.toOk (i := 4) (j := 4) rfl rfl rfl) eva_nil))) fun piece103 => (evb_nx (by rfl) (Wk.s (Wk.s (Wk.s (Wk.s (Wk.a (Wk.s (Wk.s Wk.n))))))))))))))) fun s113 => (evb_ifr ok (wkX hX rfl) X.x_TooLarge (jj := 0) (j := 14) rfl (EvW.t (evw_or (evt_c ok.toOk c_gt (ev_pcMeth0 (T := tInt) (F := fun d => c_Piece_wide (d, ())) ok.toOk (fun d => (mu_Piece_wide X).at d) (Nat.le_trans (by decide) h0) (by decide +kernel) (ev_sh (ev_vsh ok.toOk (i := 3) (j := 3) rfl rfl rfl))) (ev_gint (md := .sh) ok.toOk (j := 13) rfl X.c_MOST_STRANDS)) (evw_or1 (evt_c ok.toOk c_gt (ev_pcMeth0 (T := tInt) (F := fun d => c_Piece_high (d, ())) ok.toOk (fun d => (mu_Piece_high X).at d) (Nat.le_trans (by decide) h0) (by decide +kernel) (ev_sh (ev_vsh ok.toOk (i := 3) (j := 3) rfl rfl rfl))) (ev_gint (md := .sh) ok.toOk (j := 13) rfl X.c_MOST_STRANDS))))) (evb_ret (wkX hX rfl) .sh (by intro _; rfl) (ev_vsh ok.toOk (i := 3) (j := 3) rfl rfl rfl)))))
theorem fs_worked_out {p : Pr} (X : Facts p) {kf kk : Nat} (z_worked_out : PV → (List (Key × (List Tx))) → M Pc) (Z_worked_out : Fn p kf "worked_out" ["tree", "known"] (spM p (aCons tPV (aCons (tDict (tList tStr)) aNil)) (fun r => .rt false (tPc p) r) (fun d => z_worked_out d.1 d.2.1))) (h0 : 6 ≤ kk) (hkf : kf ≤ kk) : Fn p (kk + 1) "worked_out" ["tree", "known"] (spM p (aCons tPV (aCons (tDict (tList tStr)) aNil)) (fun r => .rt false (tPc p) r) (cb_worked_out z_worked_out)) := by
  obtain ⟨f, fd, hF, hm⟩ := X.d_worked_out
  exact ⟨f, fd, eq_worked_out z_worked_out ▸ fn_rt (m := 5) hF sc_worked_out (.cons (.cons .nil)) rfl rfl (fun g ok hX d => bb_worked_out X z_worked_out Z_worked_out h0 hkf ok hX d.1 d.2.1), hm, hF.kp, hF.bindsN fun _ _ _ _ _ _ us hl => match us, hl with | [_, _], _ => rfl⟩
theorem f0_worked_out {p : Pr} (X : Facts p) (kk : Nat) : Fn p (kk + 1) "worked_out" ["tree", "known"] (spM p (aCons tPV (aCons (tDict (tList tStr)) aNil)) (fun r => .rt false (tPc p) r) (fun (_ : (PV × (List (Key × (List Tx))) × Unit)) => .no)) := by
  obtain ⟨f, fd, hF, hm⟩ := X.d_worked_out
  exact ⟨f, fd, fn_rt (m := 5) hF sc_worked_out (.cons (.cons .nil)) rfl rfl body_no, hm, hF.kp, hF.bindsN fun _ _ _ _ _ _ us hl => match us, hl with | [_, _], _ => rfl⟩
def FF_worked_out : Nat → (PV → (List (Key × (List Tx))) → M Pc)
  | 0 => (fun _ _ => M.no)
  | n + 1 => let z := FF_worked_out n; (fb_worked_out z)
theorem fnF_worked_out {p : Pr} (X : Facts p) : ∀ n : Nat, (Fn p (6 + n + 1) "worked_out" ["tree", "known"] (spM p (aCons tPV (aCons (tDict (tList tStr)) aNil)) (fun r => .rt false (tPc p) r) (fun d => (FF_worked_out n) d.1 d.2.1)))
  | 0 => f0_worked_out X 6
  | n + 1 => fs_worked_out X ((FF_worked_out n)) (fnF_worked_out X n) (by omega) (Nat.le_refl _)
def f_worked_out (x0 : PV) (x1 : (List (Key × (List Tx)))) : M Pc := (FF_worked_out 24) x0 x1
def c_worked_out (d : (PV × (List (Key × (List Tx))) × Unit)) : M Pc := f_worked_out d.1 d.2.1
theorem fn_worked_out {p : Pr} (X : Facts p) : Fn p (31) "worked_out" ["tree", "known"] (spM p (aCons tPV (aCons (tDict (tList tStr)) aNil)) (fun r => .rt false (tPc p) r) c_worked_out) := (fnF_worked_out X 24)
abbrev s_read_pattern : Stmt := (topS 40)
abbrev N_read_pattern : List Str := ["text", "known", "marks", "tree", "behind", "by_name", "name", "cloth"]
abbrev V_read_pattern : List Str := ["text", "known", "marks", "tree", "behind", "by_name", "name", "cloth"]
abbrev G_read_pattern : List Str := ["marks_of", "read_tree", "len", "worked_out", "NoPattern"]
theorem sc_read_pattern : Sc s_read_pattern N_read_pattern V_read_pattern ["text", "known"] G_read_pattern := ⟨⟨rfl, rfl, rfl, by decide +kernel, rfl, by decide +kernel, by decide +kernel⟩, by decide +kernel, by decide +kernel, by decide +kernel⟩
def r_f_read_pattern_l1  : ((List (Key × (List Tx)))) → (Tx × (List Tx) × Unit) → M ((List (Key × (List Tx)))) := fun s21 t22 => M.bind (M.ok t22.2.1) fun y23 => M.bind (M.ok t22.1) fun i24 => M.bind (dputM s21 (kS i24) y23) fun byname25 => M.ok byname25
def f_read_pattern_l1  : ((List (Key × (List Tx)))) → (Tx × (List Tx) × Unit) → M ((List (Key × (List Tx)))) := fun s21 t22 => M.bind (dputM s21 (kS t22.1) t22.2.1) fun byname25 => M.ok byname25
theorem eq_f_read_pattern_l1  : r_f_read_pattern_l1  = f_read_pattern_l1  := by funext s21 t22; first | (simp only [r_f_read_pattern_l1, f_read_pattern_l1, M.bind_assoc, M.bok, c_marks_of, c_read_tree, c_worked_out]; done) | (simp only [r_f_read_pattern_l1, f_read_pattern_l1, M.bind_assoc, M.bok, c_marks_of, c_read_tree, c_worked_out]; rfl)
def q_read_pattern (text1 : Tx) (known2 : (List (Tx × (List Tx) × Unit))) : M Pc := M.bind (M.bind (M.bind (M.ok text1) fun y4 => M.bind (M.ok ()) fun y5 => M.ok (y4, y5)) c_marks_of) fun marks3 => M.bind (M.bind (M.bind (M.ok marks3) fun y11 => M.bind (M.bind (M.ok (0 : Int)) fun y9 => M.bind (M.bind (M.ok (1 : Int)) fun y7 => M.bind (M.ok ()) fun y8 => M.ok (y7, y8)) fun y10 => M.ok (y9, y10)) fun y12 => M.ok (y11, y12)) c_read_tree) fun t16 => M.bind (M.bind (M.ok t16.2.1) fun y18 => M.bind (M.bind (M.ok marks3) fun y17 => M.ok (y17.length : Int)) fun y19 => M.ok (decide (y18 < y19))) fun c35 => if c35 = true then M.ex .noPattern else M.bind (M.ok ([] : (List (Key × (List Tx))))) fun byname20 => M.bind (M.ok known2) fun xs26 => M.bind (forM r_f_read_pattern_l1 byname20 xs26) fun (s27 : ((List (Key × (List Tx))))) => M.bind (M.bind (M.ok t16.1) fun y30 => M.bind (M.bind (M.ok s27) fun y28 => M.bind (M.ok ()) fun y29 => M.ok (y28, y29)) fun y31 => M.ok (y30, y31)) c_worked_out
def f_read_pattern (text1 : Tx) (known2 : (List (Tx × (List Tx) × Unit))) : M Pc := M.bind (f_marks_of text1) fun marks3 => M.bind (f_read_tree marks3 (0 : Int) (1 : Int)) fun t16 => if (decide (t16.2.1 < (marks3.length : Int))) = true then M.ex .noPattern else let byname20 : (List (Key × (List Tx))) := []; M.bind (forM f_read_pattern_l1 byname20 known2) fun (s27 : ((List (Key × (List Tx))))) => f_worked_out t16.1 s27
def r_read_pattern (d : (Tx × (List (Tx × (List Tx) × Unit)) × Unit)) : M Pc := q_read_pattern d.1 d.2.1
def c_read_pattern (d : (Tx × (List (Tx × (List Tx) × Unit)) × Unit)) : M Pc := f_read_pattern d.1 d.2.1
theorem eq_read_pattern : r_read_pattern = c_read_pattern := by funext d; first | (simp only [r_read_pattern, c_read_pattern, q_read_pattern, f_read_pattern, M.bind_assoc, M.bok, eq_f_read_pattern_l1, c_marks_of, c_read_tree, c_worked_out]; done) | (simp only [r_read_pattern, c_read_pattern, q_read_pattern, f_read_pattern, M.bind_assoc, M.bok, eq_f_read_pattern_l1, c_marks_of, c_read_tree, c_worked_out]; rfl)
theorem bb_read_pattern {p : Pr} (X : Facts p) {g : G} (ok : OkS p (defScope s_read_pattern) N_read_pattern V_read_pattern G_read_pattern 31 g) (hX : g.LX = List.replicate N_read_pattern.length sAny) (text1 : Tx) (known2 : (List (Tx × (List Tx) × Unit))) : EvB g [(sV false tStr text1), (sV false (tList (tTup (aCons tStr (aCons (tList tStr) aNil)))) known2), sAny, sAny, sAny, sAny, sAny, sAny] (defBody s_read_pattern) (fun r => .rt false (tPc p) r) (q_read_pattern text1 known2) := (evb_set ok (i := 2) (j := 2) rfl rfl (wkX hX rfl) .sh (ev_ofL (evl_call (md' := .sh) ok.toOk (fn_marks_of X) (by decide) (j := 0) rfl .sh (eva_cons (md := .sh) (ev_vsh ok.toOk (i := 0) (j := 0) rfl rfl rfl) eva_nil))) fun marks3 => (evb_asg ok (wkX hX rfl) (ev_call (md' := .sh) ok.toOk (fn_read_tree X) (by decide) (j := 1) rfl .sh (eva_cons (md := .sh) (ev_vsh ok.toOk (i := 2) (j := 2) rfl rfl rfl) (eva_cons (md := .sh) (ev_int (md := .sh)) (eva_cons (md := .sh) (ev_int (md := .sh)) eva_nil)))) (evg_tup ok.toOk (lenS (lenS len0)) (evgs_cons (evg_name ok (i := 3) (j := 3) rfl rfl) fun _ => (evgs_cons (evg_name ok (i := 4) (j := 4) rfl rfl) fun _ => evgs_nil))) fun t16 => (evb_ifr ok (wkX hX rfl) X.x_NoPattern (jj := 0) (j := 4) rfl (evt_c ok.toOk c_lt (ev_vsh ok.toOk (i := 4) (j := 4) rfl rfl rfl) (ev_lenQ (md' := .sh) ok.toOk sq_l (j := 2) rfl X.g_len (ev_vsh ok.toOk (i := 2) (j := 2) rfl rfl rfl))) (evb_newD (S := (tList tStr)) ok (i := 5) (j := 5) rfl rfl fun byname20 => (evb_for (LF := (fun (s21 : ((List (Key × (List Tx))))) => [(sV false tStr text1), (sV false (tList (tTup (aCons tStr (aCons (tList tStr) aNil)))) known2), (sV false (tList tStr) marks3), (sV false tPV t16.1), (sV false tInt t16.2.1), (sDict false (tList tStr) s21), sAny, sAny])) (s0 := byname20) ok (wkX hX rfl) (evi_seq ok.toOk sq_l (ev_vsh ok.toOk (i := 1) (j := 1) rfl rfl rfl)) (Wk.s (Wk.s (Wk.s (Wk.s (Wk.s (Wk.s (Wk.s (Wk.s Wk.n)))))))) (fun _ => evg_tup ok.toOk (lenS (lenS len0)) (evgs_cons (evg_name ok (i := 6) (j := 6) rfl rfl) fun _ => (evgs_cons (evg_name ok (i := 7) (j := 7) rfl rfl) fun _ => evgs_nil))) (fun s21 t22 => (evb_putDS ok (wkX hX rfl) (i := 5) (j := 5) rfl rfl rfl .sh (ev_vsh ok.toOk (i := 7) (j := 7) rfl rfl rfl) (ev_vsh ok.toOk (i := 6) (j := 6) rfl rfl rfl) fun byname25 => (evb_go (by rfl) (Wk.s (Wk.s (Wk.s (Wk.s (Wk.s (Wk.s (Wk.a (Wk.a Wk.n))))))))))) fun s27 => (evb_freezeD (i := 5) rfl (evb_ret (wkX hX rfl) .sh (by intro _; rfl) (ev_call (md' := .sh) ok.toOk (fn_worked_out X) (by decide) (j := 3) rfl .sh (eva_cons (md := .sh) (ev_vsh ok.toOk (i := 3) (j := 3) rfl rfl rfl) (eva_cons (md := .sh) (ev_vsh ok.toOk (i := 5) (j := 5) rfl rfl rfl) eva_nil))))))))))
theorem b_read_pattern {p : Pr} (X : Facts p) : Body p s_read_pattern N_read_pattern V_read_pattern G_read_pattern 31 (fun (d : (Tx × (List (Tx × (List Tx) × Unit)) × Unit)) => [(sV false tStr d.1), (sV false (tList (tTup (aCons tStr (aCons (tList tStr) aNil)))) d.2.1), sAny, sAny, sAny, sAny, sAny, sAny]) (fun r => .rt false (tPc p) r) r_read_pattern := fun g ok hX d => bb_read_pattern X ok hX d.1 d.2.1
theorem fn_read_pattern {p : Pr} (X : Facts p) : Fn p 32 "read_pattern" ["text", "known"] (spM p (aCons tStr (aCons (tList (tTup (aCons tStr (aCons (tList tStr) aNil)))) aNil)) (fun r => .rt false (tPc p) r) c_read_pattern) := by
  obtain ⟨f, fd, hF, hm⟩ := X.d_read_pattern
  exact ⟨f, fd, eq_read_pattern ▸ fn_rt (m := 6) hF sc_read_pattern (.cons (.cons .nil)) rfl rfl (b_read_pattern X), hm, hF.kp, hF.bindsN fun _ _ _ _ _ _ us hl => match us, hl with | [_, _], _ => rfl⟩
abbrev s__law_right : Stmt := (topS 47)
abbrev N__law_right : List Str := ["cell", "text", "due", "wide", "high", "caught", "piece", "e"]
abbrev V__law_right : List Str := ["cell", "text", "due", "wide", "high", "caught", "piece", "e"]
abbrev G__law_right : List Str := ["_law_text", "read_pattern", "isinstance", "Unknown", "NoPattern", "TooLarge", "WeaveError"]
theorem sc__law_right : Sc s__law_right N__law_right V__law_right ["cell"] G__law_right := ⟨⟨rfl, rfl, rfl, by decide +kernel, rfl, by decide +kernel, by decide +kernel⟩, by decide +kernel, by decide +kernel, by decide +kernel⟩
def q__law_right (cell1 : Int) : M Bool := M.bind (M.bind (M.bind (M.ok cell1) fun y2 => M.bind (M.ok ()) fun y3 => M.ok (y2, y3)) c__law_text) fun t5 => M.bind (M.ok none) fun caught6 => M.bind (M.ok none) fun piece7 => M.bind (tryM kn_ .weave (M.bind (M.bind (M.bind (M.bind (M.ok t5.1) fun y29 => M.bind (M.bind (M.bind (M.bind (M.ok (tx "known")) fun y20 => M.bind (M.bind (M.bind (M.ok (tx "#.")) fun y13 => M.bind (M.bind (M.ok (tx ".#")) fun y11 => M.bind (M.bind (M.ok (tx "##")) fun y9 => M.bind (M.ok []) fun y10 => M.ok (y9 :: y10)) fun y12 => M.ok (y11 :: y12)) fun y14 => M.ok (y13 :: y14)) fun y18 => M.bind (M.ok ()) fun y19 => M.ok (y18, y19)) fun y21 => M.ok (y20, y21)) fun y24 => M.bind (M.ok []) fun y25 => M.ok (y24 :: y25)) fun y27 => M.bind (M.ok ()) fun y28 => M.ok (y27, y28)) fun y30 => M.ok (y29, y30)) c_read_pattern) fun y33 => M.ok (some y33)) fun piece8 => M.ok (caught6, piece8)) fun e35 => ((some e35), piece7)) fun (s34 : ((Option Ec) × (Option Pc))) => M.bind (M.bind (M.ok t5.2.1) fun y36 => M.bind (M.ok (tx "")) fun y37 => M.ok (decide (y36 = y37))) fun c38 => if c38 = true then M.bind (M.bind (M.ok s34.1) fun y39 => M.ok y39.isNone) fun c52 => if c52 = true then M.bind (M.bind (M.bind (M.bind (M.ok s34.2) fun y40 => unM y40) fun y41 => c_Piece_wide (y41, ())) fun y43 => M.bind (M.ok t5.2.2.1) fun y44 => M.ok (decide (y43 = y44))) fun c50 => if c50 = true then M.bind (M.bind (M.bind (M.ok s34.2) fun y45 => unM y45) fun y46 => c_Piece_high (y46, ())) fun y48 => M.bind (M.ok t5.2.2.2.1) fun y49 => M.ok (decide (y48 = y49)) else M.ok false else M.ok false else M.bind (M.bind (M.ok t5.2.1) fun y55 => M.bind (M.ok (tx "Unknown")) fun y56 => M.ok (decide (y55 = y56))) fun c57 => if c57 = true then M.bind (M.bind (M.ok s34.1) fun y58 => isEM kn_ y58 .unknown) fun c61 => if c61 = true then M.bind (M.bind (M.ok s34.1) fun y59 => isEM kn_ y59 .noPattern) fun y60 => M.ok (!y60) else M.ok false else M.bind (M.bind (M.ok t5.2.1) fun y64 => M.bind (M.ok (tx "TooLarge")) fun y65 => M.ok (decide (y64 = y65))) fun c66 => if c66 = true then M.bind (M.bind (M.ok s34.1) fun y67 => isEM kn_ y67 .tooLarge) fun c70 => if c70 = true then M.bind (M.bind (M.ok s34.1) fun y68 => isEM kn_ y68 .noPattern) fun y69 => M.ok (!y69) else M.ok false else M.bind (M.bind (M.ok s34.1) fun y73 => isEM kn_ y73 .noPattern) fun c76 => if c76 = true then M.bind (M.bind (M.ok s34.1) fun y74 => isEM kn_ y74 .unknown) fun y75 => M.ok (!y75) else M.ok false
def f_law_right (cell1 : Int) : M Bool := M.bind (f_law_text cell1) fun t5 => let caught6 : (Option Ec) := none; let piece7 : (Option Pc) := none; M.bind (tryM kn_ .weave (M.bind (M.bind (f_read_pattern t5.1 ([((tx "known"), ([(tx "#."), (tx ".#"), (tx "##")]), ())])) fun y33 => M.ok (some y33)) fun piece8 => M.ok (caught6, piece8)) fun e35 => ((some e35), piece7)) fun (s34 : ((Option Ec) × (Option Pc))) => if (decide (t5.2.1 = (tx ""))) = true then if s34.1.isNone = true then M.bind (M.bind (M.bind (unM s34.2) fun y42 => f_Piece_wide y42) fun y43 => M.ok (decide (y43 = t5.2.2.1))) fun c51 => if c51 = true then M.bind (M.bind (unM s34.2) fun y47 => f_Piece_high y47) fun y48 => M.ok (decide (y48 = t5.2.2.2.1)) else M.ok false else M.ok false else if (decide (t5.2.1 = (tx "Unknown"))) = true then M.bind (isEM kn_ s34.1 .unknown) fun c62 => if c62 = true then M.bind (isEM kn_ s34.1 .noPattern) fun y60 => M.ok (!y60) else M.ok false else if (decide (t5.2.1 = (tx "TooLarge"))) = true then M.bind (isEM kn_ s34.1 .tooLarge) fun c71 => if c71 = true then M.bind (isEM kn_ s34.1 .noPattern) fun y69 => M.ok (!y69) else M.ok false else M.bind (isEM kn_ s34.1 .noPattern) fun c77 => if c77 = true then M.bind (isEM kn_ s34.1 .unknown) fun y75 => M.ok (!y75) else M.ok false
def r__law_right (d : (Int × Unit)) : M Bool := q__law_right d.1
def c__law_right (d : (Int × Unit)) : M Bool := f_law_right d.1
theorem eq__law_right : r__law_right = c__law_right := by funext d; first | (simp only [r__law_right, c__law_right, q__law_right, f_law_right, M.bind_assoc, M.bok, c_Piece_high, c_Piece_wide, c__law_text, c_read_pattern]; done) | (simp only [r__law_right, c__law_right, q__law_right, f_law_right, M.bind_assoc, M.bok, c_Piece_high, c_Piece_wide, c__law_text, c_read_pattern]; rfl)
theorem bb__law_right {p : Pr} (X : Facts p) {g : G} (ok : OkS p (defScope s__law_right) N__law_right V__law_right G__law_right 32 g) (hX : g.LX = List.replicate N__law_right.length sAny) (cell1 : Int) : EvB g [(sV false tInt cell1), sAny, sAny, sAny, sAny, sAny, sAny, sAny] (defBody s__law_right) (fun r => .rt false tBool r) (q__law_right cell1) := (evb_asg ok (wkX hX rfl) (ev_call (md' := .sh) ok.toOk (fn__law_text X) (by decide) (j := 0) rfl .sh (eva_cons (md := .sh) (ev_vsh ok.toOk (i := 0) (j := 0) rfl rfl rfl) eva_nil)) (evg_tup ok.toOk (lenS (lenS (lenS (lenS len0)))) (evgs_cons (evg_name ok (i := 1) (j := 1) rfl rfl) fun _ => (evgs_cons (evg_name ok (i := 2) (j := 2) rfl rfl) fun _ => (evgs_cons (evg_name ok (i := 3) (j := 3) rfl rfl) fun _ => (evgs_cons (evg_name ok (i := 4) (j := 4) rfl rfl) fun _ => evgs_nil))))) fun t5 => (evb_set ok (i := 5) (j := 5) rfl rfl (wkX hX rfl) .sh (ev_optN (md := .sh)) fun caught6 => (evb_set ok (i := 6) (j := 6) rfl rfl (wkX hX rfl) .sh (ev_optN (md := .sh)) fun piece7 => (evb_tryA (LJ := (fun (s34 : ((Option Ec) × (Option Pc))) => [(sV false tInt cell1), (sV false tStr t5.1), (sV false tStr t5.2.1), (sV false tInt t5.2.2.1), (sV false tInt t5.2.2.2.1), (sV false (tOpt (tExc p)) s34.1), (sV false (tOpt (tPc p)) s34.2), sAny])) (h := fun e35 => ((some e35), piece7)) ok (wkX hX rfl) X.kn (by decide) X.x_WeaveError.gP (j := 6) rfl (iE := 7) (iC := 5) (jE := 7) (jC := 5) rfl rfl (by decide +kernel) rfl rfl rfl (fun g' ok hX => (evb_set ok (i := 6) (j := 6) rfl rfl (wkL hX (Wk.s (Wk.s (Wk.s (Wk.s (Wk.s (Wk.s (Wk.s (Wk.s Wk.n))))))))) .sh (ev_some nn_pc (ev_call (md' := .sh) ok.toOk (fn_read_pattern X) (by decide) (j := 1) rfl .sh (eva_cons (md := .sh) (ev_vsh ok.toOk (i := 1) (j := 1) rfl rfl rfl) (eva_cons (md := .sh) (ev_ofL (evl_lstN (n := 1) (lnS ln0) (by decide) (evs_cons (ev_tup (fun d vs R h => by rw [(lenS (lenS len0)) h]; decide) (eva_cons (ev_str (md := .sh) (by decide +kernel)) (eva_cons (ev_ofL (evl_lstN (n := 3) (lnS (lnS (lnS ln0))) (by decide) (evs_cons (ev_str (md := .sh) (by decide +kernel)) (evs_cons (ev_str (md := .sh) (by decide +kernel)) (evs_cons (ev_str (md := .sh) (by decide +kernel)) evs_nil))))) eva_nil))) evs_nil))) eva_nil)))) fun piece8 => (evb_nx (by rfl) (Wk.s (Wk.s (Wk.s (Wk.s (Wk.s (Wk.s (Wk.s (Wk.s Wk.n))))))))))) (fun e35 => (Wk.s (Wk.s (Wk.s (Wk.s (Wk.s (Wk.s (Wk.s (Wk.s Wk.n))))))))) fun s34 => (evb_ifx (wkX hX rfl) (evt_c ok.toOk (c_eq s_str) (ev_vsh ok.toOk (i := 2) (j := 2) rfl rfl rfl) (ev_str (md := .sh) (by decide +kernel))) (evb_ret (wkX hX rfl) .sh (by intro _; rfl) (ev_and (ev_isN (md' := .sh) ok.toOk (ev_vsh ok.toOk (i := 5) (j := 5) rfl rfl rfl)) (ev_and (ev_c (md' := .sh) ok.toOk (c_eq s_int) (ev_pcMeth0 (T := tInt) (F := fun d => c_Piece_wide (d, ())) ok.toOk (fun d => (mu_Piece_wide X).at d) (by decide) (by decide +kernel) (ev_sh (ev_un1 (ev_vsh ok.toOk (i := 6) (j := 6) rfl rfl rfl)))) (ev_vsh ok.toOk (i := 3) (j := 3) rfl rfl rfl)) (ev_one (ev_c (md' := .sh) ok.toOk (c_eq s_int) (ev_pcMeth0 (T := tInt) (F := fun d => c_Piece_high (d, ())) ok.toOk (fun d => (mu_Piece_high X).at d) (by decide) (by decide +kernel) (ev_sh (ev_un1 (ev_vsh ok.toOk (i := 6) (j := 6) rfl rfl rfl)))) (ev_vsh ok.toOk (i := 4) (j := 4) rfl rfl rfl)))))) (evb_ifx (wkX hX rfl) (evt_c ok.toOk (c_eq s_str) (ev_vsh ok.toOk (i := 2) (j := 2) rfl rfl rfl) (ev_str (md := .sh) (by decide +kernel))) (evb_ret (wkX hX rfl) .sh (by intro _; rfl) (ev_and (ev_isE (md' := .sh) ok.toOk X.kn (by decide) (j := 2) rfl X.g_isinstance (ev_vsh ok.toOk (i := 5) (j := 5) rfl rfl rfl) (ev_cls (md := .sh) ok.toOk (j := 3) rfl X.x_Unknown.gP)) (ev_one (ev_not (md' := .sh) (ev_isE (md' := .sh) ok.toOk X.kn (by decide) (j := 2) rfl X.g_isinstance (ev_vsh ok.toOk (i := 5) (j := 5) rfl rfl rfl) (ev_cls (md := .sh) ok.toOk (j := 4) rfl X.x_NoPattern.gP)))))) (evb_ifx (wkX hX rfl) (evt_c ok.toOk (c_eq s_str) (ev_vsh ok.toOk (i := 2) (j := 2) rfl rfl rfl) (ev_str (md := .sh) (by decide +kernel))) (evb_ret (wkX hX rfl) .sh (by intro _; rfl) (ev_and (ev_isE (md' := .sh) ok.toOk X.kn (by decide) (j := 2) rfl X.g_isinstance (ev_vsh ok.toOk (i := 5) (j := 5) rfl rfl rfl) (ev_cls (md := .sh) ok.toOk (j := 5) rfl X.x_TooLarge.gP)) (ev_one (ev_not (md' := .sh) (ev_isE (md' := .sh) ok.toOk X.kn (by decide) (j := 2) rfl X.g_isinstance (ev_vsh ok.toOk (i := 5) (j := 5) rfl rfl rfl) (ev_cls (md := .sh) ok.toOk (j := 4) rfl X.x_NoPattern.gP)))))) (evb_ret (wkX hX rfl) .sh (by intro _; rfl) (ev_and (ev_isE (md' := .sh) ok.toOk X.kn (by decide) (j := 2) rfl X.g_isinstance (ev_vsh ok.toOk (i := 5) (j := 5) rfl rfl rfl) (ev_cls (md := .sh) ok.toOk (j := 4) rfl X.x_NoPattern.gP)) (ev_one (ev_not (md' := .sh) (ev_isE (md' := .sh) ok.toOk X.kn (by decide) (j := 2) rfl X.g_isinstance (ev_vsh ok.toOk (i := 5) (j := 5) rfl rfl rfl) (ev_cls (md := .sh) ok.toOk (j := 3) rfl X.x_Unknown.gP)))))))))))))
theorem b__law_right {p : Pr} (X : Facts p) : Body p s__law_right N__law_right V__law_right G__law_right 32 (fun (d : (Int × Unit)) => [(sV false tInt d.1), sAny, sAny, sAny, sAny, sAny, sAny, sAny]) (fun r => .rt false tBool r) r__law_right := fun g ok hX d => bb__law_right X ok hX d.1
theorem fn__law_right {p : Pr} (X : Facts p) : Fn p 33 "_law_right" ["cell"] (spM p (aCons tInt aNil) (fun r => .rt false tBool r) c__law_right) := by
  obtain ⟨f, fd, hF, hm⟩ := X.d__law_right
  exact ⟨f, fd, eq__law_right ▸ fn_rt (m := 7) hF sc__law_right (.cons .nil) rfl rfl (b__law_right X), hm, hF.kp, hF.bindsN fun _ _ _ _ _ _ us hl => match us, hl with | [_], _ => rfl⟩
abbrev s_law : Stmt := (topS 48)
abbrev N_law : List Str := ["script", "cell"]
abbrev V_law : List Str := ["script", "cell"]
abbrev G_law : List Str := ["_law_right"]
theorem sc_law : Sc s_law N_law V_law ["script"] G_law := ⟨⟨rfl, rfl, rfl, by decide +kernel, rfl, by decide +kernel, by decide +kernel⟩, by decide +kernel, by decide +kernel, by decide +kernel⟩
def r_f_law_l1  : Unit → Int → M (Fl Unit Bool) := fun s6 cell7 => M.bind (M.bind (M.bind (M.bind (M.ok cell7) fun y8 => M.bind (M.ok ()) fun y9 => M.ok (y8, y9)) c__law_right) fun y11 => M.ok (!y11)) fun c12 => if c12 = true then M.bind (M.ok false) fun r13 => M.ok (Fl.rt r13) else M.ok (Fl.nx ())
def f_law_l1  : Unit → Int → M (Fl Unit Bool) := fun s6 cell7 => M.bind (M.bind (f_law_right cell7) fun y11 => M.ok (!y11)) fun c14 => if c14 = true then M.ok (Fl.rt false) else M.ok (Fl.nx ())
theorem eq_f_law_l1  : r_f_law_l1  = f_law_l1  := by funext s6 cell7; first | (simp only [r_f_law_l1, f_law_l1, M.bind_assoc, M.bok, c__law_right]; done) | (simp only [r_f_law_l1, f_law_l1, M.bind_assoc, M.bok, c__law_right]; rfl)
def q_law (script1 : (List Int)) : M Bool := M.bind (M.bind (M.ok script1) fun y3 => M.bind (M.ok (none : Option Int)) fun y4 => M.bind (M.bind (M.ok (12 : Int)) fun y2 => M.ok (some y2)) fun y5 => M.ok (cutL y3 y4 y5)) fun xs15 => M.bind (forF r_f_law_l1 () xs15) (Fl.el (fun (s16 : Unit) => M.bind (M.bind (M.ok (0 : Int)) fun y17 => M.bind (M.ok ()) fun y18 => M.ok (y17, y18)) c__law_right) fun r21 => M.ok r21)
def f_law (script1 : (List Int)) : M Bool := M.bind (forF f_law_l1 () (cutL script1 none (some (12 : Int)))) (Fl.el (fun (s16 : Unit) => f_law_right (0 : Int)) fun r21 => M.ok r21)
def r_law (d : ((List Int) × Unit)) : M Bool := q_law d.1
def c_law (d : ((List Int) × Unit)) : M Bool := f_law d.1
theorem eq_law : r_law = c_law := by funext d; first | (simp only [r_law, c_law, q_law, f_law, M.bind_assoc, M.bok, eq_f_law_l1, c__law_right]; done) | (simp only [r_law, c_law, q_law, f_law, M.bind_assoc, M.bok, eq_f_law_l1, c__law_right]; rfl)
theorem bb_law {p : Pr} (X : Facts p) {g : G} (ok : OkS p (defScope s_law) N_law V_law G_law 33 g) (hX : g.LX = List.replicate N_law.length sAny) (script1 : (List Int)) : EvB g [(sV false (tListK p.K tInt) script1), sAny] (defBody s_law) (fun r => .rt false tBool r) (q_law script1) := (evb_forF (LF := (fun (s6 : Unit) => [(sV false (tListK p.K tInt) script1), sAny])) (s0 := ()) (dr := fun r21 => r21) ok (wkX hX rfl) (evi_seq ok.toOk sq_l (ev_ofL (evl_slQ (md := .sh) ok.toOk sq_k (ev_vsh ok.toOk (i := 0) (j := 0) rfl rfl rfl) evo_none (evo_some (ev_int (md := .sh)))))) (Wk.s (Wk.s Wk.n)) (fun _ => evg_name ok (i := 1) (j := 1) rfl rfl) (fun s6 cell7 => (evb_ifl (wkX hX rfl) (evt_not (evt_of (ev_call (md' := .sh) ok.toOk (fn__law_right X) (by decide) (j := 0) rfl .sh (eva_cons (md := .sh) (ev_vsh ok.toOk (i := 1) (j := 1) rfl rfl rfl) eva_nil)))) (evb_retF (mk := fun r13 => Fl.rt r13) (wkX hX rfl) .sh (by intro _; rfl) (ev_bool (md := .sh))) (evb_go (by rfl) (Wk.s (Wk.a Wk.n))))) fun s16 => (evb_ret (wkX hX rfl) .sh (by intro _; rfl) (ev_call (md' := .sh) ok.toOk (fn__law_right X) (by decide) (j := 0) rfl .sh (eva_cons (md := .sh) (ev_int (md := .sh)) eva_nil))))
theorem b_law {p : Pr} (X : Facts p) : Body p s_law N_law V_law G_law 33 (fun (d : ((List Int) × Unit)) => [(sV false (tListK p.K tInt) d.1), sAny]) (fun r => .rt false tBool r) r_law := fun g ok hX d => bb_law X ok hX d.1
theorem fnok_law {p : Pr} (X : Facts p) {f : Addr} {fd : FuncData} (hF : FunD p.K "law" "law" (defArgs s_law) (defBody s_law) (defScope s_law) [] [] f fd) : FnOk p.P p.w p.K p.mg p.base (L2.CX p.P p.w) 34 f fd ["script"] (spM p (aCons (tListK p.K tInt) aNil) (fun r => .rt false tBool r) c_law) := eq_law ▸ fn_rt (m := 1) hF sc_law (.cons .nil) rfl rfl (b_law X)
theorem while_is {β : Type} {t : β → M Bool} {f : β → M β} {R : β → M β} (I : β → Prop) (μ : β → Nat)
    (hs : ∀ s, I s → (t s = .ok false ∧ R s = .ok s) ∨ (t s = .ok true ∧ ((∃ s', f s = .ok s' ∧ I s' ∧ μ s' < μ s ∧ R s' = R s) ∨ (∃ c, f s = .ex c ∧ R s = .ex c)))) :
    ∀ (n : Nat) (s : β), I s → μ s < n → whileM t f n s = R s
  | 0, _, _, h => by omega
  | n + 1, s, i, h => by
    show (t s).bind (fun c => if c = true then (f s).bind (whileM t f n) else .ok s) = _
    rcases hs s i with ⟨h1, h2⟩ | ⟨h1, ⟨s', h2, h3, h4, h5⟩ | ⟨c, h2, h3⟩⟩
    · rw [h1, h2]; rfl
    · rw [h1]
      show (f s).bind (whileM t f n) = _
      rw [h2]
      show whileM t f n s' = _
      rw [while_is I μ hs n s' h3 (by omega), h5]
    · rw [h1]
      show (f s).bind (whileM t f n) = _
      rw [h2, h3]; rfl
theorem while_isF {β : Type} {t : β → M Bool} {f : β → M β} {R : β → M β} (I : β → Prop) (μ : β → Nat)
    (hs : ∀ s, I s → (t s = .ok false ∧ R s = .ok s) ∨ (t s = .ok true ∧ ((∃ s', f s = .ok s' ∧ I s' ∧ μ s' < μ s ∧ R s' = R s) ∨ (∃ c, f s = .ex c ∧ R s = .ex c)))) (s : β) (i : I s) (h : μ s < 1000000) : whileM t f fuel s = R s :=
  while_is I μ hs fuel s i (Nat.lt_of_lt_of_le h (by decide))
def isLt (c : Nat) : Bool := decide (97 ≤ c ∧ c ≤ 122)
def isDg (c : Nat) : Bool := decide (48 ≤ c ∧ c ≤ 57)
def isRn (c : Nat) : Bool := decide (c = 35 ∨ c = 46)
def csort (c : Nat) : Nat := if isLt c = true then 1 else if isDg c = true then 2 else if isRn c = true then 3 else 0
def sortTx (s : Nat) : Tx := if s = 1 then tx "word" else if s = 2 then tx "number" else if s = 3 then tx "run" else tx ""
theorem in_dec {c : Nat} {S : Tx} : inSM [c] S = .ok (decide (c ∈ S)) := rfl
theorem notin_dec {c : Nat} {S : Tx} : notinSM [c] S = .ok (!decide (c ∈ S)) := rfl
theorem letters_eq : tx "abcdefghijklmnopqrstuvwxyz" = (List.range 26).map (· + 97) := by decide +kernel
theorem figures_eq : tx "0123456789" = (List.range 10).map (· + 48) := by decide +kernel
theorem runs_eq : tx "#." = [35, 46] := by decide +kernel
theorem marks_eq : tx "(), " = [40, 41, 44, 32] := by decide +kernel
theorem in_letters (c : Nat) : inSM [c] (tx "abcdefghijklmnopqrstuvwxyz") = .ok (isLt c) := by
  rw [in_dec, letters_eq]
  congr 1
  unfold isLt
  refine decide_eq_decide.mpr ?_
  simp only [List.mem_map, List.mem_range]
  constructor
  · rintro ⟨a, h, rfl⟩; omega
  · intro h; exact ⟨c - 97, by omega, by omega⟩
theorem in_figures (c : Nat) : inSM [c] (tx "0123456789") = .ok (isDg c) := by
  rw [in_dec, figures_eq]
  congr 1
  unfold isDg
  refine decide_eq_decide.mpr ?_
  simp only [List.mem_map, List.mem_range]
  constructor
  · rintro ⟨a, h, rfl⟩; omega
  · intro h; exact ⟨c - 48, by omega, by omega⟩
theorem in_runs (c : Nat) : inSM [c] (tx "#.") = .ok (isRn c) := by
  rw [in_dec, runs_eq]
  congr 1
  unfold isRn
  refine decide_eq_decide.mpr ?_
  simp
theorem notin_figures (c : Nat) : notinSM [c] (tx "0123456789") = .ok (!isDg c) := by
  have h := in_figures c
  rw [in_dec] at h
  rw [notin_dec, M.ok.inj h]
theorem notin_runs (c : Nat) : notinSM [c] (tx "#.") = .ok (!isRn c) := by
  have h := in_runs c
  rw [in_dec] at h
  rw [notin_dec, M.ok.inj h]
theorem sign_sort_ok (c : Nat) : f_sign_sort [c] = .ok (sortTx (csort c)) := by
  unfold f_sign_sort csort
  rw [in_letters]
  show (if isLt c = true then _ else _) = _
  cases h1 : isLt c with
  | true => rfl
  | false =>
    rw [if_neg Bool.false_ne_true, if_neg Bool.false_ne_true, in_figures]
    show (if isDg c = true then _ else _) = _
    cases h2 : isDg c with
    | true => rfl
    | false =>
      rw [if_neg Bool.false_ne_true, if_neg Bool.false_ne_true, in_runs]
      show (if isRn c = true then _ else _) = _
      cases h3 : isRn c with
      | true => rfl
      | false => rfl
theorem csort_le (c : Nat) : csort c ≤ 3 := by unfold csort; (repeat' split) <;> omega
theorem sort_inj0 : ∀ a b : _root_.Fin 4, sortTx a.val = sortTx b.val → a = b := by decide +kernel
theorem sort_inj {a b : Nat} (ha : a ≤ 3) (hb : b ≤ 3) (h : sortTx a = sortTx b) : a = b := by
  have := sort_inj0 ⟨a, by omega⟩ ⟨b, by omega⟩ h
  exact congrArg _root_.Fin.val this
theorem sort_nil {a : Nat} (ha : a ≤ 3) : decide (sortTx a = tx "") = decide (a = 0) := by
  refine decide_eq_decide.mpr ⟨fun h => sort_inj ha (by omega) (h.trans (by decide +kernel : tx "" = sortTx 0)), fun h => by subst h; rfl⟩
/-- a sign that is a mark by itself -/
def isMk (c : Nat) : Bool := decide (c = 40 ∨ c = 41 ∨ c = 44)
def tk : Option (Nat × Tx) → Tx → Option (List Tx)
  | none, [] => some []
  | some (_, a), [] => some [a]
  | none, c :: r => if csort c ≠ 0 then tk (some (csort c, [c])) r else if c = 32 then tk none r else if isMk c = true then (tk none r).map ([c] :: ·) else none
  | some (s, a), c :: r => if csort c = s then tk (some (s, a ++ [c])) r else (if csort c ≠ 0 then tk (some (csort c, [c])) r else if c = 32 then tk none r else if isMk c = true then (tk none r).map ([c] :: ·) else none).map (a :: ·)
theorem tk_some {s : Nat} : ∀ (r a : Tx), tk (some (s, a)) r = (tk none (r.dropWhile fun c => decide (csort c = s))).map ((a ++ r.takeWhile fun c => decide (csort c = s)) :: ·)
  | [], a => by simp [tk]
  | c :: r, a => by
    by_cases h : csort c = s
    · have e : decide (csort c = s) = true := decide_eq_true h
      rw [List.dropWhile_cons, List.takeWhile_cons, e]
      show (if csort c = s then _ else _) = _
      rw [if_pos h, tk_some r (a ++ [c]), List.append_assoc]
      rfl
    · have e : decide (csort c = s) = false := decide_eq_false h
      rw [List.dropWhile_cons, List.takeWhile_cons, e]
      show (if csort c = s then _ else _) = _
      rw [if_neg h, if_neg Bool.false_ne_true, if_neg Bool.false_ne_true, List.append_nil]
      rfl
theorem tk_cons0 (c : Nat) (r : Tx) : tk none (c :: r) = if csort c ≠ 0 then tk (some (csort c, [c])) r else if c = 32 then tk none r else if isMk c = true then (tk none r).map ([c] :: ·) else none := rfl
def convK {α : Type} : Option α → M α
  | some l => .ok l
  | none => .ex .noPattern
theorem run_end {T : Tx} {s : Nat} (hs : s ≤ 3) {n : Nat} (hn : n ≤ T.length) (hT : T.length ≤ 100000) : whileM (f_marks_of_t1 T (sortTx s)) f_marks_of_w2 fuel (n : Int) = .ok ((n + ((T.drop n).takeWhile fun c => decide (csort c = s)).length : Nat) : Int) := by
  have key := while_isF (t := f_marks_of_t1 T (sortTx s)) (f := f_marks_of_w2) (R := fun z : Int => .ok ((z.toNat + ((T.drop z.toNat).takeWhile fun c => decide (csort c = s)).length : Nat) : Int))
    (fun z : Int => 0 ≤ z ∧ z ≤ T.length) (fun z => T.length - z.toNat) (fun z hz => ?_) (n : Int) ⟨by omega, by omega⟩ (by omega)
  · simpa using key
  · obtain ⟨h0, h1⟩ := hz
    obtain ⟨m, rfl⟩ : ∃ m : Nat, z = (m : Int) := ⟨z.toNat, by omega⟩
    have hm : m ≤ T.length := by omega
    simp only [Int.toNat_natCast]
    unfold f_marks_of_t1
    by_cases hlt : m < T.length
    · rw [if_pos (decide_eq_true (by omega : (m : Int) < T.length))]
      obtain ⟨c, hc⟩ : ∃ c, T[m]? = some c := ⟨_, List.getElem?_eq_getElem hlt⟩
      have hd : T.drop m = c :: T.drop (m + 1) := by
        rw [List.drop_eq_getElem_cons hlt]
        rw [List.getElem?_eq_getElem hlt] at hc
        rw [Option.some.inj hc]
      rw [getS_nat hc]
      show (((f_sign_sort [c]).bind fun y => M.ok (decide (y = sortTx s))) = _ ∧ _) ∨ (((f_sign_sort [c]).bind fun y => M.ok (decide (y = sortTx s))) = _ ∧ _)
      rw [sign_sort_ok]
      show ((M.ok (decide (sortTx (csort c) = sortTx s))) = _ ∧ _) ∨ (M.ok (decide (sortTx (csort c) = sortTx s)) = _ ∧ _)
      rw [hd]
      by_cases hcs : csort c = s
      · refine .inr ⟨by rw [hcs, decide_eq_true rfl], .inl ⟨(m : Int) + 1, rfl, ⟨by omega, by omega⟩, by omega, ?_⟩⟩
        have e : ((m : Int) + 1).toNat = m + 1 := by omega
        rw [e, List.takeWhile_cons, decide_eq_true hcs]
        show M.ok _ = M.ok _
        congr 1
        rw [if_pos rfl, List.length_cons]
        omega
      · refine .inl ⟨by rw [decide_eq_false fun h => hcs (sort_inj (csort_le c) hs h)], ?_⟩
        rw [List.takeWhile_cons, decide_eq_false hcs]
        rfl
    · refine .inl ⟨by rw [if_neg (by simp; omega)], ?_⟩
      have : m = T.length := by omega
      rw [this, List.drop_length]
      rfl
theorem csort_sp : csort 32 = 0 := by decide
theorem take_len_take {α : Type} (p : α → Bool) (l : List α) : l.take (l.takeWhile p).length = l.takeWhile p := by
  induction l with
  | nil => rfl
  | cons a l ih =>
    rw [List.takeWhile_cons]
    split
    · rw [List.length_cons, List.take_succ_cons, ih]
    · rfl
theorem drop_len_take {α : Type} (p : α → Bool) (l : List α) : l.drop (l.takeWhile p).length = l.dropWhile p := by
  induction l with
  | nil => rfl
  | cons a l ih =>
    rw [List.takeWhile_cons, List.dropWhile_cons]
    split
    · rw [List.length_cons, List.drop_succ_cons, ih]
    · rfl
theorem cut_natm {α : Type} {xs : List α} {a b : Nat} (hb : b ≤ xs.length) (ha : a ≤ b) : cutL xs (some (a : Int)) (some (b : Int)) = (xs.drop a).take (b - a) := by
  rw [cut_mid (by omega) (by omega) (by omega)]
  simp
theorem marks_ok {T : Tx} (hT : T.length ≤ 100000) : f_marks_of T = convK (tk none T) := by
  unfold f_marks_of
  have key := while_isF (t := f_marks_of_t3 T) (f := f_marks_of_w4 T) (R := fun z : List Tx × Int => (convK (tk none (T.drop z.2.toNat))).bind fun l => .ok (z.1 ++ l, (T.length : Int)))
    (fun z => 0 ≤ z.2 ∧ z.2 ≤ T.length ∧ z.1.length ≤ z.2.toNat) (fun z => T.length - z.2.toNat) (fun z hz => ?_) ([], (0 : Int)) ⟨by simp, by simp, by simp⟩ (by simp; omega)
  · show (whileM (f_marks_of_t3 T) (f_marks_of_w4 T) fuel ([], (0 : Int))).bind _ = _
    rw [key]
    show ((convK (tk none T)).bind fun l => M.ok ([] ++ l, (T.length : Int))).bind _ = _
    cases h : convK (tk none T) <;> rfl
  · obtain ⟨ms, z⟩ := z
    obtain ⟨h0, h1, h2⟩ := hz
    dsimp only at h0 h1 h2 ⊢
    obtain ⟨m, rfl⟩ : ∃ m : Nat, z = (m : Int) := ⟨z.toNat, by omega⟩
    simp only [Int.toNat_natCast] at h2 ⊢
    have hm : m ≤ T.length := by omega
    unfold f_marks_of_t3
    dsimp only
    by_cases hlt : m < T.length
    · refine .inr ⟨by rw [decide_eq_true (by omega : (m : Int) < T.length)], ?_⟩
      obtain ⟨c, hc⟩ : ∃ c, T[m]? = some c := ⟨_, List.getElem?_eq_getElem hlt⟩
      have hd : T.drop m = c :: T.drop (m + 1) := by
        rw [List.drop_eq_getElem_cons hlt]
        rw [List.getElem?_eq_getElem hlt] at hc
        rw [Option.some.inj hc]
      have hmark : f_marks_of_w4 T (ms, (m : Int)) = (if csort c ≠ 0 then .ok (ms ++ [c :: ((T.drop (m + 1)).takeWhile fun d => decide (csort d = csort c))], ((m + 1 + ((T.drop (m + 1)).takeWhile fun d => decide (csort d = csort c)).length : Nat) : Int))
          else if c = 32 then .ok (ms, ((m + 1 : Nat) : Int)) else if isMk c = true then .ok (ms ++ [[c]], ((m + 1 : Nat) : Int)) else .ex .noPattern) := by
        unfold f_marks_of_w4
        dsimp only
        rw [getS_nat hc]
        simp only [M.bok]
        rw [sign_sort_ok, M.bok, sort_nil (csort_le c), notin_dec, M.bok]
        have hm1 : ((m : Int) + 1) = ((m + 1 : Nat) : Int) := by omega
        by_cases hcs : csort c = 0
        · rw [show (!decide (csort c = 0)) = false from by simp [hcs], if_neg Bool.false_ne_true, if_neg (by simp [hcs] : ¬ csort c ≠ 0)]
          by_cases hin : c ∈ tx "(), "
          · rw [decide_eq_true hin]
            show ((M.ok ((m : Int) + 1)).bind _) = _
            rw [M.bok]
            have hin' := hin
            rw [marks_eq] at hin'
            simp only [List.mem_cons, List.not_mem_nil, or_false] at hin'
            by_cases hsp : c = 32
            · subst hsp
              have e : decide ([32] = tx " ") = true := by decide +kernel
              rw [e]
              show ((M.ok ms).bind _) = _
              rw [M.bok, if_pos rfl]
              exact congrArg (fun q => M.ok (ms, q)) hm1
            · have e : decide ([c] = tx " ") = false := decide_eq_false fun h => hsp (by
                have : tx " " = [32] := by decide +kernel
                rw [this] at h
                exact (List.cons.inj h).1)
              rw [e]
              show (((pushM ms (cutL T (some (m : Int)) (some ((m : Int) + 1)))).bind fun q => M.ok q).bind _) = _
              rw [hm1, cut_natm (by omega) (by omega), hd, oke (ok_push (by omega))]
              rw [if_neg hsp, if_pos (by unfold isMk; exact decide_eq_true (by omega))]
              show M.ok _ = M.ok _
              congr 3
              have : m + 1 - m = 1 := by omega
              rw [this]
              rfl
          · rw [decide_eq_false hin]
            show (M.bind (M.ex .noPattern) _) = _
            have hin' := hin
            rw [marks_eq] at hin'
            simp only [List.mem_cons, List.not_mem_nil, or_false, not_or] at hin'
            rw [if_neg hin'.2.2.2, if_neg (by unfold isMk; simp [hin'])]
            rfl
        · rw [show (!decide (csort c = 0)) = true from by simp [hcs], if_pos rfl, if_pos hcs]
          rw [hm1, run_end (csort_le c) (by omega) hT]
          simp only [M.bok]
          have e : decide ([c] = tx " ") = false := decide_eq_false fun h => hcs (by
            have : tx " " = [32] := by decide +kernel
            rw [this] at h
            rw [(List.cons.inj h).1]; exact csort_sp)
          rw [e]
          show (((pushM ms (cutL T (some (m : Int)) (some _))).bind fun q => M.ok q).bind _) = _
          have hl : ((T.drop (m + 1)).takeWhile fun d => decide (csort d = csort c)).length ≤ T.length - (m + 1) := by
            have := (List.takeWhile_sublist (fun d => decide (csort d = csort c)) (l := T.drop (m + 1))).length_le
            rw [List.length_drop] at this
            exact this
          rw [cut_natm (by omega) (by omega), hd, oke (ok_push (by omega))]
          show M.ok _ = M.ok _
          congr 3
          have : m + 1 + ((T.drop (m + 1)).takeWhile fun d => decide (csort d = csort c)).length - m = ((T.drop (m + 1)).takeWhile fun d => decide (csort d = csort c)).length + 1 := by omega
          rw [this, List.take_succ_cons, take_len_take]
      by_cases hcs : csort c = 0
      · have e1 : ((m + 1 : Nat) : Int).toNat = m + 1 := by omega
        by_cases hsp : c = 32
        · have e2 : f_marks_of_w4 T (ms, (m : Int)) = .ok (ms, ((m + 1 : Nat) : Int)) := by rw [hmark, if_neg (by simp [hcs]), if_pos hsp]
          refine .inl ⟨_, e2, ⟨by dsimp only; omega, by dsimp only; omega, by dsimp only; omega⟩, by dsimp only; omega, ?_⟩
          dsimp only
          rw [e1, hd, tk_cons0, if_neg (by simp [hcs]), if_pos hsp]
        · by_cases hmk : isMk c = true
          · have e2 : f_marks_of_w4 T (ms, (m : Int)) = .ok (ms ++ [[c]], ((m + 1 : Nat) : Int)) := by rw [hmark, if_neg (by simp [hcs]), if_neg hsp, if_pos hmk]
            refine .inl ⟨_, e2, ⟨by dsimp only; omega, by dsimp only; omega, by dsimp only; rw [List.length_append]; simp; omega⟩, by dsimp only; omega, ?_⟩
            dsimp only
            rw [e1, hd, tk_cons0, if_neg (by simp [hcs]), if_neg hsp, if_pos hmk]
            cases tk none (T.drop (m + 1)) with
            | none => rfl
            | some l =>
              show M.ok _ = M.ok _
              rw [List.append_assoc]
              rfl
          · have e2 : f_marks_of_w4 T (ms, (m : Int)) = .ex .noPattern := by rw [hmark, if_neg (by simp [hcs]), if_neg hsp, if_neg hmk]
            refine .inr ⟨_, e2, ?_⟩
            rw [hd, tk_cons0, if_neg (by simp [hcs]), if_neg hsp, if_neg hmk]
            rfl
      · have hl : ((T.drop (m + 1)).takeWhile fun d => decide (csort d = csort c)).length ≤ T.length - (m + 1) := by
          have := (List.takeWhile_sublist (fun d => decide (csort d = csort c)) (l := T.drop (m + 1))).length_le
          rw [List.length_drop] at this
          exact this
        have e2 := hmark
        rw [if_pos hcs] at e2
        refine .inl ⟨_, e2, ⟨by dsimp only; omega, by dsimp only; omega, by dsimp only; rw [List.length_append]; simp; omega⟩, by dsimp only; omega, ?_⟩
        dsimp only
        have e1 : ((m + 1 + ((T.drop (m + 1)).takeWhile fun d => decide (csort d = csort c)).length : Nat) : Int).toNat = m + 1 + ((T.drop (m + 1)).takeWhile fun d => decide (csort d = csort c)).length := by omega
        rw [e1, ← List.drop_drop, drop_len_take, hd, tk_cons0, if_pos hcs, tk_some]
        cases tk none ((T.drop (m + 1)).dropWhile fun d => decide (csort d = csort c)) with
        | none => rfl
        | some l =>
          show M.ok _ = M.ok _
          rw [List.append_assoc]
          rfl
    · refine .inl ⟨by rw [decide_eq_false (by omega)], ?_⟩
      have : m = T.length := by omega
      rw [this, List.drop_length]
      show M.ok (ms ++ [], (T.length : Int)) = _
      rw [List.append_nil]
def isD (c : Nat) : Bool := decide (48 ≤ c ∧ c ≤ 57)
/-- a number's figures -/
def dg (n : Nat) : Tx := if n < 10 then [48 + n] else [48 + n / 10, 48 + n % 10]
theorem dg_len (n : Nat) : 1 ≤ (dg n).length ∧ (dg n).length ≤ 2 := by unfold dg; split <;> simp
theorem dg_digit {n : Nat} (h : n < 100) : ∀ c ∈ dg n, isD c = true := by
  intro c hc
  unfold dg at hc
  unfold isD
  split at hc
  · rw [List.mem_singleton] at hc; subst hc; simp; omega
  · simp only [List.mem_cons, List.not_mem_nil, or_false] at hc
    rcases hc with h | h <;> subst h <;> simp <;> omega
theorem dg_int0 : ∀ n : _root_.Fin 100, PySem.intText? (toS (dg n.val)) = some (n.val : Int) ∧ (dg n.val).length ≤ 640 := by decide +kernel
theorem dg_int (n : _root_.Fin 100) : intS (dg n.val) = .ok (n.val : Int) := by
  unfold intS
  rw [(dg_int0 n).1]
  show (if _ then _ else _) = _
  rw [if_pos (dg_int0 n).2]
theorem whileF_is {β ρ : Type} {t : β → M Bool} {f : β → M (Fl β ρ)} {R : β → M (Fl β ρ)} (I : β → Prop) (μ : β → Nat)
    (hs : ∀ s, I s → (t s = .ok false ∧ R s = .ok (.nx s)) ∨ (t s = .ok true ∧ ((∃ s', f s = .ok (.nx s') ∧ I s' ∧ μ s' < μ s ∧ R s' = R s) ∨ (∃ r, f s = .ok (.rt r) ∧ R s = .ok (.rt r)) ∨ (∃ c, f s = .ex c ∧ R s = .ex c)))) :
    ∀ (n : Nat) (s : β), I s → μ s < n → whileF t f n s = R s
  | 0, _, _, h => by omega
  | n + 1, s, i, h => by
    show (t s).bind (fun c => if c = true then (f s).bind (Fl.el (whileF t f n) fun r => .ok (.rt r)) else .ok (.nx s)) = _
    rcases hs s i with ⟨h1, h2⟩ | ⟨h1, ⟨s', h2, h3, h4, h5⟩ | ⟨r, h2, h3⟩ | ⟨c, h2, h3⟩⟩
    · rw [h1, h2]; rfl
    · rw [h1]
      show (f s).bind (Fl.el (whileF t f n) fun r => .ok (.rt r)) = _
      rw [h2]
      show whileF t f n s' = _
      rw [whileF_is I μ hs n s' h3 (by omega), h5]
    · rw [h1]
      show (f s).bind (Fl.el (whileF t f n) fun r => .ok (.rt r)) = _
      rw [h2, h3]; rfl
    · rw [h1]
      show (f s).bind (Fl.el (whileF t f n) fun r => .ok (.rt r)) = _
      rw [h2, h3]; rfl
/-- a mark, as marks_of makes it -/
def GoodM (m : Tx) : Prop := m ≠ [] ∧ ∃ s, s ≤ 3 ∧ ∀ c ∈ m, csort c = s
theorem tk_good : ∀ (T : Tx) (cur : Option (Nat × Tx)) (l : List Tx), tk cur T = some l → (∀ s a, cur = some (s, a) → a ≠ [] ∧ s ≤ 3 ∧ ∀ c ∈ a, csort c = s) → ∀ m ∈ l, GoodM m
  | [], none, l, e, _ => by cases e; intro m hm; cases hm
  | [], some (s, a), l, e, h => by
    cases e
    obtain ⟨h1, h2, h3⟩ := h s a rfl
    intro m hm
    rw [List.mem_singleton.mp hm]
    exact ⟨h1, s, h2, h3⟩
  | c :: r, cur, l, e, h => by
    have key : ∀ l, (if csort c ≠ 0 then tk (some (csort c, [c])) r else if c = 32 then tk none r else if isMk c = true then (tk none r).map ([c] :: ·) else none) = some l → ∀ m ∈ l, GoodM m := by
      intro l e
      by_cases h1 : csort c = 0
      · rw [if_neg (by simp [h1])] at e
        by_cases h2 : c = 32
        · rw [if_pos h2] at e
          exact tk_good r none l e (fun s a z => nomatch z)
        · rw [if_neg h2] at e
          by_cases h3 : isMk c = true
          · rw [if_pos h3] at e
            obtain ⟨l', e', rfl⟩ := Option.map_eq_some_iff.mp e
            intro m hm
            rcases List.mem_cons.mp hm with rfl | hm
            · exact ⟨by simp, 0, by omega, fun d hd => by rw [List.mem_singleton.mp hd]; exact h1⟩
            · exact tk_good r none l' e' (fun s a z => nomatch z) m hm
          · rw [if_neg h3] at e; cases e
      · rw [if_pos h1] at e
        exact tk_good r (some (csort c, [c])) l e (fun s a z => by cases z; exact ⟨by simp, csort_le c, fun d hd => by rw [List.mem_singleton.mp hd]⟩)
    match cur, h, e with
    | none, _, e => exact key l e
    | some (s, a), h, e =>
      have e : (if csort c = s then tk (some (s, a ++ [c])) r else (if csort c ≠ 0 then tk (some (csort c, [c])) r else if c = 32 then tk none r else if isMk c = true then (tk none r).map ([c] :: ·) else none).map (a :: ·)) = some l := e
      obtain ⟨g1, g2, g3⟩ := h s a rfl
      by_cases hc : csort c = s
      · rw [if_pos hc] at e
        exact tk_good r _ l e (fun s' a' z => by
          cases z
          exact ⟨by simp, g2, fun d hd => (List.mem_append.mp hd).elim (g3 d) fun hd => by rw [List.mem_singleton.mp hd]; exact hc⟩)
      · rw [if_neg hc] at e
        obtain ⟨l', e', rfl⟩ := Option.map_eq_some_iff.mp e
        intro m hm
        rcases List.mem_cons.mp hm with rfl | hm
        · exact ⟨g1, s, g2, g3⟩
        · exact key l' e' m hm
def hd1 (ms : List Tx) : Tx := ms.headD []
theorem mark_at_ok {ms : List Tx} {a : Nat} : f_mark_at ms (a : Int) = .ok (hd1 (ms.drop a)) := by
  unfold f_mark_at hd1
  by_cases h : a < ms.length
  · rw [if_pos (decide_eq_true (by omega)), getM_nat (List.getElem?_eq_getElem h), List.drop_eq_getElem_cons h]
    rfl
  · rw [if_neg (by simp; omega), List.drop_of_length_le (by omega), tx_nil]
    rfl
def expct (due : Tx) (ms : List Tx) : Option (List Tx) := if hd1 ms = due then some ms.tail else none
theorem behind_ok {ms : List Tx} {a : Nat} {due : Tx} : f_behind_mark ms (a : Int) due = if hd1 (ms.drop a) = due then .ok ((a + 1 : Nat) : Int) else .ex .noPattern := by
  unfold f_behind_mark
  rw [mark_at_ok]
  simp only [M.bok]
  by_cases h : hd1 (ms.drop a) = due
  · rw [if_pos h, decide_eq_true h]
    rfl
  · rw [if_neg h, decide_eq_false h]
    rfl
def badRun : Tx → Bool
  | [] => true
  | c :: _ => !isRn c
def pRuns : Nat → List Tx → Option (List Tx × List Tx)
  | _, [] => none
  | _, [_] => none
  | k, m :: c :: r => if badRun m = true ∨ k = 40 then none else if c = tx "," then (pRuns (k + 1) r).map fun q => (m :: q.1, q.2) else if c = tx ")" then some ([m], r) else none
def convP {α : Type} (ms : List Tx) : Option (α × List Tx) → M (α × Int × Unit)
  | some (t, rest) => .ok (t, ((ms.length - rest.length : Nat) : Int), ())
  | none => .ex .noPattern
/-- what is left is the end of what was there, and shorter -/
def Suf (a b : List Tx) : Prop := ∃ j, 1 ≤ j ∧ j ≤ b.length ∧ a = b.drop j
theorem Suf.trans {a b c : List Tx} (h : Suf a b) (k : Suf b c) : Suf a c := by
  obtain ⟨i, h1, h2, rfl⟩ := h
  obtain ⟨j, k1, k2, rfl⟩ := k
  rw [List.length_drop] at h2
  exact ⟨j + i, by omega, by omega, by rw [List.drop_drop]⟩
theorem suf_tail {b : List Tx} (h : b ≠ []) : Suf b.tail b := ⟨1, by omega, by cases b with | nil => exact absurd rfl h | cons a b => simp, by simp⟩
theorem hd1_ne {b : List Tx} (h : hd1 b ≠ []) : b ≠ [] := fun e => h (by rw [e]; rfl)
theorem expct_suf {due : Tx} {ms r : List Tx} (hd : due ≠ []) (h : expct due ms = some r) : Suf r ms := by
  unfold expct at h
  split at h
  · rename_i e
    cases h
    exact suf_tail (hd1_ne (by rw [e]; exact hd))
  · cases h
theorem pRuns_suf : ∀ (k : Nat) (ms : List Tx) {q : List Tx × List Tx}, pRuns k ms = some q → Suf q.2 ms
  | k, [], q, h => by cases h
  | k, [_], q, h => by cases h
  | k, m :: c :: r, q, h => by
    have h : (if badRun m = true ∨ k = 40 then none else if c = tx "," then (pRuns (k + 1) r).map fun q => (m :: q.1, q.2) else if c = tx ")" then some ([m], r) else none) = some q := h
    split at h
    · cases h
    · split at h
      · obtain ⟨q', e, rfl⟩ := Option.map_eq_some_iff.mp h
        obtain ⟨j, h1, h2, h3⟩ := pRuns_suf (k + 1) r e
        exact ⟨j + 2, by omega, by simp; omega, by rw [h3]; rfl⟩
      · split at h
        · cases h
          exact ⟨2, by omega, by simp, rfl⟩
        · cases h
theorem badRun_ok {m : Tx} (h : m ≠ []) : (getS m (0 : Int)).bind (fun y => notinSM y (tx "#.")) = .ok (badRun m) := by
  cases m with
  | nil => exact absurd rfl h
  | cons c r =>
    rw [show getS (c :: r) (0 : Int) = .ok [c] from getS_nat (i := 0) rfl]
    exact notin_runs c
theorem read_runs_ok {ms : List Tx} {a : Nat} (ha : a ≤ ms.length) (hl : ms.length ≤ 100000) : f_read_runs ms (a : Int) = convP ms (pRuns 0 (ms.drop a)) := by
  unfold f_read_runs
  have key := whileF_is (t := f_read_runs_t1) (f := f_read_runs_w2 ms) (R := fun z : Int × List Tx => (convP ms (pRuns z.2.length (ms.drop z.1.toNat))).bind fun q => .ok (.rt (z.2 ++ q.1, q.2.1, ())))
    (fun z => 0 ≤ z.1 ∧ z.2.length ≤ z.1.toNat ∧ z.1 ≤ ms.length + 2 ∧ z.2.length ≤ 40) (fun z => ms.length + 3 - z.1.toNat) (fun z hz => ?_) fuel ((a : Int), []) ⟨by simp, by simp, by simp; omega, by simp⟩ (Nat.lt_of_le_of_lt (Nat.sub_le _ _) (Nat.lt_of_le_of_lt (by omega : ms.length + 3 ≤ 100003) (by decide)))
  · dsimp only
    rw [key]
    simp only [List.length_nil, Int.toNat_natCast, List.nil_append]
    cases pRuns 0 (ms.drop a) with
    | none => rfl
    | some q => rfl
  · obtain ⟨z, rs⟩ := z
    obtain ⟨h0, h1, h2, h3⟩ := hz
    dsimp only at h0 h1 h2 h3 ⊢
    obtain ⟨m, rfl⟩ : ∃ m : Nat, z = (m : Int) := ⟨z.toNat, by omega⟩
    simp only [Int.toNat_natCast] at h1 ⊢
    refine .inr ⟨rfl, ?_⟩
    have e0 : ((m : Int) + 1) = ((m + 1 : Nat) : Int) := by omega
    have step : f_read_runs_w2 ms ((m : Int), rs) = (if badRun (hd1 (ms.drop m)) = true ∨ rs.length = 40 then .ex .noPattern else if hd1 (ms.drop (m + 1)) = tx "," then .ok (.nx (((m + 2 : Nat) : Int), rs ++ [hd1 (ms.drop m)])) else if hd1 (ms.drop (m + 1)) = tx ")" then .ok (.rt (rs ++ [hd1 (ms.drop m)], ((m + 2 : Nat) : Int), ())) else .ex .noPattern) := by
      unfold f_read_runs_w2
      dsimp only
      rw [mark_at_ok]
      simp only [M.bok]
      have c61 : (if (decide (hd1 (ms.drop m) = tx "")) = true then M.ok true else M.bind (M.bind (getS (hd1 (ms.drop m)) (0 : Int)) fun y16 => notinSM y16 (tx "#.")) fun c22 => if c22 = true then M.ok true else M.ok (decide ((rs.length : Int) = (40 : Int)))) = .ok (decide (badRun (hd1 (ms.drop m)) = true ∨ rs.length = 40)) := by
        rw [tx_nil]
        by_cases he : hd1 (ms.drop m) = []
        · rw [if_pos (decide_eq_true he), he]
          rw [decide_eq_true (.inl rfl)]
        · rw [if_neg (by simpa using he), badRun_ok he]
          simp only [M.bok]
          by_cases hb : badRun (hd1 (ms.drop m)) = true
          · rw [if_pos hb, decide_eq_true (.inl hb)]
          · rw [if_neg hb]
            exact congrArg M.ok (decide_eq_decide.mpr ⟨fun h => .inr (by omega), fun h => (h.resolve_left hb) ▸ rfl⟩)
      rw [c61]
      simp only [M.bok]
      by_cases hb : badRun (hd1 (ms.drop m)) = true ∨ rs.length = 40
      · rw [if_pos (decide_eq_true hb), if_pos hb]
      · rw [if_neg (by simpa using hb), if_neg hb, oke (ok_push (by omega))]
        simp only [M.bok]
        rw [e0, mark_at_ok]
        simp only [M.bok]
        by_cases hc : hd1 (ms.drop (m + 1)) = tx ","
        · rw [if_pos hc, decide_eq_true hc]
          show M.ok (Fl.nx (((m : Int) + 2), _)) = _
          exact congrArg (fun q => M.ok (Fl.nx (q, _))) (by omega)
        · rw [if_neg hc, decide_eq_false hc]
          show M.bind (M.bind (f_behind_mark ms ((m + 1 : Nat) : Int) (tx ")")) _) _ = _
          rw [behind_ok]
          by_cases hp : hd1 (ms.drop (m + 1)) = tx ")"
          · rw [if_pos hp, if_pos hp]
            rfl
          · rw [if_neg hp, if_neg hp]
            rfl
    by_cases hb : badRun (hd1 (ms.drop m)) = true ∨ rs.length = 40
    · refine .inr (.inr ⟨_, by rw [step, if_pos hb], ?_⟩)
      have e : pRuns rs.length (ms.drop m) = none := by
        cases hh : ms.drop m with
        | nil => rfl
        | cons x l =>
          cases l with
          | nil => rfl
          | cons y l =>
            rw [hh] at hb
            have hb : badRun x = true ∨ rs.length = 40 := hb
            show (if badRun x = true ∨ rs.length = 40 then none else _) = _
            rw [if_pos hb]
      rw [e]
      rfl
    · have hne : ms.drop m ≠ [] := fun e => hb (.inl (by rw [e]; rfl))
      have hlt : m < ms.length := by
        rcases Nat.lt_or_ge m ms.length with h | h
        · exact h
        · exact absurd (List.drop_of_length_le h) hne
      have hx : ms.drop m = hd1 (ms.drop m) :: ms.drop (m + 1) := by
        rw [List.drop_eq_getElem_cons hlt]
        rfl
      by_cases hc : hd1 (ms.drop (m + 1)) = tx ","
      · have hne2 : ms.drop (m + 1) ≠ [] := hd1_ne (by rw [hc]; decide +kernel)
        have hlt2 : m + 1 < ms.length := by
          rcases Nat.lt_or_ge (m + 1) ms.length with h | h
          · exact h
          · exact absurd (List.drop_of_length_le h) hne2
        have hy : ms.drop (m + 1) = hd1 (ms.drop (m + 1)) :: ms.drop (m + 2) := by
          rw [List.drop_eq_getElem_cons hlt2]
          rfl
        refine .inl ⟨_, by rw [step, if_neg hb, if_pos hc], ⟨by dsimp only; omega, by dsimp only; rw [List.length_append]; simp; omega, by dsimp only; omega, by dsimp only; rw [List.length_append]; simp; omega⟩, by dsimp only; omega, ?_⟩
        dsimp only
        have e : pRuns rs.length (ms.drop m) = (pRuns (rs.length + 1) (ms.drop (m + 2))).map fun q => (hd1 (ms.drop m) :: q.1, q.2) := by
          rw [hx, hy]
          show (if badRun _ = true ∨ rs.length = 40 then none else if _ = tx "," then _ else _) = _
          rw [if_neg (by rw [hx] at hb; exact hb), if_pos hc]
          rfl
        rw [e, List.length_append, Int.toNat_natCast]
        show (convP ms (pRuns (rs.length + 1) (ms.drop (m + 2)))).bind _ = _
        cases pRuns (rs.length + 1) (ms.drop (m + 2)) with
        | none => rfl
        | some q =>
          show M.ok _ = M.ok _
          rw [List.append_assoc]
          rfl
      · by_cases hp : hd1 (ms.drop (m + 1)) = tx ")"
        · have hne2 : ms.drop (m + 1) ≠ [] := hd1_ne (by rw [hp]; decide +kernel)
          have hlt2 : m + 1 < ms.length := by
            rcases Nat.lt_or_ge (m + 1) ms.length with h | h
            · exact h
            · exact absurd (List.drop_of_length_le h) hne2
          have hy : ms.drop (m + 1) = hd1 (ms.drop (m + 1)) :: ms.drop (m + 2) := by
            rw [List.drop_eq_getElem_cons hlt2]
            rfl
          refine .inr (.inl ⟨_, by rw [step, if_neg hb, if_neg hc, if_pos hp], ?_⟩)
          have e : pRuns rs.length (ms.drop m) = some ([hd1 (ms.drop m)], ms.drop (m + 2)) := by
            rw [hx, hy]
            show (if badRun _ = true ∨ rs.length = 40 then none else if _ = tx "," then _ else if _ = tx ")" then _ else _) = _
            rw [if_neg (by rw [hx] at hb; exact hb), if_neg hc, if_pos hp]
            rfl
          rw [e]
          show M.ok _ = M.ok _
          rw [List.length_drop]
          have : ms.length - (ms.length - (m + 2)) = m + 2 := by omega
          rw [this]
        · refine .inr (.inr ⟨_, by rw [step, if_neg hb, if_neg hc, if_neg hp], ?_⟩)
          have e : pRuns rs.length (ms.drop m) = none := by
            rw [hx]
            cases hh : ms.drop (m + 1) with
            | nil => rfl
            | cons y l =>
              rw [hh] at hc hp
              have hc : ¬ y = tx "," := hc
              have hp : ¬ y = tx ")" := hp
              show (if badRun _ = true ∨ rs.length = 40 then none else if y = tx "," then _ else if y = tx ")" then _ else none) = _
              rw [if_neg (by rw [hx] at hb; exact hb), if_neg hc, if_neg hp]
          rw [e]
          rfl
def pNum (m : Tx) : Option Int := ((List.range 100).find? fun n : Nat => decide (dg n = m)).map fun n : Nat => (n : Int)
theorem pNum_some {m : Tx} {z : Int} (h : pNum m = some z) : ∃ n : Nat, n < 100 ∧ m = dg n ∧ z = n := by
  unfold pNum at h
  obtain ⟨n, e, rfl⟩ := Option.map_eq_some_iff.mp h
  have h1 := List.find?_some e
  have h2 := List.mem_of_find?_eq_some e
  exact ⟨n, List.mem_range.mp h2, (of_decide_eq_true h1).symm, rfl⟩
theorem dg_inj0 : ∀ a b : _root_.Fin 100, dg a.val = dg b.val → a = b := by decide +kernel
theorem pNum_dg {n : Nat} (h : n < 100) : pNum (dg n) = some (n : Int) := by
  cases e : pNum (dg n) with
  | some z =>
    obtain ⟨m, h1, h2, rfl⟩ := pNum_some e
    have := dg_inj0 ⟨n, h⟩ ⟨m, h1⟩ h2
    rw [_root_.Fin.mk.inj this]
  | none =>
    unfold pNum at e
    rw [Option.map_eq_none_iff, List.find?_eq_none] at e
    exact absurd (decide_eq_true rfl) (e n (List.mem_range.mpr h))
theorem isDg_iff {c : Nat} : csort c = 2 ↔ isDg c = true := by
  unfold csort isLt isDg isRn
  by_cases h : 48 ≤ c ∧ c ≤ 57
  · have h2 : ¬ (97 ≤ c ∧ c ≤ 122) := by omega
    simp [h, h2]
  · by_cases h2 : 97 ≤ c ∧ c ≤ 122
    · simp [h, h2]
    · by_cases h3 : c = 35 ∨ c = 46
      · simp [h, h2, h3]
      · simp [h, h2, h3]
theorem digits_dg {m : Tx} (h1 : ∀ c ∈ m, isDg c = true) (h2 : m.length = 1 ∨ m.length = 2 ∧ m.head? ≠ some 48) : ∃ n, n < 100 ∧ m = dg n := by
  have hd : ∀ c ∈ m, 48 ≤ c ∧ c ≤ 57 := fun c hc => of_decide_eq_true (h1 c hc)
  match m, h2, hd with
  | [a], _, hd =>
    have := hd a (by simp)
    refine ⟨a - 48, by omega, ?_⟩
    unfold dg
    rw [if_pos (by omega)]
    congr 1
    omega
  | [a, b], h2, hd =>
    have ha := hd a (by simp)
    have hb := hd b (by simp)
    have hn : a ≠ 48 := by
      rcases h2 with h2 | ⟨_, h2⟩
      · simp at h2
      · simpa using h2
    refine ⟨(a - 48) * 10 + (b - 48), by omega, ?_⟩
    unfold dg
    rw [if_neg (by omega)]
    congr 1
    · omega
    · congr 1
      omega
  | [], h2, _ => simp at h2
  | _ :: _ :: _ :: _, h2, _ => simp at h2
theorem tx_zero : tx "0" = [48] := by decide +kernel
theorem number_of_ok {m : Tx} (hm : m = [] ∨ GoodM m) : f_number_of m = convK (pNum m) := by
  unfold f_number_of
  rw [tx_nil]
  rcases hm with rfl | ⟨hne, s, hs, hall⟩
  · have : pNum [] = none := by decide +kernel
    rw [if_pos (decide_eq_true rfl), this]
    rfl
  · rw [if_neg (by simpa using hne)]
    obtain ⟨c, r, rfl⟩ : ∃ c r, m = c :: r := by
      cases m with
      | nil => exact absurd rfl hne
      | cons c r => exact ⟨c, r, rfl⟩
    have g0 : getS (c :: r) (0 : Int) = .ok [c] := getS_nat (i := 0) rfl
    rw [g0]
    simp only [M.bok]
    rw [notin_figures]
    simp only [M.bok]
    cases hd : isDg c with
    | false =>
      have : pNum (c :: r) = none := by
        cases e : pNum (c :: r) with
        | none => rfl
        | some z =>
          obtain ⟨n, h1, h2, _⟩ := pNum_some e
          have := dg_digit h1 c (by rw [← h2]; simp)
          unfold isD at this
          unfold isDg at hd
          rw [this] at hd
          cases hd
      rw [this]
      rfl
    | true =>
      show (M.bind (if (decide ((2 : Int) < ((c :: r).length : Int))) = true then M.ok true else _) _) = _
      have hs2 : s = 2 := by rw [← hall c (by simp)]; exact isDg_iff.mpr hd
      have hdig : ∀ d ∈ c :: r, isDg d = true := fun d h => isDg_iff.mp (by rw [hall d h, hs2])
      by_cases hl : 2 < (c :: r).length
      · have : pNum (c :: r) = none := by
          cases e : pNum (c :: r) with
          | none => rfl
          | some z =>
            obtain ⟨n, h1, h2, _⟩ := pNum_some e
            have := (dg_len n).2
            rw [← h2] at this
            omega
        rw [if_pos (decide_eq_true (by omega)), this]
        rfl
      · rw [if_neg (by simp only [decide_eq_true_eq]; omega)]
        by_cases hl2 : (c :: r).length = 2
        · rw [if_pos (decide_eq_true (by omega))]
          simp only [M.bok]
          rw [tx_zero]
          by_cases hz : c = 48
          · have : pNum (c :: r) = none := by
              cases e : pNum (c :: r) with
              | none => rfl
              | some z =>
                obtain ⟨n, h1, h2, _⟩ := pNum_some e
                unfold dg at h2
                split at h2
                · rw [h2] at hl2; simp at hl2
                · have := (List.cons.inj h2).1
                  omega
            rw [if_pos (decide_eq_true (by rw [hz])), this]
            rfl
          · rw [if_neg (by simp; exact hz)]
            obtain ⟨n, h1, h2⟩ := digits_dg hdig (.inr ⟨hl2, by simpa using hz⟩)
            rw [h2, pNum_dg h1]
            exact dg_int ⟨n, h1⟩
        · rw [if_neg (by simp only [decide_eq_true_eq]; omega)]
          simp only [M.bok]
          rw [if_neg Bool.false_ne_true]
          obtain ⟨n, h1, h2⟩ := digits_dg hdig (.inl (by rw [List.length_cons] at hl hl2 ⊢; omega))
          rw [h2, pNum_dg h1]
          exact dg_int ⟨n, h1⟩
def isName (w : Tx) : Bool := !(decide (w = []) || (decide (20 < w.length) || (kget kd_SHAPES w).isSome)) && w.all isLt
theorem is_name_ok {w : Tx} (hl : w.length ≤ 100000) : f_is_name w = .ok (isName w) := by
  unfold f_is_name isName
  rw [tx_nil]
  have e : decide ((20 : Int) < (w.length : Int)) = decide (20 < w.length) := decide_eq_decide.mpr (by omega)
  rw [e]
  cases hb : (decide (w = []) || (decide (20 < w.length) || (kget kd_SHAPES w).isSome)) with
  | true => rfl
  | false =>
    rw [if_neg Bool.false_ne_true, comp_map (g := fun x => match x with | [c] => isLt c | _ => false) (by rw [List.length_map]; omega) (fun x hx => by
      obtain ⟨c, _, rfl⟩ := List.mem_map.mp hx
      rw [in_letters]
      rfl)]
    show M.ok _ = M.ok _
    rw [List.map_map, List.all_map]
    rfl
def pTh (z : List Tx → Option (PV × List Tx)) : List Nat → Bool → List Tx → Option (List PV × List Tx)
  | [], _, ms => some ([], ms)
  | k :: ks, fst, ms => (if fst = true then some ms else expct (tx ",") ms).bind fun ms => (if k = 80 then z ms else (pNum (hd1 ms)).map fun n => (.num n, ms.tail)).bind fun q => (pTh z ks false q.2).map fun r => (q.1 :: r.1, r.2)
def pT : Nat → Nat → List Tx → Option (PV × List Tx)
  | 0, _, _ => none
  | n + 1, deep, ms => if 12 < deep then none else if isName (hd1 ms) = true then some (.tree (hd1 ms) [], ms.tail) else (kget kd_SHAPES (hd1 ms)).bind fun sh => (expct (tx "(") ms.tail).bind fun ms2 =>
    if hd1 ms = tx "rows" then (pRuns 0 ms2).map fun q => (.tree (hd1 ms) (q.1.map .text), q.2) else (pTh (pT n (deep + 1)) sh true ms2).bind fun q => (expct (tx ")") q.2).map fun r => (.tree (hd1 ms) q.1, r)
theorem shapes_nil : kget kd_SHAPES [] = none := by decide +kernel
theorem pNum_nil : pNum [] = none := by decide +kernel
theorem pTh_suf {z : List Tx → Option (PV × List Tx)} (hz : ∀ ms q, z ms = some q → Suf q.2 ms) : ∀ (ks : List Nat) (fst : Bool) (ms : List Tx) {q : List PV × List Tx}, pTh z ks fst ms = some q → q.2 = ms ∨ Suf q.2 ms
  | [], _, ms, q, h => by cases h; exact .inl rfl
  | k :: ks, fst, ms, q, h => by
    have h : ((if fst = true then some ms else expct (tx ",") ms).bind fun ms => (if k = 80 then z ms else (pNum (hd1 ms)).map fun n => (.num n, ms.tail)).bind fun q => (pTh z ks false q.2).map fun r => (q.1 :: r.1, r.2)) = some q := h
    obtain ⟨ms1, e1, h⟩ := Option.bind_eq_some_iff.mp h
    obtain ⟨q1, e2, h⟩ := Option.bind_eq_some_iff.mp h
    obtain ⟨r, e3, rfl⟩ := Option.map_eq_some_iff.mp h
    have s1 : ms1 = ms ∨ Suf ms1 ms := by
      split at e1
      · cases e1; exact .inl rfl
      · exact .inr (expct_suf (by decide +kernel) e1)
    have s2 : Suf q1.2 ms1 := by
      split at e2
      · exact hz _ _ e2
      · obtain ⟨n, e4, rfl⟩ := Option.map_eq_some_iff.mp e2
        exact suf_tail (hd1_ne fun e => by rw [e, pNum_nil] at e4; cases e4)
    have s3 := pTh_suf hz ks false q1.2 e3
    have s12 : Suf q1.2 ms := by
      rcases s1 with e | s1
      · exact e ▸ s2
      · exact s2.trans s1
    rcases s3 with e | s3
    · exact .inr (e ▸ s12)
    · exact .inr (s3.trans s12)
theorem pT_suf : ∀ (n deep : Nat) (ms : List Tx) {q : PV × List Tx}, pT n deep ms = some q → Suf q.2 ms
  | 0, _, _, _, h => by cases h
  | n + 1, deep, ms, q, h => by
    have h : (if 12 < deep then none else if isName (hd1 ms) = true then some (PV.tree (hd1 ms) [], ms.tail) else (kget kd_SHAPES (hd1 ms)).bind fun sh => (expct (tx "(") ms.tail).bind fun ms2 =>
      if hd1 ms = tx "rows" then (pRuns 0 ms2).map fun q => (PV.tree (hd1 ms) (q.1.map .text), q.2) else (pTh (pT n (deep + 1)) sh true ms2).bind fun q => (expct (tx ")") q.2).map fun r => (PV.tree (hd1 ms) q.1, r)) = some q := h
    split at h
    · cases h
    · split at h
      · rename_i hn
        cases h
        exact suf_tail (hd1_ne fun e => by rw [e] at hn; cases hn)
      · obtain ⟨sh, e1, h⟩ := Option.bind_eq_some_iff.mp h
        have hne : ms ≠ [] := hd1_ne fun e => by rw [e, shapes_nil] at e1; cases e1
        obtain ⟨ms2, e2, h⟩ := Option.bind_eq_some_iff.mp h
        have s2 : Suf ms2 ms := (expct_suf (by decide +kernel) e2).trans (suf_tail hne)
        split at h
        · obtain ⟨q', e3, rfl⟩ := Option.map_eq_some_iff.mp h
          exact (pRuns_suf 0 ms2 e3).trans s2
        · obtain ⟨q', e3, h⟩ := Option.bind_eq_some_iff.mp h
          obtain ⟨r, e4, rfl⟩ := Option.map_eq_some_iff.mp h
          have s3 := expct_suf (by decide +kernel) e4
          rcases pTh_suf (fun ms q h => pT_suf n (deep + 1) ms h) sh true ms2 e3 with e | s
          · exact (e ▸ s3 : Suf r ms2).trans s2
          · exact (s3.trans s).trans s2
/-- at a place of the whole list -/
theorem suf_at {ms r : List Tx} {a : Nat} (h : Suf r (ms.drop a)) : ∃ b, a < b ∧ b ≤ ms.length ∧ r = ms.drop b ∧ ms.length - r.length = b := by
  obtain ⟨j, h1, h2, rfl⟩ := h
  rw [List.length_drop] at h2
  exact ⟨a + j, by omega, by omega, by rw [List.drop_drop], by rw [List.length_drop, List.length_drop]; omega⟩
theorem shape_ok0 : ∀ q ∈ kd_SHAPES, (∀ k ∈ q.2, k = 80 ∨ k = 78) ∧ q.2.length ≤ 3 := by decide +kernel
theorem shape_ok {w sh : Tx} (h : kget kd_SHAPES w = some sh) : (∀ k ∈ sh, k = 80 ∨ k = 78) ∧ sh.length ≤ 3 := shape_ok0 _ (kget_mem h)
theorem tx_P : tx "P" = [80] := by decide +kernel
def Rtr (ms : List Tx) (n : Nat) (z : List Tx → Int → Int → M (PV × Int × Unit)) : Prop := ∀ (deep a : Nat), deep ≤ 13 → 14 ≤ n + deep → a ≤ ms.length → z ms (a : Int) (deep : Int) = convP ms (pT n deep (ms.drop a))
theorem hd_good {ms : List Tx} (hg : ∀ m ∈ ms, GoodM m) (a : Nat) : hd1 (ms.drop a) = [] ∨ GoodM (hd1 (ms.drop a)) := by
  cases h : ms.drop a with
  | nil => exact .inl rfl
  | cons x l => exact .inr (hg x (List.mem_of_mem_drop (by rw [h]; simp)))
theorem things_ok {ms : List Tx} {n deep : Nat} {z : List Tx → Int → Int → M (PV × Int × Unit)} (hg : ∀ m ∈ ms, GoodM m) (hz : Rtr ms n z) (h12 : deep ≤ 12) (hn : 13 ≤ n + deep) : ∀ (ks : List Nat), (∀ k ∈ ks, k = 80 ∨ k = 78) → ∀ (acc : List PV) (a : Nat), a ≤ ms.length → acc.length + ks.length ≤ 100 →
    forM (f_read_tree_l1 ms (deep : Int) z) ((a : Int), acc) (ks.map fun c => [c]) = match pTh (pT n (deep + 1)) ks (decide (acc.length = 0)) (ms.drop a) with
      | some q => .ok (((ms.length - q.2.length : Nat) : Int), acc ++ q.1)
      | none => .ex .noPattern
  | [], _, acc, a, ha, _ => by
    show M.ok ((a : Int), acc) = M.ok _
    rw [List.append_nil, List.length_drop]
    have : ms.length - (ms.length - a) = a := by omega
    rw [this]
  | k :: ks, hk, acc, a, ha, hl => by
    have ih := things_ok hg hz h12 hn ks (fun k' h => hk k' (List.mem_cons_of_mem _ h))
    rw [List.length_cons] at hl
    show (f_read_tree_l1 ms (deep : Int) z ((a : Int), acc) [k]).bind (fun s => forM (f_read_tree_l1 ms (deep : Int) z) s (ks.map fun c => [c])) = match ((if decide (acc.length = 0) = true then some (ms.drop a) else expct (tx ",") (ms.drop a)).bind fun ms' => (if k = 80 then pT n (deep + 1) ms' else (pNum (hd1 ms')).map fun n => (.num n, ms'.tail)).bind fun q => (pTh (pT n (deep + 1)) ks false q.2).map fun r => (q.1 :: r.1, r.2)) with
      | some q => .ok (((ms.length - q.2.length : Nat) : Int), acc ++ q.1)
      | none => .ex .noPattern
    rw [show f_read_tree_l1 ms (deep : Int) z ((a : Int), acc) [k] = M.bind (if (decide ((0 : Int) < (acc.length : Int))) = true then M.bind (f_behind_mark ms (a : Int) (tx ",")) fun at80 => M.ok at80 else M.ok (a : Int)) fun s90 => M.bind (if (decide ([k] = tx "P")) = true then M.bind (z ms s90 ((deep : Int) + (1 : Int))) fun t105 => M.ok (t105.2.1, t105.1) else M.bind (M.bind (M.bind (f_mark_at ms s90) fun y115 => f_number_of y115) fun y116 => M.ok (PV.num y116)) fun thing106 => M.ok (s90 + (1 : Int), thing106)) fun s120 => M.bind (pushM acc s120.2) fun t => M.ok (s120.1, t) from rfl]
    -- the comma
    have c1 : (if (decide ((0 : Int) < (acc.length : Int))) = true then M.bind (f_behind_mark ms (a : Int) (tx ",")) fun at80 => M.ok at80 else M.ok (a : Int)) = match (if decide (acc.length = 0) = true then some (ms.drop a) else expct (tx ",") (ms.drop a)) with
        | some r => .ok ((ms.length - r.length : Nat) : Int)
        | none => .ex .noPattern := by
      by_cases h0 : acc.length = 0
      · rw [if_neg (by simp only [decide_eq_true_eq]; omega), if_pos (decide_eq_true h0)]
        dsimp only
        rw [List.length_drop]
        have : ms.length - (ms.length - a) = a := by omega
        rw [this]
      · rw [if_pos (decide_eq_true (by omega)), if_neg (by simpa using h0), behind_ok]
        unfold expct
        by_cases hc : hd1 (ms.drop a) = tx ","
        · rw [if_pos hc, if_pos hc]
          have hne : ms.drop a ≠ [] := hd1_ne (by rw [hc]; decide +kernel)
          have hlt : a < ms.length := by
            rcases Nat.lt_or_ge a ms.length with h | h
            · exact h
            · exact absurd (List.drop_of_length_le h) hne
          dsimp only
          rw [M.bok, List.length_tail, List.length_drop]
          have : ms.length - (ms.length - a - 1) = a + 1 := by omega
          rw [this]
        · rw [if_neg hc, if_neg hc]
          rfl
    rw [c1]
    cases e1 : (if decide (acc.length = 0) = true then some (ms.drop a) else expct (tx ",") (ms.drop a)) with
    | none => rfl
    | some r1 =>
      obtain ⟨b, hb1, hb2, rfl⟩ : ∃ b, a ≤ b ∧ b ≤ ms.length ∧ r1 = ms.drop b := by
        split at e1
        · cases e1; exact ⟨a, Nat.le_refl _, ha, rfl⟩
        · obtain ⟨b, h1, h2, h3, _⟩ := suf_at (expct_suf (by decide +kernel) e1)
          exact ⟨b, by omega, h2, h3⟩
      have eb : ms.length - (ms.drop b).length = b := by rw [List.length_drop]; omega
      dsimp only
      rw [eb, M.bok, Option.bind_some]
      -- the thing
      have c2 : (if (decide ([k] = tx "P")) = true then M.bind (z ms (b : Int) ((deep : Int) + (1 : Int))) fun t105 => M.ok (t105.2.1, t105.1) else M.bind (M.bind (M.bind (f_mark_at ms (b : Int)) fun y115 => f_number_of y115) fun y116 => M.ok (PV.num y116)) fun thing106 => M.ok ((b : Int) + (1 : Int), thing106)) = match (if k = 80 then pT n (deep + 1) (ms.drop b) else (pNum (hd1 (ms.drop b))).map fun n => (.num n, (ms.drop b).tail)) with
          | some q => .ok (((ms.length - q.2.length : Nat) : Int), q.1)
          | none => .ex .noPattern := by
        rw [tx_P]
        by_cases h80 : k = 80
        · rw [if_pos (decide_eq_true (by rw [h80])), if_pos h80]
          have e : ((deep : Int) + 1) = ((deep + 1 : Nat) : Int) := by omega
          rw [e, hz (deep + 1) b (by omega) (by omega) hb2]
          cases pT n (deep + 1) (ms.drop b) with
          | none => rfl
          | some q => rfl
        · rw [if_neg (by simpa using h80), if_neg h80, mark_at_ok, M.bok, number_of_ok (hd_good hg b)]
          cases e2 : pNum (hd1 (ms.drop b)) with
          | none => rfl
          | some v =>
            have hne : ms.drop b ≠ [] := hd1_ne fun e => by rw [e, pNum_nil] at e2; cases e2
            have hlt : b < ms.length := by
              rcases Nat.lt_or_ge b ms.length with h | h
              · exact h
              · exact absurd (List.drop_of_length_le h) hne
            show M.ok ((b : Int) + 1, PV.num v) = M.ok _
            rw [List.length_tail, List.length_drop]
            have : ms.length - (ms.length - b - 1) = b + 1 := by omega
            rw [this]
            rfl
      show M.bind (M.bind (if (decide ([k] = tx "P")) = true then M.bind (z ms (b : Int) ((deep : Int) + (1 : Int))) fun t105 => M.ok (t105.2.1, t105.1) else M.bind (M.bind (M.bind (f_mark_at ms (b : Int)) fun y115 => f_number_of y115) fun y116 => M.ok (PV.num y116)) fun thing106 => M.ok ((b : Int) + (1 : Int), thing106)) fun s120 => M.bind (pushM acc s120.2) fun t => M.ok (s120.1, t)) _ = _
      rw [c2]
      cases e2 : (if k = 80 then pT n (deep + 1) (ms.drop b) else (pNum (hd1 (ms.drop b))).map fun n => (.num n, (ms.drop b).tail)) with
      | none => rfl
      | some q =>
        have sq : Suf q.2 (ms.drop b) := by
          split at e2
          · exact pT_suf _ _ _ e2
          · obtain ⟨v, e3, rfl⟩ := Option.map_eq_some_iff.mp e2
            exact suf_tail (hd1_ne fun e => by rw [e, pNum_nil] at e3; cases e3)
        obtain ⟨c, hc1, hc2, hc3, hc4⟩ := suf_at sq
        dsimp only
        rw [hc4, M.bok, oke (ok_push (by omega))]
        simp only [M.bok]
        rw [Option.bind_some, ih (acc ++ [q.1]) c hc2 (by rw [List.length_append]; simp; omega), hc3]
        rw [decide_eq_false (by simp : ¬ (acc ++ [q.1]).length = 0)]
        cases pTh (pT n (deep + 1)) ks false (ms.drop c) with
        | none => rfl
        | some r =>
          show M.ok _ = M.ok _
          rw [List.append_assoc]
          rfl
theorem good_len {ms : List Tx} (hw : ∀ m ∈ ms, m.length ≤ 100000) (a : Nat) : (hd1 (ms.drop a)).length ≤ 100000 := by
  cases h : ms.drop a with
  | nil => simp [hd1]
  | cons x l => exact hw x (List.mem_of_mem_drop (by rw [h]; simp))
theorem kgetM_some {w sh : Tx} (h : kget kd_SHAPES w = some sh) : kgetM kd_SHAPES w = .ok sh := by unfold kgetM; rw [h]
theorem tree_ok {ms : List Tx} (hg : ∀ m ∈ ms, GoodM m) (hw : ∀ m ∈ ms, m.length ≤ 100000) (hl : ms.length ≤ 100000) : ∀ n, Rtr ms n (FF_read_tree n)
  | 0 => fun deep a h1 h2 _ => by omega
  | n + 1 => fun deep a h1 h2 ha => by
    have ih := tree_ok hg hw hl n
    show fb_read_tree (FF_read_tree n) ms (a : Int) (deep : Int) = _
    unfold fb_read_tree
    rw [mark_at_ok, M.bok]
    show _ = convP ms (if 12 < deep then none else if isName (hd1 (ms.drop a)) = true then some (PV.tree (hd1 (ms.drop a)) [], (ms.drop a).tail) else (kget kd_SHAPES (hd1 (ms.drop a))).bind fun sh => (expct (tx "(") (ms.drop a).tail).bind fun ms2 =>
      if hd1 (ms.drop a) = tx "rows" then (pRuns 0 ms2).map fun q => (PV.tree (hd1 (ms.drop a)) (q.1.map .text), q.2) else (pTh (pT n (deep + 1)) sh true ms2).bind fun q => (expct (tx ")") q.2).map fun r => (PV.tree (hd1 (ms.drop a)) q.1, r))
    by_cases h12 : 12 < deep
    · rw [if_pos (decide_eq_true (by omega)), if_pos h12]
      rfl
    · rw [if_neg (by simp only [decide_eq_true_eq]; omega), if_neg h12, is_name_ok (good_len hw a), M.bok]
      have e1 : ((a : Int) + 1) = ((a + 1 : Nat) : Int) := by omega
      cases hn : isName (hd1 (ms.drop a)) with
      | true =>
        rw [if_pos rfl, if_pos rfl, e1]
        have hne : ms.drop a ≠ [] := hd1_ne fun e => by rw [e] at hn; cases hn
        have hlt : a < ms.length := by
          rcases Nat.lt_or_ge a ms.length with h | h
          · exact h
          · exact absurd (List.drop_of_length_le h) hne
        show M.ok _ = M.ok _
        rw [List.length_tail, List.length_drop]
        have : ms.length - (ms.length - a - 1) = a + 1 := by omega
        rw [this]
        rfl
      | false =>
        rw [if_neg Bool.false_ne_true, if_neg Bool.false_ne_true]
        cases hk : kget kd_SHAPES (hd1 (ms.drop a)) with
        | none => rfl
        | some sh =>
          rw [Option.bind_some]
          show M.bind (f_behind_mark ms ((a : Int) + 1) (tx "(")) _ = _
          have ht : (ms.drop a).tail = ms.drop (a + 1) := by rw [List.tail_drop]
          rw [e1, behind_ok, ht]
          unfold expct
          by_cases hp : hd1 (ms.drop (a + 1)) = tx "("
          · rw [if_pos hp, if_pos hp, M.bok, Option.bind_some, List.tail_drop]
            have hne : ms.drop (a + 1) ≠ [] := hd1_ne (by rw [hp]; decide +kernel)
            have hlt : a + 1 < ms.length := by
              rcases Nat.lt_or_ge (a + 1) ms.length with h | h
              · exact h
              · exact absurd (List.drop_of_length_le h) hne
            by_cases hr : hd1 (ms.drop a) = tx "rows"
            · rw [if_pos (decide_eq_true hr), if_pos hr, read_runs_ok (by omega) hl]
              cases pRuns 0 (ms.drop (a + 1 + 1)) with
              | none => rfl
              | some q => rfl
            · rw [if_neg (by simpa using hr), if_neg hr]
              obtain ⟨hs1, hs2⟩ := shape_ok hk
              rw [kgetM_some hk]
              simp only [M.bok]
              rw [things_ok hg ih (by omega) (by omega) sh hs1 [] (a + 1 + 1) (by omega) (by simp; omega)]
              rw [show decide (([] : List PV).length = 0) = true from rfl]
              cases e3 : pTh (pT n (deep + 1)) sh true (ms.drop (a + 1 + 1)) with
              | none => rfl
              | some q =>
                obtain ⟨b, hb2, hb3⟩ : ∃ b, b ≤ ms.length ∧ q.2 = ms.drop b := by
                  rcases pTh_suf (fun ms q h => pT_suf n (deep + 1) ms h) sh true _ e3 with e | s
                  · exact ⟨a + 1 + 1, by omega, e⟩
                  · obtain ⟨b, _, h2, h3, _⟩ := suf_at s
                    exact ⟨b, h2, h3⟩
                have eb : ms.length - (ms.drop b).length = b := by rw [List.length_drop]; omega
                rw [Option.bind_some]
                dsimp only
                rw [hb3, eb]
                simp only [M.bok, List.nil_append]
                rw [behind_ok]
                by_cases hq : hd1 (ms.drop b) = tx ")"
                · rw [if_pos hq, if_pos hq, List.tail_drop]
                  have hne : ms.drop b ≠ [] := hd1_ne (by rw [hq]; decide +kernel)
                  have hlt : b < ms.length := by
                    rcases Nat.lt_or_ge b ms.length with h | h
                    · exact h
                    · exact absurd (List.drop_of_length_le h) hne
                  show M.ok _ = M.ok _
                  rw [List.length_drop]
                  have : ms.length - (ms.length - (b + 1)) = b + 1 := by omega
                  rw [this]
                  rfl
                · rw [if_neg hq, if_neg hq]
                  rfl
          · rw [if_neg hp, if_neg hp]
            rfl
/-- .. from a text -/
theorem mem_tk_len : ∀ (T : Tx) (cur : Option (Nat × Tx)) (l : List Tx), tk cur T = some l → ∀ m ∈ l, m.length ≤ (match cur with | some q => q.2.length | none => 0) + T.length
  | [], none, l, e => by cases e; intro m hm; cases hm
  | [], some (s, a), l, e => by cases e; intro m hm; rw [List.mem_singleton.mp hm]; simp
  | c :: r, cur, l, e => by
    have key : ∀ l, (if csort c ≠ 0 then tk (some (csort c, [c])) r else if c = 32 then tk none r else if isMk c = true then (tk none r).map ([c] :: ·) else none) = some l → ∀ m ∈ l, m.length ≤ r.length + 1 := by
      intro l e
      split at e
      · intro m hm
        have := mem_tk_len r _ l e m hm
        simp at this
        omega
      · split at e
        · intro m hm
          have := mem_tk_len r none l e m hm
          simp at this
          omega
        · split at e
          · obtain ⟨l', e', rfl⟩ := Option.map_eq_some_iff.mp e
            intro m hm
            rcases List.mem_cons.mp hm with rfl | hm
            · simp
            · have := mem_tk_len r none l' e' m hm
              simp at this
              omega
          · cases e
    match cur, e with
    | none, e =>
      intro m hm
      have := key l e m hm
      simp
      omega
    | some (s, a), e =>
      have e : (if csort c = s then tk (some (s, a ++ [c])) r else (if csort c ≠ 0 then tk (some (csort c, [c])) r else if c = 32 then tk none r else if isMk c = true then (tk none r).map ([c] :: ·) else none).map (a :: ·)) = some l := e
      split at e
      · intro m hm
        have := mem_tk_len r _ l e m hm
        simp at this ⊢
        omega
      · obtain ⟨l', e', rfl⟩ := Option.map_eq_some_iff.mp e
        intro m hm
        rcases List.mem_cons.mp hm with rfl | hm
        · simp
        · have := key l' e' m hm
          simp
          omega
theorem tk_len : ∀ (T : Tx) (cur : Option (Nat × Tx)) (l : List Tx), tk cur T = some l → l.length ≤ T.length + (match cur with | some _ => 1 | none => 0)
  | [], none, l, e => by cases e; simp
  | [], some (s, a), l, e => by cases e; simp
  | c :: r, cur, l, e => by
    have key : ∀ l, (if csort c ≠ 0 then tk (some (csort c, [c])) r else if c = 32 then tk none r else if isMk c = true then (tk none r).map ([c] :: ·) else none) = some l → l.length ≤ r.length + 1 := by
      intro l e
      split at e
      · exact tk_len r _ l e
      · split at e
        · have := tk_len r none l e; simp at this; omega
        · split at e
          · obtain ⟨l', e', rfl⟩ := Option.map_eq_some_iff.mp e
            have := tk_len r none l' e'
            simp at this ⊢
            omega
          · cases e
    match cur, e with
    | none, e => exact key l e
    | some (s, a), e =>
      have e : (if csort c = s then tk (some (s, a ++ [c])) r else (if csort c ≠ 0 then tk (some (csort c, [c])) r else if c = 32 then tk none r else if isMk c = true then (tk none r).map ([c] :: ·) else none).map (a :: ·)) = some l := e
      split at e
      · have := tk_len r _ l e
        simp at this ⊢
        omega
      · obtain ⟨l', e', rfl⟩ := Option.map_eq_some_iff.mp e
        have := key l' e'
        simp
        omega
/-- what a text writes: a tree, or none -/
def pTree (T : Tx) : Option PV := (tk none T).bind fun ms => (pT 24 1 ms).bind fun q => if q.2 = [] then some q.1 else none
def nameD (known : List (Tx × List Tx × Unit)) : M (List (Key × List Tx)) := forM f_read_pattern_l1 [] known
theorem read_pattern_eq {T : Tx} {known : List (Tx × List Tx × Unit)} (hT : T.length ≤ 100000) : f_read_pattern T known = match pTree T with
    | none => .ex .noPattern
    | some t => (nameD known).bind fun d => f_worked_out t d := by
  unfold f_read_pattern pTree nameD
  rw [marks_ok hT]
  cases e : tk none T with
  | none => rfl
  | some ms =>
    have hg := tk_good T none ms e (fun s a z => nomatch z)
    have hlen : ms.length ≤ 100000 := by have := tk_len T none ms e; simp at this; omega
    have hmem : ∀ m ∈ ms, m.length ≤ 100000 := fun m hm => by have := mem_tk_len T none ms e m hm; simp at this; omega
    rw [Option.bind_some]
    show M.bind (FF_read_tree 24 ms (0 : Int) (1 : Int)) _ = _
    have h := tree_ok hg hmem hlen 24 1 0 (by omega) (by omega) (by omega)
    rw [List.drop_zero] at h
    rw [show FF_read_tree 24 ms (0 : Int) (1 : Int) = _ from h]
    cases e2 : pT 24 1 ms with
    | none => rfl
    | some q =>
      rw [Option.bind_some]
      obtain ⟨j, h1, h2, h3⟩ := pT_suf _ _ _ e2
      show (if decide (((ms.length - q.2.length : Nat) : Int) < (ms.length : Int)) = true then _ else _) = _
      by_cases hq : q.2 = []
      · rw [if_neg (by rw [hq]; simp), if_pos hq]
      · have : 0 < q.2.length := List.length_pos_iff.mpr hq
        have h4 : q.2.length ≤ ms.length := by rw [h3, List.length_drop]; omega
        rw [if_pos (decide_eq_true (by omega)), if_neg hq]
theorem wide_eq (d : Pc) : f_Piece_wide d = .ok d.ends := rfl
theorem high_eq (d : Pc) : f_Piece_high d = .ok d.picks := rfl
def knownL : List (Tx × List Tx × Unit) := [(tx "known", [tx "#.", tx ".#", tx "##"], ())]
def rcode : M Pc → Nat × Int × Int
  | .ok p => (0, p.ends, p.picks)
  | .ex .noPattern => (1, 0, 0)
  | .ex .unknown => (2, 0, 0)
  | .ex .tooLarge => (3, 0, 0)
  | _ => (4, 0, 0)
def readS (T : Tx) : M Pc := match pTree T with
  | none => .ex .noPattern
  | some t => (nameD knownL).bind fun d => f_worked_out t d
theorem readS_eq {T : Tx} (h : T.length ≤ 100000) : f_read_pattern T knownL = readS T := read_pattern_eq h
def duec (d : Tx) (w h : Int) : Nat × Int × Int := if d = tx "" then (0, w, h) else if d = tx "Unknown" then (2, 0, 0) else if d = tx "TooLarge" then (3, 0, 0) else (1, 0, 0)
def fitsB (t : Tx × Tx × Int × Int × Unit) : Bool := decide (t.1.length ≤ 100000) && decide (rcode (readS t.1) = duec t.2.1 t.2.2.1 t.2.2.2.1)
def okB (m : M (Tx × Tx × Int × Int × Unit)) : Bool := match m with
  | .ok t => fitsB t
  | _ => false
theorem rc0 {m : M Pc} {w h : Int} (e : rcode m = (0, w, h)) : ∃ p, m = .ok p ∧ p.ends = w ∧ p.picks = h := by
  cases m with
  | ok p => cases e; exact ⟨p, rfl, rfl, rfl⟩
  | ex c => cases c <;> cases e
  | no => cases e
theorem rc1 {m : M Pc} (e : rcode m = (1, 0, 0)) : m = .ex .noPattern := by
  cases m with
  | ok p => cases e
  | ex c => cases c <;> first | rfl | cases e
  | no => cases e
theorem rc2 {m : M Pc} (e : rcode m = (2, 0, 0)) : m = .ex .unknown := by
  cases m with
  | ok p => cases e
  | ex c => cases c <;> first | rfl | cases e
  | no => cases e
theorem rc3 {m : M Pc} (e : rcode m = (3, 0, 0)) : m = .ex .tooLarge := by
  cases m with
  | ok p => cases e
  | ex c => cases c <;> first | rfl | cases e
  | no => cases e
theorem right_of {cell : Int} (h : okB (f_law_text cell) = true) : f_law_right cell = .ok true := by
  unfold f_law_right
  cases e : f_law_text cell with
  | ex c => rw [e] at h; cases h
  | no => rw [e] at h; cases h
  | ok t =>
    rw [e] at h
    obtain ⟨h1, h2⟩ := Bool.and_eq_true_iff.mp (show (decide (t.1.length ≤ 100000) && decide (rcode (readS t.1) = duec t.2.1 t.2.2.1 t.2.2.2.1)) = true from h)
    have h1 := of_decide_eq_true h1
    have h2 := of_decide_eq_true h2
    rw [M.bok]
    dsimp only
    rw [show ([((tx "known"), ([(tx "#."), (tx ".#"), (tx "##")]), ())] : List (Tx × List Tx × Unit)) = knownL from rfl, readS_eq h1]
    unfold duec at h2
    by_cases d0 : t.2.1 = tx ""
    · rw [if_pos d0] at h2
      obtain ⟨p, ep, e1, e2⟩ := rc0 h2
      rw [ep]
      simp only [M.bok]
      show M.bind (M.ok (none, some p)) _ = _
      rw [M.bok, if_pos (decide_eq_true d0)]
      show (M.bind (M.bind (M.bind (M.ok p) fun y42 => f_Piece_wide y42) fun y43 => M.ok (decide (y43 = t.2.2.1))) fun c51 => if c51 = true then M.bind (M.bind (M.ok p) fun y47 => f_Piece_high y47) fun y48 => M.ok (decide (y48 = t.2.2.2.1)) else M.ok false) = _
      rw [M.bok, M.bok, wide_eq, high_eq, e1, e2]
      simp only [M.bok]
      rw [if_pos (decide_eq_true trivial), decide_eq_true trivial]
    · rw [if_neg d0] at h2
      by_cases d1 : t.2.1 = tx "Unknown"
      · rw [if_pos d1] at h2
        rw [rc2 h2]
        show M.bind (M.ok (some Ec.unknown, none)) _ = _
        rw [M.bok, if_neg (by simpa using d0), if_pos (decide_eq_true d1)]
        rfl
      · rw [if_neg d1] at h2
        by_cases d2 : t.2.1 = tx "TooLarge"
        · rw [if_pos d2] at h2
          rw [rc3 h2]
          show M.bind (M.ok (some Ec.tooLarge, none)) _ = _
          rw [M.bok, if_neg (by simpa using d0), if_neg (by simpa using d1), if_pos (decide_eq_true d2)]
          rfl
        · rw [if_neg d2] at h2
          rw [rc1 h2]
          show M.bind (M.ok (some Ec.noPattern, none)) _ = _
          rw [M.bok, if_neg (by simpa using d0), if_neg (by simpa using d1), if_neg (by simpa using d2)]
          rfl
/-- a strange sign anywhere -/
theorem tk_bad {c : Nat} (h0 : csort c = 0) (h1 : c ≠ 32) (h2 : isMk c = false) : ∀ (T : Tx) (cur : Option (Nat × Tx)), (∀ s a, cur = some (s, a) → s ≠ 0) → c ∈ T → tk cur T = none
  | [], _, _, h => by cases h
  | d :: r, cur, hs, h => by
    have key : (if csort d ≠ 0 then tk (some (csort d, [d])) r else if d = 32 then tk none r else if isMk d = true then (tk none r).map ([d] :: ·) else none) = none := by
      by_cases e : c = d
      · subst e
        rw [if_neg (by simp [h0]), if_neg h1, if_neg (by rw [h2]; decide)]
      · have hr : c ∈ r := by
          rcases List.mem_cons.mp h with h | h
          · exact absurd h e
          · exact h
        split
        · rename_i hd
          exact tk_bad h0 h1 h2 r _ (fun s a z => by cases z; exact hd) hr
        · split
          · exact tk_bad h0 h1 h2 r none (fun s a z => nomatch z) hr
          · split
            · rw [tk_bad h0 h1 h2 r none (fun s a z => nomatch z) hr]
              rfl
            · rfl
    match cur, hs with
    | none, _ => exact key
    | some (s, a), hs =>
      show (if csort d = s then tk (some (s, a ++ [d])) r else (if csort d ≠ 0 then tk (some (csort d, [d])) r else if d = 32 then tk none r else if isMk d = true then (tk none r).map ([d] :: ·) else none).map (a :: ·)) = none
      by_cases hd : csort d = s
      · rw [if_pos hd]
        have hr : c ∈ r := by
          rcases List.mem_cons.mp h with h | h
          · subst h; rw [h0] at hd; exact absurd hd.symm (hs s a rfl)
          · exact h
        exact tk_bad h0 h1 h2 r _ (fun s' a' z => by cases z; exact hs s a rfl) hr
      · rw [if_neg hd, key]
        rfl
def strangeB (c : Nat) : Bool := decide (csort c = 0) && (decide (c ≠ 32) && !isMk c)
theorem strange_all : (tx "!\"$&'*+-/:;<=>?\x40[\\]^_`{|}~ABCDEFGHIJKLMNOPQRSTUVWXYZ").all strangeB = true := by decide +kernel
theorem strange_len : (tx "!\"$&'*+-/:;<=>?\x40[\\]^_`{|}~ABCDEFGHIJKLMNOPQRSTUVWXYZ").length = 52 := by decide +kernel
/-- the plain texts -/
theorem plain_mod (cell : Int) : f_law_plain cell = f_law_plain (cell % 75) := by
  have e1 : cell % 75 % 5 = cell % 5 := by omega
  have e2 : cell % 75 / 5 % 5 = cell / 5 % 5 := by omega
  have e3 : cell % 75 / 25 % 3 = cell / 25 % 3 := by omega
  unfold f_law_plain
  rw [e1, e2, e3]
def plB (m : M (Tx × Int × Int × Unit)) : Bool := match m with
  | .ok t => decide (t.1.length ≤ 60) && decide (rcode (readS t.1) = (0, t.2.1, t.2.2.1))
  | _ => false
theorem plain_all : ∀ r : _root_.Fin 75, plB (f_law_plain (r.val : Int)) = true := by decide +kernel
def pl2 (m : M (Tx × Int × Int × Unit)) : Bool := match m with
  | .ok t => decide (rcode (readS (cutL t.1 none (some (-(1 : Int))))) = (1, 0, 0))
  | _ => false
theorem plain_cut : ∀ r : _root_.Fin 75, pl2 (f_law_plain (r.val : Int)) = true := by decide +kernel
def ends8 : List Tx := [tx ")", tx "(", tx ",", tx " a", tx "1", tx "#", tx " rows(#)", tx "()"]
def pl3 (m : M (Tx × Int × Int × Unit)) : Bool := match m with
  | .ok t => ends8.all fun b => decide (rcode (readS (t.1 ++ b)) = (1, 0, 0))
  | _ => false
theorem plain_more : ∀ r : _root_.Fin 75, pl3 (f_law_plain (r.val : Int)) = true := by decide +kernel
/-- the ways that don't take the plain text -/
def way4 (r : Int) : M (Tx × Tx × Int × Int × Unit) := M.bind (f_law_deep ((10 : Int) + r)) fun t125 => M.bind (getM ([(tx "NoPattern"), (tx "")]) (bInt t125.2.1)) fun y144 => M.ok (t125.1, y144, (2 : Int), (3 : Int), ())
theorem way4_all : ∀ r : _root_.Fin 4, okB (way4 (r.val : Int)) = true := by decide +kernel
def way5 (r : Int) : M (Tx × Tx × Int × Int × Unit) := M.bind (f_law_odd r) fun y162 => M.ok (y162, (tx "NoPattern"), (0 : Int), (0 : Int), ())
theorem way5_all : ∀ r : _root_.Fin 47, okB (way5 (r.val : Int)) = true := by decide +kernel
def way6 (r : Int) : M (Tx × Tx × Int × Int × Unit) := M.bind (M.bind (repS (tx "known") (5 : Int)) fun y178 => M.ok (cutL y178 none (some ((19 : Int) + r)))) fun name174 => M.bind (getM ([(tx "NoPattern"), (tx "Unknown")]) (bInt (decide (((19 : Int) + r) < (21 : Int))))) fun y201 => M.ok (name174, y201, (0 : Int), (0 : Int), ())
theorem way6_all : ∀ r : _root_.Fin 4, okB (way6 (r.val : Int)) = true := by decide +kernel
def way7a (r : Int) : M (Tx × Tx × Int × Int × Unit) := M.bind (M.bind (M.bind (M.bind (repS (tx "#..") (14 : Int)) fun y220 => M.ok (cutL y220 none (some ((39 : Int) + r)))) fun y224 => catS (tx "rows(") y224) fun y225 => catS y225 ((tx ")"))) fun y246 => M.bind (getM ([(tx "TooLarge"), (tx "")]) (bInt (decide (((39 : Int) + r) < (41 : Int))))) fun y247 => M.ok (y246, y247, ((39 : Int) + r), (1 : Int), ())
theorem way7a_all : ∀ r : _root_.Fin 4, okB (way7a (r.val : Int)) = true := by decide +kernel
def way7b (r : Int) : M (Tx × Tx × Int × Int × Unit) := M.bind (M.bind (M.bind (M.bind (repM ([(tx "#.")]) ((39 : Int) + r)) fun y257 => joinM (tx ",") y257) fun y259 => catS (tx "rows(") y259) fun y260 => catS y260 ((tx ")"))) fun y281 => M.bind (getM ([(tx "NoPattern"), (tx "")]) (bInt (decide (((39 : Int) + r) < (41 : Int))))) fun y282 => M.ok (y281, y282, (2 : Int), ((39 : Int) + r), ())
theorem way7b_all : ∀ r : _root_.Fin 4, okB (way7b (r.val : Int)) = true := by decide +kernel
theorem odd_mod (r : Int) : f_law_odd r = f_law_odd (r % 47) := by
  unfold f_law_odd
  have e : ∀ z : Int, modM z (47 : Int) = .ok (z % 47) := fun z => by unfold modM; rw [if_pos (by decide)]
  dsimp only [List.length_cons, List.length_nil]
  show M.bind (modM r (47 : Int)) _ = M.bind (modM (r % 47) (47 : Int)) _
  rw [e, e, Int.emod_emod_of_dvd r (Int.dvd_refl 47)]
theorem okB_ok {t : Tx × Tx × Int × Int × Unit} : okB (.ok t) = (decide (t.1.length ≤ 100000) && decide (rcode (readS t.1) = duec t.2.1 t.2.2.1 t.2.2.2.1)) := rfl
def Strange (c : Nat) : Prop := c ∈ tx "!\"$&'*+-/:;<=>?\x40[\\]^_`{|}~ABCDEFGHIJKLMNOPQRSTUVWXYZ"
structure Ways (G : M (Tx × Tx × Int × Int × Unit) → Prop) (rd : Tx → Nat × Int × Int) : Prop where
  np : ∀ T : Tx, T.length ≤ 100000 → rd T = (1, 0, 0) → G (M.ok (T, tx "NoPattern", (0 : Int), (0 : Int), ()))
  g0 : ∀ t : Tx × Int × Int × Unit, t.1.length ≤ 60 → rd t.1 = (0, t.2.1, t.2.2.1) → G (M.ok (t.1, tx "", t.2.1, t.2.2.1, ()))
  pl : ∀ z : Int, ∃ t, f_law_plain z = .ok t ∧ t.1.length ≤ 60 ∧ rd t.1 = (0, t.2.1, t.2.2.1) ∧ rd (cutL t.1 none (some (-(1 : Int)))) = (1, 0, 0) ∧ ∀ b ∈ ends8, rd (t.1 ++ b) = (1, 0, 0)
  bad : ∀ (a b : Tx) (c : Nat), Strange c → rd (a ++ [c] ++ b) = (1, 0, 0)
  w4 : ∀ z : Int, 0 ≤ z → z < 4 → G (way4 z)
  w5 : ∀ z : Int, 0 ≤ z → z < 47 → G (way5 z)
  w6 : ∀ z : Int, 0 ≤ z → z < 4 → G (way6 z)
  w7a : ∀ z : Int, 0 ≤ z → z < 4 → G (way7a z)
  w7b : ∀ z : Int, 0 ≤ z → z < 4 → G (way7b z)
theorem text_gen {G : M (Tx × Tx × Int × Int × Unit) → Prop} {rd : Tx → Nat × Int × Int} (W : Ways G rd) (cell : Int) : G (f_law_text cell) := by
  have e : ∀ y x : Int, 0 < y → modM x y = .ok (x % y) := fun y x h => by unfold modM; rw [if_pos h]
  unfold f_law_text
  dsimp only
  obtain ⟨t9, ep, p1, p2, p3, p4⟩ := W.pl (cell / 8)
  rw [ep, M.bok]
  by_cases w1 : cell % 8 = 1
  · rw [if_pos (decide_eq_true w1), e _ _ (by omega), M.bok]
    have a0 := Int.emod_nonneg (cell / 8 / 75) (by omega : (t9.1.length : Int) + 1 ≠ 0)
    have a1 := Int.emod_lt_of_pos (cell / 8 / 75) (by omega : 0 < (t9.1.length : Int) + 1)
    obtain ⟨c, hcm, hcs⟩ : ∃ c, Strange c ∧ f_law_strange (cell / 8) = .ok [c] := by
      unfold f_law_strange
      dsimp only
      rw [strange_len, e _ _ (by decide), M.bok]
      have b0 := Int.emod_nonneg (cell / 8) (by decide : ((52 : Nat) : Int) ≠ 0)
      have b1 := Int.emod_lt_of_pos (cell / 8) (by decide : (0 : Int) < ((52 : Nat) : Int))
      have hl : (cell / 8 % ((52 : Nat) : Int)).toNat < (tx "!\"$&'*+-/:;<=>?\x40[\\]^_`{|}~ABCDEFGHIJKLMNOPQRSTUVWXYZ").length := by rw [strange_len]; omega
      exact ⟨_, List.getElem_mem hl, getS_at b0 (List.getElem?_eq_getElem hl)⟩
    rw [hcs, M.bok]
    have l1 : (cutL t9.1 none (some (cell / 8 / 75 % ((t9.1.length : Int) + 1)))).length ≤ 60 := by rw [cut_to a0 (by omega), List.length_take]; omega
    have l2 : (cutL t9.1 (some (cell / 8 / 75 % ((t9.1.length : Int) + 1))) none).length ≤ 60 := by rw [cut_from a0 (by omega), List.length_drop]; omega
    rw [oke (ok_cat (by simp; omega)), M.bok, oke (ok_cat (by simp; omega)), M.bok]
    exact W.np _ (by simp; omega) (W.bad _ _ c hcm)
  · rw [if_neg (by simpa using w1)]
    by_cases w2 : cell % 8 = 2
    · rw [if_pos (decide_eq_true w2)]
      refine W.np _ ?_ p3
      have h2 : (cutL t9.1 none (some (-(1 : Int)))).length ≤ t9.1.length := by unfold cutL; rw [List.length_take, List.length_drop]; omega
      omega
    · rw [if_neg (by simpa using w2)]
      by_cases w3 : cell % 8 = 3
      · rw [if_pos (decide_eq_true w3)]
        obtain ⟨b, hb, eb⟩ : ∃ b, b ∈ ends8 ∧ getM ([((tx ")")), (tx "("), (tx ","), (tx " a"), (tx "1"), (tx "#"), (tx " rows(#)"), (tx "()")]) ((cell / 8 / (75 : Int)) % (8 : Int)) = .ok b := by
          have hl : (cell / 8 / 75 % 8).toNat < ends8.length := by show _ < 8; omega
          exact ⟨_, List.getElem_mem hl, getM_at (by omega) (List.getElem?_eq_getElem hl)⟩
        rw [eb, M.bok]
        have lb : b.length ≤ 20 := by
          have : ∀ b ∈ ends8, b.length ≤ 20 := by decide +kernel
          exact this b hb
        rw [oke (ok_cat (by omega)), M.bok]
        exact W.np _ (by simp; omega) (p4 b hb)
      · rw [if_neg (by simpa using w3)]
        by_cases w4 : cell % 8 = 4
        · rw [if_pos (decide_eq_true w4)]
          exact W.w4 (cell / 8 % 4) (by omega) (by omega)
        · rw [if_neg (by simpa using w4)]
          by_cases w5 : cell % 8 = 5
          · rw [if_pos (decide_eq_true w5), odd_mod]
            exact W.w5 (cell / 8 % 47) (by omega) (by omega)
          · rw [if_neg (by simpa using w5)]
            by_cases w6 : cell % 8 = 6
            · rw [if_pos (decide_eq_true w6)]
              exact W.w6 (cell / 8 % 4) (by omega) (by omega)
            · rw [if_neg (by simpa using w6)]
              by_cases w7 : cell % 8 = 7
              · rw [if_pos (decide_eq_true w7)]
                by_cases w8 : cell / 8 / 4 % 2 = 1
                · rw [if_pos (decide_eq_true w8)]
                  exact W.w7a (cell / 8 % 4) (by omega) (by omega)
                · rw [if_neg (by simpa using w8)]
                  exact W.w7b (cell / 8 % 4) (by omega) (by omega)
              · rw [if_neg (by simpa using w7)]
                exact W.g0 t9 p1 p2
theorem due_no : duec (tx "NoPattern") 0 0 = (1, 0, 0) := by decide +kernel
theorem due_fit (w h : Int) : duec (tx "") w h = (0, w, h) := if_pos rfl
theorem w_np (T : Tx) (hl : T.length ≤ 100000) (hr : rcode (readS T) = (1, 0, 0)) : okB (M.ok (T, tx "NoPattern", (0 : Int), (0 : Int), ())) = true := by
  rw [okB_ok]
  dsimp only
  rw [decide_eq_true hl, Bool.true_and]
  exact decide_eq_true (hr.trans due_no.symm)
theorem w_bad (a b : Tx) (c : Nat) (hcm : Strange c) : rcode (readS (a ++ [c] ++ b)) = (1, 0, 0) := by
  have hb := List.all_eq_true.mp strange_all c hcm
  obtain ⟨s1, s2⟩ := Bool.and_eq_true_iff.mp (show (decide (csort c = 0) && (decide (c ≠ 32) && !isMk c)) = true from hb)
  obtain ⟨s2, s3⟩ := Bool.and_eq_true_iff.mp s2
  have : pTree (a ++ [c] ++ b) = none := by
    unfold pTree
    rw [tk_bad (of_decide_eq_true s1) (of_decide_eq_true s2) (by simpa using s3) _ none (fun s a z => nomatch z) (by simp)]
    rfl
  have e : readS (a ++ [c] ++ b) = .ex .noPattern := by unfold readS; rw [this]
  rw [e]
  rfl
theorem w_g0 (t : Tx × Int × Int × Unit) (h1 : t.1.length ≤ 60) (h2 : rcode (readS t.1) = (0, t.2.1, t.2.2.1)) : okB (M.ok (t.1, tx "", t.2.1, t.2.2.1, ())) = true := by
  rw [okB_ok]
  dsimp only
  rw [decide_eq_true (by omega : t.1.length ≤ 100000), Bool.true_and]
  exact decide_eq_true (h2.trans (due_fit _ _).symm)
theorem plB_ok {m : M (Tx × Int × Int × Unit)} (h : plB m = true) : ∃ t, m = .ok t ∧ t.1.length ≤ 60 ∧ rcode (readS t.1) = (0, t.2.1, t.2.2.1) := by
  cases m with
  | ex c => cases h
  | no => cases h
  | ok t =>
    have h := Bool.and_eq_true_iff.mp h
    exact ⟨t, rfl, of_decide_eq_true h.1, of_decide_eq_true h.2⟩
theorem pl2_ok {t : Tx × Int × Int × Unit} (h : pl2 (.ok t) = true) : rcode (readS (cutL t.1 none (some (-(1 : Int))))) = (1, 0, 0) := of_decide_eq_true h
theorem pl3_ok {t : Tx × Int × Int × Unit} (h : pl3 (.ok t) = true) : ∀ b ∈ ends8, rcode (readS (t.1 ++ b)) = (1, 0, 0) := fun b hb => of_decide_eq_true (List.all_eq_true.mp h b hb)
theorem plain_at {F : M (Tx × Int × Int × Unit) → Bool} (h : ∀ r : _root_.Fin 75, F (f_law_plain (r.val : Int)) = true) (z : Int) : F (f_law_plain z) = true := by
  have e := plain_mod z
  have k := h ⟨(z % 75).toNat, by omega⟩
  rw [show (((⟨(z % 75).toNat, by omega⟩ : _root_.Fin 75).val : Nat) : Int) = z % 75 from Int.toNat_of_nonneg (by omega)] at k
  rw [e]
  exact k
theorem w_pl (z : Int) : ∃ t, f_law_plain z = .ok t ∧ t.1.length ≤ 60 ∧ rcode (readS t.1) = (0, t.2.1, t.2.2.1) ∧ rcode (readS (cutL t.1 none (some (-(1 : Int))))) = (1, 0, 0) ∧ ∀ b ∈ ends8, rcode (readS (t.1 ++ b)) = (1, 0, 0) := by
  obtain ⟨t, e, h1, h2⟩ := plB_ok (plain_at plain_all z)
  have hc := plain_at plain_cut z
  have hm := plain_at plain_more z
  rw [e] at hc hm
  exact ⟨t, e, h1, h2, pl2_ok hc, pl3_ok hm⟩
theorem w_at {n : Nat} {F : Int → M (Tx × Tx × Int × Int × Unit)} (h : ∀ r : _root_.Fin n, okB (F (r.val : Int)) = true) (z : Int) (h0 : 0 ≤ z) (h1 : z < n) : okB (F z) = true := by
  have k := h ⟨z.toNat, by omega⟩
  rw [show (((⟨z.toNat, by omega⟩ : _root_.Fin n).val : Nat) : Int) = z from Int.toNat_of_nonneg h0] at k
  exact k
structure GoodT (m : M (Tx × Tx × Int × Int × Unit)) : Prop where
  ok : okB m = true
theorem ways : Ways GoodT (fun T => rcode (readS T)) where
  np := fun T a b => ⟨w_np T a b⟩
  g0 := fun t a b => ⟨w_g0 t a b⟩
  pl := fun z => w_pl z
  bad := fun a b c h => w_bad a b c h
  w4 := fun z a b => ⟨w_at (F := way4) way4_all z a b⟩
  w5 := fun z a b => ⟨w_at (F := way5) way5_all z a b⟩
  w6 := fun z a b => ⟨w_at (F := way6) way6_all z a b⟩
  w7a := fun z a b => ⟨w_at (F := way7a) way7a_all z a b⟩
  w7b := fun z a b => ⟨w_at (F := way7b) way7b_all z a b⟩
theorem text_ok (cell : Int) : okB (f_law_text cell) = true := (text_gen ways cell).ok
theorem right_all (cell : Int) : f_law_right cell = .ok true := right_of (text_ok cell)
theorem el_nx {β ρ γ : Type} (f : β → M γ) (g : ρ → M γ) (b : β) : Fl.el f g (Fl.nx b) = f b := rfl
theorem loop58 : ∀ xs : List Int, forF f_law_l1 () xs = .ok (.nx ())
  | [] => rfl
  | x :: xs => by
    have e : f_law_l1 () x = .ok (.nx ()) := by
      unfold f_law_l1
      rw [right_all x]
      simp only [M.bok]
      rw [if_neg (by decide)]
    show (f_law_l1 () x).bind (Fl.el (fun s => forF f_law_l1 s xs) fun r => .ok (.rt r)) = _
    rw [e, M.bok, el_nx]
    exact loop58 xs
theorem law_math : ∀ ns : List Int, ns.length ≤ 63 → c_law (ns, ()) = .ok true := by
  intro ns _
  unfold c_law f_law
  dsimp only
  rw [loop58, M.bok, el_nx]
  exact right_all 0
def dds : List He.DefD := ([⟨("_law_plain", none), "_law_plain", "_law_plain", defArgs (topS 42), defBody (topS 42), defScope (topS 42), [], []⟩, ⟨("_law_strange", none), "_law_strange", "_law_strange", defArgs (topS 43), defBody (topS 43), defScope (topS 43), [], []⟩, ⟨("_law_deep", none), "_law_deep", "_law_deep", defArgs (topS 45), defBody (topS 45), defScope (topS 45), [], []⟩, ⟨("_law_odd", none), "_law_odd", "_law_odd", defArgs (topS 44), defBody (topS 44), defScope (topS 44), [], []⟩, ⟨("_law_text", none), "_law_text", "_law_text", defArgs (topS 46), defBody (topS 46), defScope (topS 46), [], []⟩, ⟨("sign_sort", none), "sign_sort", "sign_sort", defArgs (topS 26), defBody (topS 26), defScope (topS 26), [], []⟩, ⟨("marks_of", none), "marks_of", "marks_of", defArgs (topS 28), defBody (topS 28), defScope (topS 28), [], []⟩, ⟨("mark_at", none), "mark_at", "mark_at", defArgs (topS 29), defBody (topS 29), defScope (topS 29), [], []⟩, ⟨("is_name", none), "is_name", "is_name", defArgs (topS 27), defBody (topS 27), defScope (topS 27), [], []⟩, ⟨("behind_mark", none), "behind_mark", "behind_mark", defArgs (topS 30), defBody (topS 30), defScope (topS 30), [], []⟩, ⟨("read_runs", none), "read_runs", "read_runs", defArgs (topS 32), defBody (topS 32), defScope (topS 32), [], []⟩, ⟨("number_of", none), "number_of", "number_of", defArgs (topS 31), defBody (topS 31), defScope (topS 31), [], []⟩, ⟨("read_tree", none), "read_tree", "read_tree", defArgs (topS 33), defBody (topS 33), defScope (topS 33), [], []⟩, ⟨("must_fit", none), "must_fit", "must_fit", defArgs (topS 35), defBody (topS 35), defScope (topS 35), [], []⟩, ⟨("Given", some "__init__"), "__init__", "Given.__init__", defArgs ((clsBody (topS 7)).getD 0 (.Pass ⟨0, 0, 0, 0⟩)), defBody ((clsBody (topS 7)).getD 0 (.Pass ⟨0, 0, 0, 0⟩)), defScope ((clsBody (topS 7)).getD 0 (.Pass ⟨0, 0, 0, 0⟩)), [], []⟩, ⟨("Given", some "__init__"), "__init__", "Given.__init__", defArgs ((clsBody (topS 7)).getD 0 (.Pass ⟨0, 0, 0, 0⟩)), defBody ((clsBody (topS 7)).getD 0 (.Pass ⟨0, 0, 0, 0⟩)), defScope ((clsBody (topS 7)).getD 0 (.Pass ⟨0, 0, 0, 0⟩)), [], []⟩, ⟨("Named", some "__init__"), "__init__", "Named.__init__", defArgs ((clsBody (topS 8)).getD 0 (.Pass ⟨0, 0, 0, 0⟩)), defBody ((clsBody (topS 8)).getD 0 (.Pass ⟨0, 0, 0, 0⟩)), defScope ((clsBody (topS 8)).getD 0 (.Pass ⟨0, 0, 0, 0⟩)), [], []⟩, ⟨("Twill", some "__init__"), "__init__", "Twill.__init__", defArgs ((clsBody (topS 9)).getD 0 (.Pass ⟨0, 0, 0, 0⟩)), defBody ((clsBody (topS 9)).getD 0 (.Pass ⟨0, 0, 0, 0⟩)), defScope ((clsBody (topS 9)).getD 0 (.Pass ⟨0, 0, 0, 0⟩)), [], []⟩, ⟨("no_common", none), "no_common", "no_common", defArgs (topS 34), defBody (topS 34), defScope (topS 34), [], []⟩, ⟨("Satin", some "__init__"), "__init__", "Satin.__init__", defArgs ((clsBody (topS 10)).getD 0 (.Pass ⟨0, 0, 0, 0⟩)), defBody ((clsBody (topS 10)).getD 0 (.Pass ⟨0, 0, 0, 0⟩)), defScope ((clsBody (topS 10)).getD 0 (.Pass ⟨0, 0, 0, 0⟩)), [], []⟩, ⟨("Piece", some "wide"), "wide", "Piece.wide", defArgs ((clsBody (topS 6)).getD 1 (.Pass ⟨0, 0, 0, 0⟩)), defBody ((clsBody (topS 6)).getD 1 (.Pass ⟨0, 0, 0, 0⟩)), defScope ((clsBody (topS 6)).getD 1 (.Pass ⟨0, 0, 0, 0⟩)), [], []⟩, ⟨("Piece", some "high"), "high", "Piece.high", defArgs ((clsBody (topS 6)).getD 2 (.Pass ⟨0, 0, 0, 0⟩)), defBody ((clsBody (topS 6)).getD 2 (.Pass ⟨0, 0, 0, 0⟩)), defScope ((clsBody (topS 6)).getD 2 (.Pass ⟨0, 0, 0, 0⟩)), [], []⟩, ⟨("Repeated", some "__init__"), "__init__", "Repeated.__init__", defArgs ((clsBody (topS 17)).getD 0 (.Pass ⟨0, 0, 0, 0⟩)), defBody ((clsBody (topS 17)).getD 0 (.Pass ⟨0, 0, 0, 0⟩)), defScope ((clsBody (topS 17)).getD 0 (.Pass ⟨0, 0, 0, 0⟩)), [], []⟩, ⟨("numbered_piece", none), "numbered_piece", "numbered_piece", defArgs (topS 36), defBody (topS 36), defScope (topS 36), [], []⟩, ⟨("Mirrored", some "__init__"), "__init__", "Mirrored.__init__", defArgs ((clsBody (topS 13)).getD 0 (.Pass ⟨0, 0, 0, 0⟩)), defBody ((clsBody (topS 13)).getD 0 (.Pass ⟨0, 0, 0, 0⟩)), defScope ((clsBody (topS 13)).getD 0 (.Pass ⟨0, 0, 0, 0⟩)), [], []⟩, ⟨("Upended", some "__init__"), "__init__", "Upended.__init__", defArgs ((clsBody (topS 15)).getD 0 (.Pass ⟨0, 0, 0, 0⟩)), defBody ((clsBody (topS 15)).getD 0 (.Pass ⟨0, 0, 0, 0⟩)), defScope ((clsBody (topS 15)).getD 0 (.Pass ⟨0, 0, 0, 0⟩)), [], []⟩, ⟨("Backed", some "__init__"), "__init__", "Mirrored.__init__", defArgs ((clsBody (topS 13)).getD 0 (.Pass ⟨0, 0, 0, 0⟩)), defBody ((clsBody (topS 13)).getD 0 (.Pass ⟨0, 0, 0, 0⟩)), defScope ((clsBody (topS 13)).getD 0 (.Pass ⟨0, 0, 0, 0⟩)), [], []⟩, ⟨("Quartered", some "__init__"), "__init__", "Quartered.__init__", defArgs ((clsBody (topS 16)).getD 0 (.Pass ⟨0, 0, 0, 0⟩)), defBody ((clsBody (topS 16)).getD 0 (.Pass ⟨0, 0, 0, 0⟩)), defScope ((clsBody (topS 16)).getD 0 (.Pass ⟨0, 0, 0, 0⟩)), [], []⟩, ⟨("turned_piece", none), "turned_piece", "turned_piece", defArgs (topS 38), defBody (topS 38), defScope (topS 38), [], []⟩, ⟨("Beside", some "__init__"), "__init__", "Beside.__init__", defArgs ((clsBody (topS 11)).getD 0 (.Pass ⟨0, 0, 0, 0⟩)), defBody ((clsBody (topS 11)).getD 0 (.Pass ⟨0, 0, 0, 0⟩)), defScope ((clsBody (topS 11)).getD 0 (.Pass ⟨0, 0, 0, 0⟩)), [], []⟩] : List He.DefD) ++ ([⟨("Above", some "__init__"), "__init__", "Above.__init__", defArgs ((clsBody (topS 12)).getD 0 (.Pass ⟨0, 0, 0, 0⟩)), defBody ((clsBody (topS 12)).getD 0 (.Pass ⟨0, 0, 0, 0⟩)), defScope ((clsBody (topS 12)).getD 0 (.Pass ⟨0, 0, 0, 0⟩)), [], []⟩, ⟨("Covered", some "__init__"), "__init__", "Covered.__init__", defArgs ((clsBody (topS 19)).getD 0 (.Pass ⟨0, 0, 0, 0⟩)), defBody ((clsBody (topS 19)).getD 0 (.Pass ⟨0, 0, 0, 0⟩)), defScope ((clsBody (topS 19)).getD 0 (.Pass ⟨0, 0, 0, 0⟩)), [], []⟩, ⟨("Blocked", some "__init__"), "__init__", "Blocked.__init__", defArgs ((clsBody (topS 18)).getD 0 (.Pass ⟨0, 0, 0, 0⟩)), defBody ((clsBody (topS 18)).getD 0 (.Pass ⟨0, 0, 0, 0⟩)), defScope ((clsBody (topS 18)).getD 0 (.Pass ⟨0, 0, 0, 0⟩)), [], []⟩, ⟨("joined_piece", none), "joined_piece", "joined_piece", defArgs (topS 37), defBody (topS 37), defScope (topS 37), [], []⟩, ⟨("worked_out", none), "worked_out", "worked_out", defArgs (topS 39), defBody (topS 39), defScope (topS 39), [], []⟩, ⟨("read_pattern", none), "read_pattern", "read_pattern", defArgs (topS 40), defBody (topS 40), defScope (topS 40), [], []⟩, ⟨("_law_right", none), "_law_right", "_law_right", defArgs (topS 47), defBody (topS 47), defScope (topS 47), [], []⟩, ⟨("law", none), "law", "law", defArgs (topS 48), defBody (topS 48), defScope (topS 48), [], []⟩, ⟨("Piece", some "__init__"), "__init__", "Piece.__init__", defArgs ((clsBody (topS 6)).getD 0 (.Pass ⟨0, 0, 0, 0⟩)), defBody ((clsBody (topS 6)).getD 0 (.Pass ⟨0, 0, 0, 0⟩)), defScope ((clsBody (topS 6)).getD 0 (.Pass ⟨0, 0, 0, 0⟩)), [], []⟩] : List He.DefD)
def fas : List He.Fa := ([.glo "_law_plain", .glo "_law_strange", .glo "_law_deep", .glo "_law_odd", .glo "_law_text", .glo "sign_sort", .glo "marks_of", .glo "mark_at", .glo "is_name", .glo "behind_mark", .glo "read_runs", .glo "number_of", .glo "read_tree", .glo "must_fit", .glo "no_common", .glo "numbered_piece", .glo "turned_piece", .glo "joined_piece", .glo "worked_out", .glo "read_pattern", .glo "_law_right", .glo "law", .glo "SHAPES", .glo "Piece", .cls "Piece", .glo "Given", .cls "Given", .mkr "Given", .glo "Named", .cls "Named"] : List He.Fa) ++ ([.mkr "Named", .glo "Twill", .cls "Twill", .mkr "Twill", .glo "Satin", .cls "Satin", .mkr "Satin", .glo "Beside", .cls "Beside", .mkr "Beside", .glo "Above", .cls "Above", .mkr "Above", .glo "Mirrored", .cls "Mirrored", .mkr "Mirrored", .glo "Backed", .cls "Backed", .mkr "Backed", .glo "Upended", .cls "Upended", .mkr "Upended", .glo "Quartered", .cls "Quartered", .mkr "Quartered", .glo "Repeated", .cls "Repeated", .mkr "Repeated", .glo "Blocked", .cls "Blocked"] : List He.Fa) ++ ([.mkr "Blocked", .glo "Covered", .cls "Covered", .mkr "Covered", .noat "Above" "ends", .noat "Above" "first", .noat "Above" "later", .noat "Above" "picks", .noat "Backed" "ends", .noat "Backed" "inner", .noat "Backed" "picks", .noat "Beside" "ends", .noat "Beside" "left", .noat "Beside" "picks", .noat "Beside" "right", .noat "Blocked" "ends", .noat "Blocked" "other", .noat "Blocked" "picks", .noat "Blocked" "profile", .noat "Blocked" "unit", .noat "Covered" "ends", .noat "Covered" "lower_one", .noat "Covered" "picks", .noat "Covered" "upper_one", .noat "Given" "ends", .noat "Given" "picks", .noat "Given" "texts", .noat "Mirrored" "ends", .noat "Mirrored" "inner", .noat "Mirrored" "picks"] : List He.Fa) ++ ([.noat "Named" "ends", .noat "Named" "name", .noat "Named" "picks", .noat "Named" "texts", .noat "Quartered" "ends", .noat "Quartered" "inner", .noat "Quartered" "picks", .noat "Repeated" "across", .noat "Repeated" "along", .noat "Repeated" "ends", .noat "Repeated" "inner", .noat "Repeated" "picks", .noat "Satin" "ends", .noat "Satin" "picks", .noat "Satin" "step", .noat "Twill" "ends", .noat "Twill" "many", .noat "Twill" "more", .noat "Twill" "picks", .noat "Upended" "ends", .noat "Upended" "inner", .noat "Upended" "picks", .meth "Piece" "wide", .meth "Piece" "high", .free "all", .free "int", .free "isinstance", .free "len", .free "list", .free "str"] : List He.Fa) ++ ([.free "tuple", .int "DEEPEST" 12, .str "FIGURES" (Str.ofString "0123456789"), .str "LETTERS" (Str.ofString "abcdefghijklmnopqrstuvwxyz"), .int "MOST_STRANDS" 40, .glo "NoPattern", .exc "NoPattern", .glo "TooLarge", .exc "TooLarge", .glo "Unknown", .exc "Unknown", .glo "WeaveError", .exc "WeaveError"] : List He.Fa)
def loose : List Str := (["WeaveError", "TooLarge", "NoPattern", "Unknown", "Piece", "Given", "Named", "Twill", "Satin", "Beside", "Above", "Mirrored", "Backed", "Upended", "Quartered", "Repeated", "Blocked", "Covered", "DEEPEST", "MOST_STRANDS", "LETTERS", "FIGURES", "SHAPES", "sign_sort", "is_name", "marks_of", "mark_at", "behind_mark", "number_of", "read_runs"] : List Str) ++ (["read_tree", "no_common", "must_fit", "numbered_piece", "joined_piece", "turned_piece", "worked_out", "read_pattern", "_law_plain", "_law_strange", "_law_odd", "_law_deep", "_law_text", "_law_right"] : List Str)
abbrev hdR : PySem.W.OpenRow := PySem.W.OpenLaw.row PySem.Challenge.rw_heddle_k58_texts_that_are_no_patterns
def ex_ (K : PySem.W.Frag) : Bool := knB kn_ K && (pcB K && (clsFnB K "Given" "__init__" && (clsFnB K "Piece" "__init__" && (kdB K "SHAPES" kd_SHAPES && true))))
def ts_ : List He.Tab := [((fun K => He.ga K "SHAPES"), [("rows" : Str), ("twill" : Str), ("satin" : Str), ("beside" : Str), ("above" : Str), ("mirror" : Str), ("upend" : Str), ("back" : Str), ("quarter" : Str), ("tile" : Str), ("blocks" : Str), ("lay" : Str)])]
abbrev hk : PySem.W.Hook := hookY 6 fas dds ts_ [] ex_
def ob (s : PySem.W.SharedT) : He.AlX := obsY 6 fas dds ts_ [] ex_ (HandSHeadRun.getT s)
theorem ob_eq (s : PySem.W.SharedT) : ob s = hk.obs s.abs := obsY_eq (HandSHeadRun.getT_eq s)
theorem run_false (w : World) : HandSHeadRun.RunEq hdR (PySem.W.view hdR.prog [48]) hk ob 9000 loose (w.withFollow "special-get-raises" false) := by intro os; kernel_rfl
theorem run_true (w : World) : HandSHeadRun.RunEq hdR (PySem.W.view hdR.prog [48]) hk ob 9000 loose (w.withFollow "special-get-raises" true) := by intro os; kernel_rfl
theorem run (w : World) : HandSHeadRun.RunEq hdR (PySem.W.view hdR.prog [48]) hk ob 9000 loose w := PySem.W.byRow2 "special-get-raises" (P := fun w => HandSHeadRun.RunEq hdR (PySem.W.view hdR.prog [48]) hk ob 9000 loose w) run_false run_true w
theorem facts_of {K : PySem.W.Frag} {h : Heap} {mg : Str → Option Value} {P : Program} {w : World} {base : Heap} (X : K.In h) (G : h.Ns mainGlobals mg) (kx : ex_ K = true) (c : He.SaysD fas dds K) (kd_SHAPES_ : He.dicW K (He.ga K "SHAPES") = some (He.keysIn w.params (kd_SHAPES.map fun q => toS q.1))) : Facts ⟨P, w, K, mg, base, fun c => He.ga K (ecName c), none⟩ where
  g_all := He.free_ok X G (c.fact 114 (f := .free "all") rfl)
  g_int := He.free_ok X G (c.fact 115 (f := .free "int") rfl)
  g_isinstance := He.free_ok X G (c.fact 116 (f := .free "isinstance") rfl)
  g_len := He.free_ok X G (c.fact 117 (f := .free "len") rfl)
  g_list := He.free_ok X G (c.fact 118 (f := .free "list") rfl)
  g_str := He.free_ok X G (c.fact 119 (f := .free "str") rfl)
  g_tuple := He.free_ok X G (c.fact 120 (f := .free "tuple") rfl)
  c_DEEPEST := He.int_ok X G (c.fact 121 (f := .int "DEEPEST" 12) rfl)
  c_FIGURES := He.str_ok X G (c.fact 122 (f := .str "FIGURES" (Str.ofString "0123456789")) rfl)
  c_LETTERS := He.str_ok X G (c.fact 123 (f := .str "LETTERS" (Str.ofString "abcdefghijklmnopqrstuvwxyz")) rfl)
  c_MOST_STRANDS := He.int_ok X G (c.fact 124 (f := .int "MOST_STRANDS" 40) rfl)
  x_NoPattern := exF X G rfl (c.fact 125 (f := .glo "NoPattern") rfl) (c.fact 126 (f := .exc "NoPattern") rfl)
  x_TooLarge := exF X G rfl (c.fact 127 (f := .glo "TooLarge") rfl) (c.fact 128 (f := .exc "TooLarge") rfl)
  x_Unknown := exF X G rfl (c.fact 129 (f := .glo "Unknown") rfl) (c.fact 130 (f := .exc "Unknown") rfl)
  x_WeaveError := exF X G rfl (c.fact 131 (f := .glo "WeaveError") rfl) (c.fact 132 (f := .exc "WeaveError") rfl)
  kn := kn_ok (He.ba kx).1
  pc := pcB_ok (p := ⟨P, w, K, mg, base, fun c => He.ga K (ecName c), none⟩) (He.ba (He.ba kx).2).1
  t_SHAPES := kd_ok (p := ⟨P, w, K, mg, base, fun c => He.ga K (ecName c), none⟩) (He.glo_ok X G (c.fact 22 (f := .glo "SHAPES") rfl)) kd_SHAPES_ (He.ba (He.ba (He.ba (He.ba (He.ba kx).2).2).2).2).1 (by decide +kernel)
  a_Piece := He.cls_ok (c.fact 24 (f := .cls "Piece") rfl)
  a_Given := He.cls_ok (c.fact 26 (f := .cls "Given") rfl)
  a_Named := He.cls_ok (c.fact 29 (f := .cls "Named") rfl)
  a_Twill := He.cls_ok (c.fact 32 (f := .cls "Twill") rfl)
  a_Satin := He.cls_ok (c.fact 35 (f := .cls "Satin") rfl)
  a_Beside := He.cls_ok (c.fact 38 (f := .cls "Beside") rfl)
  a_Above := He.cls_ok (c.fact 41 (f := .cls "Above") rfl)
  a_Mirrored := He.cls_ok (c.fact 44 (f := .cls "Mirrored") rfl)
  a_Backed := He.cls_ok (c.fact 47 (f := .cls "Backed") rfl)
  a_Upended := He.cls_ok (c.fact 50 (f := .cls "Upended") rfl)
  a_Quartered := He.cls_ok (c.fact 53 (f := .cls "Quartered") rfl)
  a_Repeated := He.cls_ok (c.fact 56 (f := .cls "Repeated") rfl)
  a_Blocked := He.cls_ok (c.fact 59 (f := .cls "Blocked") rfl)
  a_Covered := He.cls_ok (c.fact 62 (f := .cls "Covered") rfl)
  n_Above_ends := He.noat_ok (c.fact 64 (f := .noat "Above" "ends") rfl)
  n_Above_first := He.noat_ok (c.fact 65 (f := .noat "Above" "first") rfl)
  n_Above_later := He.noat_ok (c.fact 66 (f := .noat "Above" "later") rfl)
  n_Above_picks := He.noat_ok (c.fact 67 (f := .noat "Above" "picks") rfl)
  n_Backed_ends := He.noat_ok (c.fact 68 (f := .noat "Backed" "ends") rfl)
  n_Backed_inner := He.noat_ok (c.fact 69 (f := .noat "Backed" "inner") rfl)
  n_Backed_picks := He.noat_ok (c.fact 70 (f := .noat "Backed" "picks") rfl)
  n_Beside_ends := He.noat_ok (c.fact 71 (f := .noat "Beside" "ends") rfl)
  n_Beside_left := He.noat_ok (c.fact 72 (f := .noat "Beside" "left") rfl)
  n_Beside_picks := He.noat_ok (c.fact 73 (f := .noat "Beside" "picks") rfl)
  n_Beside_right := He.noat_ok (c.fact 74 (f := .noat "Beside" "right") rfl)
  n_Blocked_ends := He.noat_ok (c.fact 75 (f := .noat "Blocked" "ends") rfl)
  n_Blocked_other := He.noat_ok (c.fact 76 (f := .noat "Blocked" "other") rfl)
  n_Blocked_picks := He.noat_ok (c.fact 77 (f := .noat "Blocked" "picks") rfl)
  n_Blocked_profile := He.noat_ok (c.fact 78 (f := .noat "Blocked" "profile") rfl)
  n_Blocked_unit := He.noat_ok (c.fact 79 (f := .noat "Blocked" "unit") rfl)
  n_Covered_ends := He.noat_ok (c.fact 80 (f := .noat "Covered" "ends") rfl)
  n_Covered_lower_one := He.noat_ok (c.fact 81 (f := .noat "Covered" "lower_one") rfl)
  n_Covered_picks := He.noat_ok (c.fact 82 (f := .noat "Covered" "picks") rfl)
  n_Covered_upper_one := He.noat_ok (c.fact 83 (f := .noat "Covered" "upper_one") rfl)
  n_Given_ends := He.noat_ok (c.fact 84 (f := .noat "Given" "ends") rfl)
  n_Given_picks := He.noat_ok (c.fact 85 (f := .noat "Given" "picks") rfl)
  n_Given_texts := He.noat_ok (c.fact 86 (f := .noat "Given" "texts") rfl)
  n_Mirrored_ends := He.noat_ok (c.fact 87 (f := .noat "Mirrored" "ends") rfl)
  n_Mirrored_inner := He.noat_ok (c.fact 88 (f := .noat "Mirrored" "inner") rfl)
  n_Mirrored_picks := He.noat_ok (c.fact 89 (f := .noat "Mirrored" "picks") rfl)
  n_Named_ends := He.noat_ok (c.fact 90 (f := .noat "Named" "ends") rfl)
  n_Named_name := He.noat_ok (c.fact 91 (f := .noat "Named" "name") rfl)
  n_Named_picks := He.noat_ok (c.fact 92 (f := .noat "Named" "picks") rfl)
  n_Named_texts := He.noat_ok (c.fact 93 (f := .noat "Named" "texts") rfl)
  n_Quartered_ends := He.noat_ok (c.fact 94 (f := .noat "Quartered" "ends") rfl)
  n_Quartered_inner := He.noat_ok (c.fact 95 (f := .noat "Quartered" "inner") rfl)
  n_Quartered_picks := He.noat_ok (c.fact 96 (f := .noat "Quartered" "picks") rfl)
  n_Repeated_across := He.noat_ok (c.fact 97 (f := .noat "Repeated" "across") rfl)
  n_Repeated_along := He.noat_ok (c.fact 98 (f := .noat "Repeated" "along") rfl)
  n_Repeated_ends := He.noat_ok (c.fact 99 (f := .noat "Repeated" "ends") rfl)
  n_Repeated_inner := He.noat_ok (c.fact 100 (f := .noat "Repeated" "inner") rfl)
  n_Repeated_picks := He.noat_ok (c.fact 101 (f := .noat "Repeated" "picks") rfl)
  n_Satin_ends := He.noat_ok (c.fact 102 (f := .noat "Satin" "ends") rfl)
  n_Satin_picks := He.noat_ok (c.fact 103 (f := .noat "Satin" "picks") rfl)
  n_Satin_step := He.noat_ok (c.fact 104 (f := .noat "Satin" "step") rfl)
  n_Twill_ends := He.noat_ok (c.fact 105 (f := .noat "Twill" "ends") rfl)
  n_Twill_many := He.noat_ok (c.fact 106 (f := .noat "Twill" "many") rfl)
  n_Twill_more := He.noat_ok (c.fact 107 (f := .noat "Twill" "more") rfl)
  n_Twill_picks := He.noat_ok (c.fact 108 (f := .noat "Twill" "picks") rfl)
  n_Upended_ends := He.noat_ok (c.fact 109 (f := .noat "Upended" "ends") rfl)
  n_Upended_inner := He.noat_ok (c.fact 110 (f := .noat "Upended" "inner") rfl)
  n_Upended_picks := He.noat_ok (c.fact 111 (f := .noat "Upended" "picks") rfl)
  d__law_plain := by
    obtain ⟨fd, F⟩ := c.def_ 0 (d := ⟨("_law_plain", none), "_law_plain", "_law_plain", defArgs (topS 42), defBody (topS 42), defScope (topS 42), [], []⟩) rfl
    exact ⟨_, fd, F, He.glo_ok X G (c.fact 0 (f := .glo "_law_plain") rfl)⟩
  d__law_strange := by
    obtain ⟨fd, F⟩ := c.def_ 1 (d := ⟨("_law_strange", none), "_law_strange", "_law_strange", defArgs (topS 43), defBody (topS 43), defScope (topS 43), [], []⟩) rfl
    exact ⟨_, fd, F, He.glo_ok X G (c.fact 1 (f := .glo "_law_strange") rfl)⟩
  d__law_deep := by
    obtain ⟨fd, F⟩ := c.def_ 2 (d := ⟨("_law_deep", none), "_law_deep", "_law_deep", defArgs (topS 45), defBody (topS 45), defScope (topS 45), [], []⟩) rfl
    exact ⟨_, fd, F, He.glo_ok X G (c.fact 2 (f := .glo "_law_deep") rfl)⟩
  d__law_odd := by
    obtain ⟨fd, F⟩ := c.def_ 3 (d := ⟨("_law_odd", none), "_law_odd", "_law_odd", defArgs (topS 44), defBody (topS 44), defScope (topS 44), [], []⟩) rfl
    exact ⟨_, fd, F, He.glo_ok X G (c.fact 3 (f := .glo "_law_odd") rfl)⟩
  d__law_text := by
    obtain ⟨fd, F⟩ := c.def_ 4 (d := ⟨("_law_text", none), "_law_text", "_law_text", defArgs (topS 46), defBody (topS 46), defScope (topS 46), [], []⟩) rfl
    exact ⟨_, fd, F, He.glo_ok X G (c.fact 4 (f := .glo "_law_text") rfl)⟩
  d_sign_sort := by
    obtain ⟨fd, F⟩ := c.def_ 5 (d := ⟨("sign_sort", none), "sign_sort", "sign_sort", defArgs (topS 26), defBody (topS 26), defScope (topS 26), [], []⟩) rfl
    exact ⟨_, fd, F, He.glo_ok X G (c.fact 5 (f := .glo "sign_sort") rfl)⟩
  d_marks_of := by
    obtain ⟨fd, F⟩ := c.def_ 6 (d := ⟨("marks_of", none), "marks_of", "marks_of", defArgs (topS 28), defBody (topS 28), defScope (topS 28), [], []⟩) rfl
    exact ⟨_, fd, F, He.glo_ok X G (c.fact 6 (f := .glo "marks_of") rfl)⟩
  d_mark_at := by
    obtain ⟨fd, F⟩ := c.def_ 7 (d := ⟨("mark_at", none), "mark_at", "mark_at", defArgs (topS 29), defBody (topS 29), defScope (topS 29), [], []⟩) rfl
    exact ⟨_, fd, F, He.glo_ok X G (c.fact 7 (f := .glo "mark_at") rfl)⟩
  d_is_name := by
    obtain ⟨fd, F⟩ := c.def_ 8 (d := ⟨("is_name", none), "is_name", "is_name", defArgs (topS 27), defBody (topS 27), defScope (topS 27), [], []⟩) rfl
    exact ⟨_, fd, F, He.glo_ok X G (c.fact 8 (f := .glo "is_name") rfl)⟩
  d_behind_mark := by
    obtain ⟨fd, F⟩ := c.def_ 9 (d := ⟨("behind_mark", none), "behind_mark", "behind_mark", defArgs (topS 30), defBody (topS 30), defScope (topS 30), [], []⟩) rfl
    exact ⟨_, fd, F, He.glo_ok X G (c.fact 9 (f := .glo "behind_mark") rfl)⟩
  d_read_runs := by
    obtain ⟨fd, F⟩ := c.def_ 10 (d := ⟨("read_runs", none), "read_runs", "read_runs", defArgs (topS 32), defBody (topS 32), defScope (topS 32), [], []⟩) rfl
    exact ⟨_, fd, F, He.glo_ok X G (c.fact 10 (f := .glo "read_runs") rfl)⟩
  d_number_of := by
    obtain ⟨fd, F⟩ := c.def_ 11 (d := ⟨("number_of", none), "number_of", "number_of", defArgs (topS 31), defBody (topS 31), defScope (topS 31), [], []⟩) rfl
    exact ⟨_, fd, F, He.glo_ok X G (c.fact 11 (f := .glo "number_of") rfl)⟩
  d_read_tree := by
    obtain ⟨fd, F⟩ := c.def_ 12 (d := ⟨("read_tree", none), "read_tree", "read_tree", defArgs (topS 33), defBody (topS 33), defScope (topS 33), [], []⟩) rfl
    exact ⟨_, fd, F, He.glo_ok X G (c.fact 12 (f := .glo "read_tree") rfl)⟩
  d_must_fit := by
    obtain ⟨fd, F⟩ := c.def_ 13 (d := ⟨("must_fit", none), "must_fit", "must_fit", defArgs (topS 35), defBody (topS 35), defScope (topS 35), [], []⟩) rfl
    exact ⟨_, fd, F, He.glo_ok X G (c.fact 13 (f := .glo "must_fit") rfl)⟩
  k_Given_init := by
    obtain ⟨fd, F⟩ := c.def_ 14 (d := ⟨("Given", some "__init__"), "__init__", "Given.__init__", defArgs ((clsBody (topS 7)).getD 0 (.Pass ⟨0, 0, 0, 0⟩)), defBody ((clsBody (topS 7)).getD 0 (.Pass ⟨0, 0, 0, 0⟩)), defScope ((clsBody (topS 7)).getD 0 (.Pass ⟨0, 0, 0, 0⟩)), [], []⟩) rfl
    exact ⟨_, fd, F, He.mkr_ok (c.fact 27 (f := .mkr "Given") rfl), He.glo_ok X G (c.fact 25 (f := .glo "Given") rfl)⟩
  s_Given_init := by
    obtain ⟨fd, F⟩ := c.def_ 15 (d := ⟨("Given", some "__init__"), "__init__", "Given.__init__", defArgs ((clsBody (topS 7)).getD 0 (.Pass ⟨0, 0, 0, 0⟩)), defBody ((clsBody (topS 7)).getD 0 (.Pass ⟨0, 0, 0, 0⟩)), defScope ((clsBody (topS 7)).getD 0 (.Pass ⟨0, 0, 0, 0⟩)), [], []⟩) rfl
    exact ⟨_, fd, F, He.glo_ok X G (c.fact 25 (f := .glo "Given") rfl), clsFnB_ok (He.ba (He.ba (He.ba kx).2).2).1⟩
  k_Named_init := by
    obtain ⟨fd, F⟩ := c.def_ 16 (d := ⟨("Named", some "__init__"), "__init__", "Named.__init__", defArgs ((clsBody (topS 8)).getD 0 (.Pass ⟨0, 0, 0, 0⟩)), defBody ((clsBody (topS 8)).getD 0 (.Pass ⟨0, 0, 0, 0⟩)), defScope ((clsBody (topS 8)).getD 0 (.Pass ⟨0, 0, 0, 0⟩)), [], []⟩) rfl
    exact ⟨_, fd, F, He.mkr_ok (c.fact 30 (f := .mkr "Named") rfl), He.glo_ok X G (c.fact 28 (f := .glo "Named") rfl)⟩
  k_Twill_init := by
    obtain ⟨fd, F⟩ := c.def_ 17 (d := ⟨("Twill", some "__init__"), "__init__", "Twill.__init__", defArgs ((clsBody (topS 9)).getD 0 (.Pass ⟨0, 0, 0, 0⟩)), defBody ((clsBody (topS 9)).getD 0 (.Pass ⟨0, 0, 0, 0⟩)), defScope ((clsBody (topS 9)).getD 0 (.Pass ⟨0, 0, 0, 0⟩)), [], []⟩) rfl
    exact ⟨_, fd, F, He.mkr_ok (c.fact 33 (f := .mkr "Twill") rfl), He.glo_ok X G (c.fact 31 (f := .glo "Twill") rfl)⟩
  d_no_common := by
    obtain ⟨fd, F⟩ := c.def_ 18 (d := ⟨("no_common", none), "no_common", "no_common", defArgs (topS 34), defBody (topS 34), defScope (topS 34), [], []⟩) rfl
    exact ⟨_, fd, F, He.glo_ok X G (c.fact 14 (f := .glo "no_common") rfl)⟩
  k_Satin_init := by
    obtain ⟨fd, F⟩ := c.def_ 19 (d := ⟨("Satin", some "__init__"), "__init__", "Satin.__init__", defArgs ((clsBody (topS 10)).getD 0 (.Pass ⟨0, 0, 0, 0⟩)), defBody ((clsBody (topS 10)).getD 0 (.Pass ⟨0, 0, 0, 0⟩)), defScope ((clsBody (topS 10)).getD 0 (.Pass ⟨0, 0, 0, 0⟩)), [], []⟩) rfl
    exact ⟨_, fd, F, He.mkr_ok (c.fact 36 (f := .mkr "Satin") rfl), He.glo_ok X G (c.fact 34 (f := .glo "Satin") rfl)⟩
  m_Piece_wide := by
    obtain ⟨fd, F⟩ := c.def_ 20 (d := ⟨("Piece", some "wide"), "wide", "Piece.wide", defArgs ((clsBody (topS 6)).getD 1 (.Pass ⟨0, 0, 0, 0⟩)), defBody ((clsBody (topS 6)).getD 1 (.Pass ⟨0, 0, 0, 0⟩)), defScope ((clsBody (topS 6)).getD 1 (.Pass ⟨0, 0, 0, 0⟩)), [], []⟩) rfl
    exact ⟨_, fd, F, fun c => ⟨(pcB_ok (p := ⟨P, w, K, mg, base, fun c => He.ga K (ecName c), none⟩) (He.ba (He.ba kx).2).1).cls c, (pcB_ok (p := ⟨P, w, K, mg, base, fun c => He.ga K (ecName c), none⟩) (He.ba (He.ba kx).2).1).wide c⟩⟩
  m_Piece_high := by
    obtain ⟨fd, F⟩ := c.def_ 21 (d := ⟨("Piece", some "high"), "high", "Piece.high", defArgs ((clsBody (topS 6)).getD 2 (.Pass ⟨0, 0, 0, 0⟩)), defBody ((clsBody (topS 6)).getD 2 (.Pass ⟨0, 0, 0, 0⟩)), defScope ((clsBody (topS 6)).getD 2 (.Pass ⟨0, 0, 0, 0⟩)), [], []⟩) rfl
    exact ⟨_, fd, F, fun c => ⟨(pcB_ok (p := ⟨P, w, K, mg, base, fun c => He.ga K (ecName c), none⟩) (He.ba (He.ba kx).2).1).cls c, (pcB_ok (p := ⟨P, w, K, mg, base, fun c => He.ga K (ecName c), none⟩) (He.ba (He.ba kx).2).1).high c⟩⟩
  k_Repeated_init := by
    obtain ⟨fd, F⟩ := c.def_ 22 (d := ⟨("Repeated", some "__init__"), "__init__", "Repeated.__init__", defArgs ((clsBody (topS 17)).getD 0 (.Pass ⟨0, 0, 0, 0⟩)), defBody ((clsBody (topS 17)).getD 0 (.Pass ⟨0, 0, 0, 0⟩)), defScope ((clsBody (topS 17)).getD 0 (.Pass ⟨0, 0, 0, 0⟩)), [], []⟩) rfl
    exact ⟨_, fd, F, He.mkr_ok (c.fact 57 (f := .mkr "Repeated") rfl), He.glo_ok X G (c.fact 55 (f := .glo "Repeated") rfl)⟩
  d_numbered_piece := by
    obtain ⟨fd, F⟩ := c.def_ 23 (d := ⟨("numbered_piece", none), "numbered_piece", "numbered_piece", defArgs (topS 36), defBody (topS 36), defScope (topS 36), [], []⟩) rfl
    exact ⟨_, fd, F, He.glo_ok X G (c.fact 15 (f := .glo "numbered_piece") rfl)⟩
  k_Mirrored_init := by
    obtain ⟨fd, F⟩ := c.def_ 24 (d := ⟨("Mirrored", some "__init__"), "__init__", "Mirrored.__init__", defArgs ((clsBody (topS 13)).getD 0 (.Pass ⟨0, 0, 0, 0⟩)), defBody ((clsBody (topS 13)).getD 0 (.Pass ⟨0, 0, 0, 0⟩)), defScope ((clsBody (topS 13)).getD 0 (.Pass ⟨0, 0, 0, 0⟩)), [], []⟩) rfl
    exact ⟨_, fd, F, He.mkr_ok (c.fact 45 (f := .mkr "Mirrored") rfl), He.glo_ok X G (c.fact 43 (f := .glo "Mirrored") rfl)⟩
  k_Upended_init := by
    obtain ⟨fd, F⟩ := c.def_ 25 (d := ⟨("Upended", some "__init__"), "__init__", "Upended.__init__", defArgs ((clsBody (topS 15)).getD 0 (.Pass ⟨0, 0, 0, 0⟩)), defBody ((clsBody (topS 15)).getD 0 (.Pass ⟨0, 0, 0, 0⟩)), defScope ((clsBody (topS 15)).getD 0 (.Pass ⟨0, 0, 0, 0⟩)), [], []⟩) rfl
    exact ⟨_, fd, F, He.mkr_ok (c.fact 51 (f := .mkr "Upended") rfl), He.glo_ok X G (c.fact 49 (f := .glo "Upended") rfl)⟩
  k_Backed_init := by
    obtain ⟨fd, F⟩ := c.def_ 26 (d := ⟨("Backed", some "__init__"), "__init__", "Mirrored.__init__", defArgs ((clsBody (topS 13)).getD 0 (.Pass ⟨0, 0, 0, 0⟩)), defBody ((clsBody (topS 13)).getD 0 (.Pass ⟨0, 0, 0, 0⟩)), defScope ((clsBody (topS 13)).getD 0 (.Pass ⟨0, 0, 0, 0⟩)), [], []⟩) rfl
    exact ⟨_, fd, F, He.mkr_ok (c.fact 48 (f := .mkr "Backed") rfl), He.glo_ok X G (c.fact 46 (f := .glo "Backed") rfl)⟩
  k_Quartered_init := by
    obtain ⟨fd, F⟩ := c.def_ 27 (d := ⟨("Quartered", some "__init__"), "__init__", "Quartered.__init__", defArgs ((clsBody (topS 16)).getD 0 (.Pass ⟨0, 0, 0, 0⟩)), defBody ((clsBody (topS 16)).getD 0 (.Pass ⟨0, 0, 0, 0⟩)), defScope ((clsBody (topS 16)).getD 0 (.Pass ⟨0, 0, 0, 0⟩)), [], []⟩) rfl
    exact ⟨_, fd, F, He.mkr_ok (c.fact 54 (f := .mkr "Quartered") rfl), He.glo_ok X G (c.fact 52 (f := .glo "Quartered") rfl)⟩
  d_turned_piece := by
    obtain ⟨fd, F⟩ := c.def_ 28 (d := ⟨("turned_piece", none), "turned_piece", "turned_piece", defArgs (topS 38), defBody (topS 38), defScope (topS 38), [], []⟩) rfl
    exact ⟨_, fd, F, He.glo_ok X G (c.fact 16 (f := .glo "turned_piece") rfl)⟩
  k_Beside_init := by
    obtain ⟨fd, F⟩ := c.def_ 29 (d := ⟨("Beside", some "__init__"), "__init__", "Beside.__init__", defArgs ((clsBody (topS 11)).getD 0 (.Pass ⟨0, 0, 0, 0⟩)), defBody ((clsBody (topS 11)).getD 0 (.Pass ⟨0, 0, 0, 0⟩)), defScope ((clsBody (topS 11)).getD 0 (.Pass ⟨0, 0, 0, 0⟩)), [], []⟩) rfl
    exact ⟨_, fd, F, He.mkr_ok (c.fact 39 (f := .mkr "Beside") rfl), He.glo_ok X G (c.fact 37 (f := .glo "Beside") rfl)⟩
  k_Above_init := by
    obtain ⟨fd, F⟩ := c.def_ 30 (d := ⟨("Above", some "__init__"), "__init__", "Above.__init__", defArgs ((clsBody (topS 12)).getD 0 (.Pass ⟨0, 0, 0, 0⟩)), defBody ((clsBody (topS 12)).getD 0 (.Pass ⟨0, 0, 0, 0⟩)), defScope ((clsBody (topS 12)).getD 0 (.Pass ⟨0, 0, 0, 0⟩)), [], []⟩) rfl
    exact ⟨_, fd, F, He.mkr_ok (c.fact 42 (f := .mkr "Above") rfl), He.glo_ok X G (c.fact 40 (f := .glo "Above") rfl)⟩
  k_Covered_init := by
    obtain ⟨fd, F⟩ := c.def_ 31 (d := ⟨("Covered", some "__init__"), "__init__", "Covered.__init__", defArgs ((clsBody (topS 19)).getD 0 (.Pass ⟨0, 0, 0, 0⟩)), defBody ((clsBody (topS 19)).getD 0 (.Pass ⟨0, 0, 0, 0⟩)), defScope ((clsBody (topS 19)).getD 0 (.Pass ⟨0, 0, 0, 0⟩)), [], []⟩) rfl
    exact ⟨_, fd, F, He.mkr_ok (c.fact 63 (f := .mkr "Covered") rfl), He.glo_ok X G (c.fact 61 (f := .glo "Covered") rfl)⟩
  k_Blocked_init := by
    obtain ⟨fd, F⟩ := c.def_ 32 (d := ⟨("Blocked", some "__init__"), "__init__", "Blocked.__init__", defArgs ((clsBody (topS 18)).getD 0 (.Pass ⟨0, 0, 0, 0⟩)), defBody ((clsBody (topS 18)).getD 0 (.Pass ⟨0, 0, 0, 0⟩)), defScope ((clsBody (topS 18)).getD 0 (.Pass ⟨0, 0, 0, 0⟩)), [], []⟩) rfl
    exact ⟨_, fd, F, He.mkr_ok (c.fact 60 (f := .mkr "Blocked") rfl), He.glo_ok X G (c.fact 58 (f := .glo "Blocked") rfl)⟩
  d_joined_piece := by
    obtain ⟨fd, F⟩ := c.def_ 33 (d := ⟨("joined_piece", none), "joined_piece", "joined_piece", defArgs (topS 37), defBody (topS 37), defScope (topS 37), [], []⟩) rfl
    exact ⟨_, fd, F, He.glo_ok X G (c.fact 17 (f := .glo "joined_piece") rfl)⟩
  d_worked_out := by
    obtain ⟨fd, F⟩ := c.def_ 34 (d := ⟨("worked_out", none), "worked_out", "worked_out", defArgs (topS 39), defBody (topS 39), defScope (topS 39), [], []⟩) rfl
    exact ⟨_, fd, F, He.glo_ok X G (c.fact 18 (f := .glo "worked_out") rfl)⟩
  d_read_pattern := by
    obtain ⟨fd, F⟩ := c.def_ 35 (d := ⟨("read_pattern", none), "read_pattern", "read_pattern", defArgs (topS 40), defBody (topS 40), defScope (topS 40), [], []⟩) rfl
    exact ⟨_, fd, F, He.glo_ok X G (c.fact 19 (f := .glo "read_pattern") rfl)⟩
  d__law_right := by
    obtain ⟨fd, F⟩ := c.def_ 36 (d := ⟨("_law_right", none), "_law_right", "_law_right", defArgs (topS 47), defBody (topS 47), defScope (topS 47), [], []⟩) rfl
    exact ⟨_, fd, F, He.glo_ok X G (c.fact 20 (f := .glo "_law_right") rfl)⟩
  d_law := by
    obtain ⟨fd, F⟩ := c.def_ 37 (d := ⟨("law", none), "law", "law", defArgs (topS 48), defBody (topS 48), defScope (topS 48), [], []⟩) rfl
    exact ⟨_, fd, F, He.glo_ok X G (c.fact 21 (f := .glo "law") rfl)⟩
  s_Piece_init := by
    obtain ⟨fd, F⟩ := c.def_ 38 (d := ⟨("Piece", some "__init__"), "__init__", "Piece.__init__", defArgs ((clsBody (topS 6)).getD 0 (.Pass ⟨0, 0, 0, 0⟩)), defBody ((clsBody (topS 6)).getD 0 (.Pass ⟨0, 0, 0, 0⟩)), defScope ((clsBody (topS 6)).getD 0 (.Pass ⟨0, 0, 0, 0⟩)), [], []⟩) rfl
    exact ⟨_, fd, F, He.glo_ok X G (c.fact 23 (f := .glo "Piece") rfl), clsFnB_ok (He.ba (He.ba (He.ba (He.ba kx).2).2).2).1⟩
end Hd
open PySem PySem.W PySem.Calls PyProof.Rows
set_option maxHeartbeats 0
theorem PySem.Challenge.cw_heddle_k58_texts_that_are_no_patterns_holds : PySem.Challenge.rw_heddle_k58_texts_that_are_no_patterns.Holds := by
  w_on; o_law
  refine HandSHeadRun.head_any (r := OpenLaw.row PySem.Challenge.rw_heddle_k58_texts_that_are_no_patterns) (q := view (OpenLaw.row PySem.Challenge.rw_heddle_k58_texts_that_are_no_patterns).prog [48]) (H := Hd.hk) (ob := Hd.ob) (M := 9000) (loose := Hd.loose) (d := HandSHeadRun.topDef (OpenLaw.row PySem.Challenge.rw_heddle_k58_texts_that_are_no_patterns).prog 48) (kwd := []) Hd.ob_eq
    (by kernel_rfl) (fun s => by kernel_rfl) Hd.run (by kernel_rfl) (by kernel_rfl) (by kernel_rfl) (by rfl) (by first | assumption | decide +kernel) (by decide +kernel) ⟨rfl, rfl, rfl, rfl, rfl, by decide +kernel⟩ ?hw ?hc
  case hw => w_witness2
  case hc =>
    refine Hd.law_end (l := PySem.Challenge.rw_heddle_k58_texts_that_are_no_patterns) (k := 34) (cl := Hd.c_law) rfl (by kernel_rfl) ⟨rfl, by decide, by decide⟩ ?F Hd.law_math
    intro w mg fa h Y G hmg0
    obtain ⟨K, KX, cX⟩ := Y
    have c := cX.t.d
    have kx : Hd.ex_ K = true := cX.more
    have hmg : mg ("law" : PySem.Str) = some (.ref fa) := by
      have e : (HandSHeadRun.topDef (OpenLaw.row PySem.Challenge.rw_heddle_k58_texts_that_are_no_patterns).prog 48).name = ("law" : PySem.Str) := by kernel_rfl
      rw [← e]
      exact hmg0
    obtain ⟨f, fd, hF, hm⟩ := (Hd.facts_of (P := (PySem.Challenge.rw_heddle_k58_texts_that_are_no_patterns).prog) (w := w) (base := h) KX G kx c ((Hd.dic_of cX.t 0).trans (congrArg (fun l => some (He.keysIn w.params l)) (by decide +kernel : ([("rows" : Str), ("twill" : Str), ("satin" : Str), ("beside" : Str), ("above" : Str), ("mirror" : Str), ("upend" : Str), ("back" : Str), ("quarter" : Str), ("tile" : Str), ("blocks" : Str), ("lay" : Str)] : List Str) = Hd.kd_SHAPES.map fun q => Hd.toS q.1))) ).d_law
    have e := hm.symm.trans hmg
    cases e
    exact ⟨K, fd, fun c => He.ga K (Hd.ecName c), KX, fun s v => Hd.L2_bindsA hF s v, fun base => Hd.fnok_law (Hd.facts_of KX G kx c ((Hd.dic_of cX.t 0).trans (congrArg (fun l => some (He.keysIn w.params l)) (by decide +kernel : ([("rows" : Str), ("twill" : Str), ("satin" : Str), ("beside" : Str), ("above" : Str), ("mirror" : Str), ("upend" : Str), ("back" : Str), ("quarter" : Str), ("tile" : Str), ("blocks" : Str), ("lay" : Str)] : List Str) = Hd.kd_SHAPES.map fun q => Hd.toS q.1))) ) hF⟩
