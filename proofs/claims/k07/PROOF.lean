import PyProof.Rows.All
import Wide.All
import OpenK.AllK
import Wide.FinOn
import HandS.Base
import HandS.Call
import HandS.List
import HandS.Comp
import HandS.Ends
import HandS.Dict
import HandS.Iter
import HandS.Text
import HandS.Words
import HandS.WordsList
import HandS.Exc
import HandS.TryOnly
import HandS.ExcOwn
import HandS.Defaults
import HandS.Lambda
import HandS.Flow
import HandS.RaiseOp
import HandS.TryElse
import HandS.Wide
import HandS.StrMore
import HandS.StrSplit
import HandS.WordsExc
import HandS.Strs
import HandS.IsInst
import HandS.SetFor
import KE.KStateDown
import HandS.Head0
import HandS.Head1
import HandS.Head2
import HandS.HeadEnd
import HandS.HeadHook1
import HandS.HeadHook2
import PyProof.Rows.RegReprOcc
import PyProof.StrOps2
import HandS.ExcIs
import HandS.TryMany
import KE.KExcMore
import HandS.Deep
import PyProof.Draws
import PyProof.EnumMake
import PyProof.LongRange
import KE.GoesZip
import KE.GoesMore
import HandS.RevTup
import HandS.Small
import HandS.Conv
import HandS.Rev
import KE.SortKeyHeap
import HandS.Nested
import HandS.Sort
import HandS.HeadWalk
import HandS.HeadHook4
import HandS.More
import HandS.WideBits
import PyProof.ListIndexNeg
import KE.DataCmp
import KE.SortData
import HandS.Codes
import KE.KDictDisplayH
import HandS.ClsMeth
import HandS.NoneIn
import KE.KWords
import HandS.HotCalls
import PySem.Challenge.RW_heddle_k07_drafts_refused
set_option Elab.async false
set_option linter.all false
set_option maxRecDepth 100000
set_option maxHeartbeats 0
set_option exponentiation.threshold 20000
set_option synthInstance.maxSize 100000
set_option synthInstance.maxHeartbeats 0
noncomputable section
namespace Hd
open PySem PySem.Spec L2
/-- the classes of refusals -/
inductive Ec where
  | weave | noRow | tooLarge | noCloth | noDraft | noStrand | noDeed | noLaying | noShuttle | noColour | noBlock | noPattern | unknown | twice
  deriving DecidableEq, Repr
/-- what a piece of the program comes to: a value, a refusal, or nothing that is promised here -/
inductive M (α : Type) where
  | ok (a : α)
  | ex (c : Ec)
  | no
def M.bind {α β : Type} : M α → (α → M β) → M β
  | .ok a, f => f a
  | .ex c, _ => .ex c
  | .no, _ => .no
/-- where nothing can be let out -/
def M.nox {α : Type} : M α → M α
  | .ok a => .ok a
  | _ => .no
@[simp] theorem M.bind_ok {α β : Type} (a : α) (f : α → M β) : M.bind (.ok a) f = f a := rfl
@[simp] theorem M.bind_ex {α β : Type} (c : Ec) (f : α → M β) : M.bind (.ex c) f = .ex c := rfl
@[simp] theorem M.bind_no {α β : Type} (f : α → M β) : M.bind .no f = .no := rfl
@[simp] theorem M.nox_ok {α : Type} (a : α) : M.nox (.ok a) = .ok a := rfl
/-- all but the tables of code objects -/
def nt : HO → Bool
  | .tbl _ => false
  | _ => true
def cl (H : Hp) : Hp := fun a => match H a with
  | some (.tbl _) => none
  | x => x
theorem cl_of {H : Hp} {a : Addr} {o : HO} (h : H a = some o) (n : nt o = true := by rfl) : cl H a = some o := by
  unfold cl; rw [h]; cases o <;> first | rfl | cases n
theorem cl_raw {H : Hp} {a : Addr} {o : HO} (h : cl H a = some o) : H a = some o := by
  unfold cl at h; split at h <;> first | exact h | cases h
theorem cl_nt {H : Hp} {a : Addr} {o : HO} (h : cl H a = some o) : nt o = true := by
  unfold cl at h
  split at h
  · cases h
  · rename_i x hx
    cases o <;> first | rfl | exact absurd h (hx _)
theorem cl_none {H : Hp} {a : Addr} (h : H a = none) : cl H a = none := by unfold cl; rw [h]
theorem cl_upd_ne {H : Hp} {a q : Addr} {o : HO} (h : a ≠ q) : cl (upd H q o) a = cl H a := by unfold cl; rw [upd_ne h]
/-- the one lambda of the program: its name -/
def lamQ : Str := "by_count.<locals>.<lambda>"
/-- a later heap: tables may have grown -/
structure Same (H H' : Hp) : Prop where
  keep : ∀ a o, H a = some o → nt o = true → H' a = some o
  fr : ∀ a, H' a = none → H a = none
  tab : ∀ P, LamX.TabS H P lamQ → LamX.TabS H' P lamQ
theorem Same.of {H H' : Hp} (h : L2.Same H H') : Same H H' := ⟨fun a o e _ => h a o e, fun a e => h.free e, fun P t => t.ext h⟩
theorem Same.refl (H : Hp) : Same H H := .of (L2.Same.refl H)
theorem Same.trans {H H1 H2 : Hp} (a : Same H H1) (b : Same H1 H2) : Same H H2 := ⟨fun x o e n => b.keep x o (a.keep x o e n) n, fun x e => a.fr x (b.fr x e), fun P t => b.tab P (a.tab P t)⟩
theorem Same.free {H H' : Hp} (s : Same H H') {l : Addr} (h : H' l = none) : H l = none := s.fr l h
theorem Same.cl {H H' : Hp} (s : Same H H') : L2.Same (cl H) (cl H') := fun a o e => cl_of (s.keep a o (cl_raw e) (cl_nt e)) (cl_nt e)
/-- a thing of one's own is written -/
theorem Same.wr {H0 H : Hp} {q : Addr} {o u : HO} (s : Same H0 H) (n0 : H0 q = none) (hq : H q = some u) (hu : ∀ φ, u ≠ .ext φ) (hn : nt u = true) : Same H0 (upd H q o) := by
  refine ⟨fun a o' e n => ?_, fun a e => ?_, fun P t => ?_⟩
  · rw [upd_ne (ne_of_none e n0)]; exact s.keep a o' e n
  · by_cases z : a = q
    · rw [z, upd_same] at e; cases e
    · rw [upd_ne z] at e; exact s.fr a e
  · obtain ⟨ps, h1, h2, h3⟩ := s.tab P t
    have np : P ≠ q := fun z => by rw [z, hq] at h1; cases h1; cases hn
    refine ⟨ps, by rw [upd_ne np]; exact h1, h2, fun pos cv hc => ?_⟩
    obtain ⟨c, e1, e2⟩ := h3 pos cv hc
    have nc : c ≠ q := fun z => by rw [z, hq] at e2; exact hu _ (Option.some.inj e2)
    exact ⟨c, e1, by rw [upd_ne nc]; exact e2⟩
/-- what may be read -/
abbrev RdR := Addr → HO → Prop
/-- data of a kind, and how a value of the program stands for it -/
structure Ty (α : Type) where
  rep : α → V → RdR → Prop
  mono : ∀ {d v} {R R' : RdR}, rep d v R → (∀ a o, R a o → R' a o) → rep d v R'
inductive Reps {α : Type} (T : Ty α) (R : RdR) : List α → List V → Prop where
  | nil : Reps T R [] []
  | cons {d ds v vs} : T.rep d v R → Reps T R ds vs → Reps T R (d :: ds) (v :: vs)
section
variable {α : Type} {T : Ty α} {R R' : RdR} {ds es : List α} {vs ws : List V}
theorem Reps.mono (h : Reps T R ds vs) (s : ∀ a o, R a o → R' a o) : Reps T R' ds vs := by
  induction h with
  | nil => exact .nil
  | cons r _ ih => exact .cons (T.mono r s) ih
theorem Reps.length (h : Reps T R ds vs) : ds.length = vs.length := by
  induction h with
  | nil => rfl
  | cons _ _ ih => simp [ih]
theorem Reps.append (h : Reps T R ds vs) (k : Reps T R es ws) : Reps T R (ds ++ es) (vs ++ ws) := by
  induction h with
  | nil => exact k
  | cons r _ ih => exact .cons r ih
theorem Reps.get (h : Reps T R ds vs) : ∀ {i : Nat} {d : α}, ds[i]? = some d → ∃ v, vs[i]? = some v ∧ T.rep d v R := by
  induction h with
  | nil => intro i d e; simp at e
  | cons r _ ih =>
    intro i d e
    cases i with
    | zero => simp at e; subst e; exact ⟨_, rfl, r⟩
    | succ i => obtain ⟨v, e1, r1⟩ := ih (i := i) (d := d) (by simpa using e); exact ⟨v, by simpa using e1, r1⟩
theorem Reps.set {d : α} {v : V} (h : Reps T R ds vs) (r : T.rep d v R) : ∀ (i : Nat), Reps T R (ds.set i d) (vs.set i v) := by
  induction h with
  | nil => intro i; exact .nil
  | cons q t ih =>
    intro i
    cases i with
    | zero => exact .cons r t
    | succ i => exact .cons q (ih i)
theorem Reps.take (h : Reps T R ds vs) : ∀ n, Reps T R (ds.take n) (vs.take n) := by
  induction h with
  | nil => intro n; simp; exact .nil
  | cons r _ ih => intro n; cases n with
    | zero => exact .nil
    | succ n => exact .cons r (ih n)
theorem Reps.drop (h : Reps T R ds vs) : ∀ n, Reps T R (ds.drop n) (vs.drop n) := by
  induction h with
  | nil => intro n; simp; exact .nil
  | cons r t ih => intro n; cases n with
    | zero => exact .cons r t
    | succ n => exact ih n
end
def tInt : Ty Int := ⟨fun n v _ => v = .int n, fun h _ => h⟩
def tBool : Ty Bool := ⟨fun b v _ => v = .bl b, fun h _ => h⟩
/-- a text, as its signs -/
abbrev Tx := List Nat
def toS (x : Tx) : Str := ⟨x.toArray⟩
/-- short enough, of signs -/
def OkTx (x : Tx) : Prop := x.length ≤ sizeLine ∧ ∀ c ∈ x, c < 0x110000
def tStr : Ty Tx := ⟨fun x v _ => v = .str (toS x) ∧ OkTx x, fun h _ => h⟩
def tNone : Ty Unit := ⟨fun _ v _ => v = .non, fun h _ => h⟩
def tOpt {α : Type} (T : Ty α) : Ty (Option α) := ⟨fun d v R => match d with | none => v = .non | some d => T.rep d v R ∧ v ≠ .non, fun {d v R R'} h s => by
  cases d with
  | none => exact h
  | some d => exact ⟨T.mono h.1 s, h.2⟩⟩
def tList {α : Type} (T : Ty α) : Ty (List α) := ⟨fun ds v R => ∃ a vs, v = .ref a ∧ R a (.lst vs) ∧ Reps T R ds vs, fun ⟨a, vs, e, r, h⟩ s => ⟨a, vs, e, s _ _ r, h.mono s⟩⟩
/-- the written items of a list, an argument list, a tuple -/
structure Ar (δ : Type) where
  rep : δ → List V → RdR → Prop
  mono : ∀ {d vs} {R R' : RdR}, rep d vs R → (∀ a o, R a o → R' a o) → rep d vs R'
def aNil : Ar Unit := ⟨fun _ vs _ => vs = [], fun h _ => h⟩
def aCons {α β : Type} (T : Ty α) (A : Ar β) : Ar (α × β) := ⟨fun d vs R => ∃ v r, vs = v :: r ∧ T.rep d.1 v R ∧ A.rep d.2 r R, fun ⟨v, r, e, h1, h2⟩ s => ⟨v, r, e, T.mono h1 s, A.mono h2 s⟩⟩
/-- a tuple of written items -/
def tTup {δ : Type} (A : Ar δ) : Ty δ := ⟨fun d v R => ∃ a vs, v = .ref a ∧ R a (.tup vs) ∧ A.rep d vs R, fun ⟨a, vs, e, r, h⟩ s => ⟨a, vs, e, s _ _ r, A.mono h s⟩⟩
/-- all items of one kind -/
def aAll {α : Type} (T : Ty α) : Ar (List α) := ⟨fun ds vs R => Reps T R ds vs, fun h s => h.mono s⟩
/-- a tuple of the written part -/
def KObj (K : PySem.W.Frag) (a : Addr) : HO → Prop
  | .tup xs => ∃ (o : Obj) (its : Array Value) (n : Nat), K.lookup a = some o ∧ o.cls = .type "tuple" ∧ o.data = .seq its n ∧ its.size ≤ sizeLine ∧ Vals xs its.toList
  | _ => False
/-- a def's frame: the heap it began with; the callers' own things, which its arguments don't reach -/
structure Fm where
  K : PySem.W.Frag
  H0 : Hp
  z : Addr → Prop
/-- how new a thing is: sh: it may be shared; f0: made since the def began; fx: made since the expression began -/
inductive Md where | sh | f0 | fx
/-- a value of the table of a code object, as a value of the program (used for marks only) -/
def decV : Value → V
  | .int i _ => .int i
  | .str x _ => .str x
  | _ => .non
/-- how else a thing may be there that is read as o: frozen; a tuple of ints and texts that is no written one is read by a mark too -/
def Alt (o u : HO) : Prop := (nt o = true ∧ ∃ f, u = .frz f o) ∨ ∃ ps : Array Value, o = .tbl ps ∧ u = .tup (ps.toList.map decV)
def Rd (H : Hp) (a : Addr) (o : HO) : Prop := H a = some o ∨ ∃ f : {u : HO // Alt o u}, H a = some f.1
def RD (fm : Fm) (own : List Addr) (H : Hp) : RdR := fun a o => (Rd (cl H) a o ∧ a ∉ own ∧ ¬ fm.z a) ∨ KObj fm.K a o
/-- .. at H' behind an expression that began at H -/
def RX (fm : Fm) (own : List Addr) (H H' : Hp) : Md → RdR
  | .sh => RD fm own H'
  | .f0 => fun a o => cl H' a = some o ∧ a ∉ own ∧ ¬ fm.z a ∧ fm.H0 a = none
  | .fx => fun a o => cl H' a = some o ∧ a ∉ own ∧ ¬ fm.z a ∧ fm.H0 a = none ∧ H a = none
theorem Rd.clo {H : Hp} {a : Addr} {o : HO} (r : L2.Rd H a o) (n : nt o = true := by rfl) : Rd (cl H) a o := r.imp (fun h => cl_of h n) fun ⟨f, h⟩ => ⟨⟨.frz f o, .inl ⟨n, f, rfl⟩⟩, cl_of h⟩
theorem Rd.raw {H : Hp} {a : Addr} {o : HO} (r : Rd (cl H) a o) (n : nt o = true := by rfl) : L2.Rd H a o := by
  rcases r with r | ⟨⟨u, x⟩, r⟩
  · exact .inl (cl_raw r)
  · rcases x with ⟨_, f, e⟩ | ⟨ps, e, _⟩
    · exact .inr ⟨f, by rw [← e]; exact cl_raw r⟩
    · rw [e] at n; cases n
/-- the mark of a tuple of ints and texts -/
theorem Rd.mark {H : Hp} {a : Addr} {ps : Array Value} (r : Rd (cl H) a (.tbl ps)) : H a = some (.tup (ps.toList.map decV)) := by
  rcases r with r | ⟨⟨u, x⟩, r⟩
  · cases cl_nt r
  · rcases x with ⟨n, f, e⟩ | ⟨ps', e, e'⟩
    · cases n
    · cases e; rw [← e']; exact cl_raw r
theorem Rd.same {H H' : Hp} {a : Addr} {o : HO} (s : Same H H') (r : Rd (cl H) a o) : Rd (cl H') a o := by
  rcases r with r | ⟨f, r⟩
  · exact .inl (s.cl _ _ r)
  · exact .inr ⟨f, s.cl _ _ r⟩
theorem Rd.some {H : Hp} {a : Addr} {o : HO} (r : Rd H a o) : H a ≠ none := by
  rcases r with r | ⟨f, r⟩ <;> rw [r] <;> exact fun e => by cases e
theorem Rd.there {H : Hp} {a : Addr} {o : HO} (r : Rd (cl H) a o) : H a ≠ none := fun e => Rd.some r (cl_none e)
theorem RD.same {fm : Fm} {own : List Addr} {H H' : Hp} (s : Same H H') : ∀ a o, RD fm own H a o → RD fm own H' a o := fun _ _ r => r.imp (fun ⟨r, h⟩ => ⟨Rd.same s r, h⟩) id
theorem RX.same {fm : Fm} {own : List Addr} {H H1 H2 : Hp} {md : Md} (s : Same H1 H2) : ∀ a o, RX fm own H H1 md a o → RX fm own H H2 md a o := fun a o r => by
  cases md with
  | sh => exact RD.same s a o r
  | f0 => exact ⟨s.cl _ _ r.1, r.2⟩
  | fx => exact ⟨s.cl _ _ r.1, r.2⟩
/-- from a later beginning -/
theorem RX.later {fm : Fm} {own : List Addr} {H H1 H2 : Hp} {md : Md} (s : Same H H1) : ∀ a o, RX fm own H1 H2 md a o → RX fm own H H2 md a o := fun a o r => by
  cases md with
  | sh => exact r
  | f0 => exact r
  | fx => exact ⟨r.1, r.2.1, r.2.2.1, r.2.2.2.1, s.free r.2.2.2.2⟩
theorem RX.sh {fm : Fm} {own : List Addr} {H H' : Hp} {md : Md} : ∀ a o, RX fm own H H' md a o → RX fm own H H' .sh a o := fun a o r => by
  cases md with
  | sh => exact r
  | f0 => exact .inl ⟨.inl r.1, r.2.1, r.2.2.1⟩
  | fx => exact .inl ⟨.inl r.1, r.2.1, r.2.2.1⟩
theorem RX.f0 {fm : Fm} {own : List Addr} {H H' : Hp} : ∀ a o, RX fm own H H' .fx a o → RX fm own H H' .f0 a o := fun a o r => ⟨r.1, r.2.1, r.2.2.1, r.2.2.2.1⟩
theorem RX.fx {fm : Fm} {own : List Addr} {H H' : Hp} (md : Md) : ∀ a o, RX fm own H H' .fx a o → RX fm own H H' md a o := fun a o r => by
  cases md with
  | sh => exact RX.sh a o r
  | f0 => exact RX.f0 a o r
  | fx => exact r
/-- what can be read is there -/
theorem RX.list {fm : Fm} {own : List Addr} {H H' : Hp} {md : Md} {a : Addr} {vs : List V} (r : RX fm own H H' md a (.lst vs)) : SqL fm.K H' a vs := by
  rcases RX.sh a _ r with r | r
  · exact .inl (Rd.raw r.1)
  · exact r.elim
theorem RX.tup {fm : Fm} {own : List Addr} {H H' : Hp} {md : Md} {a : Addr} {vs : List V} (r : RX fm own H H' md a (.tup vs)) : SqT fm.K H' a vs := by
  rcases RX.sh a _ r with r | r
  · exact .inl (Rd.raw r.1)
  · exact .inr r
structure Slot where
  ok : Option V → Hp → (Bool → RdR) → List Addr → Prop
  st : ∀ {v H H' F} {R R' : Bool → RdR}, ok v H R F → (∀ b a o, R b a o → R' b a o) → (∀ p ∈ F, H' p = H p) → ok v H' R' F
  tb : ∀ {v H F} {R : Bool → RdR}, ok v H R F → ∀ p ∈ F, cl H p ≠ none
/-- nothing is known of it -/
def sAny : Slot := ⟨fun _ _ _ F => F = [], fun h _ _ => h, fun h p hp => by subst h; exact nomatch hp⟩
/-- a value (b: made since the def began) -/
def sV {α : Type} (b : Bool) (T : Ty α) (d : α) : Slot := ⟨fun v _ R F => F = [] ∧ ∃ x, v = some x ∧ T.rep d x (R b), fun ⟨e, x, h, r⟩ s _ => ⟨e, x, h, T.mono r (s b)⟩, fun ⟨e, _⟩ p hp => by subst e; exact nomatch hp⟩
/-- a list of one's own, which may be changed -/
def sOwn {α : Type} (b : Bool) (T : Ty α) (ds : List α) : Slot := ⟨fun v H R F => ∃ p xs, v = some (.ref p) ∧ F = [p] ∧ H p = some (.lst xs) ∧ Reps T (R b) ds xs,
  fun ⟨p, xs, e, f, h, r⟩ s k => ⟨p, xs, e, f, by rw [k p (by simp [f])]; exact h, r.mono (s b)⟩, fun ⟨p, xs, e, f, h, r⟩ q hq => by subst f; rw [List.mem_singleton.mp hq, cl_of h]; exact fun z => nomatch z⟩
inductive AllS (H : Hp) (R : Bool → RdR) : List Slot → L2.St → List (List Addr) → Prop where
  | nil : AllS H R [] [] []
  | cons {s L v σ F Fs} : s.ok v H R F → AllS H R L σ Fs → AllS H R (s :: L) (v :: σ) (F :: Fs)
def RB (fm : Fm) (own : List Addr) (H : Hp) (b : Bool) : RdR := RX fm own H H (if b then .f0 else .sh)
section
variable {H H' : Hp} {R R' : Bool → RdR} {L : List Slot} {σ : L2.St} {Fs : List (List Addr)}
theorem AllS.st (h : AllS H R L σ Fs) (s : ∀ b a o, R b a o → R' b a o) (k : ∀ p ∈ Fs.flatten, H' p = H p) : AllS H' R' L σ Fs := by
  induction h with
  | nil => exact .nil
  | @cons sl L v σ F Fs r t ih =>
    exact .cons (sl.st r s fun p hp => k p (by simp [hp])) (ih fun p hp => k p (by simp only [List.flatten_cons, List.mem_append]; exact .inr hp))
theorem AllS.tb (h : AllS H R L σ Fs) : ∀ p ∈ Fs.flatten, cl H p ≠ none := by
  induction h with
  | nil => intro p hp; simp at hp
  | @cons s L v σ F Fs r _ ih =>
    intro p hp
    rw [List.flatten_cons, List.mem_append] at hp
    exact hp.elim (s.tb r p) (ih p)
theorem AllS.len (h : AllS H R L σ Fs) : σ.length = L.length := by
  induction h with
  | nil => rfl
  | cons _ _ ih => simp [ih]
theorem AllS.get (h : AllS H R L σ Fs) : ∀ {i : Nat} {s : Slot}, L[i]? = some s → ∃ v F, σ[i]? = some v ∧ Fs[i]? = some F ∧ s.ok v H R F := by
  induction h with
  | nil => intro i s e; simp at e
  | cons r _ ih =>
    intro i s e
    cases i with
    | zero => simp at e; subst e; exact ⟨_, _, rfl, rfl, r⟩
    | succ i => obtain ⟨v, F, e1, e2, r1⟩ := ih (i := i) (s := s) (by simpa using e); exact ⟨v, F, by simpa using e1, by simpa using e2, r1⟩
theorem AllS.set (h : AllS H R L σ Fs) {s : Slot} {v : Option V} {F : List Addr} (r : s.ok v H R F) : ∀ (i : Nat), AllS H R (L.set i s) (σ.set i v) (Fs.set i F) := by
  induction h with
  | nil => intro i; exact .nil
  | cons q t ih =>
    intro i
    cases i with
    | zero => exact .cons r t
    | succ i => exact .cons q (ih i)
end
/-- where a def's body stands: its frame, its slots, what it owns, what is kept readable -/
structure At (fm : Fm) (kp : RdR) (L : List Slot) (σ : L2.St) (H : Hp) (own : List Addr) : Prop where
  same : Same fm.H0 H
  zin : ∀ a, fm.z a → H a ≠ none
  sl : ∃ Fs, AllS H (RB fm own H) L σ Fs ∧ own = Fs.flatten
  nd : own.Nodup
  new : ∀ p ∈ own, H p ≠ none ∧ fm.H0 p = none ∧ ¬ fm.z p
  kept : ∀ a o, kp a o → RD fm own H a o
theorem RB.same {fm : Fm} {own : List Addr} {H H' : Hp} (s : Same H H') : ∀ b a o, RB fm own H b a o → RB fm own H' b a o := fun b a o r => by
  unfold RB at r ⊢
  cases b <;> exact RX.same s a o r
section
variable {fm : Fm} {kp : RdR} {L : List Slot} {σ : L2.St} {H H' : Hp} {own : List Addr}
theorem At.ext (h : At fm kp L σ H own) (s : Same H H') : At fm kp L σ H' own := by
  obtain ⟨h1, h2, ⟨Fs, h3, e⟩, h4, h5, h6⟩ := h
  refine ⟨h1.trans s, fun a z n => h2 a z (s.free n), ⟨Fs, h3.st (RB.same s) fun p hp => ?_, e⟩, h4, fun p hp => ?_, fun a o k => RD.same s a o (h6 a o k)⟩
  · obtain ⟨q, _⟩ := h5 p (by rw [e]; exact hp)
    cases r : cl H p with
    | none => exact absurd r (h3.tb p hp)
    | some o => rw [cl_raw r]; exact s.keep _ _ (cl_raw r) (cl_nt r)
  · obtain ⟨q, q2⟩ := h5 p hp
    refine ⟨fun z => q (s.free z), q2⟩
end
/-- some slots forgotten -/
inductive Wk : List Slot → List Slot → Prop where
  | n : Wk [] []
  | s {s L L'} : Wk L L' → Wk (s :: L) (s :: L')
  | a {s L L'} : Wk L L' → Wk (s :: L) (sAny :: L')
theorem Wk.refl : ∀ L, Wk L L
  | [] => .n
  | _ :: L => .s (Wk.refl L)
theorem Wk.anys : ∀ {L : List Slot} {n : Nat}, L.length = n → Wk L (List.replicate n sAny)
  | [], _, e => by subst e; exact .n
  | _ :: L, _, e => by subst e; exact Wk.a (Wk.anys (L := L) rfl)
theorem RX.own {fm : Fm} {own own' : List Addr} {H H' : Hp} {md : Md} (k : ∀ p ∈ own', p ∈ own) : ∀ a o, RX fm own H H' md a o → RX fm own' H H' md a o := fun a o r => by
  cases md with
  | sh => exact r.imp (fun ⟨h1, h2, h3⟩ => ⟨h1, fun q => h2 (k a q), h3⟩) id
  | f0 => exact ⟨r.1, fun q => r.2.1 (k a q), r.2.2⟩
  | fx => exact ⟨r.1, fun q => r.2.1 (k a q), r.2.2⟩
theorem RB.own {fm : Fm} {own own' : List Addr} {H : Hp} (k : ∀ p ∈ own', p ∈ own) : ∀ b a o, RB fm own H b a o → RB fm own' H b a o := fun _ a o r => RX.own k a o r
theorem wk_fs {H : Hp} {R : Bool → RdR} {L L' : List Slot} (w : Wk L L') : ∀ {σ : L2.St} {Fs : List (List Addr)}, AllS H R L σ Fs → ∃ Fs', AllS H R L' σ Fs' ∧ List.Sublist Fs'.flatten Fs.flatten := by
  induction w with
  | n => intro σ Fs h; exact ⟨Fs, h, List.Sublist.refl _⟩
  | s _ ih =>
    intro σ Fs h
    cases h with
    | @cons _ _ _ _ F _ r t =>
      obtain ⟨Fs', h', k⟩ := ih t
      exact ⟨F :: Fs', .cons r h', by simpa using List.Sublist.append (List.Sublist.refl F) k⟩
  | a _ ih =>
    intro σ Fs h
    cases h with
    | @cons _ _ _ _ F _ r t =>
      obtain ⟨Fs', h', k⟩ := ih t
      exact ⟨[] :: Fs', .cons rfl h', by simpa using List.Sublist.trans k (List.sublist_append_right F _)⟩
section
variable {fm : Fm} {kp kp' : RdR} {L L' : List Slot} {σ : L2.St} {H H' : Hp} {own : List Addr}
theorem At.weak (h : At fm kp L σ H own) (w : Wk L L') : ∃ own', At fm kp L' σ H own' ∧ ∀ p ∈ own', p ∈ own := by
  obtain ⟨h1, h2, ⟨Fs, h3, rfl⟩, h4, h5, h6⟩ := h
  obtain ⟨Fs', h7, k⟩ := wk_fs w h3
  have kk : ∀ p ∈ Fs'.flatten, p ∈ Fs.flatten := fun p hp => k.subset hp
  exact ⟨_, ⟨h1, h2, ⟨Fs', h7.st (RB.own kk) fun _ _ => rfl, rfl⟩, h4.sublist k, fun p hp => h5 p (kk p hp), fun a o q => RX.own (md := .sh) (H := H) kk a o (h6 a o q)⟩, kk⟩
theorem At.keep (h : At fm kp L σ H own) (k : ∀ a o, kp' a o → kp a o) : At fm kp' L σ H own := ⟨h.same, h.zin, h.sl, h.nd, h.new, fun a o q => h.kept a o (k a o q)⟩
/-- the slots' count -/
theorem At.len (h : At fm kp L σ H own) : σ.length = L.length := by
  obtain ⟨_, h3, _⟩ := h.sl
  exact h3.len
/-- a slot that owns nothing is set to a thing that owns nothing -/
theorem set_same_nil {Fs : List (List Addr)} : ∀ {i : Nat}, Fs[i]? = some [] → (Fs.set i []).flatten = Fs.flatten := by
  induction Fs with
  | nil => intro i _; rfl
  | cons F Fs ih =>
    intro i e
    cases i with
    | zero => simp at e; subst e; rfl
    | succ i => simp only [List.set_cons_succ, List.flatten_cons]; rw [ih (by simpa using e)]
theorem set_sub {Fs : List (List Addr)} : ∀ {i : Nat}, List.Sublist (Fs.set i []).flatten Fs.flatten := by
  induction Fs with
  | nil => intro i; exact List.Sublist.refl _
  | cons F Fs ih =>
    intro i
    cases i with
    | zero => simpa using List.sublist_append_right F _
    | succ i => simpa using List.Sublist.append (List.Sublist.refl F) (ih (i := i))
theorem At.setV {i : Nat} {b : Bool} {α : Type} {T : Ty α} {d : α} {v : V} (h : At fm kp L σ H own) (r : T.rep d v (RB fm own H b)) : ∃ own', At fm kp (L.set i (sV b T d)) (σ.set i (some v)) H own' := by
  obtain ⟨h1, h2, ⟨Fs, h3, rfl⟩, h4, h5, h6⟩ := h
  have kk : ∀ p ∈ (Fs.set i []).flatten, p ∈ Fs.flatten := fun p hp => (set_sub (i := i)).subset hp
  refine ⟨_, h1, h2, ⟨Fs.set i [], (h3.st (RB.own kk) fun _ _ => rfl).set (s := sV b T d) ⟨rfl, v, rfl, T.mono r (RB.own kk b)⟩ i, rfl⟩, h4.sublist set_sub, fun p hp => h5 p (kk p hp), fun a o q => RX.own (md := .sh) (H := H) kk a o (h6 a o q)⟩
end
/-- what is wanted of a refusal -/
abbrev Wx := Ec → L2.St → Hp → Prop
structure G where
  X : Cx
  fm : Fm
  W : Wx
  LX : List Slot
/-- an expression that is worth m, told as T; md: how new it is -/
def tE (fm : Fm) (W : Wx) (L : List Slot) (md : Md) {α : Type} (T : Ty α) (m : M α) : TE := fun σ H Q => ∃ kp own, At fm kp L σ H own ∧
  match m with
  | .ok d => ∀ v H', Same H H' → T.rep d v (RX fm own H H' md) → Q v H'
  | .ex c => ∀ H', Same H H' → W c σ H'
  | .no => False
def tT (fm : Fm) (W : Wx) (L : List Slot) (m : M Bool) : TT := fun σ H Q => ∃ kp own, At fm kp L σ H own ∧
  match m with
  | .ok d => ∀ H', Same H H' → Q d H'
  | .ex c => ∀ H', Same H H' → W c σ H'
  | .no => False
def tA (fm : Fm) (W : Wx) (L : List Slot) (md : Md) {δ : Type} (A : Ar δ) (m : M δ) : TA := fun σ H Q => ∃ kp own, At fm kp L σ H own ∧
  match m with
  | .ok d => ∀ vs H', Same H H' → A.rep d vs (RX fm own H H' md) → Q vs H'
  | .ex c => ∀ H', Same H H' → W c σ H'
  | .no => False
/-- a list that the expression makes -/
def tL (fm : Fm) (W : Wx) (L : List Slot) (md : Md) {α : Type} (S : Ty α) (m : M (List α)) : TE := fun σ H Q => ∃ kp own, At fm kp L σ H own ∧
  match m with
  | .ok ds => ∀ p vs H', Same H H' → H p = none → H' p = some (.lst vs) → Reps S (RX fm (p :: own) H H' md) ds vs → Q (.ref p) H'
  | .ex c => ∀ H', Same H H' → W c σ H'
  | .no => False
def EvL (g : G) (L : List Slot) (e : Expr) (md : Md) {α : Type} (S : Ty α) (m : M (List α)) : Prop := PE g.X e (tL g.fm g.W L md S m)
def EvE (g : G) (L : List Slot) (e : Expr) (md : Md) {α : Type} (T : Ty α) (m : M α) : Prop := PE g.X e (tE g.fm g.W L md T m)
def EvT (g : G) (L : List Slot) (e : Expr) (m : M Bool) : Prop := PT g.X e (tT g.fm g.W L m)
def EvA (g : G) (L : List Slot) (es : List Expr) (md : Md) {δ : Type} (A : Ar δ) (m : M δ) : Prop := PA g.X es (tA g.fm g.W L md A m)
/-- how a block ends -/
inductive Out where
  | nx (L : List Slot)
  | ct (L : List Slot)
  | go (L : List Slot)
  | rt {ρ : Type} (md : Bool) (T : Ty ρ) (r : ρ)
  | rtL {ρ : Type} (md : Bool) (T : Ty ρ) (r : List ρ)
  /-- any other way of handing back -/
  | gen (f : Fm → VK → Prop)
  | bad
def Out.cut : Out → Out
  | .go L => .ct L
  | .nx _ => .bad
  | o => o
/-- .. of what is handed back; q: not by this one -/
def RT (fm : Fm) (H' : Hp) (b : Bool) (q : Option Addr := none) : RdR := RX fm q.toList H' H' (if b then .f0 else .sh)
def OutOk (fm : Fm) (kp : RdR) (E : Ends) : Out → Prop
  | .nx L => ∀ σ H own, At fm kp L σ H own → E.nx σ H
  | .ct L => ∀ σ H own, At fm kp L σ H own → E.ct σ H
  | .go L => ∀ σ H own, At fm kp L σ H own → E.nx σ H ∧ E.ct σ H
  | .rt md T r => ∀ v H', Same fm.H0 H' → T.rep r v (RT fm H' md) → E.rt v H'
  | .rtL md T r => ∀ p vs H', Same fm.H0 H' → ¬ fm.z p → fm.H0 p = none → H' p = some (.lst vs) → Reps T (RT fm H' md (some p)) r vs → E.rt (.ref p) H'
  | .gen f => f fm E.rt
  | .bad => False
def BOk (g : G) (kp : RdR) (E : Ends) {δ : Type} (D : δ → Out) : M δ → Prop
  | .ok d => OutOk g.fm kp E (D d)
  | .ex c => ∀ σ H own, At g.fm kp g.LX σ H own → g.W c σ H
  | .no => False
def tB (g : G) (L : List Slot) {δ : Type} (D : δ → Out) (m : M δ) : TS := fun E σ H => ∃ kp own, At g.fm kp L σ H own ∧ BOk g kp E D m
def EvB (g : G) (L : List Slot) (st : List Stmt) {δ : Type} (D : δ → Out) (m : M δ) : Prop := PSs g.X st (tB g L D m)
theorem PE.imp {X : Cx} {e : Expr} {t t' : TE} (h : PE X e t) (k : ∀ σ H Q, t' σ H Q → t σ H Q) : PE X e t' := ⟨fun pins s σ H Q I q => h.run pins s σ H Q I (k _ _ _ q)⟩
theorem PT.imp {X : Cx} {e : Expr} {t t' : TT} (h : PT X e t) (k : ∀ σ H Q, t' σ H Q → t σ H Q) : PT X e t' := ⟨fun pins s σ H Q I q => h.run pins s σ H Q I (k _ _ _ q)⟩
theorem PW.imp {X : Cx} {e : Expr} {t t' : TT} (h : PW X e t) (k : ∀ σ H Q, t' σ H Q → t σ H Q) : PW X e t' := ⟨fun wh pins s σ H Q I q => h.run wh pins s σ H Q I (k _ _ _ q)⟩
theorem PA.imp {X : Cx} {e : List Expr} {t t' : TA} (h : PA X e t) (k : ∀ σ H Q, t' σ H Q → t σ H Q) : PA X e t' := ⟨fun pos pins s σ H Q I q => h.run pos pins s σ H Q I (k _ _ _ q)⟩
theorem PSs.imp {X : Cx} {e : List Stmt} {t t' : TS} (h : PSs X e t) (k : ∀ E σ H, t' E σ H → t E σ H) : PSs X e t' := ⟨fun pins s σ H D I q => h.run pins s σ H D I (k _ _ _ q)⟩
section
variable {g : G} {L : List Slot} {e e' : Expr} {es : List Expr} {md : Md} {α β γ δ : Type} {S : Ty α} {T : Ty β} {U : Ty γ} {A : Ar δ}
/-- the end of an expression, as a wish about its worth -/
def FinE (fm : Fm) (W : Wx) (own : List Addr) (σ : L2.St) (H : Hp) (md : Md) (T : Ty β) (Q : VK) : M β → Prop
  | .ok d => ∀ v H', Same H H' → T.rep d v (RX fm own H H' md) → Q v H'
  | .ex c => ∀ H', Same H H' → W c σ H'
  | .no => False
def FinL (fm : Fm) (W : Wx) (own : List Addr) (σ : L2.St) (H : Hp) (md : Md) (T : Ty β) (Q : VK) : M (List β) → Prop
  | .ok ds => ∀ p vs H', Same H H' → H p = none → H' p = some (.lst vs) → Reps T (RX fm (p :: own) H H' md) ds vs → Q (.ref p) H'
  | .ex c => ∀ H', Same H H' → W c σ H'
  | .no => False
theorem tL_iff {fm : Fm} {W : Wx} {m : M (List β)} {σ : L2.St} {H : Hp} {Q : VK} : tL fm W L md T m σ H Q ↔ ∃ kp own, At fm kp L σ H own ∧ FinL fm W own σ H md T Q m := by
  cases m <;> exact Iff.rfl
def FinT (W : Wx) (σ : L2.St) (H : Hp) (Q : Bool → Hp → Prop) : M Bool → Prop
  | .ok d => ∀ H', Same H H' → Q d H'
  | .ex c => ∀ H', Same H H' → W c σ H'
  | .no => False
def FinA (fm : Fm) (W : Wx) (own : List Addr) (σ : L2.St) (H : Hp) (md : Md) (A : Ar δ) (Q : List V → Hp → Prop) : M δ → Prop
  | .ok d => ∀ vs H', Same H H' → A.rep d vs (RX fm own H H' md) → Q vs H'
  | .ex c => ∀ H', Same H H' → W c σ H'
  | .no => False
theorem tE_iff {fm : Fm} {W : Wx} {m : M β} {σ : L2.St} {H : Hp} {Q : VK} : tE fm W L md T m σ H Q ↔ ∃ kp own, At fm kp L σ H own ∧ FinE fm W own σ H md T Q m := by
  cases m <;> exact Iff.rfl
theorem tT_iff {fm : Fm} {W : Wx} {m : M Bool} {σ : L2.St} {H : Hp} {Q : Bool → Hp → Prop} : tT fm W L m σ H Q ↔ ∃ kp own, At fm kp L σ H own ∧ FinT W σ H Q m := by
  cases m <;> exact Iff.rfl
theorem tA_iff {fm : Fm} {W : Wx} {m : M δ} {σ : L2.St} {H : Hp} {Q : List V → Hp → Prop} : tA fm W L md A m σ H Q ↔ ∃ kp own, At fm kp L σ H own ∧ FinA fm W own σ H md A Q m := by
  cases m <;> exact Iff.rfl
/-- ends that let refusals pass -/
structure Fin (W : Wx) (σ : L2.St) (H0 : Hp) (F : M β → Prop) : Prop where
  ex : ∀ {c}, F (.ex c) → ∀ H', Same H0 H' → W c σ H'
  no : ¬ F .no
theorem finE {fm : Fm} {W : Wx} {own : List Addr} {σ : L2.St} {H : Hp} {Q : VK} : Fin W σ H (FinE fm W own σ H md T Q) := ⟨fun h => h, fun h => h⟩
theorem finL {fm : Fm} {W : Wx} {own : List Addr} {σ : L2.St} {H : Hp} {Q : VK} : Fin (β := List β) W σ H (FinL fm W own σ H md T Q) := ⟨fun h => h, fun h => h⟩
theorem finT {W : Wx} {σ : L2.St} {H : Hp} {Q : Bool → Hp → Prop} : Fin W σ H (FinT W σ H Q) := ⟨fun h => h, fun h => h⟩
theorem finA {fm : Fm} {W : Wx} {own : List Addr} {σ : L2.St} {H : Hp} {Q : List V → Hp → Prop} : Fin W σ H (FinA fm W own σ H md A Q) := ⟨fun h => h, fun h => h⟩
section
variable {fm : Fm} {W : Wx} {kp : RdR} {own : List Addr} {σ : L2.St} {H0 H : Hp} {F : M β → Prop}
/-- a sub-expression, then what follows -/
theorem sub {m : M α} {f : α → M β} {K : VK} (hF : Fin W σ H0 F) (s0 : Same H0 H) (at_ : At fm kp L σ H own) (q : F (m.bind f))
    (h : ∀ d v H1, Same H H1 → S.rep d v (RX fm own H0 H1 md) → At fm kp L σ H1 own → F (f d) → K v H1) : tE fm W L md S m σ H K := by
  refine tE_iff.mpr ⟨kp, own, at_, ?_⟩
  cases m with
  | ok d => exact fun v H1 s r => h d v H1 s (S.mono r (RX.later s0)) (at_.ext s) q
  | ex c => exact fun H' s => hF.ex q H' (s0.trans s)
  | no => exact hF.no q
theorem subT {m : M Bool} {f : Bool → M β} {K : Bool → Hp → Prop} (hF : Fin W σ H0 F) (s0 : Same H0 H) (at_ : At fm kp L σ H own) (q : F (m.bind f))
    (h : ∀ d H1, Same H H1 → At fm kp L σ H1 own → F (f d) → K d H1) : tT fm W L m σ H K := by
  refine tT_iff.mpr ⟨kp, own, at_, ?_⟩
  cases m with
  | ok d => exact fun H1 s => h d H1 s (at_.ext s) q
  | ex c => exact fun H' s => hF.ex q H' (s0.trans s)
  | no => exact hF.no q
theorem subA {m : M δ} {f : δ → M β} {K : List V → Hp → Prop} (hF : Fin W σ H0 F) (s0 : Same H0 H) (at_ : At fm kp L σ H own) (q : F (m.bind f))
    (h : ∀ d vs H1, Same H H1 → A.rep d vs (RX fm own H0 H1 md) → At fm kp L σ H1 own → F (f d) → K vs H1) : tA fm W L md A m σ H K := by
  refine tA_iff.mpr ⟨kp, own, at_, ?_⟩
  cases m with
  | ok d => exact fun vs H1 s r => h d vs H1 s (A.mono r (RX.later s0)) (at_.ext s) q
  | ex c => exact fun H' s => hF.ex q H' (s0.trans s)
  | no => exact hF.no q
end
structure Rdb (K : PySem.W.Frag) (R : RdR) (H : Hp) : Prop where
  rd : ∀ a o, R a o → nt o = true → L2.Rd H a o ∨ KObj K a o
instance {K : PySem.W.Frag} {R : RdR} {H : Hp} : CoeFun (Rdb K R H) (fun _ => ∀ a o, R a o → (n : nt o = true) → L2.Rd H a o ∨ KObj K a o) := ⟨fun rb a o h n => rb.rd a o h n⟩
/-- what an operation's answer may reach: its operands' things (unless fr), new things -/
def Nw (fr : Bool) (R : RdR) (H H' : Hp) : RdR := fun a o => (fr = false ∧ R a o) ∨ (cl H' a = some o ∧ H a = none)
def OpEnd (U : Ty γ) (fr : Bool) (R : RdR) (H : Hp) (Q : VK) : M γ → Prop
  | .ok u => ∀ v H', Same H H' → U.rep u v (Nw fr R H H') → Q v H'
  | _ => False
structure Op1 (K : PySem.W.Frag) (r : V → Hp → VK → Prop) (S : Ty α) (U : Ty γ) (f : α → M γ) (fr : Bool) : Prop where
  run : ∀ {d x R H Q}, Rdb K R H → S.rep d x R → OpEnd U fr R H Q (f d) → r x H Q
structure Op2 (K : PySem.W.Frag) (r : R2) (S : Ty α) (T : Ty β) (U : Ty γ) (f : α → β → M γ) (fr : Bool) : Prop where
  run : ∀ {d e x y R H Q}, Rdb K R H → S.rep d x R → T.rep e y R → OpEnd U fr R H Q (f d e) → r x y H Q
structure OpC (K : PySem.W.Frag) (r : List V → Hp → VK → Prop) (A : Ar δ) (U : Ty γ) (f : δ → M γ) (fr : Bool) : Prop where
  run : ∀ {d xs R H Q}, Rdb K R H → A.rep d xs R → OpEnd U fr R H Q (f d) → r xs H Q
/-- how new an answer is -/
inductive MdOk : Bool → Md → Md → Prop where
  | same {fr md} : MdOk fr md md
  | fresh {md md'} : MdOk true md md'
theorem RX.rdb {fm : Fm} {own : List Addr} {H H' : Hp} : Rdb fm.K (RX fm own H H' md) H' := ⟨fun a o r n => (RX.sh a o r).imp (fun h => Rd.raw h.1 n) id⟩
theorem Nw.rx {fm : Fm} {kp : RdR} {own : List Addr} {σ : L2.St} {H H1 H2 : Hp} {fr : Bool} {md' : Md} (hm : MdOk fr md md') (s : Same H H1) (at_ : At fm kp L σ H1 own) (s2 : Same H1 H2) :
    ∀ a o, Nw fr (RX fm own H H1 md) H1 H2 a o → RX fm own H H2 md' a o := fun a o r => by
  rcases r with ⟨e, r⟩ | ⟨r, n⟩
  · cases hm with
    | same => exact RX.same s2 a o r
    | fresh => cases e
  · refine RX.fx md' a o ⟨r, fun hp => (at_.new a hp).1 n, fun hz => at_.zin a hz n, at_.same.free n, s.free n⟩
theorem FinE.fin {fm : Fm} {W : Wx} {kp : RdR} {own : List Addr} {σ : L2.St} {H H1 : Hp} {fr : Bool} {md' : Md} {Q : VK} {m : M γ} (hm : MdOk fr md md') (s : Same H H1) (at_ : At fm kp L σ H1 own) (hne : ∀ c, m ≠ .ex c)
    (q : FinE fm W own σ H md' U Q m) : OpEnd U fr (RX fm own H H1 md) H1 Q m := by
  cases m with
  | ok u => exact fun v H' s' r => q v H' (s.trans s') (U.mono r (Nw.rx hm s at_ s'))
  | ex c => exact hne c rfl
  | no => exact q
end
end Hd
namespace Hd
open PySem PySem.Spec L2
/-- the program's fixed things -/
structure Pr where
  P : Program
  w : World
  K : PySem.W.Frag
  mg : Str → Option Value
  base : Heap
  C : Ec → Addr
  /-- where the table of the lambda's code object stands -/
  T : Option Addr
def okName (x : Str) : Bool := !(x == ("__debug__" : Str)) && !(x == ("__classdict__" : Str)) && !(x == ("__name__" : Str))
def seenB (sc : Scope) (x : Str) : Bool := okName x && (match sc.names.lookup x with | some .local => true | some .cell => true | some .free => true | _ => false)
def locB (sc : Scope) (x : Str) : Bool := match sc.names.lookup x with | some .local => true | some .cell => true | _ => false
def glB (sc : Scope) (x : Str) : Bool := okName x && (match sc.names.lookup x with | some .globalImplicit => true | _ => false)
theorem okName_d {x : Str} (h : okName x = true) : (x == ("__debug__" : Str)) = false ∧ (x == ("__classdict__" : Str)) = false ∧ x ≠ "__name__" := by
  simp only [okName, Bool.and_eq_true, Bool.not_eq_true'] at h
  refine ⟨h.1.1, h.1.2, fun e => ?_⟩
  have := h.2
  rw [e, beq_self_eq_true] at this
  cases this
theorem seenB_v {sc : Scope} {x : Str} (h : seenB sc x = true) : okName x = true ∧ Vis sc x := by
  simp only [seenB, Bool.and_eq_true] at h
  refine ⟨h.1, ?_⟩
  have q := h.2
  unfold Vis
  split at q <;> first | exact .inl (by assumption) | exact .inr (.inl (by assumption)) | exact .inr (.inr (by assumption)) | cases q
theorem locB_v {sc : Scope} {x : Str} (h : locB sc x = true) : L2.Loc sc x := by
  unfold locB at h
  unfold L2.Loc
  split at h <;> first | exact .inl (by assumption) | exact .inr (by assumption) | cases h
theorem glB_v {sc : Scope} {x : Str} (h : glB sc x = true) : okName x = true ∧ sc.names.lookup x = some .globalImplicit := by
  simp only [glB, Bool.and_eq_true] at h
  refine ⟨h.1, ?_⟩
  have q := h.2
  split at q <;> first | assumption | cases q
/-- where an expression stands: N the slots, V the names seen, Gs the global names used, k the room -/
structure Ok (p : Pr) (sc : Scope) (NN VV GG : List Str) (k : Nat) (g : G) : Prop where
  prog : g.X.prog = p.P
  w : g.X.w = p.w
  K : g.X.K = p.K
  mg : g.X.mg = p.mg
  base : g.X.base = p.base
  N : g.X.N = NN
  fmK : g.fm.K = p.K
  tab : ∀ P, p.T = some P → LamX.TabS g.fm.H0 P lamQ
  room : Room k g.X.A
  nd : NN.Nodup
  vis : ∀ {j : Nat} {x : Str}, VV[j]? = some x → Vis g.X.env.scope x ∧ okName x = true
  gl : ∀ {j : Nat} {x : Str}, GG[j]? = some x → Gl g.X x ∧ okName x = true
  tk : Takes g.X (fun cls d σ H => ∃ c, cls = .ref (p.C c) ∧ d = none ∧ g.W c σ H)
  calm : g.X.calm = true
  blk : ∀ {scope : Scope} {own : List (Str × Nat)}, blkC NN sc scope own = true → BlkOk NN g.X.env.scope scope own
section
variable {p : Pr} {sc : Scope} {NN VV GG : List Str} {k : Nat} {g : G} {L : List Slot} {a b c e e' : Expr} {es : List Expr} {md md' : Md} {α β γ δ : Type} {S : Ty α} {T : Ty β} {U : Ty γ} {A : Ar δ} {pos : Pos}
theorem RB.rx {fm : Fm} {own : List Addr} {H H' : Hp} {b : Bool} : ∀ a o, RB fm own H' b a o → RX fm own H H' (if b then .f0 else .sh) a o := fun a o r => by cases b <;> exact r
/-- a name whose slot holds d -/
theorem ev_var (ok : Ok p sc NN VV GG k g) {i j : Nat} {x : Str} {b : Bool} {d : α} (hN : NN[i]? = some x) (hV : VV[j]? = some x) (hL : L[i]? = some (sV b S d)) : EvE g L (.Name x pos) (if b then .f0 else .sh) S (.ok d) := by
  obtain ⟨hv, ho⟩ := ok.vis hV
  obtain ⟨h1, h2, _⟩ := okName_d ho
  refine PE.imp (pe_var (i := i) (by rw [ok.N]; exact hN) hv h1 h2) fun σ H Q ⟨kp, own, at_, q⟩ => ?_
  obtain ⟨Fs, hs, _⟩ := at_.sl
  obtain ⟨v, F, e1, _, _, y, rfl, r⟩ := hs.get hL
  exact ⟨y, e1, q y H (Same.refl H) (S.mono r RB.rx)⟩
theorem ev_vsh (ok : Ok p sc NN VV GG k g) {i j : Nat} {x : Str} {b : Bool} {d : α} (hN : NN[i]? = some x) (hV : VV[j]? = some x) (hL : L[i]? = some (sV b S d)) : EvE g L (.Name x pos) .sh S (.ok d) := by
  refine PE.imp (ev_var ok hN hV hL) fun σ H Q ⟨kp, own, at_, q⟩ => ⟨kp, own, at_, fun v H' s r => q v H' s (S.mono r RX.sh)⟩
/-- a kind of data without a heap -/
def Flat (S : Ty α) : Prop := ∀ {d v R R'}, S.rep d v R → S.rep d v R'
theorem Reps.flat {R R' : RdR} {ds : List α} {vs : List V} (hf : Flat S) (r : Reps S R ds vs) : Reps S R' ds vs := by
  induction r with
  | nil => exact .nil
  | cons r _ ih => exact .cons (hf r) ih
theorem flInt : Flat tInt := fun h => h
theorem ev_sh {m : M α} (h : EvE g L e md S m) : EvE g L e .sh S m :=
  PE.imp h fun σ H Q q => by
    obtain ⟨kp, own, at_, q⟩ := tE_iff.mp q
    refine tE_iff.mpr ⟨kp, own, at_, ?_⟩
    cases m with
    | ok d => exact fun v H' s r => q v H' s (S.mono r RX.sh)
    | ex c => exact q
    | no => exact q
/-- the kind told otherwise -/
theorem ev_as {m : M α} {d2 : α → β} (hr : ∀ d v R, S.rep d v R → T.rep (d2 d) v R) (h : EvE g L e md S m) : EvE g L e md T (m.bind fun d => .ok (d2 d)) :=
  PE.imp h fun σ H Q q => by
    obtain ⟨kp, own, at_, q⟩ := tE_iff.mp q
    refine tE_iff.mpr ⟨kp, own, at_, ?_⟩
    cases m with
    | ok d => exact fun v H' s r => q v H' s (hr _ _ _ r)
    | ex c => exact q
    | no => exact q
theorem ev_asP {d : α} {d2 : β} (hr : ∀ v R, S.rep d v R → T.rep d2 v R) (h : EvE g L e md S (.ok d)) : EvE g L e md T (.ok d2) :=
  PE.imp h fun σ H Q ⟨kp, own, at_, q⟩ => ⟨kp, own, at_, fun v H' s r => q v H' s (hr _ _ r)⟩
theorem ev_int {i : Int} {j} : EvE g L (.Constant (.int i) j pos) md tInt (.ok i) := PE.imp pe_int fun σ H Q ⟨kp, own, at_, q⟩ => q _ H (Same.refl H) rfl
theorem ev_bool {i : Bool} {j} : EvE g L (.Constant (.bool i) j pos) md tBool (.ok i) := PE.imp pe_bl fun σ H Q ⟨kp, own, at_, q⟩ => q _ H (Same.refl H) rfl
theorem ev_none {j} : EvE g L (.Constant .none j pos) md tNone (.ok ()) := PE.imp pe_non fun σ H Q ⟨kp, own, at_, q⟩ => q _ H (Same.refl H) rfl
theorem ev_optN {j} : EvE g L (.Constant .none j pos) md (tOpt S) (.ok none) := PE.imp pe_non fun σ H Q ⟨kp, own, at_, q⟩ => q _ H (Same.refl H) rfl
/-- a written text's signs -/
def tx (s : String) : Tx := (Str.ofString s).cps.toList
theorem toS_tx (s : String) : toS (tx s) = Str.ofString s := by
  show (⟨((Str.ofString s).cps.toList).toArray⟩ : Str) = Str.ofString s
  rw [Array.toArray_toList]
theorem toS_inj {x y : Tx} (h : toS x = toS y) : x = y := by
  have := congrArg (fun z : Str => z.cps.toList) h
  simpa [toS] using this
def okTxB (x : Tx) : Bool := decide (x.length ≤ 1000) && x.all fun c => decide (c < 0x110000)
theorem okTx_of {x : Tx} (h : okTxB x = true) : OkTx x := by
  simp only [okTxB, Bool.and_eq_true, decide_eq_true_eq, List.all_eq_true] at h
  exact ⟨Nat.le_trans h.1 (by decide), h.2⟩
theorem ev_str {s : String} {j} (hl : okTxB (tx s) = true) : EvE g L (.Constant (.str (Str.ofString s)) j pos) md tStr (.ok (tx s)) := PE.imp pe_str fun σ H Q ⟨kp, own, at_, q⟩ => q _ H (Same.refl H) ⟨by show _ = V.str _; rw [toS_tx], okTx_of hl⟩
/-- a constant of the module: an int or a text -/
theorem ev_glob (ok : Ok p sc NN VV GG k g) {j : Nat} {x : Str} {v : V} {u : Value} {d : α} (hG : GG[j]? = some x) (hm : p.mg x = some u) (r : RelV v u) (hr : ∀ R, S.rep d v R) : EvE g L (.Name x pos) md S (.ok d) := by
  obtain ⟨hg, ho⟩ := ok.gl hG
  exact PE.imp (pe_glob hg (by rw [ok.mg]; exact hm) r (okName_d ho).1) fun σ H Q ⟨kp, own, at_, q⟩ => q _ H (Same.refl H) (hr _)
/-- .. -/
theorem ev_op2 {op : Operator} {r : R2} {f : α → β → M γ} {fr : Bool} {m1 : M α} {m2 : M β} (ok : Ok p sc NN VV GG k g) (ho : ∀ {X : Cx}, OpR X (binaryOp op) r) (F : Op2 p.K r S T U f fr) (hne : ∀ d e c, f d e ≠ .ex c) (hm : MdOk fr md md')
    (ha : EvE g L a md S m1) (hb : EvE g L b md T m2) : EvE g L (.BinOp a op b pos) md' U (m1.bind fun d => m2.bind fun e => f d e) := by
  refine PE.imp (pe_op ho ha hb) fun σ H Q q => ?_
  obtain ⟨kp, own, at_, q⟩ := tE_iff.mp q
  refine sub finE (Same.refl H) at_ q fun d x H1 s1 r1 at1 q1 => sub finE s1 at1 q1 fun e y H2 s2 r2 at2 q2 => ?_
  rw [← ok.fmK] at F
  exact F.run (R := RX g.fm own H H2 md) RX.rdb (S.mono r1 (RX.same s2)) r2 (q2.fin hm (s1.trans s2) at2 (hne d e))
theorem ev_un {op : UnaryOp} {r : V → Hp → VK → Prop} {f : α → M γ} {fr : Bool} {m1 : M α} (ok : Ok p sc NN VV GG k g) (ho : ∀ {X : Cx}, UnR X (unaryOp op) r) (F : Op1 p.K r S U f fr) (hne : ∀ d c, f d ≠ .ex c) (hm : MdOk fr md md')
    (ha : EvE g L a md S m1) : EvE g L (.UnaryOp op a pos) md' U (m1.bind f) := by
  refine PE.imp (pe_un ho ha) fun σ H Q q => ?_
  obtain ⟨kp, own, at_, q⟩ := tE_iff.mp q
  refine sub finE (Same.refl H) at_ q fun d x H1 s1 r1 at1 q1 => ?_
  rw [← ok.fmK] at F
  exact F.run (R := RX g.fm own H H1 md) RX.rdb r1 (q1.fin hm s1 at1 (hne d))
/-- a comparison's value -/
theorem ev_cmp {op : CmpOp} {r : R2} {f : α → β → M γ} {fr : Bool} {m1 : M α} {m2 : M β} (ok : Ok p sc NN VV GG k g) (ho : OpR g.X (compareOp op) r) (F : Op2 p.K r S T U f fr) (hne : ∀ d e c, f d e ≠ .ex c) (hm : MdOk fr md md')
    (ha : EvE g L a md S m1) (hb : EvE g L b md T m2) (hk : behindInMarks op b = false := by first | exact nomark _ (by decide) (by decide) | rfl) : EvE g L (.Compare a [op] [b] pos) md' U (m1.bind fun d => m2.bind fun e => f d e) := by
  refine PE.imp (pe_cmpR ho ha hb hk) fun σ H Q q => ?_
  obtain ⟨kp, own, at_, q⟩ := tE_iff.mp q
  refine sub finE (Same.refl H) at_ q fun d x H1 s1 r1 at1 q1 => sub finE s1 at1 q1 fun e y H2 s2 r2 at2 q2 => ?_
  rw [← ok.fmK] at F
  exact F.run (R := RX g.fm own H H2 md) RX.rdb (S.mono r1 (RX.same s2)) r2 (q2.fin hm (s1.trans s2) at2 (hne d e))
/-- a comparison as a test -/
theorem evt_cmp {op : CmpOp} {r : R2} {f : α → β → M Bool} {fr : Bool} {m1 : M α} {m2 : M β} (ok : Ok p sc NN VV GG k g) (ho : OpR g.X (compareOp op) r) (F : Op2 p.K r S T tBool f fr) (hne : ∀ d e c, f d e ≠ .ex c)
    (ha : EvE g L a md S m1) (hb : EvE g L b md T m2) (hk : behindInMarks op b = false := by first | exact nomark _ (by decide) (by decide) | rfl) : EvT g L (.Compare a [op] [b] pos) (m1.bind fun d => m2.bind fun e => f d e) := by
  refine PT.imp (pt_cmpR ho ha hb hk) fun σ H Q q => ?_
  obtain ⟨kp, own, at_, q⟩ := tT_iff.mp q
  refine sub finT (Same.refl H) at_ q fun d x H1 s1 r1 at1 q1 => sub finT s1 at1 q1 fun e y H2 s2 r2 at2 q2 => ?_
  rw [← ok.fmK] at F
  refine F.run (R := RX g.fm own H H2 md) RX.rdb (S.mono r1 (RX.same s2)) r2 ?_
  cases hf : f d e with
  | ok c => rw [hf] at q2; exact fun v H' s r => ⟨c, r, q2 H' ((s1.trans s2).trans s)⟩
  | ex c => exact absurd hf (hne d e c)
  | no => rw [hf] at q2; exact q2
/-- an expression that is a bool, as a test -/
theorem evt_of {m : M Bool} (h : EvE g L e md tBool m) (he : ∀ whole, isTrue e g.X.env whole = (do let v ← whole; standAt e.pos; holding [v] (truthy v)) := by intro _; rfl) : EvT g L e m := by
  refine PT.imp (pt_val h he) fun σ H Q q => ?_
  obtain ⟨kp, own, at_, q⟩ := tT_iff.mp q
  refine tE_iff.mpr ⟨kp, own, at_, ?_⟩
  cases m with
  | ok d => exact fun v H' s r => ⟨d, r, q H' s⟩
  | ex c => exact q
  | no => exact q
theorem evt_not {m : M Bool} (h : EvT g L a m) : EvT g L (.UnaryOp .Not a pos) (m.bind fun c => .ok (!c)) := by
  refine PT.imp (pt_not h) fun σ H Q q => ?_
  obtain ⟨kp, own, at_, q⟩ := tT_iff.mp q
  exact subT finT (Same.refl H) at_ q fun d H1 s at1 q1 => q1 H1 s
/-- and, or: chains of tests -/
def EvW (g : G) (L : List Slot) (e : Expr) (m : M Bool) : Prop := PW g.X e (tT g.fm g.W L m)
theorem EvW.t {m : M Bool} (h : EvW g L e m) : EvT g L e m := PW.pt h
theorem evw_and1 {m : M Bool} (h : EvT g L a m) : EvW g L (.BoolOp .And [a] pos) m := pw_and1 h
theorem evw_or1 {m : M Bool} (h : EvT g L a m) : EvW g L (.BoolOp .Or [a] pos) m := pw_or1 h
theorem evw_and {m1 m2 : M Bool} (h : EvT g L a m1) (h2 : EvW g L (.BoolOp .And (b :: es) pos) m2) : EvW g L (.BoolOp .And (a :: b :: es) pos) (m1.bind fun c => if c = true then m2 else .ok false) := by
  refine PW.imp (pw_and h h2) fun σ H Q q => ?_
  obtain ⟨kp, own, at_, q⟩ := tT_iff.mp q
  refine subT finT (Same.refl H) at_ q fun d H1 s at1 q1 => ?_
  cases d with
  | true =>
    show tT g.fm g.W L m2 σ H1 Q
    refine tT_iff.mpr ⟨kp, own, at1, ?_⟩
    have q1 : FinT g.W σ H Q m2 := q1
    cases m2 with
    | ok d => exact fun H' s' => q1 H' (s.trans s')
    | ex c => exact fun H' s' => q1 H' (s.trans s')
    | no => exact q1
  | false => exact q1 H1 s
theorem evw_or {m1 m2 : M Bool} (h : EvT g L a m1) (h2 : EvW g L (.BoolOp .Or (b :: es) pos) m2) : EvW g L (.BoolOp .Or (a :: b :: es) pos) (m1.bind fun c => if c = true then .ok true else m2) := by
  refine PW.imp (pw_or h h2) fun σ H Q q => ?_
  obtain ⟨kp, own, at_, q⟩ := tT_iff.mp q
  refine subT finT (Same.refl H) at_ q fun d H1 s at1 q1 => ?_
  cases d with
  | false =>
    show tT g.fm g.W L m2 σ H1 Q
    refine tT_iff.mpr ⟨kp, own, at1, ?_⟩
    have q1 : FinT g.W σ H Q m2 := q1
    cases m2 with
    | ok d => exact fun H' s' => q1 H' (s.trans s')
    | ex c => exact fun H' s' => q1 H' (s.trans s')
    | no => exact q1
  | true => exact q1 H1 s
theorem if_tf {c d : Bool} : (if c = true then (.ok d : M Bool) else .ok false) = .ok (c && d) := by cases c <;> rfl
theorem if_ft {c d : Bool} : (if c = true then (.ok true : M Bool) else .ok d) = .ok (c || d) := by cases c <;> rfl
theorem evw_andP {c d : Bool} (h : EvT g L a (.ok c)) (h2 : EvW g L (.BoolOp .And (b :: es) pos) (.ok d)) : EvW g L (.BoolOp .And (a :: b :: es) pos) (.ok (c && d)) := by
  have q := evw_and h h2
  rwa [M.bind_ok, if_tf] at q
theorem evw_orP {c d : Bool} (h : EvT g L a (.ok c)) (h2 : EvW g L (.BoolOp .Or (b :: es) pos) (.ok d)) : EvW g L (.BoolOp .Or (a :: b :: es) pos) (.ok (c || d)) := by
  have q := evw_or h h2
  rwa [M.bind_ok, if_ft] at q
/-- .. as values -/
theorem ev_one {op} {m : M Bool} (h : EvE g L a md tBool m) : EvE g L (.BoolOp op [a] pos) md tBool m := pe_one h
theorem ev_and {m1 m2 : M Bool} (h : EvE g L a md tBool m1) (h2 : EvE g L (.BoolOp .And (b :: es) pos) md tBool m2) : EvE g L (.BoolOp .And (a :: b :: es) pos) md tBool (m1.bind fun c => if c = true then m2 else .ok false) := by
  refine PE.imp (pe_and h h2) fun σ H Q q => ?_
  obtain ⟨kp, own, at_, q⟩ := tE_iff.mp q
  refine sub finE (Same.refl H) at_ q fun d x H1 s r at1 q1 => ⟨d, r, ?_⟩
  cases d with
  | true =>
    refine tE_iff.mpr ⟨kp, own, at1, ?_⟩
    have q1 : FinE g.fm g.W own σ H md tBool Q m2 := q1
    cases m2 with
    | ok d => exact fun v H' s' r' => q1 v H' (s.trans s') r'
    | ex c => exact fun H' s' => q1 H' (s.trans s')
    | no => exact q1
  | false => exact q1 _ H1 s rfl
theorem ev_not {m : M Bool} (h : EvE g L a md tBool m) : EvE g L (.UnaryOp .Not a pos) md' tBool (m.bind fun c => .ok (!c)) := by
  refine PE.imp (pe_not h) fun σ H Q q => ?_
  obtain ⟨kp, own, at_, q⟩ := tE_iff.mp q
  exact sub finE (Same.refl H) at_ q fun d x H1 s r at1 q1 => ⟨d, r, q1 _ H1 s rfl⟩
theorem eva_nil : EvA g L [] md aNil (.ok ()) := PA.imp pa_nil fun σ H Q ⟨kp, own, at_, q⟩ => q [] H (Same.refl H) rfl
theorem eva_cons {m1 : M α} {m2 : M δ} (ha : EvE g L a md S m1) (hb : EvA g L es md A m2) (hs : starEach (a :: es) g.X.env = (false, eval a g.X.env) :: starEach es g.X.env := by rfl) : EvA g L (a :: es) md (aCons S A) (m1.bind fun d => m2.bind fun e => .ok (d, e)) := by
  refine PA.imp (pa_cons ha hb hs) fun σ H Q q => ?_
  obtain ⟨kp, own, at_, q⟩ := tA_iff.mp q
  exact sub finA (Same.refl H) at_ q fun d x H1 s1 r1 at1 q1 => subA finA s1 at1 q1 fun e xs H2 s2 r2 at2 q2 => q2 _ H2 (s1.trans s2) ⟨x, xs, rfl, S.mono r1 (RX.same s2), r2⟩
/-- items of one kind -/
theorem evs_nil : EvA g L [] md (aAll S) (.ok []) := PA.imp pa_nil fun σ H Q ⟨kp, own, at_, q⟩ => q [] H (Same.refl H) .nil
theorem evs_cons {m1 : M α} {m2 : M (List α)} (ha : EvE g L a md S m1) (hb : EvA g L es md (aAll S) m2) (hs : starEach (a :: es) g.X.env = (false, eval a g.X.env) :: starEach es g.X.env := by rfl) : EvA g L (a :: es) md (aAll S) (m1.bind fun d => m2.bind fun e => .ok (d :: e)) := by
  refine PA.imp (pa_cons ha hb hs) fun σ H Q q => ?_
  obtain ⟨kp, own, at_, q⟩ := tA_iff.mp q
  exact sub finA (Same.refl H) at_ q fun d x H1 s1 r1 at1 q1 => subA finA s1 at1 q1 fun e xs H2 s2 r2 at2 q2 => q2 _ H2 (s1.trans s2) (.cons (S.mono r1 (RX.same s2)) r2)
theorem newSame {H : Hp} {p : Addr} {o : HO} (h : H p = none) : Same H (upd H p o) := .of fun b u e => by rw [upd_ne (ne_of_none e h)]; exact e
theorem newRX {fm : Fm} {kp : RdR} {own : List Addr} {σ : L2.St} {H H1 : Hp} {p : Addr} {o : HO} (at_ : At fm kp L σ H1 own) (s : Same H H1) (h : H1 p = none) (n : nt o = true := by rfl) : RX fm own H (upd H1 p o) md p o :=
  RX.fx md _ _ ⟨cl_of upd_same n, fun hp => (at_.new p hp).1 h, fun hz => at_.zin p hz h, at_.same.free h, s.free h⟩
/-- a tuple of written items (few enough: by rfl) -/
theorem ev_tup {m : M δ} {x1} (hl : ∀ d vs R, A.rep d vs R → vs.length ≤ 1000) (ha : EvA g L es md A m) : EvE g L (.Tuple es x1 pos) md (tTup A) m := by
  refine PE.imp (pe_tup ha) fun σ H Q q => ?_
  obtain ⟨kp, own, at_, q⟩ := tE_iff.mp q
  refine tA_iff.mpr ⟨kp, own, at_, ?_⟩
  cases m with
  | ok d => exact fun vs H1 s1 r1 => ⟨Nat.le_trans (hl _ _ _ r1) (by decide), fun p hp => q _ _ (s1.trans (newSame hp)) ⟨p, vs, rfl, newRX (at_.ext s1) s1 hp, A.mono r1 (RX.same (newSame hp))⟩⟩
  | ex c => exact q
  | no => exact q
theorem tupL_le {ds : List α} {vs : List V} {R : RdR} (h : (aAll S).rep ds vs R) : ds.length = vs.length := Reps.length h
theorem ev_ix {r : R2} {f : α → β → M γ} {fr : Bool} {m1 : M α} {m2 : M β} (ok : Ok p sc NN VV GG k g) (ho : IxR g.X r) (F : Op2 p.K r S T U f fr) (hne : ∀ d e c, f d e ≠ .ex c) (hm : MdOk fr md md')
    (ha : EvE g L a md S m1) (hb : EvE g L b md T m2) (hs : PlainIx b := by exact fun _ _ => rfl) : EvE g L (.Subscript a b pos) md' U (m1.bind fun d => m2.bind fun e => f d e) := by
  refine PE.imp (pe_ix ho ha hb hs) fun σ H Q q => ?_
  obtain ⟨kp, own, at_, q⟩ := tE_iff.mp q
  refine sub finE (Same.refl H) at_ q fun d x H1 s1 r1 at1 q1 => sub finE s1 at1 q1 fun e y H2 s2 r2 at2 q2 => ?_
  rw [← ok.fmK] at F
  exact F.run (R := RX g.fm own H H2 md) RX.rdb (S.mono r1 (RX.same s2)) r2 (q2.fin hm (s1.trans s2) at2 (hne d e))
theorem ev_callB {x : Str} {j : Nat} {id : String} {r : List V → Hp → VK → Prop} {f : δ → M γ} {fr : Bool} {m : M δ} {pp : Pos} (ok : Ok p sc NN VV GG k g) (hc : CallR g.X (.builtin id) r) (F : OpC p.K r A U f fr) (hne : ∀ d c, f d ≠ .ex c) (hm : MdOk fr md md')
    (hG : GG[j]? = some x) (hmg : p.mg x = none) (hv : bootBuiltins x = some (.builtin id)) (ha : EvA g L (e :: es) md A m)
    (he : starEach (e :: es) g.X.env = (false, eval e g.X.env) :: starEach es g.X.env := by rfl) (hpl : (backTo pos (starEach es g.X.env)).any (·.1) = false := by rfl) : EvE g L (.Call (.Name x pp) (e :: es) [] pos) md' U (m.bind f) := by
  obtain ⟨hg, ho⟩ := ok.gl hG
  obtain ⟨h1, _, h3⟩ := okName_d ho
  refine PE.imp (pe_callB hc hg (by rw [ok.mg]; exact hmg) hv ha h3 h1 he hpl) fun σ H Q q => ?_
  obtain ⟨kp, own, at_, q⟩ := tE_iff.mp q
  refine subA finE (Same.refl H) at_ q fun d xs H1 s1 r1 at1 q1 => ?_
  rw [← ok.fmK] at F
  exact F.run (R := RX g.fm own H H1 md) RX.rdb r1 (q1.fin hm s1 at1 (hne d))
end
end Hd
namespace Hd
open PySem PySem.Spec L2
section
variable {p : Pr} {sc : Scope} {NN VV GG : List Str} {k : Nat} {g : G} {L L' : List Slot} {a b c e e' : Expr} {es : List Expr} {md md' : Md} {α β γ δ : Type} {S : Ty α} {T : Ty β} {U : Ty γ} {A : Ar δ} {pos : Pos}
theorem RX.add {fm : Fm} {own : List Addr} {H H1 : Hp} {q : Addr} {o' : HO} (hn : H1 q = none) : ∀ a o, RX fm own H H1 md a o → RX fm (q :: own) H (upd H1 q o') md a o := fun a o r => by
  have ne : H1 a ≠ none → a ≠ q := fun h e => h (by rw [e]; exact hn)
  cases md with
  | sh =>
    rcases r with ⟨r, h1, h2⟩ | r
    · have n := ne (Rd.there r)
      refine .inl ⟨?_, fun z => ?_, h2⟩
      · unfold Rd
        rw [cl_upd_ne n]
        exact r
      · rcases List.mem_cons.mp z with z | z
        · exact n z
        · exact h1 z
    · exact .inr r
  | f0 =>
    have n := ne (by rw [cl_raw r.1]; exact fun z => by cases z)
    exact ⟨by rw [cl_upd_ne n]; exact r.1, fun z => (List.mem_cons.mp z).elim n r.2.1, r.2.2⟩
  | fx =>
    have n := ne (by rw [cl_raw r.1]; exact fun z => by cases z)
    exact ⟨by rw [cl_upd_ne n]; exact r.1, fun z => (List.mem_cons.mp z).elim n r.2.1, r.2.2⟩
theorem RX.drop1 {fm : Fm} {own : List Addr} {H H1 : Hp} {q : Addr} : ∀ a o, RX fm (q :: own) H H1 md a o → RX fm own H H1 md a o := RX.own fun p hp => List.mem_cons_of_mem _ hp
theorem newRX' {fm : Fm} {kp : RdR} {own : List Addr} {σ : L2.St} {H H' : Hp} {q : Addr} {o : HO} (at_ : At fm kp L σ H own) (h : H q = none) (h' : H' q = some o) (n : nt o = true := by rfl) : RX fm own H H' md q o :=
  RX.fx md _ _ ⟨cl_of h' n, fun hp => (at_.new q hp).1 h, fun hz => at_.zin q hz h, at_.same.free h, h⟩
/-- as a value -/
theorem ev_ofL {m : M (List α)} (h : EvL g L e md S m) : EvE g L e md (tList S) m :=
  PE.imp h fun σ H Q q => by
    obtain ⟨kp, own, at_, q⟩ := tE_iff.mp q
    refine tL_iff.mpr ⟨kp, own, at_, ?_⟩
    cases m with
    | ok d => exact fun p vs H' s n h' r => q _ H' s ⟨p, vs, rfl, newRX' at_ n h', r.mono RX.drop1⟩
    | ex c => exact q
    | no => exact q
theorem evl_flat {m : M (List α)} (hf : Flat S) (h : EvL g L e md S m) : EvL g L e md' S m :=
  PE.imp h fun σ H Q q => by
    obtain ⟨kp, own, at_, q⟩ := tL_iff.mp q
    refine tL_iff.mpr ⟨kp, own, at_, ?_⟩
    cases m with
    | ok d => exact fun p vs H' s n h' r => q p vs H' s n h' (r.flat hf)
    | ex c => exact q
    | no => exact q
theorem evl_lst {m : M (List α)} (hl : ∀ ds, m = .ok ds → ds.length ≤ 1000) (ha : EvA g L es md (aAll S) m) : EvL g L (.List es pos) md S m := by
  refine PE.imp (pe_lst ha) fun σ H Q q => ?_
  obtain ⟨kp, own, at_, q⟩ := tL_iff.mp q
  refine tA_iff.mpr ⟨kp, own, at_, ?_⟩
  cases m with
  | ok d => exact fun vs H1 s1 r1 => ⟨Nat.le_trans (by rw [← tupL_le r1]; exact hl _ rfl) (by decide), fun p hp => q p vs _ (s1.trans (newSame hp)) (s1.free hp) upd_same (Reps.mono r1 (RX.add hp))⟩
  | ex c => exact q
  | no => exact q
theorem evl_nil : EvL g L (.List [] pos) md S (.ok []) := evl_lst (fun ds h => by cases h; exact Nat.zero_le _) evs_nil
structure OkS (p : Pr) (sc : Scope) (NN VV GG : List Str) (k : Nat) (g : G) : Prop extends Ok p sc NN VV GG k g where
  loc : ∀ {i : Nat} {x : Str}, VV[i]? = some x → L2.Loc g.X.env.scope x
  fnT : ∀ x, g.X.fn x = true
  psO : PassesOwn (model g.X.prog g.X.w) g.X.A g.X.env g.X.xe
  scp : g.X.env.scope = sc
  stk : g.X.stack = g.X.env :: g.X.outer
  frm : g.X.env.frame = some g.X.env.locals
  exn : g.X.ex = []
theorem PSs.ex {X : Cx} {ι : Type} {st : List Stmt} {t : ι → TS} (h : ∀ d, PSs X st (t d)) : PSs X st (fun E σ H => ∃ d, t d E σ H) := ⟨fun pins s σ H D I ⟨d, q⟩ => (h d).run pins s σ H D I q⟩
variable {st : List Stmt} {s0 : Stmt} {D : δ → Out} {d : δ}
theorem evb_nx (h : D d = .nx L') (w : Wk L L') : EvB g L [] D (.ok d) := by
  refine PSs.imp pss_nil fun E σ H ⟨kp, own, at_, q⟩ => ?_
  have q : OutOk g.fm kp E (D d) := q
  rw [h] at q
  obtain ⟨own', a', _⟩ := at_.weak w
  exact q σ H own' a'
theorem evb_go (h : D d = .go L') (w : Wk L L') : EvB g L [] D (.ok d) := by
  refine PSs.imp pss_nil fun E σ H ⟨kp, own, at_, q⟩ => ?_
  have q : OutOk g.fm kp E (D d) := q
  rw [h] at q
  obtain ⟨own', a', _⟩ := at_.weak w
  exact (q σ H own' a').1
theorem PSs.head {X : Cx} {t : TS} (h : PS X s0 t) : PSs X (s0 :: st) (fun E σ H => t { E with nx := fun _ _ => False } σ H) := by
  refine PSs.imp (pss_cons h (pss_never (sts := st))) fun E σ H q => q
theorem BOk.exx {kp : RdR} {E : Ends} {c : Ec} {σ : L2.St} {H : Hp} {own : List Addr} (wk : Wk L g.LX) (at_ : At g.fm kp L σ H own) (q : BOk g kp E D (.ex c)) : ∀ H', Same H H' → g.W c σ H' := fun H' s => by
  obtain ⟨own', a', _⟩ := (at_.ext s).weak wk
  exact q σ H' own' a'
/-- return e -/
inductive RtMd : Md → Bool → Prop where
  | sh {x : Md} : RtMd x false
  | f0 : RtMd .f0 true
  | fx : RtMd .fx true
theorem RtMd.rt {fm : Fm} {own : List Addr} {H H' : Hp} {bm : Bool} (h : RtMd md bm) : ∀ a o, RX fm own H H' md a o → RT fm H' bm none a o := fun a o r => by
  have r' := RX.own (own' := []) (fun _ z => nomatch z) a o r
  cases h with
  | sh =>
    have q := RX.sh a o r'
    exact q
  | f0 => exact r'
  | fx => exact RX.f0 (H := H) a o r'
theorem evb_retF {bm : Bool} {m : M α} {mk : α → δ} (wk : Wk L g.LX) (hm : RtMd md bm) (hD : ∀ d, D (mk d) = .rt bm S d) (he : EvE g L e md S m) : EvB g L (.Return (some e) pos :: st) D (m.bind fun d => .ok (mk d)) := by
  refine PSs.imp (PSs.head (ps_ret he)) fun E σ H ⟨kp, own, at_, q⟩ => ?_
  refine tE_iff.mpr ⟨kp, own, at_, ?_⟩
  cases m with
  | ok d =>
    have q : OutOk g.fm kp E (D (mk d)) := q
    rw [hD] at q
    exact fun v H' s r => q v H' (at_.same.trans s) (S.mono r hm.rt)
  | ex c => exact BOk.exx wk at_ q
  | no => exact q
theorem M.bind_id {α : Type} (m : M α) : m.bind (fun d => .ok d) = m := by cases m <;> rfl
theorem evb_ret {bm : Bool} {m : M α} {D : α → Out} (wk : Wk L g.LX) (hm : RtMd md bm) (hD : ∀ d, D d = .rt bm S d) (he : EvE g L e md S m) : EvB g L (.Return (some e) pos :: st) D m := by
  have h := evb_retF (mk := id) (st := st) (pos := pos) wk hm hD he
  rwa [show (m.bind fun d => .ok (id d)) = m from M.bind_id m] at h
theorem RX.rtL {fm : Fm} {own : List Addr} {H H' : Hp} {bm : Bool} {p : Addr} (h : RtMd md bm) : ∀ a o, RX fm (p :: own) H H' md a o → RT fm H' bm (some p) a o := fun a o r => by
  have r' := RX.own (own' := [p]) (fun x z => by rw [List.mem_singleton.mp z]; exact List.mem_cons_self) a o r
  cases h with
  | sh =>
    have q := RX.sh a o r'
    exact q
  | f0 => exact r'
  | fx => exact RX.f0 (H := H) a o r'
/-- return of a list just made -/
theorem evb_retLF {bm : Bool} {m : M (List α)} {mk : List α → δ} (wk : Wk L g.LX) (hm : RtMd md bm) (hD : ∀ d, D (mk d) = .rtL bm S d) (he : EvL g L e md S m) : EvB g L (.Return (some e) pos :: st) D (m.bind fun d => .ok (mk d)) := by
  refine PSs.imp (PSs.head (ps_ret he)) fun E σ H ⟨kp, own, at_, q⟩ => ?_
  refine tL_iff.mpr ⟨kp, own, at_, ?_⟩
  cases m with
  | ok d =>
    have q : OutOk g.fm kp E (D (mk d)) := q
    rw [hD] at q
    exact fun p vs H' s n h' r => q p vs H' (at_.same.trans s) (fun hz => at_.zin p hz n) (at_.same.free n) h' (r.mono (RX.rtL hm))
  | ex c => exact BOk.exx wk at_ q
  | no => exact q
theorem evb_retL {bm : Bool} {m : M (List α)} {D : List α → Out} (wk : Wk L g.LX) (hm : RtMd md bm) (hD : ∀ d, D d = .rtL bm S d) (he : EvL g L e md S m) : EvB g L (.Return (some e) pos :: st) D m := by
  have h := evb_retLF (mk := id) (st := st) (pos := pos) wk hm hD he
  rwa [show (m.bind fun d => .ok (id d)) = m from M.bind_id m] at h
/-- return of a list that a slot owns -/
theorem evb_retOwn {bm b : Bool} {ds : List α} {i j : Nat} {x : Str} {D : δ → Out} {d' : δ} {npos : Pos} (ok : Ok p sc NN VV GG k g) (hN : NN[i]? = some x) (hV : VV[j]? = some x) (hL : L[i]? = some (sOwn b S ds)) (hb : b = bm ∨ Flat S ∨ bm = false) (hD : D d' = .rtL bm S ds) :
    EvB g L (.Return (some (.Name x npos)) pos :: st) D (.ok d') := by
  obtain ⟨hv, ho⟩ := ok.vis hV
  obtain ⟨h1, h2, _⟩ := okName_d ho
  refine PSs.imp (PSs.head (ps_ret (pe_var (i := i) (by rw [ok.N]; exact hN) hv h1 h2))) fun E σ H ⟨kp, own, at_, q⟩ => ?_
  obtain ⟨Fs, hs, rfl⟩ := at_.sl
  obtain ⟨v, F, e1, e2, p, vs, rfl, rfl, hp, r⟩ := hs.get hL
  have q : OutOk g.fm kp E (D d') := q
  rw [hD] at q
  have pin : p ∈ Fs.flatten := List.mem_flatten.mpr ⟨[p], List.mem_of_getElem? e2, by simp⟩
  obtain ⟨n1, n2, n3⟩ := at_.new p pin
  have rr : Reps S (RX g.fm [p] H H (if b then .f0 else .sh)) ds vs := r.mono (RX.own (own' := [p]) (fun x z => by rw [List.mem_singleton.mp z]; exact pin))
  refine ⟨_, e1, q p vs H at_.same n3 n2 hp ?_⟩
  unfold RT
  rcases hb with rfl | hf | rfl
  · exact rr
  · exact rr.flat hf
  · exact rr.mono RX.sh
inductive SlB : Md → Bool → Prop where
  | sh {x : Md} : SlB x false
  | f0 : SlB .f0 true
  | fx : SlB .fx true
theorem SlB.rb {fm : Fm} {own : List Addr} {H H' : Hp} {b : Bool} (h : SlB md b) : ∀ a o, RX fm own H H' md a o → RB fm own H' b a o := fun a o r => by
  cases h with
  | sh =>
    have q := RX.sh a o r
    exact q
  | f0 => exact r
  | fx => exact RX.f0 (H := H) a o r
variable {i j : Nat} {x : Str} {pos' : Pos}
theorem okS_fn (ok : OkS p sc NN VV GG k g) : g.X.fn x = true ∨ g.X.env.scope.names.lookup x = some .local := .inl (ok.fnT x)
theorem evb_set {b : Bool} {m : M α} {f : α → M δ} (ok : OkS p sc NN VV GG k g) (hN : NN[i]? = some x) (hV : VV[j]? = some x) (wk : Wk L g.LX) (hb : SlB md b) (he : EvE g L e md S m) (hr : ∀ d, EvB g (L.set i (sV b S d)) st D (f d))
    (hs : swapsWith e (some (.Name x pos')) pos.line g.X.env = pure false := by rfl) : EvB g L (.Assign [.Name x pos'] e pos :: st) D (m.bind f) := by
  refine PSs.imp (pss_cons (ps_set (i := i) (by rw [ok.N]; exact ok.nd) (by rw [ok.N]; exact hN) (ok.loc hV) he hs (okS_fn ok)) (PSs.ex hr)) fun E σ H ⟨kp, own, at_, q⟩ => ?_
  refine tE_iff.mpr ⟨kp, own, at_, ?_⟩
  cases m with
  | ok d =>
    intro v H' s r
    obtain ⟨own', a'⟩ := (at_.ext s).setV (i := i) (b := b) (S.mono r hb.rb)
    exact ⟨d, kp, own', a', q⟩
  | ex c => exact BOk.exx wk at_ q
  | no => exact q
theorem set_own {Fs : List (List Addr)} {q : Addr} : ∀ {i : Nat}, ∀ x ∈ (Fs.set i [q]).flatten, x = q ∨ x ∈ Fs.flatten := by
  induction Fs with
  | nil => intro i x h; exact .inr h
  | cons F Fs ih =>
    intro i x h
    cases i with
    | zero =>
      simp only [List.set_cons_zero, List.flatten_cons, List.mem_append, List.mem_singleton] at h
      rcases h with h | h
      · exact .inl h
      · exact .inr (by simp only [List.flatten_cons, List.mem_append]; exact .inr h)
    | succ i =>
      simp only [List.set_cons_succ, List.flatten_cons, List.mem_append] at h
      rcases h with h | h
      · exact .inr (by simp only [List.flatten_cons, List.mem_append]; exact .inl h)
      · rcases ih x h with h | h
        · exact .inl h
        · exact .inr (by simp only [List.flatten_cons, List.mem_append]; exact .inr h)
theorem set_own_nd {Fs : List (List Addr)} {q : Addr} (hq : q ∉ Fs.flatten) (hn : Fs.flatten.Nodup) : ∀ {i : Nat}, (Fs.set i [q]).flatten.Nodup := by
  induction Fs with
  | nil => intro i; exact hn
  | cons F Fs ih =>
    intro i
    simp only [List.flatten_cons, List.mem_append, not_or] at hq
    rw [List.flatten_cons, List.nodup_append] at hn
    cases i with
    | zero =>
      simp only [List.set_cons_zero, List.flatten_cons]
      rw [List.nodup_append]
      refine ⟨by simp, hn.2.1, fun a ha b hb => ?_⟩
      rw [List.mem_singleton.mp ha]
      rintro rfl
      exact hq.2 hb
    | succ i =>
      simp only [List.set_cons_succ, List.flatten_cons]
      rw [List.nodup_append]
      refine ⟨hn.1, ih hq.2 hn.2.1, fun a ha b hb => ?_⟩
      rcases set_own b hb with rfl | hb
      · rintro rfl; exact hq.1 ha
      · exact hn.2.2 a ha b hb
/-- a new list becomes a slot's own -/
theorem At.setOwn {fm : Fm} {kp : RdR} {σ : L2.St} {H H' : Hp} {own : List Addr} {b : Bool} {ds : List α} {vs : List V} {q : Addr} (h : At fm kp L σ H own) (s : Same H H') (hn : H q = none) (h' : H' q = some (.lst vs))
    (r : Reps S (RB fm (q :: own) H' b) ds vs) : ∃ own', At fm kp (L.set i (sOwn b S ds)) (σ.set i (some (.ref q))) H' own' := by
  obtain ⟨h1, h2, ⟨Fs, h3, rfl⟩, h4, h5, h6⟩ := h
  have hq : q ∉ Fs.flatten := fun z => (h5 q z).1 hn
  have sub : ∀ x ∈ (Fs.set i [q]).flatten, x ∈ q :: Fs.flatten := fun x hx => (set_own x hx).elim (fun e => by rw [e]; exact List.mem_cons_self) (List.mem_cons_of_mem _)
  have key : ∀ (md : Md) a o, RX fm Fs.flatten H H md a o → RX fm (Fs.set i [q]).flatten H H' md a o := fun md a o z => by
    refine RX.own sub a o ?_
    have z1 := RX.add (o' := .lst []) hn a o z
    have na : a ≠ q ∨ KObj fm.K a o := by
      rcases RX.sh a o z with z | z
      · exact .inl fun e => Rd.some z.1 (by rw [e]; exact cl_none hn)
      · exact .inr z
    cases md with
    | sh =>
      rcases z1 with z1 | z1
      · rcases z with z | z
        · exact .inl ⟨Rd.same s z.1, z1.2⟩
        · exact .inr z
      · exact .inr z1
    | f0 => exact ⟨s.cl _ _ z.1, z1.2⟩
    | fx => exact ⟨s.cl _ _ z.1, z1.2⟩
  have keyB : ∀ (b : Bool) a o, RB fm Fs.flatten H b a o → RB fm (Fs.set i [q]).flatten H' b a o := fun b a o z => by
    cases b with
    | false => exact key .sh a o z
    | true => exact key .f0 a o z
  refine ⟨_, h1.trans s, fun a z n => h2 a z (s.free n), ⟨Fs.set i [q], (h3.st (H' := H') keyB fun p hp => ?_).set (s := sOwn b S ds) ⟨q, vs, rfl, rfl, h', r.mono fun a o z => ?_⟩ i, rfl⟩, set_own_nd hq h4, fun p hp => ?_, fun a o z => key .sh a o (h6 a o z)⟩
  · cases e : cl H p with
    | none => exact absurd e (h3.tb p hp)
    | some u => rw [cl_raw e]; exact s.keep _ _ (cl_raw e) (cl_nt e)
  · cases b <;> exact RX.own sub a o z
  · rcases set_own p hp with rfl | hp
    · exact ⟨by rw [h']; exact (fun z => by cases z), h1.free hn, fun z => h2 _ z hn⟩
    · exact ⟨fun e => (h5 p hp).1 (s.free e), (h5 p hp).2⟩
theorem evb_own {b : Bool} {m : M (List α)} {f : List α → M δ} (ok : OkS p sc NN VV GG k g) (hN : NN[i]? = some x) (hV : VV[j]? = some x) (wk : Wk L g.LX) (hb : SlB md b) (he : EvL g L e md S m) (hr : ∀ d, EvB g (L.set i (sOwn b S d)) st D (f d))
    (hs : swapsWith e (some (.Name x pos')) pos.line g.X.env = pure false := by rfl) : EvB g L (.Assign [.Name x pos'] e pos :: st) D (m.bind f) := by
  refine PSs.imp (pss_cons (ps_set (i := i) (by rw [ok.N]; exact ok.nd) (by rw [ok.N]; exact hN) (ok.loc hV) he hs (okS_fn ok)) (PSs.ex hr)) fun E σ H ⟨kp, own, at_, q⟩ => ?_
  cases m with
  | ok d =>
    refine ⟨kp, own, at_, fun v vs H' s n h' r => ?_⟩
    obtain ⟨own', a'⟩ := at_.setOwn (i := i) (b := b) s n h' (r.mono hb.rb)
    exact ⟨d, kp, own', a', q⟩
  | ex c => exact ⟨kp, own, at_, BOk.exx wk at_ q⟩
  | no => exact q.elim
/-- a slot's own list may be shared from here on -/
theorem At.freeze {fm : Fm} {kp : RdR} {σ : L2.St} {H : Hp} {own : List Addr} {b : Bool} {ds : List α} (h : At fm kp L σ H own) (hL : L[i]? = some (sOwn b S ds)) : ∃ own', At fm kp (L.set i (sV false (tList S) ds)) σ H own' ∧ ∀ p ∈ own', p ∈ own := by
  obtain ⟨h1, h2, ⟨Fs, h3, rfl⟩, h4, h5, h6⟩ := h
  obtain ⟨v, F, e1, e2, q, vs, rfl, rfl, hp, r⟩ := h3.get hL
  have qin : q ∈ Fs.flatten := List.mem_flatten.mpr ⟨[q], List.mem_of_getElem? e2, by simp⟩
  have kk : ∀ p ∈ (Fs.set i []).flatten, p ∈ Fs.flatten := fun p hp => (set_sub (i := i)).subset hp
  have qn : q ∉ (Fs.set i []).flatten := by
    have nd := h4
    clear h3 h5 h6 qin kk r hp
    induction Fs generalizing i L σ with
    | nil => simp at e2
    | cons F Fs ih =>
      rw [List.flatten_cons, List.nodup_append] at nd
      cases i with
      | zero =>
        simp at e2
        subst e2
        simp only [List.set_cons_zero, List.flatten_cons, List.nil_append]
        exact fun z => nd.2.2 q (by simp) q z rfl
      | succ i =>
        simp only [List.set_cons_succ, List.flatten_cons, List.mem_append, not_or]
        have e2' : Fs[i]? = some [q] := by simpa using e2
        refine ⟨fun z => nd.2.2 q z q (List.mem_flatten.mpr ⟨[q], List.mem_of_getElem? e2', by simp⟩) rfl, ?_⟩
        cases σ with
        | nil => simp at e1
        | cons s σ =>
          cases L with
          | nil => simp at hL
          | cons l L => exact ih (i := i) (L := L) (σ := σ) (hL := by simpa using hL) (e1 := by simpa using e1) (e2 := e2') (h4 := nd.2.1) (nd := nd.2.1)
  have σe : σ.set i (some (V.ref q)) = σ := by
    apply List.ext_getElem?
    intro n
    by_cases hn : n = i
    · subst hn
      rw [e1]
      have := (List.getElem?_eq_some_iff.mp e1).1
      rw [List.getElem?_set_self this]
    · rw [List.getElem?_set_ne (Ne.symm hn)]
  refine ⟨_, ⟨h1, h2, ⟨Fs.set i [], ?_, rfl⟩, h4.sublist set_sub, fun p hp => h5 p (kk p hp), fun a o z => RX.own (md := .sh) (H := H) kk a o (h6 a o z)⟩, kk⟩
  rw [← σe]
  refine (h3.st (RB.own kk) fun _ _ => rfl).set (s := sV false (tList S) ds) ⟨rfl, .ref q, rfl, q, vs, rfl, ?_, ?_⟩ i
  · exact .inl ⟨.inl (cl_of hp), qn, (h5 q qin).2.2⟩
  · exact r.mono fun a o z => RX.sh (H := H) a o (RB.own kk b a o z)
theorem evb_freeze {b : Bool} {ds : List α} {m : M δ} (hL : L[i]? = some (sOwn b S ds)) (hr : EvB g (L.set i (sV false (tList S) ds)) st D m) : EvB g L st D m := PSs.imp hr fun E σ H ⟨kp, own, at_, q⟩ => by
  obtain ⟨own', a', _⟩ := at_.freeze hL
  exact ⟨kp, own', a', q⟩
/-- an expression may read a slot's own list -/
theorem ev_borrow {b : Bool} {ds : List α} {m : M β} (hf : Flat T ∨ md = .fx) (hL : L[i]? = some (sOwn b S ds)) (h : EvE g (L.set i (sV false (tList S) ds)) e md T m) : EvE g L e md T m := PE.imp h fun σ H Q q => by
  obtain ⟨kp, own, at_, q⟩ := tE_iff.mp q
  obtain ⟨own', a', sub⟩ := at_.freeze hL
  refine tE_iff.mpr ⟨kp, own', a', ?_⟩
  cases m with
  | ok d =>
    refine fun v H' s r => q v H' s ?_
    rcases hf with hf | rfl
    · exact hf r
    · exact T.mono r fun a o z => ⟨z.1, fun y => (at_.new a y).1 z.2.2.2.2, z.2.2⟩
  | ex c => exact q
  | no => exact q
theorem evt_borrow {b : Bool} {ds : List α} {m : M Bool} (hL : L[i]? = some (sOwn b S ds)) (h : EvT g (L.set i (sV false (tList S) ds)) e m) : EvT g L e m := PT.imp h fun σ H Q q => by
  obtain ⟨kp, own, at_, q⟩ := tT_iff.mp q
  obtain ⟨own', a', sub⟩ := at_.freeze hL
  refine tT_iff.mpr ⟨kp, own', a', ?_⟩
  cases m <;> exact q
theorem evl_borrow {b : Bool} {ds : List α} {m : M (List β)} (hf : Flat T ∨ md = .fx) (hL : L[i]? = some (sOwn b S ds)) (h : EvL g (L.set i (sV false (tList S) ds)) e md T m) : EvL g L e md T m := PE.imp h fun σ H Q q => by
  obtain ⟨kp, own, at_, q⟩ := tL_iff.mp q
  obtain ⟨own', a', sub⟩ := at_.freeze hL
  refine tL_iff.mpr ⟨kp, own', a', ?_⟩
  cases m with
  | ok d =>
    refine fun p v H' s n h' r => q p v H' s n h' ?_
    rcases hf with hf | rfl
    · exact r.flat hf
    · exact r.mono fun a o z => ⟨z.1, fun y => (List.mem_cons.mp y).elim (fun e => z.2.1 (by rw [e]; exact List.mem_cons_self)) fun y => (at_.new a y).1 z.2.2.2.2, z.2.2⟩
  | ex c => exact q
  | no => exact q
/-- both ways go on to one state -/
theorem evb_if {mc : M Bool} {m1 m2 : M β} {f : β → M δ} {LJ : β → List Slot} {sa sb : List Stmt} (wk : Wk L g.LX) (hc : EvT g L c mc) (ha : EvB g L sa (fun s => .nx (LJ s)) m1) (hb : EvB g L sb (fun s => .nx (LJ s)) m2) (hr : ∀ s, EvB g (LJ s) st D (f s)) :
    EvB g L (.If c sa sb pos :: st) D (mc.bind fun c => (if c = true then m1 else m2).bind f) := by
  refine PSs.imp (pss_cons (ps_if hc ha hb) (PSs.ex hr)) fun E σ H ⟨kp, own, at_, q⟩ => ?_
  have key : ∀ {m : M β} {H1 : Hp}, Same H H1 → BOk g kp E D (m.bind f) → tB g L (fun s => .nx (LJ s)) m { E with nx := fun σ H => ∃ d, tB g (LJ d) D (f d) E σ H } σ H1 := fun {m H1} s q => by
    cases m with
    | ok d => exact ⟨kp, own, at_.ext s, fun σ' H' own' a' => ⟨d, kp, own', a', q⟩⟩
    | ex c => exact ⟨kp, own, at_.ext s, q⟩
    | no => exact q.elim
  cases mc with
  | ok c =>
    refine ⟨kp, own, at_, fun H1 s => ?_⟩
    cases c with
    | true => exact key s q
    | false => exact key s q
  | ex c => exact ⟨kp, own, at_, BOk.exx wk at_ q⟩
  | no => exact q.elim
def Out.isNx : Out → Bool
  | .nx _ => true
  | _ => false
theorem OutOk.cut {fm : Fm} {kp : RdR} {E E' : Ends} (hc : E'.ct = E.ct) (hr : E'.rt = E.rt) : ∀ {o : Out}, o.isNx = false → OutOk fm kp E o → OutOk fm kp E' o.cut := fun {o} hn q => by
  cases o with
  | nx L => cases hn
  | ct L => exact fun σ H own a => by rw [hc]; exact q σ H own a
  | go L => exact fun σ H own a => by rw [hc]; exact (q σ H own a).2
  | rt b T r => exact fun v H' s r => by rw [hr]; exact q v H' s r
  | rtL b T r => exact fun p vs H' s n1 n2 h r => by rw [hr]; exact q p vs H' s n1 n2 h r
  | gen f => show f fm E'.rt; rw [hr]; exact q
  | bad => exact q
/-- one way leaves (return, raise, continue), the other goes on -/
theorem evb_ifx {mc : M Bool} {m1 m2 : M δ} {sa : List Stmt} (wk : Wk L g.LX) (hc : EvT g L c mc) (ha : EvB g L sa (fun d => (D d).cut) m1) (hr : EvB g L st D m2) (hn : ∀ d, (D d).isNx = false := by intro d; first | rfl | (cases d <;> first | rfl | (rename_i z; cases z <;> rfl))) :
    EvB g L (.If c sa [] pos :: st) D (mc.bind fun c => if c = true then m1 else m2) := by
  refine PSs.imp (pss_cons (ps_if hc ha pss_nil) hr) fun E σ H ⟨kp, own, at_, q⟩ => ?_
  cases mc with
  | ok c =>
    refine ⟨kp, own, at_, fun H1 s => ?_⟩
    cases c with
    | true =>
      have q : BOk g kp E D m1 := q
      refine ⟨kp, own, at_.ext s, ?_⟩
      cases m1 with
      | ok d => exact OutOk.cut (E := E) (E' := { E with nx := tB g L D m2 E }) rfl rfl (hn d) q
      | ex c => exact q
      | no => exact q
    | false => exact ⟨kp, own, at_.ext s, q⟩
  | ex c => exact ⟨kp, own, at_, BOk.exx wk at_ q⟩
  | no => exact q.elim
/-- the last statement of a block: both ways end as the block does -/
theorem evb_ifl {mc : M Bool} {m1 m2 : M δ} {sa sb : List Stmt} (wk : Wk L g.LX) (hc : EvT g L c mc) (ha : EvB g L sa D m1) (hb : EvB g L sb D m2) : EvB g L [.If c sa sb pos] D (mc.bind fun c => if c = true then m1 else m2) := by
  refine PSs.imp (pss_one (ps_if hc ha hb)) fun E σ H ⟨kp, own, at_, q⟩ => ?_
  cases mc with
  | ok c =>
    refine ⟨kp, own, at_, fun H1 s => ?_⟩
    cases c with
    | true => exact ⟨kp, own, at_.ext s, q⟩
    | false => exact ⟨kp, own, at_.ext s, q⟩
  | ex c => exact ⟨kp, own, at_, BOk.exx wk at_ q⟩
  | no => exact q.elim
def forM {α β : Type} (f : β → α → M β) : β → List α → M β
  | s, [] => .ok s
  | s, x :: r => (f s x).bind fun s' => forM f s' r
/-- a turn's end: on, or out of the def -/
inductive Fl (β ρ : Type) where
  | nx (s : β)
  | rt (r : ρ)
universe u in
def Fl.el {β ρ : Type} {γ : Type u} (f : β → γ) (h : ρ → γ) : Fl β ρ → γ
  | .nx s => f s
  | .rt r => h r
def forF {α β ρ : Type} (f : β → α → M (Fl β ρ)) : β → List α → M (Fl β ρ)
  | s, [] => .ok (.nx s)
  | s, x :: r => (f s x).bind (Fl.el (fun s' => forF f s' r) fun r => .ok (.rt r))
def ItOk (K : PySem.W.Frag) (kp : RdR) (J : It) (T : Ty α) (xs : List α) : Prop :=
  ∀ H, Rdb K kp H → ∀ i, (∀ d, xs[i]? = some d → J.go i H ∧ ∀ x H', J.yld i H x H' → Same H H' ∧ T.rep d x (Nw false kp H H')) ∧ (xs[i]? = none → J.stop i H)
/-- what a for walks -/
def tI (fm : Fm) (W : Wx) (L : List Slot) (T : Ty α) (m : M (List α)) : TI := fun σ H R => ∃ kp own, At fm kp L σ H own ∧
  match m with
  | .ok xs => ∀ J H', Same H H' → ItOk fm.K (RD fm own H') J T xs → R J H'
  | .ex c => ∀ H', Same H H' → W c σ H'
  | .no => False
def EvI (g : G) (L : List Slot) (tg e : Expr) (T : Ty α) (m : M (List α)) : Prop := PI g.X tg e (tI g.fm g.W L T m)
theorem PI.imp {X : Cx} {tg e : Expr} {t t' : TI} (h : PI X tg e t) (k : ∀ σ H Q, t' σ H Q → t σ H Q) : PI X tg e t' := ⟨fun pins s σ H Q I q => h.run pins s σ H Q I (k _ _ _ q)⟩
/-- a target that is one name: its slot afterwards -/
def tG (fm : Fm) (T : Ty α) (L : List Slot) (Lt : α → List Slot) : TG := fun v σ H Q => ∃ kp own d, At fm kp L σ H own ∧ T.rep d v (RD fm own H) ∧ ∀ σ' own', At fm kp (Lt d) σ' H own' → (∀ p ∈ own', p ∈ own) → Q σ' H
def EvG (g : G) (tg : Expr) (T : Ty α) (L : List Slot) (Lt : α → List Slot) : Prop := PG g.X tg (tG g.fm T L Lt)
theorem PG.imp {X : Cx} {e : Expr} {t t' : TG} (h : PG X e t) (k : ∀ v σ H Q, t' v σ H Q → t v σ H Q) : PG X e t' := ⟨fun pins s σ H v u Q I r q => h.run pins s σ H v u Q I r (k _ _ _ _ q)⟩
theorem PG.ex {X : Cx} {ι : Type} {e : Expr} {t : ι → TG} (h : ∀ d, PG X e (t d)) : PG X e (fun v σ H Q => ∃ d, t d v σ H Q) := ⟨fun pins s σ H v u Q I r ⟨d, q⟩ => (h d).run pins s σ H v u Q I r q⟩
theorem evg_name (ok : OkS p sc NN VV GG k g) (hN : NN[i]? = some x) (hV : VV[j]? = some x) : EvG g (.Name x pos) T L (fun d => L.set i (sV false T d)) := by
  refine PG.imp (pg_name (i := i) (by rw [ok.N]; exact ok.nd) (by rw [ok.N]; exact hN) (ok.loc hV) (okS_fn ok)) fun v σ H Q ⟨kp, own, d, at_, r, q⟩ => ?_
  obtain ⟨h1, h2, ⟨Fs, h3, rfl⟩, h4, h5, h6⟩ := at_
  have kk : ∀ p ∈ (Fs.set i []).flatten, p ∈ Fs.flatten := fun p hp => (set_sub (i := i)).subset hp
  exact q _ _ ⟨h1, h2, ⟨Fs.set i [], (h3.st (RB.own kk) fun _ _ => rfl).set (s := sV false T d) ⟨rfl, v, rfl, T.mono r (RX.own (md := .sh) (H := H) kk)⟩ i, rfl⟩, h4.sublist set_sub, fun p hp => h5 p (kk p hp), fun a o q => RX.own (md := .sh) (H := H) kk a o (h6 a o q)⟩ kk
theorem Nw.rd {fm : Fm} {kp kp' : RdR} {own : List Addr} {σ : L2.St} {H H' : Hp} (at_ : At fm kp L σ H own) (k : ∀ a o, kp' a o → RD fm own H a o) (s : Same H H') : ∀ a o, Nw false kp' H H' a o → RD fm own H' a o := fun a o r => by
  rcases r with ⟨_, r⟩ | ⟨r, n⟩
  · exact RD.same s a o (k a o r)
  · exact .inl ⟨.inl r, fun hp => (at_.new a hp).1 n, fun hz => at_.zin a hz n⟩
theorem RD.rdb {fm : Fm} {own : List Addr} {H : Hp} : Rdb fm.K (RD fm own H) H := ⟨fun a o r n => r.imp (fun h => Rd.raw h.1 n) id⟩
theorem evb_for {m : M (List α)} {f : β → α → M β} {h : β → M δ} {LF : β → List Slot} {Lt : β → α → List Slot} {s0 : β} {tg it : Expr} {body : List Stmt} (ok : OkS p sc NN VV GG k g) (wk : Wk L g.LX) (hI : EvI g L tg it S m) (w0 : Wk L (LF s0))
    (hG : ∀ s, EvG g tg S (LF s) (Lt s)) (hb : ∀ s d, EvB g (Lt s d) body (fun s' => .go (LF s')) (f s d)) (hr : ∀ s, EvB g (LF s) st D (h s)) (hs : ∀ x, foldedSetIterable it g.X.env x = pure x := by intro _; rfl) :
    EvB g L (.For tg it body [] pos :: st) D (m.bind fun xs => (forM f s0 xs).bind h) := by
  refine PSs.imp (pss_cons (ps_for ok.psO ok.calm hI (PG.ex hG) (PSs.ex fun s => PSs.ex (hb s)) hs) (PSs.ex hr)) fun E σ H ⟨kp, own, at_, q⟩ => ?_
  cases m with
  | ex c => exact ⟨kp, own, at_, BOk.exx wk at_ q⟩
  | no => exact q.elim
  | ok xs =>
  refine ⟨kp, own, at_, fun J H1 s1 hJ => ?_⟩
  have at1 := at_.ext s1
  obtain ⟨own0, a0, sub0⟩ := at1.weak w0
  have q : BOk g kp E D ((forM f s0 xs).bind h) := q
  have kk : ∀ a o, kp a o → RD g.fm own H1 a o := at1.kept
  have a0' : At g.fm (RD g.fm own H1) (LF s0) σ H1 own0 := ⟨a0.same, a0.zin, a0.sl, a0.nd, a0.new, fun a o z => RX.own (md := .sh) (H := H1) sub0 a o z⟩
  refine ⟨fun i m σ H => m = xs.length - i ∧ i ≤ xs.length ∧ ∃ s own', At g.fm (RD g.fm own H1) (LF s) σ H own' ∧ BOk g kp E D ((forM f s (xs.drop i)).bind h), ⟨_, rfl, Nat.zero_le _, s0, own0, a0', q⟩, ?_⟩
  rintro i m σ H ⟨rfl, hi, s, own', a', q'⟩
  have rb : Rdb g.fm.K (RD g.fm own H1) H := ⟨fun a o z n => (a'.kept a o z).imp (fun h => Rd.raw h.1 n) id⟩
  obtain ⟨hgo, hst⟩ := hJ H rb i
  by_cases hlt : i < xs.length
  · have he : xs[i]? = some xs[i] := by simp [hlt]
    obtain ⟨go, yl⟩ := hgo _ he
    rw [List.drop_eq_getElem_cons hlt] at q'
    refine .inr ⟨go, fun σ' H' => ∃ s own', At g.fm (RD g.fm own H1) (LF s) σ' H' own' ∧ BOk g kp E D ((forM f s (xs.drop (i + 1))).bind h), fun σ' H' ⟨s', own'', a'', q''⟩ => ⟨xs.length - (i + 1), by omega, rfl, hlt, s', own'', a'', q''⟩, fun x H' y => ?_⟩
    obtain ⟨s2, r2⟩ := yl x H' y
    refine ⟨s, _, own', xs[i], a'.ext s2, S.mono r2 (Nw.rd a' a'.kept s2), fun σ' own'' a'' _ => ⟨s, xs[i], _, own'', a'', ?_⟩⟩
    have q2 : BOk g kp E D (((f s xs[i]).bind fun s' => forM f s' (xs.drop (i + 1))).bind h) := q'
    cases hf : f s xs[i] with
    | ok s' =>
      rw [hf] at q2
      exact fun σ3 H3 own3 a3 => ⟨⟨s', own3, a3, q2⟩, ⟨s', own3, a3, q2⟩⟩
    | ex c =>
      rw [hf] at q2
      exact fun σ3 H3 own3 a3 => q2 σ3 H3 own3 (a3.keep kk)
    | no => rw [hf] at q2; exact q2
  · have e : i = xs.length := by omega
    subst e
    rw [List.drop_length] at q'
    exact .inl ⟨hst (by simp), s, kp, own', a'.keep kk, q'⟩
def Out.isRt : Out → Bool
  | .rt _ _ _ => true
  | .rtL _ _ _ => true
  | .gen _ => true
  | _ => false
theorem OutOk.rt {fm : Fm} {kp kp' : RdR} {E E' : Ends} (hr : E'.rt = E.rt) : ∀ {o : Out}, o.isRt = true → OutOk fm kp E o → OutOk fm kp' E' o := fun {o} hn q => by
  cases o with
  | nx L => cases hn
  | ct L => cases hn
  | go L => cases hn
  | rt b T r => exact fun v H' s r => by rw [hr]; exact q v H' s r
  | rtL b T r => exact fun p vs H' s n1 n2 h r => by rw [hr]; exact q p vs H' s n1 n2 h r
  | gen f => show f fm E'.rt; rw [hr]; exact q
  | bad => cases hn
/-- .. that may leave the def -/
theorem evb_forF {ρ : Type} {m : M (List α)} {f : β → α → M (Fl β ρ)} {h : β → M δ} {dr : ρ → δ} {LF : β → List Slot} {Lt : β → α → List Slot} {s0 : β} {tg it : Expr} {body : List Stmt} (ok : OkS p sc NN VV GG k g) (wk : Wk L g.LX) (hI : EvI g L tg it S m) (w0 : Wk L (LF s0))
    (hG : ∀ s, EvG g tg S (LF s) (Lt s)) (hb : ∀ s d, EvB g (Lt s d) body (Fl.el (fun s' => Out.go (LF s')) fun r => D (dr r)) (f s d)) (hr : ∀ s, EvB g (LF s) st D (h s)) (hD : ∀ r, (D (dr r)).isRt = true := by intro d; first | rfl | (cases d <;> rfl)) (hs : ∀ x, foldedSetIterable it g.X.env x = pure x := by intro _; rfl) :
    EvB g L (.For tg it body [] pos :: st) D (m.bind fun xs => (forF f s0 xs).bind (Fl.el h fun r => .ok (dr r))) := by
  refine PSs.imp (pss_cons (ps_for ok.psO ok.calm hI (PG.ex hG) (PSs.ex fun s => PSs.ex (hb s)) hs) (PSs.ex hr)) fun E σ H ⟨kp, own, at_, q⟩ => ?_
  cases m with
  | ex c => exact ⟨kp, own, at_, BOk.exx wk at_ q⟩
  | no => exact q.elim
  | ok xs =>
  refine ⟨kp, own, at_, fun J H1 s1 hJ => ?_⟩
  have at1 := at_.ext s1
  obtain ⟨own0, a0, sub0⟩ := at1.weak w0
  have q : BOk g kp E D ((forF f s0 xs).bind (Fl.el h fun r => .ok (dr r))) := q
  have kk : ∀ a o, kp a o → RD g.fm own H1 a o := at1.kept
  have a0' : At g.fm (RD g.fm own H1) (LF s0) σ H1 own0 := ⟨a0.same, a0.zin, a0.sl, a0.nd, a0.new, fun a o z => RX.own (md := .sh) (H := H1) sub0 a o z⟩
  refine ⟨fun i m σ H => m = xs.length - i ∧ i ≤ xs.length ∧ ∃ s own', At g.fm (RD g.fm own H1) (LF s) σ H own' ∧ BOk g kp E D ((forF f s (xs.drop i)).bind (Fl.el h fun r => .ok (dr r))), ⟨_, rfl, Nat.zero_le _, s0, own0, a0', q⟩, ?_⟩
  rintro i m σ H ⟨rfl, hi, s, own', a', q'⟩
  have rb : Rdb g.fm.K (RD g.fm own H1) H := ⟨fun a o z n => (a'.kept a o z).imp (fun h => Rd.raw h.1 n) id⟩
  obtain ⟨hgo, hst⟩ := hJ H rb i
  by_cases hlt : i < xs.length
  · have he : xs[i]? = some xs[i] := by simp [hlt]
    obtain ⟨go, yl⟩ := hgo _ he
    rw [List.drop_eq_getElem_cons hlt] at q'
    refine .inr ⟨go, fun σ' H' => ∃ s own', At g.fm (RD g.fm own H1) (LF s) σ' H' own' ∧ BOk g kp E D ((forF f s (xs.drop (i + 1))).bind (Fl.el h fun r => .ok (dr r))), fun σ' H' ⟨s', own'', a'', q''⟩ => ⟨xs.length - (i + 1), by omega, rfl, hlt, s', own'', a'', q''⟩, fun x H' y => ?_⟩
    obtain ⟨s2, r2⟩ := yl x H' y
    refine ⟨s, _, own', xs[i], a'.ext s2, S.mono r2 (Nw.rd a' a'.kept s2), fun σ' own'' a'' _ => ⟨s, xs[i], _, own'', a'', ?_⟩⟩
    have q2 : BOk g kp E D (((f s xs[i]).bind (Fl.el (fun s' => forF f s' (xs.drop (i + 1))) fun r => .ok (.rt r))).bind (Fl.el h fun r => .ok (dr r))) := q'
    cases hf : f s xs[i] with
    | ok s' =>
      rw [hf] at q2
      cases s' with
      | nx s' => exact fun σ3 H3 own3 a3 => ⟨⟨s', own3, a3, q2⟩, ⟨s', own3, a3, q2⟩⟩
      | rt r =>
        have q2 : OutOk g.fm kp E (D (dr r)) := q2
        show OutOk g.fm _ _ (D (dr r))
        refine OutOk.rt (E := E) ?_ (hD r) q2
        rfl
    | ex c =>
      rw [hf] at q2
      exact fun σ3 H3 own3 a3 => q2 σ3 H3 own3 (a3.keep kk)
    | no => rw [hf] at q2; exact q2
  · have e : i = xs.length := by omega
    subst e
    rw [List.drop_length] at q'
    exact .inl ⟨hst (by simp), s, kp, own', a'.keep kk, q'⟩
/-- while: fuel says how many turns at most -/
def whileM {β : Type} (t : β → M Bool) (f : β → M β) : Nat → β → M β
  | 0, _ => .no
  | n + 1, s => (t s).bind fun c => if c = true then (f s).bind (whileM t f n) else .ok s
theorem PT.ex {X : Cx} {ι : Type} {e : Expr} {t : ι → TT} (h : ∀ d, PT X e (t d)) : PT X e (fun σ H Q => ∃ d, t d σ H Q) := ⟨fun pins s σ H Q I ⟨d, q⟩ => (h d).run pins s σ H Q I q⟩
theorem evb_while {n : Nat} {t : β → M Bool} {f : β → M β} {h : β → M δ} {LF : β → List Slot} {s0 : β} {body : List Stmt} (ok : OkS p sc NN VV GG k g) (wk : ∀ s, Wk (LF s) g.LX) (w0 : Wk L (LF s0))
    (hc : ∀ s, EvT g (LF s) c (t s)) (hb : ∀ s, EvB g (LF s) body (fun s' => .go (LF s')) (f s)) (hr : ∀ s, EvB g (LF s) st D (h s)) :
    EvB g L (.While c body [] pos :: st) D ((whileM t f n s0).bind h) := by
  refine PSs.imp (pss_cons (ps_while ok.psO (PT.ex hc) (PSs.ex hb)) (PSs.ex hr)) fun E σ H ⟨kp, own, at_, q⟩ => ?_
  obtain ⟨own0, a0, _⟩ := at_.weak w0
  refine ⟨fun m σ H => ∃ s own', At g.fm kp (LF s) σ H own' ∧ BOk g kp E D ((whileM t f m s).bind h), ⟨n, s0, own0, a0, q⟩, ?_⟩
  rintro m σ H ⟨s, own', a', q'⟩
  cases m with
  | zero => exact q'.elim
  | succ m =>
  refine ⟨s, tT_iff.mpr ⟨kp, own', a', ?_⟩⟩
  have q2 : BOk g kp E D (((t s).bind fun c => if c = true then (f s).bind (whileM t f m) else .ok s).bind h) := q'
  cases ht : t s with
  | ok c =>
    rw [ht] at q2
    intro H1 s1
    cases c with
    | true =>
      rw [if_pos rfl]
      refine ⟨fun σ' H' => ∃ s own', At g.fm kp (LF s) σ' H' own' ∧ BOk g kp E D ((whileM t f m s).bind h), fun σ' H' z => ⟨m, Nat.lt_succ_self m, z⟩, s, kp, own', a'.ext s1, ?_⟩
      have q3 : BOk g kp E D (((f s).bind (whileM t f m)).bind h) := q2
      cases hf : f s with
      | ok s' => rw [hf] at q3; exact fun σ3 H3 own3 a3 => ⟨⟨s', own3, a3, q3⟩, ⟨s', own3, a3, q3⟩⟩
      | ex c => rw [hf] at q3; exact q3
      | no => rw [hf] at q3; exact q3
    | false => exact ⟨s, kp, own', a'.ext s1, q2⟩
  | ex c => rw [ht] at q2; exact BOk.exx (wk s) a' q2
  | no => rw [ht] at q2; exact q2
end
end Hd
namespace Hd
open PySem PySem.Spec L2
def RetOk (fm : Fm) (Q : VK) : Out → Prop
  | .rt md T r => ∀ v H', Same fm.H0 H' → T.rep r v (RT fm H' md) → Q v H'
  | .rtL md T r => ∀ p vs H', Same fm.H0 H' → ¬ fm.z p → fm.H0 p = none → H' p = some (.lst vs) → Reps T (RT fm H' md (some p)) r vs → Q (.ref p) H'
  | .gen f => f fm Q
  | _ => False
/-- what a def promises: it comes to F -/
def spM (p : Pr) {δ ρ : Type} (A : Ar δ) (D : ρ → Out) (F : δ → M ρ) : Sp := fun vs H Q E => ∃ d z, ((∀ a, z a → H a ≠ none) ∧ ∀ P, p.T = some P → LamX.TabS H P lamQ) ∧ A.rep d vs (RD ⟨p.K, H, z⟩ [] H) ∧
  match F d with
  | .ok r => RetOk ⟨p.K, H, z⟩ Q (D r)
  | .ex c => ∀ H', Same H H' → E (.ref (p.C c)) none H'
  | .no => False
/-- the slots of the arguments -/
inductive ArS : {δ : Type} → Ar δ → Nat → (δ → List Slot) → Prop where
  | nil : ArS aNil 0 (fun _ => [])
  | cons {α δ : Type} {T : Ty α} {A : Ar δ} {n : Nat} {f : δ → List Slot} : ArS A n f → ArS (aCons T A) (n + 1) (fun d => sV false T d.1 :: f d.2)
theorem ArS.all {H : Hp} {R : Bool → RdR} {δ : Type} {A : Ar δ} {n : Nat} {f : δ → List Slot} (s : ArS A n f) : ∀ {d : δ} {vs : List V}, A.rep d vs (R false) → vs.length = n ∧ AllS H R (f d) (vs.map some) (List.replicate n []) := by
  induction s with
  | nil => intro d vs h; cases (show vs = [] from h); exact ⟨rfl, .nil⟩
  | cons _ ih =>
    intro d vs h
    obtain ⟨v, r, rfl, h1, h2⟩ := h
    obtain ⟨e, h3⟩ := ih h2
    exact ⟨by simp [e], .cons ⟨rfl, v, rfl, h1⟩ h3⟩
theorem AllS.append {H : Hp} {R : Bool → RdR} {L L' : List Slot} {σ σ' : L2.St} {Fs Fs' : List (List Addr)} (h : AllS H R L σ Fs) (h' : AllS H R L' σ' Fs') : AllS H R (L ++ L') (σ ++ σ') (Fs ++ Fs') := by
  induction h with
  | nil => exact h'
  | cons r _ ih => exact .cons r ih
theorem AllS.anys {H : Hp} {R : Bool → RdR} : ∀ n, AllS H R (List.replicate n sAny) (List.replicate n none) (List.replicate n [])
  | 0 => .nil
  | n + 1 => .cons rfl (AllS.anys n)
theorem flat_rep (n : Nat) : (List.replicate n ([] : List Addr)).flatten = [] := by induction n with
  | zero => rfl
  | succ n ih => simp
structure Sc (st : Stmt) (NN VV ps GG : List Str) : Prop where
  S : FnScope NN ps (defScope st)
  vis : VV.all (seenB (defScope st)) = true
  loc : VV.all (locB (defScope st)) = true
  gl : GG.all (glB (defScope st)) = true
section
variable {p : Pr} {sc : Scope} {NN VV GG : List Str} {k : Nat} {g : G} {L L' : List Slot} {a b c e e' : Expr} {es : List Expr} {md md' : Md} {α β γ δ ρ : Type} {S : Ty α} {T : Ty β} {U : Ty γ} {A : Ar δ} {pos : Pos}
/-- a def's body, as a judgement for all its arguments -/
def Body (p : Pr) (st : Stmt) (NN VV GG : List Str) (k : Nat) (L0 : δ → List Slot) (D : ρ → Out) (F : δ → M ρ) : Prop :=
  ∀ g, OkS p (defScope st) NN VV GG k g → g.LX = List.replicate NN.length sAny → ∀ d, EvB g (L0 d) (defBody st) D (F d)
/-- how Ends take a block's end that the promise tells as D -/
theorem fn_gen {x qual : Str} {st : Stmt} {f : Addr} {fd : FuncData} {ps : List Str} {L0 : δ → List Slot} {n m : Nat} {D D' : ρ → Out} {F : δ → M ρ} (hF : FunD p.K x qual (defArgs st) (defBody st) (defScope st) [] [] f fd) (hS : Sc st NN VV ps GG) (ha : ArS A n L0) (hn : ps.length = n) (hm : n + m = NN.length)
    (hD : ∀ (r : ρ) (fm : Fm) (Q : VK), RetOk fm Q (D r) → OutOk fm (fun _ _ => False) { nx := fun _ H' => Q .non H', rt := Q } (D' r))
    (hb : Body p st NN VV GG k (fun d => L0 d ++ List.replicate m sAny) D' F) :
    FnOk p.P p.w p.K p.mg p.base (L2.CX p.P p.w) (k + 1) f fd ps (spM p A D F) := by
  refine hF.ok hS.S (fun vs H Q E h => ?_) (fun cdv A' outer s H vs Q E hr h => ?_)
  · obtain ⟨d, z, hz, hrep, _⟩ := h
    exact (ha.all (H := H) (R := fun _ => RD ⟨p.K, H, z⟩ [] H) hrep).1.trans hn.symm
  · obtain ⟨d, z, ⟨hz, htab⟩, hrep, q⟩ := h
    have hlen : vs.length = n := (ha.all (H := H) (R := fun _ => RD ⟨p.K, H, z⟩ [] H) hrep).1
    let X : Cx := cxOf (L2.CX p.P p.w) p.P p.w p.K p.mg p.base NN qual (defScope st) f cdv A' outer s H E
    let g : G := ⟨X, ⟨p.K, H, z⟩, fun c _ H' => E (.ref (p.C c)) none H', List.replicate NN.length sAny⟩
    have hN : ∀ {j : Nat} {y : Str}, VV[j]? = some y → y ∈ VV := fun e => List.mem_of_getElem? e
    have ok : OkS p (defScope st) NN VV GG k g :=
      { prog := rfl, w := rfl, K := rfl, mg := rfl, base := rfl, N := rfl, fmK := rfl, tab := htab, room := hr, nd := hS.S.nd
        vis := fun e => let h := seenB_v (List.all_eq_true.mp hS.vis _ (hN e)); ⟨h.2, h.1⟩
        gl := fun e => let h := glB_v (List.all_eq_true.mp hS.gl _ (List.mem_of_getElem? e)); ⟨h.2, h.1⟩
        tk := Takes.imp (takes_of (X := X) rfl rfl rfl (E := E) rfl) (fun cls d σ H ⟨c, e1, e2, h⟩ => by subst e1; subst e2; exact h)
        calm := rfl
        blk := fun h => blkOk_by h
        loc := fun e => locB_v (List.all_eq_true.mp hS.loc _ (hN e))
        fnT := fun _ => rfl
        psO := passes_of (X := X) rfl
        scp := rfl
        stk := rfl
        frm := rfl
        exn := rfl }
    refine ⟨_, hb g ok rfl d, (fun _ _ => False), [], ?_, ?_⟩
    · refine ⟨Same.refl H, hz, ⟨List.replicate n [] ++ List.replicate m [], ?_, by simp [flat_rep]⟩, List.nodup_nil, (fun _ h => nomatch h), fun _ _ h => h.elim⟩
      have h1 := (ha.all (H := H) (R := RB ⟨p.K, H, z⟩ [] H) hrep).2
      have e : L2.start NN vs = vs.map some ++ List.replicate m none := by
        unfold L2.start
        rw [show NN.length - vs.length = m by omega]
      rw [e]
      exact h1.append (AllS.anys m)
    · cases hF' : F d with
      | ok r =>
        rw [hF'] at q
        exact hD r _ _ q
      | ex c =>
        rw [hF'] at q
        exact fun σ' H' own a' => q H' a'.same
      | no => rw [hF'] at q; exact q
theorem fn_rt {x qual : Str} {st : Stmt} {f : Addr} {fd : FuncData} {ps : List Str} {L0 : δ → List Slot} {n m : Nat} {bm : Bool} {T : Ty ρ} {F : δ → M ρ} (hF : FunD p.K x qual (defArgs st) (defBody st) (defScope st) [] [] f fd) (hS : Sc st NN VV ps GG) (ha : ArS A n L0) (hn : ps.length = n) (hm : n + m = NN.length)
    (hb : Body p st NN VV GG k (fun d => L0 d ++ List.replicate m sAny) (fun r => .rt bm T r) F) : FnOk p.P p.w p.K p.mg p.base (L2.CX p.P p.w) (k + 1) f fd ps (spM p A (fun r => .rt bm T r) F) :=
  fn_gen (D' := fun r => .rt bm T r) hF hS ha hn hm (fun r fm Q h => h) hb
theorem fn_rtL {x qual : Str} {st : Stmt} {f : Addr} {fd : FuncData} {ps : List Str} {L0 : δ → List Slot} {n m : Nat} {bm : Bool} {F : δ → M (List α)} (hF : FunD p.K x qual (defArgs st) (defBody st) (defScope st) [] [] f fd) (hS : Sc st NN VV ps GG) (ha : ArS A n L0) (hn : ps.length = n) (hm : n + m = NN.length)
    (hb : Body p st NN VV GG k (fun d => L0 d ++ List.replicate m sAny) (fun r => .rtL bm S r) F) : FnOk p.P p.w p.K p.mg p.base (L2.CX p.P p.w) (k + 1) f fd ps (spM p A (fun r => .rtL bm S r) F) :=
  fn_gen (D' := fun r => .rtL bm S r) hF hS ha hn hm (fun r fm Q h => h) hb
/-- a def, as its callers know it -/
structure Fn (p : Pr) (k : Nat) (x : Str) (ps : List Str) (sp : Sp) : Prop where
  ex : ∃ (f : Addr) (fd : FuncData), FnOk p.P p.w p.K p.mg p.base (L2.CX p.P p.w) k f fd ps sp ∧ p.mg x = some (.ref f) ∧ PySem.W.keepIn p.K (.ref f) = true ∧ Binds p.K fd ps []
theorem tk_at (ok : Ok p sc NN VV GG k g) (σ : L2.St) : PassesAt (L2.CX g.X.prog g.X.w) g.X σ (fun cls d H => ∃ c, cls = .ref (p.C c) ∧ d = none ∧ g.W c σ H) := passAt ok.tk σ
theorem args_in {own : List Addr} {H H1 : Hp} {d : δ} {vs : List V} {fm : Fm} (r : A.rep d vs (RX fm own H H1 md)) : A.rep d vs (RD ⟨fm.K, H1, fun a => a ∈ own ∨ fm.z a⟩ [] H1) :=
  A.mono r fun a o z => by
    rcases RX.sh a o z with z | z
    · exact .inl ⟨z.1, (fun y => nomatch y), fun y => y.elim z.2.1 z.2.2⟩
    · exact .inr z
/-- how new a call's answer is -/
inductive CaMd : Bool → Md → Prop where
  | sh : CaMd false .sh
  | fx {x : Md} : CaMd true x
theorem CaMd.rx {fm : Fm} {own : List Addr} {H H1 H' : Hp} {bm : Bool} {q : Option Addr} (h : CaMd bm md) (s : Same H H1) (s0 : Same fm.H0 H) : ∀ a o, RT ⟨fm.K, H1, fun a => a ∈ own ∨ fm.z a⟩ H' bm q a o → RX fm (q.toList ++ own) H H' md a o := fun a o r => by
  cases h with
  | sh =>
    have r : RX ⟨fm.K, H1, fun a => a ∈ own ∨ fm.z a⟩ q.toList H' H' .sh a o := r
    rcases r with ⟨r1, r2, r3⟩ | r
    · exact .inl ⟨r1, fun y => (List.mem_append.mp y).elim r2 fun y => r3 (.inl y), fun y => r3 (.inr y)⟩
    · exact .inr r
  | fx =>
    have r : RX ⟨fm.K, H1, fun a => a ∈ own ∨ fm.z a⟩ q.toList H' H' .f0 a o := r
    obtain ⟨r1, r2, r3, r4⟩ := r
    exact RX.fx md a o ⟨r1, fun y => (List.mem_append.mp y).elim r2 fun y => r3 (.inl y), fun y => r3 (.inr y), s0.free (s.free r4), s.free r4⟩
theorem ev_call {x : Str} {j kf : Nat} {ps : List Str} {bm : Bool} {T : Ty ρ} {F : δ → M ρ} {m : M δ} {pp : Pos} (ok : Ok p sc NN VV GG k g) (hf : Fn p kf x ps (spM p A (fun r => .rt bm T r) F)) (hk : kf ≤ k) (hG : GG[j]? = some x) (hc : CaMd bm md')
    (ha : EvA g L (e :: es) md A m) (he : starEach (e :: es) g.X.env = (false, eval e g.X.env) :: starEach es g.X.env := by rfl) (hpl : (backTo pos (starEach es g.X.env)).any (·.1) = false := by rfl) :
    EvE g L (.Call (.Name x pp) (e :: es) [] pos) md' T (m.bind F) := by
  obtain ⟨f, fd, hF, hm, hkp, hbd⟩ := hf.ex
  obtain ⟨hg, ho⟩ := ok.gl hG
  rw [← ok.prog, ← ok.w, ← ok.base] at hF
  have hF' : FnOk g.X.prog g.X.w g.X.K g.X.mg g.X.base (L2.CX g.X.prog g.X.w) kf f fd ps (spM p A (fun r => .rt bm T r) F) := by rw [ok.K, ok.mg]; exact hF
  refine PE.imp (pe_callS hF' (ok.room.mono hk) hg (by rw [ok.mg]; exact hm) (by rw [ok.K]; exact hkp) (by rw [ok.K]; exact hbd) (tk_at ok) ha (okName_d ho).1 he hpl) fun σ H Q q => ?_
  obtain ⟨kp, own, at_, q⟩ := tE_iff.mp q
  refine subA finE (Same.refl H) at_ q fun d vs H1 s1 r1 at1 q1 => ⟨d, fun a => a ∈ own ∨ g.fm.z a, ⟨fun a z => ?_, fun P e => at1.same.tab P (ok.tab P e)⟩, ?_, ?_⟩
  · rcases z with z | z
    · exact (at1.new a z).1
    · exact at1.zin a z
  · rw [← ok.fmK]; exact args_in r1
  · rw [← ok.fmK]
    cases hd : F d with
    | ok r =>
      rw [hd] at q1
      exact fun v H' s r => q1 v H' (s1.trans s) (T.mono r (hc.rx s1 at_.same))
    | ex c =>
      rw [hd] at q1
      exact fun H' s => ⟨c, rfl, rfl, q1 H' (s1.trans s)⟩
    | no => rw [hd] at q1; exact q1
theorem evl_call {x : Str} {j kf : Nat} {ps : List Str} {bm : Bool} {F : δ → M (List α)} {m : M δ} {pp : Pos} (ok : Ok p sc NN VV GG k g) (hf : Fn p kf x ps (spM p A (fun r => .rtL bm S r) F)) (hk : kf ≤ k) (hG : GG[j]? = some x) (hc : CaMd bm md')
    (ha : EvA g L (e :: es) md A m) (he : starEach (e :: es) g.X.env = (false, eval e g.X.env) :: starEach es g.X.env := by rfl) (hpl : (backTo pos (starEach es g.X.env)).any (·.1) = false := by rfl) :
    EvL g L (.Call (.Name x pp) (e :: es) [] pos) md' S (m.bind F) := by
  obtain ⟨f, fd, hF, hm, hkp, hbd⟩ := hf.ex
  obtain ⟨hg, ho⟩ := ok.gl hG
  rw [← ok.prog, ← ok.w, ← ok.base] at hF
  have hF' : FnOk g.X.prog g.X.w g.X.K g.X.mg g.X.base (L2.CX g.X.prog g.X.w) kf f fd ps (spM p A (fun r => .rtL bm S r) F) := by rw [ok.K, ok.mg]; exact hF
  refine PE.imp (pe_callS hF' (ok.room.mono hk) hg (by rw [ok.mg]; exact hm) (by rw [ok.K]; exact hkp) (by rw [ok.K]; exact hbd) (tk_at ok) ha (okName_d ho).1 he hpl) fun σ H Q q => ?_
  obtain ⟨kp, own, at_, q⟩ := tL_iff.mp q
  refine subA finL (Same.refl H) at_ q fun d vs H1 s1 r1 at1 q1 => ⟨d, fun a => a ∈ own ∨ g.fm.z a, ⟨fun a z => ?_, fun P e => at1.same.tab P (ok.tab P e)⟩, ?_, ?_⟩
  · rcases z with z | z
    · exact (at1.new a z).1
    · exact at1.zin a z
  · rw [← ok.fmK]; exact args_in r1
  · rw [← ok.fmK]
    cases hd : F d with
    | ok r =>
      rw [hd] at q1
      exact fun p' vs' H' s n1 n2 h' r => q1 p' vs' H' (s1.trans s) (s1.free n2) h' (r.mono (hc.rx (q := some p') s1 at_.same))
    | ex c =>
      rw [hd] at q1
      exact fun H' s => ⟨c, rfl, rfl, q1 H' (s1.trans s)⟩
    | no => rw [hd] at q1; exact q1
/-- an own class of refusals -/
structure ExF (p : Pr) (x : Str) (c : Ec) : Prop where
  xP : PySem.W.excIn p.K (p.C c) [.type "ValueError", .type "Exception", .type "BaseException", .type "object"] "ValueError.__new__" = true
  gP : p.mg x = some (.ref (p.C c))
  kP : PySem.W.keepIn p.K (.ref (p.C c)) = true
  bP : PySem.W.subIn p.K (.ref (p.C c)) (.type "BaseException") = some true
  tP : PySem.W.typeIn p.K (.ref (p.C c)) = some (.type "type")
variable {st : List Stmt} {D : δ → Out} {d : δ}
theorem evb_raise {x : Str} {c : Ec} {j jj : Nat} {msg : Str} {pp p2 p3 : Pos} (ok : OkS p sc NN VV GG k g) (wk : Wk L g.LX) (X : ExF p x c) (hG : GG[j]? = some x) :
    EvB g L (.Raise (some (.Call (.Name x pp) [.Constant (.str msg) jj p2] [] p3)) none pos :: st) D (.ex c) := by
  obtain ⟨hg, ho⟩ := ok.gl hG
  refine PSs.imp (PSs.head (ps_raise ok.calm ok.tk (pmk_own PySem.F.excBase_ValueError (by rw [ok.K]; exact X.xP) (by rw [ok.mg]; exact X.gP) (by rw [ok.K]; exact X.kP) (raises_own (by rw [ok.K]; exact X.bP) (by rw [ok.K]; exact X.tP)) hg (okName_d ho).1))) fun E σ H ⟨kp, own, at_, q⟩ => ?_
  exact ⟨c, rfl, rfl, BOk.exx wk at_ q H (Same.refl H)⟩
end
end Hd
namespace Hd
open PySem PySem.Spec L2
section
variable {p : Pr} {sc : Scope} {NN VV GG : List Str} {k : Nat} {g : G} {L L' : List Slot} {a b c e e' : Expr} {es : List Expr} {md md' : Md} {α β γ δ ρ : Type} {S : Ty α} {T : Ty β} {U : Ty γ} {A : Ar δ} {pos : Pos} {K : PySem.W.Frag}
def mulM (x y : Int) : M Int := if x.natAbs < 2 ^ 10000 ∧ y.natAbs < 2 ^ 10000 then .ok (x * y) else .no
def modM (x y : Int) : M Int := if 0 < y then .ok (x % y) else .no
theorem o_add : Op2 K (rI0 fun i j => .int (i + j)) tInt tInt tInt (fun x y => .ok (x + y)) true := ⟨fun rb rx ry q => ⟨_, _, rx, ry, q _ _ (Same.refl _) rfl⟩⟩
theorem o_sub : Op2 K (rI0 fun i j => .int (i - j)) tInt tInt tInt (fun x y => .ok (x - y)) true := ⟨fun rb rx ry q => ⟨_, _, rx, ry, q _ _ (Same.refl _) rfl⟩⟩
theorem o_mul : Op2 K (rI CMulW fun i j => .int (i * j)) tInt tInt tInt mulM true := ⟨fun {d e x y R H Q} rb rx ry q => by
  unfold mulM at q
  split at q
  · rename_i h
    exact ⟨_, _, rx, ry, wide_mul h.1 h.2 (by decide) (by decide) (by decide), q _ _ (Same.refl _) rfl⟩
  · exact q.elim⟩
theorem o_mod : Op2 K (rI (fun _ j => 0 < j) fun i j => .int (i % j)) tInt tInt tInt modM true := ⟨fun {d e x y R H Q} rb rx ry q => by
  unfold modM at q
  split at q
  · rename_i h
    exact ⟨_, _, rx, ry, h, q _ _ (Same.refl _) rfl⟩
  · exact q.elim⟩
theorem mulM_ne {x y : Int} {c : Ec} : mulM x y ≠ .ex c := by unfold mulM; split <;> exact fun h => nomatch h
theorem modM_ne {x y : Int} {c : Ec} : modM x y ≠ .ex c := by unfold modM; split <;> exact fun h => nomatch h
variable {m1 m2 : M Int} {x y : Int}
theorem ev_add (ok : Ok p sc NN VV GG k g) (ha : EvE g L a md tInt m1) (hb : EvE g L b md tInt m2) : EvE g L (.BinOp a .Add b pos) md' tInt (m1.bind fun x => m2.bind fun y => .ok (x + y)) := ev_op2 ok op_add o_add (fun _ _ _ h => nomatch h) .fresh ha hb
theorem ev_subt (ok : Ok p sc NN VV GG k g) (ha : EvE g L a md tInt m1) (hb : EvE g L b md tInt m2) : EvE g L (.BinOp a .Sub b pos) md' tInt (m1.bind fun x => m2.bind fun y => .ok (x - y)) := ev_op2 ok op_sub o_sub (fun _ _ _ h => nomatch h) .fresh ha hb
theorem ev_mul (ok : Ok p sc NN VV GG k g) (ha : EvE g L a md tInt m1) (hb : EvE g L b md tInt m2) : EvE g L (.BinOp a .Mult b pos) md' tInt (m1.bind fun x => m2.bind fun y => mulM x y) := ev_op2 ok op_mulW o_mul (fun _ _ _ => mulM_ne) .fresh ha hb
theorem ev_mod (ok : Ok p sc NN VV GG k g) (ha : EvE g L a md tInt m1) (hb : EvE g L b md tInt m2) : EvE g L (.BinOp a .Mod b pos) md' tInt (m1.bind fun x => m2.bind fun y => modM x y) := ev_op2 ok op_mod o_mod (fun _ _ _ => modM_ne) .fresh ha hb
/-- the one number c -/
def tLit (c : Int) : Ty Unit := ⟨fun _ v _ => v = .int c, fun h _ => h⟩
theorem ev_lit (h : EvE g L e md tInt (.ok x)) : EvE g L e md (tLit x) (.ok ()) := ev_asP (fun v R r => r) h
theorem ev_mulC (ok : Ok p sc NN VV GG k g) (hc : y.natAbs < 2 ^ 64) (ha : EvE g L a md tInt m1) (hb : EvE g L b md tInt (.ok y)) : EvE g L (.BinOp a .Mult b pos) md' tInt (m1.bind fun x => .ok (x * y)) :=
  ev_op2 (f := fun x _ => .ok (x * y)) ok op_mul ⟨fun rb rx ry q => ⟨_, _, rx, ry, .inr ⟨by omega, by omega⟩, q _ _ (Same.refl _) rfl⟩⟩ (fun _ _ _ h => nomatch h) (.fresh : MdOk true md md') ha (ev_lit hb)
theorem ev_modC (ok : Ok p sc NN VV GG k g) (hc : 0 < y) (ha : EvE g L a md tInt m1) (hb : EvE g L b md tInt (.ok y)) : EvE g L (.BinOp a .Mod b pos) md' tInt (m1.bind fun x => .ok (x % y)) :=
  ev_op2 (f := fun x _ => .ok (x % y)) ok op_mod ⟨fun rb rx ry q => ⟨_, _, rx, ry, hc, q _ _ (Same.refl _) rfl⟩⟩ (fun _ _ _ h => nomatch h) (.fresh : MdOk true md md') ha (ev_lit hb)
theorem ev_divC (ok : Ok p sc NN VV GG k g) (hc : 0 < y) (hb' : y.natAbs < 2 ^ 1000) (ha : EvE g L a md tInt m1) (hb : EvE g L b md tInt (.ok y)) : EvE g L (.BinOp a .FloorDiv b pos) md' tInt (m1.bind fun x => .ok (x / y)) :=
  ev_op2 (f := fun x _ => .ok (x / y)) ok op_fdivW ⟨fun rb rx ry q => ⟨_, _, rx, ry, wide_div hc hb' (by decide) (by decide), q _ _ (Same.refl _) rfl⟩⟩ (fun _ _ _ h => nomatch h) (.fresh : MdOk true md md') ha (ev_lit hb)
/-- a written power -/
theorem ev_powC {n : Nat} (ok : Ok p sc NN VV GG k g) (hx : x.natAbs < 2 ^ 64) (hy : n ≤ 1000000) (ha : EvE g L a md tInt (.ok x)) (hb : EvE g L b md tInt (.ok (n : Int))) : EvE g L (.BinOp a .Pow b pos) md' tInt (.ok (x ^ n)) :=
  ev_op2 (f := fun _ _ => .ok (x ^ n)) (m1 := .ok ()) (m2 := .ok ()) ok op_pow ⟨fun rb rx ry q => ⟨_, _, rx, ry, ⟨by omega, by omega, hx⟩, q _ _ (Same.refl _) (by show V.int (x ^ ((n : Int)).toNat) = V.int (x ^ n); rw [Int.toNat_natCast])⟩⟩ (fun _ _ _ h => nomatch h) (.fresh : MdOk true md md') (ev_lit ha) (ev_lit hb)
theorem ev_neg (ok : Ok p sc NN VV GG k g) (ha : EvE g L a md tInt m1) : EvE g L (.UnaryOp .USub a pos) md' tInt (m1.bind fun x => .ok (-x)) :=
  ev_un ok un_neg (f := fun x => .ok (-x)) (fr := true) ⟨fun rb rx q => ⟨_, rx, q _ _ (Same.refl _) rfl⟩⟩ (fun _ _ h => nomatch h) .fresh ha
/-- a comparison that always tells -/
structure CmpOk (p : Pr) (X : Cx) (op : CmpOp) (S : Ty α) (T : Ty β) (f : α → β → Bool) : Prop where
  ex : ∃ r, OpR X (compareOp op) r ∧ Op2 p.K r S T tBool (fun x y => .ok (f x y)) true
section
variable {op : CmpOp} {f : α → β → Bool} {ma : M α} {mb : M β} {da : α} {db : β}
theorem ev_c (ok : Ok p sc NN VV GG k g) (F : CmpOk p g.X op S T f) (ha : EvE g L a md S ma) (hb : EvE g L b md T mb) (hk : behindInMarks op b = false := by first | exact nomark _ (by decide) (by decide) | rfl) : EvE g L (.Compare a [op] [b] pos) md' tBool (ma.bind fun x => mb.bind fun y => .ok (f x y)) := by
  obtain ⟨r, h1, h2⟩ := F.ex
  exact ev_cmp ok h1 h2 (fun _ _ _ h => nomatch h) .fresh ha hb hk
theorem evt_c (ok : Ok p sc NN VV GG k g) (F : CmpOk p g.X op S T f) (ha : EvE g L a md S ma) (hb : EvE g L b md T mb) (hk : behindInMarks op b = false := by first | exact nomark _ (by decide) (by decide) | rfl) : EvT g L (.Compare a [op] [b] pos) (ma.bind fun x => mb.bind fun y => .ok (f x y)) := by
  obtain ⟨r, h1, h2⟩ := F.ex
  exact evt_cmp ok h1 h2 (fun _ _ _ h => nomatch h) ha hb hk
end
variable {X : Cx}
theorem c_lt : CmpOk p X .Lt tInt tInt (fun x y => decide (x < y)) := ⟨_, op_lt, ⟨fun rb rx ry q => ⟨_, _, rx, ry, q _ _ (Same.refl _) rfl⟩⟩⟩
theorem c_le : CmpOk p X .LtE tInt tInt (fun x y => decide (x ≤ y)) := ⟨_, op_le, ⟨fun rb rx ry q => ⟨_, _, rx, ry, q _ _ (Same.refl _) rfl⟩⟩⟩
theorem c_gt : CmpOk p X .Gt tInt tInt (fun x y => decide (y < x)) := ⟨_, op_gt, ⟨fun rb rx ry q => ⟨_, _, rx, ry, q _ _ (Same.refl _) rfl⟩⟩⟩
theorem c_ge : CmpOk p X .GtE tInt tInt (fun x y => decide (y ≤ x)) := ⟨_, op_ge, ⟨fun rb rx ry q => ⟨_, _, rx, ry, q _ _ (Same.refl _) rfl⟩⟩⟩
/-- kinds that are told apart by value -/
structure Scal (S : Ty α) : Prop where
  sc : ∀ {d e v w R}, S.rep d v R → S.rep e w R → scal v w = true ∧ (v = w ↔ d = e)
theorem s_int : Scal tInt := ⟨fun {d e v w R} h1 h2 => by cases h1; cases h2; exact ⟨rfl, fun h => by injection h, fun h => by rw [h]⟩⟩
theorem s_str : Scal tStr := ⟨fun {d e v w R} h1 h2 => by cases h1.1; cases h2.1; exact ⟨rfl, fun h => toS_inj (by injection h), fun h => by rw [h]⟩⟩
theorem c_eq [DecidableEq α] (h : Scal S) : CmpOk p X .Eq S S (fun x y => decide (x = y)) := ⟨_, op_eq, ⟨fun {d e x y R H Q} rb rx ry q => by
  obtain ⟨h1, h2⟩ := h.sc rx ry
  refine ⟨h1, q _ _ (Same.refl _) ?_⟩
  show _ = V.bl _
  congr 1
  exact decide_eq_decide.mpr h2⟩⟩
theorem c_ne [DecidableEq α] (h : Scal S) : CmpOk p X .NotEq S S (fun x y => !decide (x = y)) := ⟨_, op_ne, ⟨fun {d e x y R H Q} rb rx ry q => by
  obtain ⟨h1, h2⟩ := h.sc rx ry
  refine ⟨h1, q _ _ (Same.refl _) ?_⟩
  show _ = V.bl _
  congr 2
  exact decide_eq_decide.mpr h2⟩⟩
/-- .. with a heap: lists, tuples -/
structure Deep (S : Ty α) where
  pd : α → PyData
  dp : Nat
  rep : ∀ {K d v R H}, Rdb K R H → S.rep d v R → Dp K H v (pd d) ∧ (pd d).canLay0 = true
  dep : ∀ d, (pd d).depth ≤ dp
  eqv : ∀ d e, PyData.eqv (pd d) (pd e) = true ↔ d = e
theorem Deep.sh {D : Deep S} (h : D.dp ≤ 64) {d : α} (hl : (D.pd d).canLay0 = true) : SeqAt.shaped (D.pd d) = true := by
  unfold SeqAt.shaped
  rw [hl, Bool.true_and]
  exact decide_eq_true (Nat.le_trans (D.dep d) h)
theorem Deep.bq [DecidableEq α] (D : Deep S) (d e : α) : PyData.eqv (D.pd d) (D.pd e) = decide (d = e) := by
  cases hh : PyData.eqv (D.pd d) (D.pd e) with
  | true => exact (decide_eq_true ((D.eqv d e).mp hh)).symm
  | false => exact (decide_eq_false fun z => by rw [(D.eqv d e).mpr z] at hh; cases hh).symm
theorem c_eqD [DecidableEq α] (ok : Ok p sc NN VV GG k g) (D : Deep S) (hd : D.dp ≤ 64) : CmpOk p g.X .Eq S S (fun x y => decide (x = y)) := ⟨rEqD p.K, by rw [← ok.K]; exact op_eqD ok.room.units, ⟨fun {d e x y R H Q} rb rx ry q => by
  obtain ⟨a1, a2⟩ := D.rep rb rx
  obtain ⟨b1, b2⟩ := D.rep rb ry
  exact ⟨_, _, a1, b1, D.sh hd a2, D.sh hd b2, q _ _ (Same.refl _) (by show _ = V.bl _; rw [D.bq])⟩⟩⟩
theorem c_neD [DecidableEq α] (ok : Ok p sc NN VV GG k g) (D : Deep S) (hd : D.dp ≤ 64) : CmpOk p g.X .NotEq S S (fun x y => !decide (x = y)) := ⟨rNeD p.K, by rw [← ok.K]; exact op_neD ok.room.units, ⟨fun {d e x y R H Q} rb rx ry q => by
  obtain ⟨a1, a2⟩ := D.rep rb rx
  obtain ⟨b1, b2⟩ := D.rep rb ry
  exact ⟨_, _, a1, b1, D.sh hd a2, D.sh hd b2, q _ _ (Same.refl _) (by show _ = V.bl _; rw [D.bq])⟩⟩⟩
def dInt : Deep tInt := ⟨.int, 0, fun rb h => by cases h; exact ⟨.int _, rfl⟩, fun _ => by simp [PyData.depth], fun d e => by simp [PyData.eqv]⟩
theorem eqvAll_map {pd : α → PyData} (h : ∀ d e, PyData.eqv (pd d) (pd e) = true ↔ d = e) : ∀ ds es : List α, PyData.eqvAll (ds.map pd) (es.map pd) = true ↔ ds = es
  | [], [] => by simp [PyData.eqvAll]
  | [], _ :: _ => by simp [PyData.eqvAll]
  | _ :: _, [] => by simp [PyData.eqvAll]
  | d :: ds, e :: es => by simp [PyData.eqvAll, h d e, eqvAll_map h ds es]
theorem depthAll_map {pd : α → PyData} {n : Nat} (h : ∀ d, (pd d).depth ≤ n) : ∀ ds : List α, PyData.depthAll (ds.map pd) ≤ n
  | [] => by simp [PyData.depthAll]
  | d :: ds => by simp only [List.map_cons, PyData.depthAll]; have := h d; have := depthAll_map h ds; omega
theorem Deep.all (D : Deep S) {R : RdR} {H : Hp} (rb : Rdb K R H) {ds : List α} {vs : List V} (r : Reps S R ds vs) : DpAll K H vs (ds.map D.pd) ∧ PyData.canLayAll0 (ds.map D.pd) = true := by
  induction r with
  | nil => exact ⟨.nil, rfl⟩
  | cons r _ ih =>
    obtain ⟨h1, h2⟩ := D.rep rb r
    exact ⟨.cons h1 ih.1, by simp only [List.map_cons, PyData.canLayAll0, h2, ih.2, Bool.and_self]⟩
def dList (D : Deep S) : Deep (tList S) := ⟨fun ds => .list (ds.map D.pd), D.dp + 1, fun {K ds v R H} rb ⟨a, vs, e, h, r⟩ => by
    subst e
    obtain ⟨h1, h2⟩ := D.all rb r
    exact ⟨.lst (.inl ((rb _ _ h rfl).resolve_right fun z => z)) h1, h2⟩, fun ds => by simp only [PyData.depth]; have := depthAll_map D.dep ds; omega, fun d e => by
    simp only [PyData.eqv]
    exact eqvAll_map D.eqv d e⟩
def getM {α : Type} (xs : List α) (i : Int) : M α := match L2.atI xs i with | some d => .ok d | none => .no
theorem getM_ne {xs : List α} {i : Int} {c : Ec} : getM xs i ≠ .ex c := by unfold getM; split <;> exact fun h => nomatch h
theorem Reps.at {R : RdR} {ds : List α} {vs : List V} (r : Reps S R ds vs) {i : Int} {d : α} (h : L2.atI ds i = some d) : ∃ v, L2.atI vs i = some v ∧ S.rep d v R := by
  unfold L2.atI at h ⊢
  rw [r.length] at h
  cases hj : L2.ixN vs.length i with
  | none => rw [hj] at h; cases h
  | some j => rw [hj] at h; exact r.get h
theorem sq_of {R : RdR} {H : Hp} {a : Addr} {vs : List V} (rb : Rdb K R H) (h : R a (.lst vs)) : SqL K H a vs := .inl ((rb _ _ h rfl).resolve_right fun z => z)
theorem rd_of {R : RdR} {H : Hp} {a : Addr} {vs : List V} (rb : Rdb K R H) (h : R a (.lst vs)) : L2.Rd H a (.lst vs) := (rb _ _ h rfl).resolve_right fun z => z
theorem st_of {R : RdR} {H : Hp} {a : Addr} {vs : List V} (rb : Rdb K R H) (h : R a (.tup vs)) : SqT K H a vs := (rb _ _ h rfl).imp id id
theorem Nw.old {fr : Bool} {R : RdR} {H : Hp} (h : fr = false) : ∀ a o, R a o → Nw fr R H H a o := fun _ _ r => .inl ⟨h, r⟩
section
end
structure IsT (S : Ty α) (ty : String) : Prop where
  t : ∀ {K d v R H}, Rdb K R H → S.rep d v R → TyX K H v (.type ty)
end
end Hd
namespace Hd
open PySem PySem.Spec L2
section
variable {p : Pr} {sc : Scope} {NN VV GG : List Str} {k : Nat} {g : G} {L L' : List Slot} {a b c e e' : Expr} {es : List Expr} {md md' : Md} {α β γ δ ρ : Type} {S : Ty α} {T : Ty β} {U : Ty γ} {A : Ar δ} {pos : Pos} {K : PySem.W.Frag} {tg : Expr}
theorem RX.tyx {R : RdR} {H : Hp} {a : Addr} {vs : List V} (rb : Rdb K R H) (h : R a (.lst vs)) : TyX K H (.ref a) (.type "list") := by
  rcases rb _ _ h rfl with (h | ⟨o, h⟩) | h
  · exact .base (.lst h)
  · exact .base (.frz h)
  · exact h.elim
theorem i_int : IsT tInt "int" := ⟨fun rb h => by cases h; exact .base (.int _)⟩
theorem i_list : IsT (tList S) "list" := ⟨fun rb ⟨a, vs, e, h, _⟩ => by subst e; exact RX.tyx rb h⟩
/-- a built-in class by its name -/
def tTy (n : String) : Ty Unit := ⟨fun _ v _ => v = .ty n, fun h _ => h⟩
theorem ev_ty {j : Nat} {x : Str} {n : String} (ok : Ok p sc NN VV GG k g) (hG : GG[j]? = some x) (hmg : p.mg x = none) (hv : bootBuiltins x = some (.type n)) : EvE g L (.Name x pos) md (tTy n) (.ok ()) := by
  obtain ⟨hg, ho⟩ := ok.gl hG
  obtain ⟨h1, _, h3⟩ := okName_d ho
  exact PE.imp (pe_bltn (v := .ty n) hg (by rw [ok.mg]; exact hmg) hv rfl h3 h1) fun σ H Q ⟨kp, own, at_, q⟩ => q _ H (Same.refl H) rfl
theorem ev_isi {j : Nat} {ty n : String} {r : Bool} {m : M α} {pp : Pos} (ok : Ok p sc NN VV GG k g) (hG : GG[j]? = some "isinstance") (hmg : p.mg "isinstance" = none) (hT : IsT S ty) (hr : kitB ty n = some r) (ha : EvE g L a md S m) (hb : EvE g L b md (tTy n) (.ok ()))
    (hs1 : starEach (a :: [b]) g.X.env = (false, eval a g.X.env) :: starEach [b] g.X.env := by rfl) (hs2 : starEach [b] g.X.env = (false, eval b g.X.env) :: starEach [] g.X.env := by rfl) (hpl : (backTo pos (starEach [b] g.X.env)).any (·.1) = false := by rfl) :
    EvE g L (.Call (.Name "isinstance" pp) [a, b] [] pos) md' tBool (m.bind fun _ => .ok r) := by
  have h := ev_callB (md' := md') (U := tBool) (A := aCons S (aCons (tTy n) aNil)) (f := fun _ => .ok r) (fr := true) (pos := pos) (pp := pp) ok (id := "isinstance") call_isi ⟨fun {d xs R H Q} rb ⟨v, w, e1, h1, v2, w2, e2, h2, e3⟩ q => by
    subst e1; subst e2; cases (show w2 = [] from e3); cases h2
    exact ⟨v, .ty n, .type ty, .type n, r, rfl, .ty n, hT.t (by rw [ok.K]; exact rb) h1, kit_ty hr, q _ _ (Same.refl _) rfl⟩⟩ (fun _ _ h => nomatch h) .fresh hG hmg (by decide +kernel) (eva_cons ha (eva_cons hb eva_nil hs2) hs1) hs1 hpl
  have e : (m.bind fun d => ((M.ok ()).bind fun d => (M.ok ()).bind fun e => M.ok (d, e)).bind fun e => M.ok (d, e)).bind (fun d => M.ok r) = m.bind fun _ => .ok r := by cases m <;> rfl
  rwa [e] at h
theorem evi_list {m : M (List α)} (ok : Ok p sc NN VV GG k g) (he : EvE g L e md (tList S) m) : EvI g L tg e S m := by
  refine PI.imp (pi_list he) fun σ H R ⟨kp, own, at_, q⟩ => ?_
  refine tE_iff.mpr ⟨kp, own, at_, ?_⟩
  cases m with
  | ok xs =>
    rintro v H' s ⟨a, vs, rfl, h, r⟩
    have hk : RD g.fm own H' a (.lst vs) := RX.sh a _ h
    refine ⟨a, rfl, ⟨vs, (ok.fmK.trans ok.K.symm) ▸ RX.list h⟩, ?_⟩
    rw [show Itl g.X.K a = Itl g.fm.K a from by rw [ok.K, ok.fmK]]
    refine q (Itl g.fm.K a) H' s fun H2 rb i => ?_
    have hs : SqL g.fm.K H2 a vs := sq_of rb hk
    refine ⟨fun d hd => ?_, fun hn => ⟨vs, hs, ?_⟩⟩
    · obtain ⟨v, h1, h2⟩ := r.get hd
      refine ⟨⟨vs, v, hs, h1⟩, fun x H3 ⟨e, hx⟩ => ?_⟩
      subst e
      have := hx vs hs
      rw [h1] at this
      cases this
      exact ⟨Same.refl _, S.mono h2 fun a o z => .inl ⟨rfl, RX.sh a o z⟩⟩
    · rw [List.getElem?_eq_none_iff, r.length] at hn
      exact hn
  | ex c => exact q
  | no => exact q
/-- the whole numbers from lo on, n many -/
def upFrom (lo : Int) : Nat → List Int
  | 0 => []
  | n + 1 => lo :: upFrom (lo + 1) n
theorem upFrom_get (n : Nat) : ∀ (lo : Int) (i : Nat), (upFrom lo n)[i]? = if i < n then some (lo + i) else none := by
  induction n with
  | zero => intro lo i; simp [upFrom]
  | succ n ih =>
    intro lo i
    cases i with
    | zero => simp [upFrom]
    | succ i =>
      rw [upFrom, List.getElem?_cons_succ, ih]
      by_cases h : i < n
      · rw [if_pos h, if_pos (by omega)]
        congr 1
        push_cast
        omega
      · rw [if_neg h, if_neg (by omega)]
theorem upFrom_len (n : Nat) : ∀ lo : Int, (upFrom lo n).length = n := by
  induction n with
  | zero => intro lo; rfl
  | succ n ih => intro lo; simp [upFrom, ih]
/-- range(lo, hi) -/
def rangeM (lo hi : Int) : M (List Int) := if -(2 ^ 62) ≤ lo ∧ lo < 2 ^ 62 ∧ -(2 ^ 62) ≤ hi ∧ hi < 2 ^ 62 then .ok (upFrom lo (hi - lo).toNat) else .no
theorem itr_ok {kp : RdR} {lo : Int} {n : Nat} : ItOk K kp (Itr lo n) tInt (upFrom lo n) := fun H rb i => by
  rw [upFrom_get]
  refine ⟨fun d hd => ?_, fun hn => ?_⟩
  · by_cases h : i < n
    · rw [if_pos h] at hd
      cases hd
      exact ⟨h, fun x H' ⟨e, hx⟩ => by subst e; exact ⟨Same.refl _, hx⟩⟩
    · rw [if_neg h] at hd; cases hd
  · by_cases h : i < n
    · rw [if_pos h] at hn; cases hn
    · exact Nat.le_of_not_lt h
theorem evi_range1 {j : Nat} {m : M Int} {pp : Pos} (ok : Ok p sc NN VV GG k g) (hG : GG[j]? = some "range") (hmg : p.mg "range" = none) (ha : EvE g L a md tInt m) (hs : starEach [a] g.X.env = (false, eval a g.X.env) :: starEach [] g.X.env := by rfl) :
    EvI g L tg (.Call (.Name "range" pp) [a] [] pos) tInt (m.bind fun n => rangeM 0 n) := by
  obtain ⟨hg, ho⟩ := ok.gl hG
  refine PI.imp (pi_range1 hg (by rw [ok.mg]; exact hmg) (eva_cons ha eva_nil hs) hs) fun σ H R ⟨kp, own, at_, q⟩ => ?_
  refine tA_iff.mpr ⟨kp, own, at_, ?_⟩
  cases m with
  | ok n =>
    rintro vs H' s ⟨v, r, rfl, rfl, e3⟩
    cases (show r = [] from e3)
    simp only [M.bind_ok] at q
    unfold rangeM at q
    split at q
    · rename_i xs h1
      split at h1
      · rename_i h
        cases h1
        refine ⟨n, rfl, h.2.2.1, h.2.2.2, q _ H' s ?_⟩
        rw [Int.sub_zero]
        exact itr_ok
      · cases h1
    · rename_i h1; split at h1 <;> cases h1
    · exact q.elim
  | ex c => exact q
  | no => exact q
theorem evi_range2 {j : Nat} {m1 m2 : M Int} {pp : Pos} (ok : Ok p sc NN VV GG k g) (hG : GG[j]? = some "range") (hmg : p.mg "range" = none) (ha : EvE g L a md tInt m1) (hb : EvE g L b md tInt m2)
    (hs1 : starEach [a, b] g.X.env = (false, eval a g.X.env) :: starEach [b] g.X.env := by rfl) (hs2 : starEach [b] g.X.env = (false, eval b g.X.env) :: starEach [] g.X.env := by rfl) :
    EvI g L tg (.Call (.Name "range" pp) [a, b] [] pos) tInt (m1.bind fun lo => m2.bind fun hi => rangeM lo hi) := by
  obtain ⟨hg, ho⟩ := ok.gl hG
  refine PI.imp (pi_range2 hg (by rw [ok.mg]; exact hmg) (eva_cons ha (eva_cons hb eva_nil hs2) hs1) (by rw [hs1, hs2]; rfl) (by rw [hs2]; rfl)) fun σ H R ⟨kp, own, at_, q⟩ => ?_
  refine tA_iff.mpr ⟨kp, own, at_, ?_⟩
  cases m1 with
  | ok lo =>
    cases m2 with
    | ok hi =>
      rintro vs H' s ⟨v, r, rfl, rfl, v2, r2, rfl, rfl, e3⟩
      cases (show r2 = [] from e3)
      simp only [M.bind_ok] at q
      unfold rangeM at q
      split at q
      · rename_i xs h1
        split at h1
        · rename_i h
          cases h1
          exact ⟨lo, hi, rfl, h, q _ H' s itr_ok⟩
        · cases h1
      · rename_i h1; split at h1 <;> cases h1
      · exact q.elim
    | ex c => exact q
    | no => exact q
  | ex c => exact q
  | no => exact q
theorem At.mut {fm : Fm} {kp : RdR} {σ : L2.St} {H : Hp} {own : List Addr} {b : Bool} {ds : List α} {i : Nat} (h : At fm kp L σ H own) (hL : L[i]? = some (sOwn b S ds)) :
    ∃ p vs, σ[i]? = some (some (.ref p)) ∧ H p = some (.lst vs) ∧ Reps S (RB fm own H b) ds vs ∧ ∀ ds' vs', Reps S (RB fm own H b) ds' vs' → At fm kp (L.set i (sOwn b S ds')) σ (upd H p (.lst vs')) own := by
  obtain ⟨h1, h2, ⟨Fs, h3, rfl⟩, h4, h5, h6⟩ := h
  obtain ⟨v, F, e1, e2, q, vs, rfl, rfl, hp, r⟩ := h3.get hL
  have qin : q ∈ Fs.flatten := List.mem_flatten.mpr ⟨[q], List.mem_of_getElem? e2, by simp⟩
  refine ⟨q, vs, e1, hp, r, fun ds' vs' r' => ?_⟩
  have key : ∀ (md : Md) a o, RX fm Fs.flatten H H md a o → RX fm Fs.flatten (upd H q (.lst vs')) (upd H q (.lst vs')) md a o ∨ md = .fx := fun md a o z => by
    cases md with
    | sh =>
      rcases z with z | z
      · have n : a ≠ q := fun e => z.2.1 (by rw [e]; exact qin)
        refine .inl (.inl ⟨?_, z.2⟩)
        unfold Rd
        rw [cl_upd_ne n]
        exact z.1
      · exact .inl (.inr z)
    | f0 =>
      have n : a ≠ q := fun e => z.2.1 (by rw [e]; exact qin)
      exact .inl ⟨by rw [cl_upd_ne n]; exact z.1, z.2⟩
    | fx => exact .inr rfl
  have keyB : ∀ (b : Bool) a o, RB fm Fs.flatten H b a o → RB fm Fs.flatten (upd H q (.lst vs')) b a o := fun b a o z => by
    cases b with
    | false => exact (key .sh a o z).resolve_right (fun e => nomatch e)
    | true => exact (key .f0 a o z).resolve_right (fun e => nomatch e)
  have up : ∀ a, H a ≠ none → upd H q (.lst vs') a ≠ none := fun a n => by
    by_cases e : a = q
    · rw [e, upd_same]; exact fun z => by cases z
    · rw [upd_ne e]; exact n
  refine ⟨h1.wr (h5 q qin).2.1 hp (fun _ z => nomatch z) rfl, fun a z => up a (h2 a z), ⟨Fs, ?_, rfl⟩, h4, fun x hx => ⟨up x (h5 x hx).1, (h5 x hx).2⟩, fun a o z => (key .sh a o (h6 a o z)).resolve_right (fun e => nomatch e)⟩
  · -- the slots
    have gen : ∀ {L : List Slot} {σ : L2.St} {Fs' : List (List Addr)}, AllS H (RB fm Fs.flatten H) L σ Fs' → Fs'.flatten.Nodup → ∀ {i : Nat}, Fs'[i]? = some [q] → L[i]? = some (sOwn b S ds) → σ[i]? = some (some (V.ref q)) →
        AllS (upd H q (.lst vs')) (RB fm Fs.flatten (upd H q (.lst vs'))) (L.set i (sOwn b S ds')) σ Fs' := by
      intro L σ Fs' hA
      induction hA with
      | nil => intro _ i e _ _; simp at e
      | @cons sl L v σ F Fs' r t ih =>
        intro nd i e eL eσ
        rw [List.flatten_cons, List.nodup_append] at nd
        cases i with
        | zero =>
          simp at e eL eσ
          subst e; subst eL; subst eσ
          refine .cons ⟨q, vs', rfl, rfl, upd_same, r'.mono (keyB b)⟩ (t.st keyB fun x hx => ?_)
          exact upd_ne fun z => nd.2.2 q (by simp) x hx z.symm
        | succ i =>
          have e' : Fs'[i]? = some [q] := by simpa using e
          refine .cons (sl.st r keyB fun x hx => upd_ne fun z => nd.2.2 x hx q (List.mem_flatten.mpr ⟨[q], List.mem_of_getElem? e', by simp⟩) z) (ih nd.2.1 e' (by simpa using eL) (by simpa using eσ))
    exact gen h3 h4 e2 hL e1
def pushM {α : Type} (xs : List α) (d : α) : M (List α) := if xs.length < sizeLine then .ok (xs ++ [d]) else .no
def setM {α : Type} (xs : List α) (i : Int) (d : α) : M (List α) := match L2.ixN xs.length i with | some j => .ok (xs.set j d) | none => .no
variable {st : List Stmt} {D : δ → Out} {i j : Nat} {x : Str}
theorem evb_append {bb : Bool} {ds : List α} {m : M α} {f : List α → M δ} {p1 ap cp : Pos} (ok : OkS p sc NN VV GG k g) (wk : Wk L g.LX) (hN : NN[i]? = some x) (hV : VV[j]? = some x) (hL : L[i]? = some (sOwn bb S ds)) (hb : SlB md bb)
    (he : EvE g L e md S m) (hr : ∀ ds', EvB g (L.set i (sOwn bb S ds')) st D (f ds'))
    (hs : swapsWith (.Call (.Attribute (.Name x p1) "append" ap) [e] [] cp) none pos.line g.X.env = pure false := by rfl)
    (hbase : attributeBase (.Name x p1) "append" g.X.env (eval (.Name x p1) g.X.env) = eval (.Name x p1) g.X.env := by rfl)
    (hfew : ((backTo cp (starEach [e] g.X.env)).all (fun x => !x.1) && (backToKw cp (keywordEach [] g.X.env)).all (fun x => x.1.isSome)
      && decide (([e] : List Expr).length + ([] : List Keyword).length + (if ([] : List Keyword).isEmpty then 0 else 1) < 30)) = true := by rfl)
    (hline : (ap.endLine == cp.line) = true := by rfl) (hst : starEach [e] g.X.env = (false, eval e g.X.env) :: starEach [] g.X.env := by rfl) (hpl : (backTo cp (starEach [] g.X.env)).any (·.1) = false := by rfl) :
    EvB g L (.Expr (.Call (.Attribute (.Name x p1) "append" ap) [e] [] cp) pos :: st) D (m.bind fun d => (pushM ds d).bind f) := by
  obtain ⟨hv, ho⟩ := ok.vis hV
  obtain ⟨h1, h2, _⟩ := okName_d ho
  refine PSs.imp (pss_cons (ps_expr (pe_bm PySem.F.plainAttrs_list PySem.F.slot_list_append PySem.F.type_list_append mt_append (pe_var (i := i) (by rw [ok.N]; exact hN) hv h1 h2) (pa_cons he pa_nil hst) (hbase := hbase) (hfew := hfew) (hline := hline) (hs := hst) (hplain := hpl)) hs) (PSs.ex hr)) fun E σ H ⟨kp, own, at_, q⟩ => ?_
  obtain ⟨p', vs, e1, hp, r, mu⟩ := at_.mut hL
  refine ⟨_, e1, Or.inl ⟨rfl, _, SqL.of hp⟩, tE_iff.mpr ⟨kp, own, at_, ?_⟩⟩
  cases m with
  | ok d =>
    intro v H1 s1 r1
    have a1 := at_.ext s1
    obtain ⟨p2, vs2, e12, hp2, rr2, mu2⟩ := a1.mut hL
    rw [e1] at e12
    cases e12
    have q : BOk g kp E D ((pushM ds d).bind f) := q
    unfold pushM at q
    split at q
    · rename_i hlt
      refine ⟨_, vs2, v, rfl, rfl, hp2, by rw [← rr2.length]; exact hlt, ds ++ [d], kp, own, mu2 _ _ (rr2.append (.cons (S.mono r1 hb.rb) .nil)), q⟩
    · exact q.elim
  | ex c => exact BOk.exx wk at_ q
  | no => exact q
theorem evb_setitem {bb : Bool} {ds : List α} {m : M α} {mi : M Int} {f : List α → M δ} {ix : Expr} {p1 p2 : Pos} (ok : OkS p sc NN VV GG k g) (wk : Wk L g.LX) (hN : NN[i]? = some x) (hV : VV[j]? = some x) (hL : L[i]? = some (sOwn bb S ds)) (hb : SlB md bb)
    (he : EvE g L e md S m) (hi : EvE g L ix md' tInt mi) (hr : ∀ ds', EvB g (L.set i (sOwn bb S ds')) st D (f ds'))
    (hs : swapsWith e (some (.Subscript (.Name x p1) ix p2)) pos.line g.X.env = pure false := by rfl)
    (hsub : ∀ v, assign (.Subscript (.Name x p1) ix p2) g.X.env v = (do
      let ov ← holding [v] (eval (.Name x p1) g.X.env)
      let iv ← holding [v, ov] (eval ix g.X.env)
      standAt p2
      holding [v, ov, iv] (setItem ov iv v)
      release [v, ov, iv] []) := by intro _; rfl)
    (hs' : swapsWithSole [.Subscript (.Name x p1) ix p2] e pos.line g.X.env = pure false := by rfl) (hw : swappedStores [.Subscript (.Name x p1) ix p2] e g.X.env = pure none := by rfl) (ha1 : (assignEach [.Subscript (.Name x p1) ix p2] g.X.env).map (·.2) = [assign (.Subscript (.Name x p1) ix p2) g.X.env] := by rfl) :
    EvB g L (.Assign [.Subscript (.Name x p1) ix p2] e pos :: st) D (m.bind fun d => mi.bind fun i => (setM ds i d).bind f) := by
  obtain ⟨hv, ho⟩ := ok.vis hV
  obtain ⟨h1, h2, _⟩ := okName_d ho
  refine PSs.imp (pss_cons (ps_asg he (pg_sub (pe_var (i := i) (by rw [ok.N]; exact hN) hv h1 h2) hi set_list hsub) hs' hw ha1) (PSs.ex hr)) fun E σ H ⟨kp, own, at_, q⟩ => ?_
  refine tE_iff.mpr ⟨kp, own, at_, ?_⟩
  cases m with
  | ok d =>
    intro v H1 s1 r1
    have a1 := at_.ext s1
    obtain ⟨p', vs, e1, hp, r, mu⟩ := a1.mut hL
    refine ⟨_, e1, tE_iff.mpr ⟨kp, own, a1, ?_⟩⟩
    cases mi with
    | ok n =>
      intro v2 H2 s2 r2
      have a2 := a1.ext s2
      obtain ⟨p2, vs2, e12, hp2, rr2, mu2⟩ := a2.mut hL
      rw [e1] at e12
      cases e12
      have q : BOk g kp E D ((setM ds n d).bind f) := q
      unfold setM at q
      split at q
      · rename_i jj hj
        refine ⟨_, vs2, n, jj, rfl, r2, hp2, by rw [← rr2.length]; exact hj, ds.set jj d, kp, own, mu2 _ _ (rr2.set (S.mono r1 fun a o z => RB.same s2 bb a o (hb.rb a o z)) jj), q⟩
      · exact q.elim
    | ex c => exact BOk.exx wk a1 q
    | no => exact q
  | ex c => exact BOk.exx wk at_ q
  | no => exact q
end
end Hd
namespace Hd
open PySem PySem.Spec L2
section
variable {p : Pr} {sc : Scope} {NN VV GG VV' GG' : List Str} {k : Nat} {g : G} {L L' : List Slot} {a b c e e' : Expr} {es : List Expr} {md md' : Md} {α β γ δ ρ : Type} {S : Ty α} {T : Ty β} {U : Ty γ} {A : Ar δ} {pos : Pos} {K : PySem.W.Frag} {tg : Expr}
theorem PGs.imp {X : Cx} {es : List Expr} {t t' : TGs} (h : PGs X es t) (k : ∀ v σ H Q, t' v σ H Q → t v σ H Q) : PGs X es t' := ⟨fun pins s σ H v u Q I r q => h.run pins s σ H v u Q I r (k _ _ _ _ q)⟩
theorem PGs.ex {X : Cx} {ι : Type} {es : List Expr} {t : ι → TGs} (h : ∀ d, PGs X es (t d)) : PGs X es (fun v σ H Q => ∃ d, t d v σ H Q) := ⟨fun pins s σ H v u Q I r ⟨d, q⟩ => (h d).run pins s σ H v u Q I r q⟩
theorem len0 {d : Unit} {vs : List V} {R : RdR} (h : aNil.rep d vs R) : vs.length = 0 := by cases (show vs = [] from h); rfl
theorem lenS {n : Nat} (h : ∀ {d vs R}, A.rep d vs R → vs.length = n) {d : α × δ} {vs : List V} {R : RdR} (q : (aCons S A).rep d vs R) : vs.length = n + 1 := by
  obtain ⟨v, r, e, _, h2⟩ := q
  rw [e, List.length_cons, h h2]
variable {st : List Stmt} {D : δ → Out} {i j : Nat} {x : Str}
def compG {α β : Type} (h : α → M (Option β)) : List α → M (List β)
  | [] => .ok []
  | x :: r => (h x).nox.bind fun o => (compG h r).bind fun l => .ok (o.toList ++ l)
def compM {α β : Type} (h : α → M (Option β)) (xs : List α) : M (List β) := if xs.length ≤ sizeLine then compG h xs else .no
theorem lookup_rl {env : Env} {x : Str} : ∀ {names : List (Str × NameKind)} {kd : NameKind}, names.lookup x = some kd →
    (names.map fun (n, k) => if (k == NameKind.free && env.scope.kind == .function && env.kindOf n == some .cell) then (n, NameKind.cell) else (n, k)).lookup x = some kd ∨
      (kd = .free ∧ (names.map fun (n, k) => if (k == NameKind.free && env.scope.kind == .function && env.kindOf n == some .cell) then (n, NameKind.cell) else (n, k)).lookup x = some .cell)
  | [], _, h => by simp at h
  | (n, k') :: r, kd, h => by
    rw [List.lookup_cons] at h
    rw [List.map_cons]
    by_cases e : x == n
    · rw [e] at h
      cases h
      dsimp only
      split
      · rename_i hh
        refine .inr ⟨?_, by rw [List.lookup_cons, e]⟩
        simp only [Bool.and_eq_true, beq_iff_eq] at hh
        exact hh.1.1
      · exact .inl (by rw [List.lookup_cons, e])
    · have e : (x == n) = false := by simpa using e
      rw [e] at h
      dsimp only
      have ih := lookup_rl (env := env) (x := x) (names := r) h
      split <;> (rw [List.lookup_cons, e]; exact ih)
theorem vis_rl {scope : Scope} {env : Env} {x : Str} (h : Vis scope x) : Vis (relabel scope env) x := by
  rcases h with h | h | h <;> rcases lookup_rl (env := env) h with q | ⟨q, q2⟩
  · exact .inl q
  · cases q
  · exact .inr (.inl q)
  · cases q
  · exact .inr (.inr q)
  · exact .inr (.inl q2)
theorem gl_rl {scope : Scope} {env : Env} {x : Str} (h : scope.names.lookup x = some .globalImplicit) : (relabel scope env).names.lookup x = some .globalImplicit := by
  rcases lookup_rl (env := env) h with q | ⟨q, q2⟩
  · exact q
  · cases q
theorem _root_.L2.BlkOk.relab {N : List Str} {sc scope : Scope} {env : Env} {own : List (Str × Nat)} (h : BlkOk N sc scope own) : BlkOk N (relabel sc env) scope own :=
  ⟨h.kind, h.uniq, h.ix, fun y hy e => by
    rcases h.free y hy e with q | q <;> rcases lookup_rl (env := env) q with z | ⟨z, z2⟩
    · exact .inl z
    · cases z
    · exact .inr z
    · exact .inl z2, h.own⟩
/-- where the inner part of a comprehension stands -/
theorem blk_ok (ok : Ok p sc NN VV GG k g) {scope : Scope} {s : Shared} {H : Hp} {C : Addr} {cl : List (Str × Addr)} {fp : List Addr} {fm : Fm} (hK : fm.K = p.K ∧ ∀ P, p.T = some P → LamX.TabS fm.H0 P lamQ) (hv : VV'.all (seenB scope) = true) (hg : GG'.all (glB scope) = true) :
    Ok p scope NN VV' GG' k ⟨g.X.blk s H scope (compEnvC scope cl C g.X.env) fp, fm, fun _ _ _ => False, []⟩ :=
  { prog := ok.prog, w := ok.w, K := ok.K, mg := ok.mg, base := ok.base, N := ok.N, fmK := hK.1, tab := hK.2, room := ok.room, nd := ok.nd
    vis := fun e => let h := seenB_v (List.all_eq_true.mp hv _ (List.mem_of_getElem? e)); ⟨vis_rl h.2, h.1⟩
    gl := fun e => let h := glB_v (List.all_eq_true.mp hg _ (List.mem_of_getElem? e)); ⟨gl_rl h.2, h.1⟩
    tk := Takes.imp takes0 (fun cls d σ H ⟨c, e1, e2, h⟩ => h)
    calm := ok.calm
    blk := fun h => (blkOk_by h).relab }
theorem wipe1 {σ : L2.St} {v : V} : wipe ((wipe σ [i]).set i (some v)) [i] = wipe σ [i] := by
  show ((σ.set i none).set i (some v)).set i none = σ.set i none
  rw [List.set_set, List.set_set]
def NoOwn (s : Slot) : Prop := ∀ {v H R F}, s.ok v H R F → F = []
theorem no_any : NoOwn sAny := fun h => h
theorem At.setN {fm : Fm} {kp : RdR} {σ : L2.St} {H : Hp} {own : List Addr} {s s' : Slot} {v : Option V} (h : At fm kp L σ H own) (hL : L[i]? = some s) (hs : NoOwn s) (r : s'.ok v H (RB fm own H) []) : At fm kp (L.set i s') (σ.set i v) H own := by
  obtain ⟨h1, h2, ⟨Fs, h3, rfl⟩, h4, h5, h6⟩ := h
  obtain ⟨v0, F, e1, e2, r0⟩ := h3.get hL
  have e : (Fs.set i []).flatten = Fs.flatten := set_same_nil (by rw [e2, hs r0])
  exact ⟨h1, h2, ⟨Fs.set i [], h3.set r i, e.symm⟩, h4, h5, h6⟩
theorem PTs.ex {X : Cx} {ι : Type} {ifs : List Expr} {t : ι → TT} (h : ∀ d, PTs X ifs (t d)) : PTs X ifs (fun σ H Q => ∃ d, t d σ H Q) := ⟨fun pins s σ H Q I ⟨d, q⟩ => (h d).run pins s σ H Q I q⟩
theorem PE.ex {X : Cx} {ι : Type} {e : Expr} {t : ι → TE} (h : ∀ d, PE X e (t d)) : PE X e (fun σ H Q => ∃ d, t d σ H Q) := ⟨fun pins s σ H Q I ⟨d, q⟩ => (h d).run pins s σ H Q I q⟩
theorem M.bind_assoc {α β γ : Type} (m : M α) (f : α → M β) (h : β → M γ) : (m.bind f).bind h = m.bind fun x => (f x).bind h := by cases m <;> rfl
theorem PS.imp {X : Cx} {e : Stmt} {t t' : TS} (h : PS X e t) (k : ∀ E σ H, t' E σ H → t E σ H) : PS X e t' := ⟨fun pins s σ H D I q => h.run pins s σ H D I (k _ _ _ q)⟩
/-- [elt for x in it if c] -/
theorem evl_lc2 {scope : Scope} {it elt : Expr} {m : M (List α)} {cm : α → M Bool} {f : α → M β} {tp : Pos} {ifs : List Expr} {s₀ : Slot} (ok : Ok p sc NN VV GG k g) (hI : EvI g L (.Name x tp) it S m) (hN : NN[i]? = some x) (hLi : L[i]? = some s₀) (hs₀ : NoOwn s₀) (hb : blkC NN sc scope [(x, i)] = true)
    (hv : VV'.all (seenB scope) = true) (hg : GG'.all (glB scope) = true) (hx : locB scope x = true)
    (hc : ∀ g', Ok p scope NN VV' GG' k g' → ∀ d, PTs g'.X ifs (tT g'.fm g'.W (L.set i (sV false S d)) (cm d)))
    (he : ∀ g', Ok p scope NN VV' GG' k g' → ∀ d, EvE g' (L.set i (sV false S d)) elt md T (f d)) (hs : ∀ x, foldedSetIterable it g.X.env x = pure x := by intro _; rfl) :
    (EvL g L (.ListComp elt [⟨.Name x tp, it, ifs, 0⟩] scope pos) md T (m.bind fun xs => compM (fun d => (cm d).bind fun c => if c = true then (f d).bind fun y => .ok (some y) else .ok none) xs)) ∧
    (∀ {y : Str} {i2 : Nat} {py spos : Pos}, NN[i2]? = some y → g.X.env.scope.names.lookup y = some .local → swapsWith (.ListComp elt [⟨.Name x tp, it, ifs, 0⟩] scope pos) (some (.Name y py)) spos.line g.X.env = pure true →
      PS g.X (.Assign [.Name y py] (.ListComp elt [⟨.Name x tp, it, ifs, 0⟩] scope pos) spos) (tAsg (tL g.fm g.W L md T (m.bind fun xs => compM (fun d => (cm d).bind fun c => if c = true then (f d).bind fun y => .ok (some y) else .ok none) xs)) (gName i2))) := by
  have loc : ∀ (s : Shared) (H : Hp) (C : Addr) (cl : List (Str × Addr)) (fp : List Addr), L2.Loc (g.X.blk s H scope (compEnvC scope cl C g.X.env) fp).env.scope x ∧ ((g.X.blk s H scope (compEnvC scope cl C g.X.env) fp).fn x = true ∨ (g.X.blk s H scope (compEnvC scope cl C g.X.env) fp).env.scope.names.lookup x = some .local) := by
    intro s H C cl fp
    rcases locB_v hx with h | h
    · have q : (relabel scope g.X.env).names.lookup x = some .local := by
        rcases lookup_rl (env := g.X.env) h with q | ⟨q, _⟩
        · exact q
        · cases q
      exact ⟨.inl q, .inr q⟩
    · have q : (relabel scope g.X.env).names.lookup x = some .cell := by
        rcases lookup_rl (env := g.X.env) h with q | ⟨q, _⟩
        · exact q
        · cases q
      refine ⟨.inr q, .inl ?_⟩
      show (scope.names.lookup x == some .cell) = true
      rw [h]; rfl
  have BODY : ∀ σ H Q, tL g.fm g.W L md T (m.bind fun xs => compM (fun d => (cm d).bind fun c => if c = true then (f d).bind fun y => .ok (some y) else .ok none) xs) σ H Q →
      tLc (tI g.fm g.W L S m) (gName i) (fun σ H Q => ∃ z : {fm' : Fm // fm'.K = p.K ∧ ∀ P, p.T = some P → LamX.TabS fm'.H0 P lamQ} × α, tT z.1.1 (fun _ _ _ => False) (L.set i (sV false S z.2)) (cm z.2) σ H Q)
        (fun σ H Q => ∃ z : {fm' : Fm // fm'.K = p.K ∧ ∀ P, p.T = some P → LamX.TabS fm'.H0 P lamQ} × α, tE z.1.1 (fun _ _ _ => False) (L.set i (sV false S z.2)) md T (f z.2) σ H Q) ([(x, i)].map (·.2)) σ H Q := by
    intro σ H Q q
    obtain ⟨kp, own, at_, q⟩ := tL_iff.mp q
    cases m with
    | ex c => exact ⟨kp, own, at_, q⟩
    | no => exact q.elim
    | ok xs =>
    refine ⟨kp, own, at_, fun J H1 s1 hJ D hD => ?_⟩
    have at1 := at_.ext s1
    have hHD : H D = none := s1.free hD
    -- the inner frame
    let fm' : Fm := ⟨g.fm.K, g.fm.H0, fun a => a = D ∨ g.fm.z a⟩
    let hh : α → M (Option β) := fun d => (cm d).bind fun c => if c = true then (f d).bind fun y => .ok (some y) else .ok none
    have q : FinL g.fm g.W own σ H md T Q (compM hh xs) := q
    unfold compM at q
    split at q
    case isFalse => exact q.elim
    rename_i hlen
    have aw : At g.fm kp (L.set i sAny) (σ.set i none) H1 own := at1.setN hLi hs₀ rfl
    have rdD : ∀ (md : Md) (H0 : Hp) a o, RX g.fm own H0 H1 md a o → RX fm' own H0 (upd H1 D (.lst [])) md a o := fun md H0 a o z => by
      have z2 := RX.add (o' := .lst []) hD a o z
      cases md with
      | sh => exact z2.imp (fun ⟨a1, a2, a3⟩ => ⟨a1, fun y => a2 (List.mem_cons_of_mem _ y), fun y => y.elim (fun e => a2 (by rw [e]; exact List.mem_cons_self)) a3⟩) id
      | f0 => exact ⟨z2.1, fun y => z2.2.1 (List.mem_cons_of_mem _ y), fun y => y.elim (fun e => z2.2.1 (by rw [e]; exact List.mem_cons_self)) z2.2.2.1, z2.2.2.2⟩
      | fx => exact ⟨z2.1, fun y => z2.2.1 (List.mem_cons_of_mem _ y), fun y => y.elim (fun e => z2.2.1 (by rw [e]; exact List.mem_cons_self)) z2.2.2.1, z2.2.2.2⟩
    have a0 : At fm' (RD g.fm own H1) (L.set i sAny) (wipe σ [i]) (upd H1 D (.lst [])) own := by
      obtain ⟨h1, h2, ⟨Fs, h3, e⟩, h4, h5, h6⟩ := aw
      refine ⟨h1.trans (newSame hD), fun a z => ?_, ⟨Fs, h3.st (fun b a o z => ?_) fun y hy => ?_, e⟩, h4, fun y hy => ⟨fun n => (h5 y hy).1 ((newSame hD).free n), (h5 y hy).2.1, fun z => z.elim (fun e => (h5 y hy).1 (by rw [e]; exact hD)) (h5 y hy).2.2⟩, fun a o z => rdD .sh H1 a o z⟩
      · rcases z with z | z
        · rw [z, upd_same]; exact fun n => by cases n
        · exact fun n => h2 a z ((newSame hD).free n)
      · cases b with
        | false => exact rdD .sh H1 a o z
        | true => exact rdD .f0 H1 a o z
      · exact upd_ne fun e' => (h5 y (by rw [e]; exact hy)).1 (by rw [e']; exact hD)
    have upR : ∀ (md : Md) {H5 : Hp} {vs' : List V}, ∀ a o, RX g.fm (D :: own) H H5 md a o → RX g.fm (D :: own) H (upd H5 D (.lst vs')) md a o := fun md {H5 vs'} a o z => by
      have ne : a ∉ D :: own → a ≠ D := fun h e => h (by rw [e]; exact List.mem_cons_self)
      cases md with
      | sh =>
        refine z.imp (fun ⟨a1, a2, a3⟩ => ⟨?_, a2, a3⟩) id
        unfold Rd
        rw [cl_upd_ne (ne a2)]
        exact a1
      | f0 => exact ⟨by rw [cl_upd_ne (ne z.2.1)]; exact z.1, z.2⟩
      | fx => exact ⟨by rw [cl_upd_ne (ne z.2.1)]; exact z.1, z.2⟩
    refine ⟨fun n mm H' => mm = xs.length - n ∧ n ≤ xs.length ∧ ∃ vs ds, H' D = some (.lst vs) ∧ vs.length ≤ n ∧ Same H H' ∧ Reps T (RX g.fm (D :: own) H H' md) ds vs ∧ At fm' (RD g.fm own H1) (L.set i sAny) (wipe σ [i]) H' own ∧
      FinL g.fm g.W own σ H md T Q ((compG hh (xs.drop n)).bind fun l => .ok (ds ++ l)), ⟨_, rfl, Nat.zero_le _, [], [], upd_same, Nat.zero_le _, s1.trans (newSame hD), .nil, a0, ?_⟩, ?_⟩
    · rw [List.drop_zero]
      have e : ((compG hh xs).bind fun l => M.ok ([] ++ l)) = compG hh xs := by cases compG hh xs <;> rfl
      rw [e]; exact q
    rintro n mm H' ⟨rfl, hn, vs, ds, hDv, hvl, sH, rr, a', q'⟩
    have rb : Rdb g.fm.K (RD g.fm own H1) H' := ⟨fun a o z n => (a'.kept a o z).imp (fun h => Rd.raw h.1 n) id⟩
    obtain ⟨hgo, hst⟩ := hJ H' rb n
    by_cases hlt : n < xs.length
    · have hx' : xs[n]? = some xs[n] := by simp [hlt]
      obtain ⟨go, yl⟩ := hgo _ hx'
      refine .inr ⟨go, fun H6 => ∃ vs ds, H6 D = some (.lst vs) ∧ vs.length ≤ n + 1 ∧ Same H H6 ∧ Reps T (RX g.fm (D :: own) H H6 md) ds vs ∧ At fm' (RD g.fm own H1) (L.set i sAny) (wipe σ [i]) H6 own ∧
        FinL g.fm g.W own σ H md T Q ((compG hh (xs.drop (n + 1))).bind fun l => .ok (ds ++ l)), fun H6 z => ⟨xs.length - (n + 1), by omega, rfl, hlt, z⟩, fun y H3 hy => ?_⟩
      obtain ⟨s3, r3⟩ := yl y H3 hy
      have a3 := a'.ext s3
      have ry : S.rep xs[n] y (RD fm' own H3) := S.mono r3 (Nw.rd a' a'.kept s3)
      have hLw : (L.set i sAny)[i]? = some sAny := by
        have hlt' := (List.getElem?_eq_some_iff.mp hLi).1
        rw [List.getElem?_set_self hlt']
      have a4 : At fm' (RD g.fm own H1) (L.set i (sV false S xs[n])) ((wipe σ [i]).set i (some y)) H3 own := by
        have := a3.setN (s' := sV false S xs[n]) (v := some y) hLw no_any ⟨rfl, y, rfl, ry⟩
        rwa [List.set_set] at this
      rw [List.drop_eq_getElem_cons hlt] at q'
      refine ⟨wipe1, ⟨⟨fm', ok.fmK, ok.tab⟩, xs[n]⟩, _, own, a4, ?_⟩
      have q2 : FinL g.fm g.W own σ H md T Q (((hh xs[n]).nox.bind fun o => (compG hh (xs.drop (n + 1))).bind fun l => .ok (o.toList ++ l)).bind fun l => .ok (ds ++ l)) := q'
      cases hcm : cm xs[n] with
      | ex c => rw [show hh xs[n] = .ex c from by show (cm xs[n]).bind _ = _; rw [hcm]; rfl] at q2; exact q2.elim
      | no => rw [show hh xs[n] = .no from by show (cm xs[n]).bind _ = _; rw [hcm]; rfl] at q2; exact q2.elim
      | ok c =>
        intro H4 s4
        cases c with
        | false =>
          rw [show hh xs[n] = .ok none from by show (cm xs[n]).bind _ = _; rw [hcm]; rfl] at q2
          refine (if_neg (by decide)).mpr ?_
          have a5 : At fm' (RD g.fm own H1) (L.set i sAny) (wipe σ [i]) H4 own := a3.ext s4
          refine ⟨vs, ds, s4.keep _ _ (s3.keep _ _ hDv rfl) rfl, Nat.le_succ_of_le hvl, (sH.trans s3).trans s4, rr.mono (RX.same (s3.trans s4)), a5, ?_⟩
          have e : (((M.ok (none : Option β)).nox.bind fun o => (compG hh (xs.drop (n + 1))).bind fun l => M.ok (o.toList ++ l)).bind fun l => M.ok (ds ++ l)) = (compG hh (xs.drop (n + 1))).bind fun l => M.ok (ds ++ l) := by
            cases compG hh (xs.drop (n + 1)) <;> rfl
          rw [e] at q2; exact q2
        | true =>
          refine (if_pos rfl).mpr ⟨⟨⟨fm', ok.fmK, ok.tab⟩, xs[n]⟩, _, own, a4.ext s4, ?_⟩
          cases hf : f xs[n] with
          | ex c => rw [show hh xs[n] = .ex c from by show (cm xs[n]).bind _ = _; rw [hcm]; show (f xs[n]).bind _ = _; rw [hf]; rfl] at q2; exact q2.elim
          | no => rw [show hh xs[n] = .no from by show (cm xs[n]).bind _ = _; rw [hcm]; show (f xs[n]).bind _ = _; rw [hf]; rfl] at q2; exact q2.elim
          | ok w =>
            rw [show hh xs[n] = .ok (some w) from by show (cm xs[n]).bind _ = _; rw [hcm]; show (f xs[n]).bind _ = _; rw [hf]; rfl] at q2
            intro v H5 s5 r5
            have s35 : Same H' H5 := (s3.trans s4).trans s5
            have sHH5 : Same H H5 := sH.trans s35
            have nw : ∀ a o, RX fm' own H4 H5 md a o → RX g.fm (D :: own) H H5 md a o := fun a o z => by
              have nd : ¬ fm'.z a → a ≠ D ∧ ¬ g.fm.z a := fun h => ⟨fun e => h (.inl e), fun e => h (.inr e)⟩
              cases md with
              | sh => exact z.imp (fun ⟨a1, a2, a3⟩ => ⟨a1, fun y => (List.mem_cons.mp y).elim (nd a3).1 a2, (nd a3).2⟩) id
              | f0 => exact ⟨z.1, fun y => (List.mem_cons.mp y).elim (nd z.2.2.1).1 z.2.1, (nd z.2.2.1).2, z.2.2.2⟩
              | fx => exact ⟨z.1, fun y => (List.mem_cons.mp y).elim (nd z.2.2.1).1 z.2.1, (nd z.2.2.1).2, z.2.2.2.1, ((sH.trans s3).trans s4).free z.2.2.2.2⟩
            refine ⟨vs, s35.keep _ _ hDv rfl, by omega, vs ++ [v], ds ++ [w], upd_same, by rw [List.length_append, List.length_singleton]; omega, sHH5.wr hHD (s35.keep _ _ hDv rfl) (fun _ z => nomatch z) rfl, ?_, ?_, ?_⟩
            · exact ((rr.mono (RX.same s35)).append (.cons (T.mono r5 nw) .nil)).mono (upR md)
            · -- the slots at the changed heap
              have a5 : At fm' (RD g.fm own H1) (L.set i sAny) (wipe σ [i]) H5 own := a'.ext s35
              obtain ⟨h1, h2, ⟨Fs, h3, e⟩, h4, h5, h6⟩ := a5
              have ne : ∀ {a : Addr}, ¬ fm'.z a → a ≠ D := fun h e => h (.inl e)
              have k0 : ∀ (md : Md) a o, RX fm' own H5 H5 md a o → md = .fx ∨ RX fm' own (upd H5 D (.lst (vs ++ [v]))) (upd H5 D (.lst (vs ++ [v]))) md a o := fun md a o z => by
                cases md with
                | sh =>
                  refine .inr (z.imp (fun ⟨a1, a2, a3⟩ => ⟨?_, a2, a3⟩) id)
                  unfold Rd
                  rw [cl_upd_ne (ne a3)]
                  exact a1
                | f0 => exact .inr ⟨by rw [cl_upd_ne (ne z.2.2.1)]; exact z.1, z.2⟩
                | fx => exact .inl rfl
              have up : ∀ a, H5 a ≠ none → upd H5 D (.lst (vs ++ [v])) a ≠ none := fun a hne => by
                by_cases e : a = D
                · rw [e, upd_same]; exact fun z => by cases z
                · rw [upd_ne e]; exact hne
              refine ⟨h1.wr (at_.same.free hHD) (s35.keep _ _ hDv rfl) (fun _ z => nomatch z) rfl, fun a z => up a (h2 a z), ⟨Fs, h3.st (fun b a o z => ?_) fun y hy => ?_, e⟩, h4, fun y hy => ⟨up y (h5 y hy).1, (h5 y hy).2⟩, fun a o z => (k0 .sh a o (h6 a o z)).resolve_left fun e => nomatch e⟩
              · cases b with
                | false => exact (k0 .sh a o z).resolve_left fun e => nomatch e
                | true => exact (k0 .f0 a o z).resolve_left fun e => nomatch e
              · exact upd_ne (ne (h5 y (by rw [e]; exact hy)).2.2)
            · have e : (((M.ok (some w)).nox.bind fun o => (compG hh (xs.drop (n + 1))).bind fun l => M.ok (o.toList ++ l)).bind fun l => M.ok (ds ++ l)) = (compG hh (xs.drop (n + 1))).bind fun l => M.ok ((ds ++ [w]) ++ l) := by
                cases compG hh (xs.drop (n + 1)) <;> simp [M.nox, M.bind]
              rw [e] at q2; exact q2
    · have e : n = xs.length := by omega
      subst e
      rw [List.drop_length] at q'
      refine .inl ⟨hst (by simp), ?_⟩
      have q2 : FinL g.fm g.W own σ H md T Q (.ok (ds ++ [])) := q'
      rw [List.append_nil] at q2
      exact q2 D vs H' sH hHD hDv rr
  refine ⟨PE.imp (pe_lc (own := [(x, i)]) ok.calm (by rw [ok.N]; exact ok.nd) hI (by rw [ok.N]; exact ok.blk hb) (fun s H C cl fp => pg_name (i := i) (by show g.X.N.Nodup; rw [ok.N]; exact ok.nd) (by show g.X.N[i]? = _; rw [ok.N]; exact hN) (loc s H C cl fp).1 (loc s H C cl fp).2)
    (fun s H C cl fp => PTs.ex (t := fun (z : {fm' : Fm // fm'.K = p.K ∧ ∀ P, p.T = some P → LamX.TabS fm'.H0 P lamQ} × α) => tT z.1.1 (fun _ _ _ => False) (L.set i (sV false S z.2)) (cm z.2)) fun z => hc ⟨g.X.blk s H scope (compEnvC scope cl C g.X.env) fp, z.1.1, fun _ _ _ => False, []⟩ (blk_ok ok z.1.2 hv hg) z.2) (fun s H C cl fp => PE.ex (t := fun (z : {fm' : Fm // fm'.K = p.K ∧ ∀ P, p.T = some P → LamX.TabS fm'.H0 P lamQ} × α) => tE z.1.1 (fun _ _ _ => False) (L.set i (sV false S z.2)) md T (f z.2)) fun z => he ⟨g.X.blk s H scope (compEnvC scope cl C g.X.env) fp, z.1.1, fun _ _ _ => False, []⟩ (blk_ok ok z.1.2 hv hg) z.2) hs) BODY, fun {y i2 py spos} hy hyl hsw => ?_⟩
  exact PS.imp (ps_setLc (own := [(x, i)]) ok.calm (by rw [ok.N]; exact ok.nd) (by rw [ok.N]; exact hy) hyl hsw hI (by rw [ok.N]; exact ok.blk hb) (fun s H C cl fp => pg_name (i := i) (by show g.X.N.Nodup; rw [ok.N]; exact ok.nd) (by show g.X.N[i]? = _; rw [ok.N]; exact hN) (loc s H C cl fp).1 (loc s H C cl fp).2)
    (fun s H C cl fp => PTs.ex (t := fun (z : {fm' : Fm // fm'.K = p.K ∧ ∀ P, p.T = some P → LamX.TabS fm'.H0 P lamQ} × α) => tT z.1.1 (fun _ _ _ => False) (L.set i (sV false S z.2)) (cm z.2)) fun z => hc ⟨g.X.blk s H scope (compEnvC scope cl C g.X.env) fp, z.1.1, fun _ _ _ => False, []⟩ (blk_ok ok z.1.2 hv hg) z.2) (fun s H C cl fp => PE.ex (t := fun (z : {fm' : Fm // fm'.K = p.K ∧ ∀ P, p.T = some P → LamX.TabS fm'.H0 P lamQ} × α) => tE z.1.1 (fun _ _ _ => False) (L.set i (sV false S z.2)) md T (f z.2)) fun z => he ⟨g.X.blk s H scope (compEnvC scope cl C g.X.env) fp, z.1.1, fun _ _ _ => False, []⟩ (blk_ok ok z.1.2 hv hg) z.2) hs) fun E σ H q => BODY σ H _ q
/-- [elt for x in it if c] -/
theorem evl_lc {scope : Scope} {it elt : Expr} {m : M (List α)} {cm : α → M Bool} {f : α → M β} {tp : Pos} {ifs : List Expr} {s₀ : Slot} (ok : Ok p sc NN VV GG k g) (hI : EvI g L (.Name x tp) it S m) (hN : NN[i]? = some x) (hLi : L[i]? = some s₀) (hs₀ : NoOwn s₀) (hb : blkC NN sc scope [(x, i)] = true)
    (hv : VV'.all (seenB scope) = true) (hg : GG'.all (glB scope) = true) (hx : locB scope x = true)
    (hc : ∀ g', Ok p scope NN VV' GG' k g' → ∀ d, PTs g'.X ifs (tT g'.fm g'.W (L.set i (sV false S d)) (cm d)))
    (he : ∀ g', Ok p scope NN VV' GG' k g' → ∀ d, EvE g' (L.set i (sV false S d)) elt md T (f d)) (hs : ∀ x, foldedSetIterable it g.X.env x = pure x := by intro _; rfl) :
    EvL g L (.ListComp elt [⟨.Name x tp, it, ifs, 0⟩] scope pos) md T (m.bind fun xs => compM (fun d => (cm d).bind fun c => if c = true then (f d).bind fun y => .ok (some y) else .ok none) xs) := (evl_lc2 ok hI hN hLi hs₀ hb hv hg hx hc he hs).1
end
end Hd
namespace Hd
open PySem PySem.Spec L2
section
variable {p : Pr} {sc : Scope} {NN VV GG VV' GG' : List Str} {k : Nat} {g : G} {L L' : List Slot} {a b c e e' : Expr} {es : List Expr} {md md' : Md} {α β γ δ ρ : Type} {S : Ty α} {T : Ty β} {U : Ty γ} {A : Ar δ} {pos : Pos} {K : PySem.W.Frag} {tg : Expr} {i j : Nat} {x : Str}
/-- all slots forgotten -/
theorem wkX {n : Nat} (h : g.LX = List.replicate n sAny) (e : L.length = n) : Wk L g.LX := h ▸ Wk.anys e
theorem ev_gint {i : Int} (ok : Ok p sc NN VV GG k g) (hG : GG[j]? = some x) (h : ∃ t, p.mg x = some (.int i t)) : EvE g L (.Name x pos) md tInt (.ok i) := by
  obtain ⟨t, h⟩ := h
  exact ev_glob (v := .int i) ok hG h ⟨t, rfl⟩ (fun _ => rfl)
theorem ev_b1 {id : String} {r : List V → Hp → VK → Prop} {f : α → M γ} {fr : Bool} {m : M α} {pp : Pos} (ok : Ok p sc NN VV GG k g) (hc : CallR g.X (.builtin id) r)
    (F : ∀ {d v R H Q}, Rdb p.K R H → S.rep d v R → OpEnd U fr R H Q (f d) → r [v] H Q) (hne : ∀ d c, f d ≠ .ex c) (hm : MdOk fr md md')
    (hG : GG[j]? = some x) (hmg : p.mg x = none) (hv : bootBuiltins x = some (.builtin id)) (ha : EvE g L e md S m) (hs : starEach [e] g.X.env = (false, eval e g.X.env) :: starEach [] g.X.env := by rfl) : EvE g L (.Call (.Name x pp) [e] [] pos) md' U (m.bind f) := by
  have h := ev_callB (md' := md') (U := U) (A := aCons S aNil) (f := fun d => f d.1) (fr := fr) (pos := pos) (pp := pp) ok hc ⟨fun {d xs R H Q} rb ⟨v, r, e1, h1, e3⟩ q => by
    subst e1; cases (show r = [] from e3); exact F rb h1 q⟩ (fun d c => hne d.1 c) hm hG hmg hv (eva_cons ha eva_nil hs) hs rfl
  have e : (m.bind fun d => (M.ok ()).bind fun e => M.ok (d, e)).bind (fun d => f d.1) = m.bind f := by cases m <;> rfl
  rwa [e] at h
theorem ev_b2 {id : String} {r : List V → Hp → VK → Prop} {f : α → β → M γ} {fr : Bool} {m1 : M α} {m2 : M β} {pp : Pos} (ok : Ok p sc NN VV GG k g) (hc : CallR g.X (.builtin id) r)
    (F : ∀ {d e v w R H Q}, Rdb p.K R H → S.rep d v R → T.rep e w R → OpEnd U fr R H Q (f d e) → r [v, w] H Q) (hne : ∀ d e c, f d e ≠ .ex c) (hm : MdOk fr md md')
    (hG : GG[j]? = some x) (hmg : p.mg x = none) (hv : bootBuiltins x = some (.builtin id)) (ha : EvE g L a md S m1) (hb : EvE g L b md T m2)
    (hs1 : starEach [a, b] g.X.env = (false, eval a g.X.env) :: starEach [b] g.X.env := by rfl) (hs2 : starEach [b] g.X.env = (false, eval b g.X.env) :: starEach [] g.X.env := by rfl)
    (hpl : (backTo pos (starEach [b] g.X.env)).any (·.1) = false := by rfl) : EvE g L (.Call (.Name x pp) [a, b] [] pos) md' U (m1.bind fun d => m2.bind fun e => f d e) := by
  have h := ev_callB (md' := md') (U := U) (A := aCons S (aCons T aNil)) (f := fun d => f d.1 d.2.1) (fr := fr) (pos := pos) (pp := pp) ok hc ⟨fun {d xs R H Q} rb ⟨v, r, e1, h1, w, r2, e2, h2, e3⟩ q => by
    subst e1; subst e2; cases (show r2 = [] from e3); exact F rb h1 h2 q⟩ (fun d c => hne d.1 d.2.1 c) hm hG hmg hv (eva_cons ha (eva_cons hb eva_nil hs2) hs1) hs1 hpl
  have e : (m1.bind fun d => (m2.bind fun d => (M.ok ()).bind fun e => M.ok (d, e)).bind fun e => M.ok (d, e)).bind (fun d => f d.1 d.2.1) = m1.bind fun d => m2.bind fun e => f d e := by cases m1 <;> cases m2 <;> rfl
  rwa [e] at h
variable {m1 m2 : M Int} {pp : Pos}
end
end Hd
namespace Hd
open PySem PySem.Spec L2
theorem lstR {X : Cx} {pins : List (Addr × Obj)} {σ : L2.St} {H : Hp} {s : Shared} {l : Addr} {xs : List V} (I : Inv X pins σ H s) (h : L2.Rd H l (.lst xs)) : xs.length ≤ sizeLine ∧ ∃ (its : List Value) (n : Nat), Vals xs its ∧ xs.length = its.length ∧ s.heap.get? l = some { cls := .type "list", data := .seq its.toArray n } := by
  obtain ⟨z, its, n, r, e⟩ := h.ok I.hok
  exact ⟨z, its, n, r, r.length, e⟩
def rCatR : R2 := fun x y H Q => ∃ l b xs zs, x = .ref l ∧ y = .ref b ∧ L2.Rd H l (.lst xs) ∧ L2.Rd H b (.lst zs) ∧ xs.length + zs.length ≤ sizeLine ∧ ∀ p, H p = none → Q (.ref p) (upd H p (.lst (xs ++ zs)))
theorem op_catR {X : Cx} : OpR X (binaryOp .Add) rCatR := by
  intro pins s σ H x y v u Q I rx ry h
  obtain ⟨l, b, xs, zs, rfl, rfl, hH, hB, hz, q⟩ := h
  cases rx
  cases ry
  obtain ⟨z, its, n, r, hl, e⟩ := lstR I hH
  obtain ⟨z2, its2, n2, r2, hl2, e2⟩ := lstR I hB
  refine PySem.P.add_list e e2 ?_ (by rw [List.size_toArray, List.size_toArray]; omega)
  have ea : its.toArray ++ its2.toArray = (its ++ its2).toArray := by simp
  rw [ea]
  exact ⟨.ref _, _, I.lnew (t' := s.toks) (r.append r2) (by rw [List.length_append]; omega), rfl, q _ I.fresh⟩
section
variable {p : Pr} {sc : Scope} {NN VV GG VV' GG' : List Str} {k : Nat} {g : G} {L L' : List Slot} {a b c e e' : Expr} {es : List Expr} {md md' : Md} {α β γ δ ρ : Type} {S : Ty α} {T : Ty β} {U : Ty γ} {A : Ar δ} {pos : Pos} {K : PySem.W.Frag} {tg : Expr} {i j : Nat} {x : Str}
def tO (fm : Fm) (W : Wx) (L : List Slot) (m : M (Option Int)) : TO := fun σ H Q => ∃ kp own, At fm kp L σ H own ∧
  match m with
  | .ok d => ∀ H', Same H H' → Q d H'
  | .ex c => ∀ H', Same H H' → W c σ H'
  | .no => False
def EvO (g : G) (L : List Slot) (e : Option Expr) (m : M (Option Int)) : Prop := PO g.X e (tO g.fm g.W L m)
theorem PO.imp {X : Cx} {e : Option Expr} {t t' : TO} (h : PO X e t) (k : ∀ σ H Q, t' σ H Q → t σ H Q) : PO X e t' := ⟨fun pins s σ H Q I q => h.run pins s σ H Q I (k _ _ _ q)⟩
theorem evo_none : EvO g L none (.ok none) := PO.imp po_none fun σ H Q ⟨kp, own, at_, q⟩ => q H (Same.refl H)
theorem evo_some {m : M Int} (h : EvE g L e md tInt m) : EvO g L (some e) (m.bind fun i => .ok (some i)) := PO.imp (po_some h) fun σ H Q q => by
  cases m with
  | ok d => obtain ⟨kp, own, at_, q⟩ := q; exact ⟨kp, own, at_, fun v H' s r => ⟨d, r, q H' s⟩⟩
  | ex c => exact q
  | no => exact q
def FinO (W : Wx) (σ : L2.St) (H : Hp) (Q : Option Int → Hp → Prop) : M (Option Int) → Prop
  | .ok d => ∀ H', Same H H' → Q d H'
  | .ex c => ∀ H', Same H H' → W c σ H'
  | .no => False
theorem tO_iff {fm : Fm} {W : Wx} {m : M (Option Int)} {σ : L2.St} {H : Hp} {Q : Option Int → Hp → Prop} : tO fm W L m σ H Q ↔ ∃ kp own, At fm kp L σ H own ∧ FinO W σ H Q m := by
  cases m <;> exact Iff.rfl
theorem subO {fm : Fm} {W : Wx} {kp : RdR} {own : List Addr} {σ : L2.St} {H0 H : Hp} {F : M β → Prop} {m : M (Option Int)} {f : Option Int → M β} {K : Option Int → Hp → Prop} (hF : Fin W σ H0 F) (s0 : Same H0 H) (at_ : At fm kp L σ H own) (q : F (m.bind f))
    (h : ∀ d H1, Same H H1 → At fm kp L σ H1 own → F (f d) → K d H1) : tO fm W L m σ H K := by
  refine tO_iff.mpr ⟨kp, own, at_, ?_⟩
  cases m with
  | ok d => exact fun H1 s => h d H1 s (at_.ext s) q
  | ex c => exact fun H' s => hF.ex q H' (s0.trans s)
  | no => exact hF.no q
def cutL {α : Type} (xs : List α) (lo hi : Option Int) : List α := (xs.drop (HT.sIx xs.length 0 lo)).take (HT.sIx xs.length xs.length hi - HT.sIx xs.length 0 lo)
theorem Reps.cut {R : RdR} {ds : List α} {vs : List V} (h : Reps S R ds vs) (lo hi : Option Int) : Reps S R (cutL ds lo hi) (L2.cutV vs lo hi) := by
  unfold cutL L2.cutV
  rw [h.length]
  exact (h.drop _).take _
variable {lo hi : Option Expr} {ml mh : M (Option Int)} {p2 : Pos}
def repM {α : Type} (xs : List α) (n : Int) : M (List α) := if -(2 ^ 63) ≤ n ∧ n < 2 ^ 63 ∧ xs.length * n.toNat ≤ sizeLine then .ok (List.replicate n.toNat xs).flatten else .no
theorem Reps.rep {R : RdR} {ds : List α} {vs : List V} (h : Reps S R ds vs) : ∀ n : Nat, Reps S R (List.replicate n ds).flatten (List.replicate n vs).flatten
  | 0 => .nil
  | n + 1 => by rw [List.replicate_succ, List.flatten_cons, List.replicate_succ, List.flatten_cons]; exact h.append (Reps.rep h n)
/-- xs * n: xs just made -/
theorem evl_rep {m : M (List α)} {mn : M Int} (ok : Ok p sc NN VV GG k g) (ha : EvL g L a md S m) (hb : EvE g L b md tInt mn) : EvL g L (.BinOp a .Mult b pos) md S (m.bind fun x => mn.bind fun n => repM x n) := by
  refine PE.imp (pe_op op_rep ha hb) fun σ H Q q => ?_
  obtain ⟨kp, own, at_, q⟩ := tL_iff.mp q
  refine tL_iff.mpr ⟨kp, own, at_, ?_⟩
  cases m with
  | ex c => exact q
  | no => exact q.elim
  | ok xs =>
  intro q1 vs H1 s1 n1 h1 r1
  have at1 := at_.ext s1
  have q' : FinL g.fm g.W own σ H md S Q (mn.bind fun n => repM xs n) := q
  refine sub finL s1 at1 q' fun n y H2 s2 r2 at2 q2 => ?_
  have q2 : FinL g.fm g.W own σ H md S Q (repM xs n) := q2
  unfold repM at q2
  split at q2
  · rename_i hz
    refine ⟨q1, n, vs, rfl, r2, s2.keep _ _ h1 rfl, hz.1, hz.2.1, by rw [← r1.length]; exact hz.2.2, fun z hz => q2 z _ _ ((s1.trans s2).trans (newSame hz)) ((s1.trans s2).free hz) upd_same ?_⟩
    exact ((r1.mono fun a o w => RX.same s2 a o (RX.drop1 a o w)).rep _).mono (RX.add hz)
  · exact q2.elim
/-- xs + ys -/
def catL {α : Type} (xs ys : List α) : M (List α) := if xs.length + ys.length ≤ sizeLine then .ok (xs ++ ys) else .no
theorem evl_cat {m1 m2 : M (List α)} (ok : Ok p sc NN VV GG k g) (ha : EvE g L a md (tList S) m1) (hb : EvE g L b md (tList S) m2) : EvL g L (.BinOp a .Add b pos) md S (m1.bind fun x => m2.bind fun y => catL x y) := by
  refine PE.imp (pe_op op_catR ha hb) fun σ H Q q => ?_
  obtain ⟨kp, own, at_, q⟩ := tL_iff.mp q
  refine sub finL (Same.refl H) at_ q fun d x H1 s1 r1 at1 q1 => sub finL s1 at1 q1 fun e y H2 s2 r2 at2 q2 => ?_
  obtain ⟨a1, vs1, rfl, h1, rr1⟩ := r1
  obtain ⟨a2, vs2, rfl, h2, rr2⟩ := r2
  unfold catL at q2
  split at q2
  · rename_i hz
    have rb : Rdb g.fm.K (RX g.fm own H H2 md) H2 := RX.rdb
    refine ⟨a1, a2, vs1, vs2, rfl, rfl, rd_of rb (RX.same s2 _ _ h1), rd_of rb h2, by rw [← rr1.length, ← rr2.length]; exact hz, fun z hz => q2 z _ _ ((s1.trans s2).trans (newSame hz)) ((s1.trans s2).free hz) upd_same ?_⟩
    exact ((rr1.mono (RX.same s2)).append rr2).mono (RX.add hz)
  · exact q2.elim
inductive ArAt : {δ α : Type} → Ar δ → Int → Ty α → (δ → α) → Prop where
  | z {α δ : Type} {T : Ty α} {A : Ar δ} : ArAt (aCons T A) 0 T (fun d => d.1)
  | s {α β δ : Type} {T : Ty α} {S : Ty β} {A : Ar δ} {n : Int} {f : δ → α} : ArAt A n T f → ArAt (aCons S A) (n + 1) T (fun d => f d.2)
theorem ArAt.nat {n : Int} {f : δ → α} (h : ArAt A n S f) : 0 ≤ n := by
  induction h with
  | z => omega
  | s _ ih => omega
theorem ArAt.get {n : Int} {f : δ → α} (h : ArAt A n S f) : ∀ {d : δ} {vs : List V} {R : RdR}, A.rep d vs R → ∃ v, vs[n.toNat]? = some v ∧ S.rep (f d) v R := by
  induction h with
  | z => intro d vs R ⟨v, r, e, h1, h2⟩; subst e; exact ⟨v, rfl, h1⟩
  | s h ih =>
    intro d vs R ⟨v, r, e, h1, h2⟩
    subst e
    obtain ⟨w, h3, h4⟩ := ih h2
    have := h.nat
    refine ⟨w, ?_, h4⟩
    rename_i n _
    rw [show (n + 1).toNat = n.toNat + 1 by omega, List.getElem?_cons_succ]
    exact h3
theorem ev_ixA {n : Int} {f : δ → α} {m : M δ} (ok : Ok p sc NN VV GG k g) (hA : ArAt A n S f) (ha : EvE g L a md (tTup A) m) (hb : EvE g L b md tInt (.ok n)) (hs : PlainIx b := by exact fun _ _ => rfl) : EvE g L (.Subscript a b pos) md S (m.bind fun t => .ok (f t)) :=
  ev_ix (S := tTup A) (r := rIxT p.K) (m2 := .ok ()) (f := fun t _ => .ok (f t)) (T := tLit n) (fr := false) ok (by rw [← ok.K]; exact ix_tup) ⟨fun {d e x y R H Q} rb ⟨a, vs, ex, h, r⟩ ry q => by
    obtain ⟨v, h1, h2⟩ := hA.get r
    refine ⟨a, vs, n, v, ex, ry, st_of rb h, ?_, q _ _ (Same.refl _) (S.mono h2 (Nw.old rfl))⟩
    have := atI_nat (xs := vs) (j := n.toNat) h1
    rwa [Int.toNat_of_nonneg hA.nat] at this⟩ (fun _ _ _ h => nomatch h) .same ha (ev_lit hb) hs
variable {st : List Stmt} {D : δ → Out} {d : δ}
/-- if c: raise X("..") -/
theorem evb_ifr {mc : M Bool} {m2 : M δ} {y : Str} {ec : Ec} {jj : Nat} {msg : Str} {q1 q2 q3 q4 : Pos} (ok : OkS p sc NN VV GG k g) (wk : Wk L g.LX) (X : ExF p y ec) (hG : GG[j]? = some y) (hc : EvT g L c mc) (hr : EvB g L st D m2) :
    EvB g L (.If c [.Raise (some (.Call (.Name y q1) [.Constant (.str msg) jj q2] [] q3)) none q4] [] pos :: st) D (mc.bind fun c => if c = true then .ex ec else m2) := by
  refine PSs.imp (pss_cons (ps_if hc (evb_raise (D := fun _ : Unit => Out.bad) (st := []) (pos := q4) (msg := msg) (jj := jj) (pp := q1) (p2 := q2) (p3 := q3) ok wk X hG) pss_nil) hr) fun E σ H ⟨kp, own, at_, q⟩ => ?_
  cases mc with
  | ok c =>
    refine ⟨kp, own, at_, fun H1 s => ?_⟩
    cases c with
    | true => exact ⟨kp, own, at_.ext s, q⟩
    | false => exact ⟨kp, own, at_.ext s, q⟩
  | ex c => exact ⟨kp, own, at_, BOk.exx wk at_ q⟩
  | no => exact q.elim
end
end Hd
namespace Hd
open PySem PySem.Spec L2
section
variable {p : Pr} {sc : Scope} {NN VV GG VV' GG' : List Str} {k : Nat} {g : G} {L L' : List Slot} {a b c e e' : Expr} {es : List Expr} {md md' : Md} {α β γ δ ρ : Type} {S : Ty α} {T : Ty β} {U : Ty γ} {A : Ar δ} {pos : Pos} {K : PySem.W.Frag} {tg : Expr} {i j : Nat} {x : Str}
/-- a list of the written part -/
def KList (K : PySem.W.Frag) (a : Addr) (xs : List V) : Prop := ∃ (o : Obj) (its : Array Value) (n : Nat), K.lookup a = some o ∧ o.cls = .type "list" ∧ o.dict = none ∧ o.data = .seq its n ∧ its.size ≤ sizeLine ∧ Vals xs its.toList
/-- a list that is but read -/
def tListK {α : Type} (K : PySem.W.Frag) (T : Ty α) : Ty (List α) := ⟨fun ds v R => ∃ a vs, v = .ref a ∧ (R a (.lst vs) ∨ KList K a vs) ∧ Reps T R ds vs, fun ⟨a, vs, e, r, h⟩ s => ⟨a, vs, e, r.imp (s _ _) id, h.mono s⟩⟩
structure IsSq (K : PySem.W.Frag) (Q : Ty (List α)) (S : Ty α) : Prop where
  sq : ∀ {d v R H}, Rdb K R H → Q.rep d v R → ∃ a vs, v = .ref a ∧ SqL K H a vs ∧ Reps S R d vs
theorem sq_l : IsSq K (tList S) S := ⟨fun rb ⟨a, vs, e, h, r⟩ => ⟨a, vs, e, sq_of rb h, r⟩⟩
theorem sq_k : IsSq K (tListK K S) S := ⟨fun rb ⟨a, vs, e, h, r⟩ => ⟨a, vs, e, h.elim (sq_of rb) .inr, r⟩⟩
variable {Q : Ty (List α)}
theorem ev_ixQ {mx : M (List α)} {mi : M Int} (ok : Ok p sc NN VV GG k g) (hq : IsSq p.K Q S) (ha : EvE g L a md Q mx) (hb : EvE g L b md tInt mi) (hs : PlainIx b := by exact fun _ _ => rfl) : EvE g L (.Subscript a b pos) md S (mx.bind fun xs => mi.bind fun i => getM xs i) :=
  ev_ix (S := Q) (r := rIxL p.K) (fr := false) ok (by rw [← ok.K]; exact ix_list) ⟨fun {d e x y R H W} rb rx ry q => by
    obtain ⟨a, vs, ex, h, r⟩ := hq.sq rb rx
    unfold getM at q
    cases hj : L2.atI d e with
    | none => rw [hj] at q; exact q.elim
    | some u =>
      rw [hj] at q
      obtain ⟨v, h1, h2⟩ := r.at hj
      exact ⟨a, vs, e, v, ex, ry, h, h1, q _ _ (Same.refl _) (S.mono h2 (Nw.old rfl))⟩⟩ (fun _ _ _ => getM_ne) .same ha hb hs
theorem ev_lenQ {mx : M (List α)} {pp : Pos} (ok : Ok p sc NN VV GG k g) (hq : IsSq p.K Q S) (hG : GG[j]? = some "len") (hmg : p.mg "len" = none) (ha : EvE g L e md Q mx) (hs : starEach [e] g.X.env = (false, eval e g.X.env) :: starEach [] g.X.env := by rfl) : EvE g L (.Call (.Name "len" pp) [e] [] pos) md' tInt (mx.bind fun xs => .ok (xs.length : Int)) :=
  ev_b1 (S := Q) (fr := true) ok call_len_seq (fun {d v R H W} rb h q => by
    obtain ⟨a, vs, e, hs, r⟩ := hq.sq rb h
    exact ⟨a, vs, by rw [e], .inl (by rw [ok.K]; exact hs), q _ _ (Same.refl _) (by show _ = V.int _; rw [r.length])⟩) (fun _ _ h => nomatch h) .fresh hG hmg PySem.boot_len ha hs
theorem evi_seq {m : M (List α)} (ok : Ok p sc NN VV GG k g) (hq : IsSq p.K Q S) (he : EvE g L e md Q m) : EvI g L tg e S m := by
  refine PI.imp (pi_list he) fun σ H R ⟨kp, own, at_, q⟩ => ?_
  refine tE_iff.mpr ⟨kp, own, at_, ?_⟩
  cases m with
  | ok xs =>
    intro v H' s rx
    have rx' : Q.rep xs v (RD g.fm own H') := Q.mono rx RX.sh
    have rb0 : Rdb p.K (RD g.fm own H') H' := by rw [← ok.fmK]; exact RD.rdb
    obtain ⟨a, vs, rfl, h, r⟩ := hq.sq rb0 rx'
    refine ⟨a, rfl, ⟨vs, by rw [ok.K]; exact h⟩, ?_⟩
    rw [show Itl g.X.K a = Itl g.fm.K a from by rw [ok.K, ok.fmK]]
    refine q (Itl g.fm.K a) H' s fun H2 rb i => ?_
    obtain ⟨a', vs', e', hs, r2⟩ := hq.sq (by rw [← ok.fmK]; exact rb) rx'
    cases e'
    rw [← ok.fmK] at hs
    refine ⟨fun d hd => ?_, fun hn => ⟨vs', hs, ?_⟩⟩
    · obtain ⟨v, h1, h2⟩ := r2.get hd
      refine ⟨⟨vs', v, hs, h1⟩, fun x H3 ⟨e, hx⟩ => ?_⟩
      subst e
      have := hx vs' hs
      rw [h1] at this
      cases this
      exact ⟨Same.refl _, S.mono h2 fun a o z => .inl ⟨rfl, z⟩⟩
    · rw [List.getElem?_eq_none_iff, r2.length] at hn
      exact hn
  | ex c => exact q
  | no => exact q
variable {lo hi : Option Expr} {ml mh : M (Option Int)} {p2 : Pos}
theorem evl_slQ {m : M (List α)} (ok : Ok p sc NN VV GG k g) (hq : IsSq p.K Q S) (ha : EvE g L a md Q m) (hl : EvO g L lo ml) (hh : EvO g L hi mh) : EvL g L (.Subscript a (.Slice lo hi none p2) pos) md S (m.bind fun x => ml.bind fun l => mh.bind fun h => .ok (cutL x l h)) := by
  refine PE.imp (pe_slice sl_list ha hl hh) fun σ H W q => ?_
  obtain ⟨kp, own, at_, q⟩ := tL_iff.mp q
  refine sub finL (Same.refl H) at_ q fun d x H1 s1 r1 at1 q1 => subO finL s1 at1 q1 fun l H2 s2 at2 q2 => subO finL (s1.trans s2) at2 q2 fun h H3 s3 at3 q3 => ?_
  have r3 : Q.rep d x (RX g.fm own H H3 md) := Q.mono r1 (RX.same (s2.trans s3))
  obtain ⟨ad, vs, e, h3, rr⟩ := hq.sq (by rw [← ok.fmK]; exact RX.rdb) r3
  refine ⟨ad, vs, e, by rw [ok.K]; exact h3, fun z hz => q3 z (L2.cutV vs l h) _ (((s1.trans s2).trans s3).trans (newSame hz)) (((s1.trans s2).trans s3).free hz) upd_same ?_⟩
  exact (rr.cut l h).mono (RX.add hz)
theorem evl_copyQ {mx : M (List α)} {pp : Pos} (ok : Ok p sc NN VV GG k g) (hq : IsSq p.K Q S) (hG : GG[j]? = some "list") (hmg : p.mg "list" = none) (ha : EvE g L e md Q mx) (hs : starEach [e] g.X.env = (false, eval e g.X.env) :: starEach [] g.X.env := by rfl) : EvL g L (.Call (.Name "list" pp) [e] [] pos) md S mx := by
  obtain ⟨hg, ho⟩ := ok.gl hG
  obtain ⟨h1, _, h3⟩ := okName_d ho
  refine PE.imp (pe_callTy call_list_of hg (by rw [ok.mg]; exact hmg) (by decide +kernel) (eva_cons ha eva_nil hs) h3 h1 hs rfl) fun σ H W q => ?_
  obtain ⟨kp, own, at_, q⟩ := tL_iff.mp q
  refine tA_iff.mpr ⟨kp, own, at_, ?_⟩
  cases mx with
  | ok d =>
    rintro vs H1 s1 ⟨v, r, rfl, rx, e3⟩
    cases (show r = [] from e3)
    obtain ⟨a, ws, rfl, h, rr⟩ := hq.sq (by rw [← ok.fmK]; exact RX.rdb) rx
    exact ⟨a, ws, rfl, .inl (by rw [ok.K]; exact h), fun l hl => q l ws _ (s1.trans (newSame hl)) (s1.free hl) upd_same (rr.mono (RX.add hl))⟩
  | ex c => exact q
  | no => exact q
theorem evpts_nil : PTs g.X [] (tT g.fm g.W L (.ok true)) := ⟨fun pins s σ H Q I ⟨kp, own, at_, q⟩ => pts_nil.run pins s σ H Q I (q H (Same.refl H))⟩
variable {st : List Stmt} {D : δ → Out} {d : δ}
def unM {α : Type} : Option α → M α
  | some d => .ok d
  | none => .no
/-- what is known not to be None -/
theorem ev_un1 {m : M (Option α)} (h : EvE g L e md (tOpt S) m) : EvE g L e md S (m.bind unM) := PE.imp h fun σ H Q q => by
  obtain ⟨kp, own, at_, q⟩ := tE_iff.mp q
  refine tE_iff.mpr ⟨kp, own, at_, ?_⟩
  cases m with
  | ok d =>
    cases d with
    | none => exact q.elim
    | some d => exact fun v H' s r => q v H' s r.1
  | ex c => exact q
  | no => exact q
end
end Hd
namespace Hd
open PySem PySem.Spec L2
def fuel : Nat := 1000000000
theorem M.bok {α β : Type} (a : α) (f : α → M β) : M.bind (.ok a) f = f a := by
  have h : ∀ m : M α, m = .ok a → M.bind m f = f a := fun m e => by rw [e]; rfl
  exact h _ rfl
section
variable {p : Pr} {sc : Scope} {NN VV GG VV' GG' : List Str} {k : Nat} {g : G} {L L' : List Slot} {a b c e e' : Expr} {es : List Expr} {md md' : Md} {α β γ δ ρ : Type} {S : Ty α} {T : Ty β} {U : Ty γ} {A : Ar δ} {pos : Pos} {K : PySem.W.Frag} {tg : Expr} {i j : Nat} {x : Str}
/-- how many items -/
def LenM (n : Nat) (m : M (List α)) : Prop := ∀ ds, m = .ok ds → ds.length = n
theorem ln0 : LenM 0 (.ok ([] : List α)) := fun ds h => by cases h; rfl
theorem lnS {n : Nat} {m1 : M α} {m2 : M (List α)} (h : LenM n m2) : LenM (n + 1) (m1.bind fun d => m2.bind fun e => .ok (d :: e)) := fun ds q => by
  cases m1 with
  | ok d =>
    cases m2 with
    | ok e => cases q; rw [List.length_cons, h e rfl]
    | ex c => cases q
    | no => cases q
  | ex c => cases q
  | no => cases q
theorem evl_lstN {n : Nat} {m : M (List α)} (h : LenM n m) (hn : n ≤ 1000) (ha : EvA g L es md (aAll S) m) : EvL g L (.List es pos) md S m := evl_lst (fun ds q => by rw [h ds q]; exact hn) ha
def isLoc (sc : Scope) (y : Str) : Bool := (match sc.kind with | .function => true | _ => false) && match sc.names.lookup y with | some .local => true | _ => false
theorem isLoc_k {sc : Scope} {y : Str} (h : isLoc sc y = true) : sc.kind = .function ∧ sc.names.lookup y = some .local := by
  unfold isLoc at h
  rw [Bool.and_eq_true] at h
  obtain ⟨h1, h2⟩ := h
  constructor
  · split at h1
    · assumption
    · cases h1
  · split at h2
    · assumption
    · cases h2
variable {st : List Stmt} {D : δ → Out} {y : Str} {py spos cpos : Pos} {elt it : Expr} {ifs : List Expr} {scope : Scope} {tp : Pos} {s₀ : Slot}
theorem sw_loc (ok : OkS p sc NN VV GG k g) {gs : List Comprehension} (hy : isLoc sc y = true) (hl : (py.line == cpos.line) = true) (ha : (scope.names.any fun (n, k) => n == y && (k == .local || k == .cell)) = false) :
    g.X.env.scope.names.lookup y = some .local ∧ swapsWith (.ListComp elt gs scope cpos) (some (.Name y py)) spos.line g.X.env = pure true := by
  obtain ⟨h1, h2⟩ := isLoc_k hy
  have e1 : g.X.env.scope.kind = .function := by rw [ok.scp]; exact h1
  have e2 : g.X.env.scope.names.lookup y = some .local := by rw [ok.scp]; exact h2
  exact ⟨e2, sw_true e1 e2 hl ha⟩
theorem evb_setC {m : M (List α)} {cm : α → M Bool} {f : α → M β} {h : List β → M δ} {i2 : Nat} (ok : OkS p sc NN VV GG k g) (hN2 : NN[i2]? = some y) (wk : Wk L g.LX) (hy : isLoc sc y = true) (hl : (py.line == cpos.line) = true) (ha : (scope.names.any fun (n, k) => n == y && (k == .local || k == .cell)) = false)
    (hI : EvI g L (.Name x tp) it S m) (hN : NN[i]? = some x) (hLi : L[i]? = some s₀) (hs₀ : NoOwn s₀) (hb : blkC NN sc scope [(x, i)] = true) (hv : VV'.all (seenB scope) = true) (hg : GG'.all (glB scope) = true) (hx : locB scope x = true)
    (hc : ∀ g', Ok p scope NN VV' GG' k g' → ∀ d, PTs g'.X ifs (tT g'.fm g'.W (L.set i (sV false S d)) (cm d))) (he : ∀ g', Ok p scope NN VV' GG' k g' → ∀ d, EvE g' (L.set i (sV false S d)) elt md T (f d))
    (hr : ∀ d, EvB g (L.set i2 (sV false (tList T) d)) st D (h d)) (hs : ∀ x, foldedSetIterable it g.X.env x = pure x := by intro _; rfl) :
    EvB g L (.Assign [.Name y py] (.ListComp elt [⟨.Name x tp, it, ifs, 0⟩] scope cpos) spos :: st) D ((m.bind fun xs => compM (fun d => (cm d).bind fun c => if c = true then (f d).bind fun y => .ok (some y) else .ok none) xs).bind h) := by
  obtain ⟨e1, e2⟩ := sw_loc (elt := elt) (spos := spos) (gs := [⟨.Name x tp, it, ifs, 0⟩]) ok hy hl ha
  refine PSs.imp (pss_cons ((evl_lc2 ok.toOk hI hN hLi hs₀ hb hv hg hx hc he hs).2 hN2 e1 e2) (PSs.ex hr)) fun E σ H ⟨kp, own, at_, q⟩ => ?_
  unfold tSeq tAsg
  refine tL_iff.mpr ⟨kp, own, at_, ?_⟩
  generalize (m.bind fun xs => compM (fun d => (cm d).bind fun c => if c = true then (f d).bind fun y => .ok (some y) else .ok none) xs) = mm at q ⊢
  cases mm with
  | ok d =>
    intro v vs H' s n h' r
    obtain ⟨own', a'⟩ := (at_.ext s).setV (i := i2) (b := false) (T := tList T) (d := d) (v := .ref v) ⟨v, vs, rfl, RX.sh (H := H) _ _ (newRX' (md := .sh) at_ n h'), r.mono fun a o z => RX.sh (H := H) a o (RX.drop1 a o z)⟩
    exact ⟨d, kp, own', a', q⟩
  | ex c => exact BOk.exx wk at_ q
  | no => exact q
theorem pureT {m : M Bool} {v : Bool} (h : EvT g L e m) (q : m = .ok v) : EvT g L e (.ok v) := q ▸ h
theorem pureW {m : M Bool} {v : Bool} (h : EvW g L e m) (q : m = .ok v) : EvW g L e (.ok v) := q ▸ h
end
end Hd
namespace Hd
open PySem PySem.Spec L2
theorem fnCx {P : Program} {w : World} {K : PySem.W.Frag} {mg : Str → Option Value} {base : Heap} {CX CX' : CXT} {k : Nat} {f : Addr} {fd : FuncData} {ps : List Str} {sp : Sp} (F : FnOk P w K mg base CX k f fd ps sp)
    (h : ∀ outer H s E u s', CX outer H s E u s' → CX' outer H s E u s') : FnOk P w K mg base CX' k f fd ps sp :=
  ⟨F.len, fun A outer s H args us vs Q E hr he hb hv hs => codeAny_mono (F.run A outer s H args us vs Q E hr he hb hv hs) fun r s' q => by
    cases r with
    | error e => exact h _ _ _ _ _ _ q
    | ok fl => cases fl <;> exact q⟩
def CXw (P : Program) : CXT := fun outer H s E u s' => ∃ w, L2.CX P w outer H s E u s'
def ecName : Ec → Str
  | .weave => "WeaveError"
  | .noRow => "NoRow"
  | .tooLarge => "TooLarge"
  | .noCloth => "NoCloth"
  | .noDraft => "NoDraft"
  | .noStrand => "NoStrand"
  | .noDeed => "NoDeed"
  | .noLaying => "NoLaying"
  | .noShuttle => "NoShuttle"
  | .noColour => "NoColour"
  | .noBlock => "NoBlock"
  | .noPattern => "NoPattern"
  | .unknown => "Unknown"
  | .twice => "Twice"
theorem reps_ints {R : RdR} : ∀ ns : List Int, Reps tInt R ns (ns.map V.int)
  | [] => .nil
  | n :: r => .cons rfl (reps_ints r)
theorem law_end {l : PySem.W.OpenLaw} {k : Nat} {q : Program} {loose : List Str} {XP : (Str → Option Value) → Heap → Prop} {YP : World → Heap → Prop} {d : DefRec} {cl : List Int × Unit → M Bool}
    (hn : l.most = some 63) (hdf : d.params.defaults = []) (hr : Room k callerA)
    (F : ∀ (w : World) (mg : Str → Option Value) (fa : Addr) (h : Heap), YP w h → h.Ns mainGlobals mg → mg d.name = some (.ref fa) →
      ∃ (K : PySem.W.Frag) (fd : FuncData) (C : Ec → Addr), K.In h ∧ (∀ (s : Shared) (u : Value), BindsTo s fd ⟨[u], []⟩ [("script", u)]) ∧
        ∀ base : Heap, FnOk l.prog w K mg base (L2.CX l.prog w) k fa fd ["script"] (spM ⟨l.prog, w, K, mg, base, C, none⟩ (aCons (tListK K tInt) aNil) (fun r => .rt false tBool r) cl))
    (math : ∀ ns : List Int, ns.length ≤ 63 → cl (ns, ()) = .ok true) : PySem.W.WalkO q loose XP YP l.row.toRowW d [] (fun f vs => PySem.call f vs) := by
  refine L2.walk_ofE (CX := CXw l.prog) (x := "script") (k := k) hn (by decide) hdf hr (fun w mg fa h Y G hm => ?_) (fun H s e s' z => ?_)
  · obtain ⟨K, fd, C, KX, hb, hF⟩ := F w mg fa h Y G hm
    refine ⟨K, fd, spM ⟨l.prog, w, K, mg, h, C, none⟩ (aCons (tListK K tInt) aNil) (fun r => .rt false tBool r) cl, KX, hb, fun H a ns hl hO hS => ?_, fun base _ _ => fnCx (hF base) fun _ _ _ _ _ _ z => ⟨w, z⟩⟩
    refine ⟨(ns, ()), fun _ => False, ⟨fun _ z => z.elim, fun P e => nomatch e⟩, ⟨.ref a, [], rfl, ⟨a, ns.map V.int, rfl, hS.imp (fun r => .inl ⟨Rd.clo r, (fun z => nomatch z), fun z => z⟩) id, reps_ints ns⟩, rfl⟩, ?_⟩
    rw [math ns hl]
    exact fun v H' s r => r
  · obtain ⟨w, a, B, H', cls, d, _, _, _, _, _, _, _, z⟩ := z
    exact z
theorem exF {K : PySem.W.Frag} {h : Heap} {mg : Str → Option Value} {P : Program} {w : World} {base : Heap} {T : Option Addr} (X : K.In h) (G : h.Ns mainGlobals mg) {x : Str} {c : Ec} (e : ecName c = x) (c1 : (He.Fa.glo x).ok K = true) (c2 : (He.Fa.exc x).ok K = true) : ExF ⟨P, w, K, mg, base, fun c => He.ga K (ecName c), T⟩ x c := by
  subst e
  obtain ⟨h1, h2, h3, h4⟩ := He.exc_ok c2
  exact ⟨h1, He.glo_ok X G c1, h2, h3, h4⟩
theorem L2_bindsA {K : PySem.W.Frag} {x qual : Str} {params : Arguments} {body : List Stmt} {scope : Scope} {f : Addr} {fd : FuncData} (F : FunD K x qual params body scope [] [] f fd) (s : Shared) (v : Value)
    (h : ∀ (kV doc pm : Value) (an : Option Addr) (cdv ct : Value) (us : List Value), us.length = (["script"] : List Str).length → bindArgs (PySem.W.fnOf x qual params body scope .none kV doc pm an cdv ct) ⟨us, []⟩ = pure ((["script"] : List Str).zip us) := by
      exact fun _ _ _ _ _ _ us hl => match us, hl with | [_], _ => rfl) : BindsTo s fd ⟨[v], []⟩ [("script", v)] := F.bindsA (ps := ["script"]) h s [v] rfl
end Hd
namespace Hd
open PySem PySem.Spec L2
section
variable {p : Pr} {sc : Scope} {NN VV GG VV' GG' : List Str} {k : Nat} {g : G} {L L' : List Slot} {a b c e e' : Expr} {es : List Expr} {md md' : Md} {α β γ δ ρ : Type} {S : Ty α} {T : Ty β} {U : Ty γ} {A : Ar δ} {pos : Pos} {K : PySem.W.Frag} {tg : Expr} {i j : Nat} {x : Str} {pp : Pos}
theorem ev_ixOwn {bb : Bool} {ds : List α} {mi : M Int} {npos : Pos} (ok : Ok p sc NN VV GG k g) (hN : NN[i]? = some x) (hV : VV[j]? = some x) (hL : L[i]? = some (sOwn bb S ds)) (hb : EvE g L b .sh tInt mi) (hs : PlainIx b := by exact fun _ _ => rfl) :
    EvE g L (.Subscript (.Name x npos) b pos) .sh S (mi.bind fun i => getM ds i) := by
  obtain ⟨hv, ho⟩ := ok.vis hV
  obtain ⟨h1, h2, _⟩ := okName_d ho
  refine PE.imp (pe_ix ix_list (pe_var (i := i) (by rw [ok.N]; exact hN) hv h1 h2) hb hs) fun σ H Q q => ?_
  obtain ⟨kp, own, at_, q⟩ := tE_iff.mp q
  obtain ⟨Fs, hA, rfl⟩ := at_.sl
  obtain ⟨v, F, e1, e2, pp, vs, rfl, rfl, hp, r⟩ := hA.get hL
  refine ⟨_, e1, sub finE (Same.refl H) at_ q fun n y H2 s2 r2 at2 q2 => ?_⟩
  unfold getM at q2
  cases hj : L2.atI ds n with
  | none => rw [hj] at q2; exact q2.elim
  | some u =>
    rw [hj] at q2
    obtain ⟨w, w1, w2⟩ := r.at hj
    refine ⟨pp, vs, n, w, rfl, r2, .inl (.inl (s2.keep _ _ hp rfl)), w1, q2 w H2 s2 (S.mono w2 fun a o z => ?_)⟩
    have z1 : RX g.fm Fs.flatten H H (if bb then .f0 else .sh) a o := z
    exact RX.same s2 a o (RX.sh a o z1)
variable {Q : Ty (List α)}
variable {Q2 : Ty (List β)}
structure DeepA (A : Ar δ) where
  pd : δ → List PyData
  dp : Nat
  rep : ∀ {K d vs R H}, Rdb K R H → A.rep d vs R → DpAll K H vs (pd d) ∧ PyData.canLayAll0 (pd d) = true
  dep : ∀ d, PyData.depthAll (pd d) ≤ dp
  eqv : ∀ d e, PyData.eqvAll (pd d) (pd e) = true ↔ d = e
def dNil : DeepA aNil := ⟨fun _ => [], 0, fun rb h => by cases (show _ = [] from h); exact ⟨.nil, rfl⟩, fun _ => by simp [PyData.depthAll], fun d e => by simp [PyData.eqvAll]⟩
def dCons (D : Deep S) (E : DeepA A) : DeepA (aCons S A) := ⟨fun d => D.pd d.1 :: E.pd d.2, max D.dp E.dp, fun {K d vs R H} rb ⟨v, r, e, h1, h2⟩ => by
    subst e
    obtain ⟨a1, a2⟩ := D.rep rb h1
    obtain ⟨b1, b2⟩ := E.rep rb h2
    exact ⟨.cons a1 b1, by simp only [PyData.canLayAll0, a2, b2, Bool.and_self]⟩, fun d => by
    have h1 := D.dep d.1
    have h2 := E.dep d.2
    simp only [PyData.depthAll]
    omega, fun d e => by
    simp only [PyData.eqvAll, Bool.and_eq_true, D.eqv, E.eqv]
    exact ⟨fun h => Prod.ext h.1 h.2, fun h => by rw [h]; exact ⟨rfl, rfl⟩⟩⟩
variable {st : List Stmt} {D : δ → Out} {d : δ}
end
end Hd
namespace Hd
open PySem PySem.Spec L2
def ExQ (cls : Value) (a : Addr) : HO := .ext fun h => ∃ (oe : Obj) (vs : Array Value), h.get? a = some oe ∧ Zc cls none oe ∧ oe.data = .fields vs
theorem exQ_ok {P : Program} {w : World} {H : Hp} {h : Heap} {a : Addr} {cls : Value} {oe : Obj} {vs : Array Value} (e : h.get? a = some oe) (z : Zc cls none oe) (dd : oe.data = .fields vs) : ObjOk P w H h a (ExQ cls a) :=
  ⟨⟨oe, vs, e, z, dd⟩, ⟨oe, e⟩, fun _ _ ⟨o, v, q, r⟩ k => ⟨o, v, k o q, r⟩⟩
section
variable {X : Cx} {pins : List (Addr × Obj)} {σ : L2.St} {H : Hp} {s : Shared}
theorem track {a : Addr} {oe : Obj} {vs : Array Value} {cls : Value} (I : Inv X pins σ H s) (he : s.heap.get? a = some oe) (hz : Zc cls none oe) (hd : oe.data = .fields vs) (na : H a = none) (nL : a ≠ X.env.locals)
    (nC : ∀ y z, X.env.cells.lookup y = some z → z ≠ a) (nP : ∀ r ∈ X.pn ++ pins, r.1 ≠ a) (n0 : X.s_0.heap.get? a = none) : Inv X pins σ (upd H a (ExQ cls a)) s := by
  have ne : ∀ {b : Addr} {u : HO}, H b = some u → b ≠ a := fun e z => by rw [z, na] at e; cases e
  refine ⟨I.ok, I.os, I.bare, ⟨I.base.keep, I.base.slot, fun b o e n hx => ?_, I.base.there, fun b xs e => ?_, fun b o u e => ?_, fun b ps e => ?_⟩, I.loc, I.cell, ?_, fun y z e => ?_, fun r hr => ?_, fun b o e => ?_, I.len⟩
  · rw [upd_ne (fun z => by rw [z, n0] at e; cases e)]; exact I.base.free b o e n hx
  · have := I.base.tups b xs e
    rw [upd_ne (ne this)]; exact this
  · have := I.base.frzs b o u e
    rw [upd_ne (ne this)]; exact this
  · obtain ⟨more, this⟩ := I.base.tbls b ps e
    exact ⟨more, by rw [upd_ne (ne this)]; exact this⟩
  · rw [upd_ne (Ne.symm nL)]; exact I.free
  · rw [upd_ne (nC y z e)]; exact I.freeC y z e
  · obtain ⟨p1, p2, p3⟩ := I.pin r hr
    exact ⟨p1, by rw [upd_ne (nP r hr)]; exact p2, p3⟩
  · by_cases hb : b = a
    · subst hb
      rw [upd_same] at e
      cases e
      exact exQ_ok he hz hd
    · rw [upd_ne hb] at e
      exact (I.hok b o e).stay (fun c v _ q => q) (fun c q => by rw [upd_ne (ne q)]; exact q) fun c xs q => by rw [upd_ne (ne q)]; exact q
end
/-- what the clause wishes of an exception of the body -/
def wKp (K : PySem.W.Frag) (c : Value) (i : Nat) (ts : Addr → Value → Option Addr → TS) (Wout : WX) (D : Ends) : WX := fun cls dd σ H =>
  ∃ b, PySem.W.exmOne K cls c = some b ∧ (b = true → dd = none ∧ ∀ a, H a = none → ts a cls dd { nx := fun τ Hq => D.nx (τ.set i none) (upd Hq a (ExQ cls a)), rt := fun _ _ => False, bk := fun _ _ => False, ct := fun _ _ => False } (σ.set i (some (.ref a))) H) ∧ (b = false → Wout cls dd σ H)
section
variable {Y : Cx} {x n : Str} {c : Value} {i : Nat} {body suite : List Stmt} {b₀ : Stmt} {np pos pos' : Pos} {tb : WX → TS} {ts : Addr → Value → Option Addr → TS} {Wout : WX}
theorem ps_keep (hs : Y.stack = Y.env :: Y.outer) (hf : Y.env.frame = some Y.env.locals) (hex : Y.ex = []) (hN : Y.N.Nodup) (hi : Y.N[i]? = some n) (hln : Y.env.kindOf n = some .local) (hc : Names Y x c) (tk : Takes Y Wout)
    (hb : ∀ (W : WX) (pn : List (Addr × Obj)) (xe : Value → Shared → Prop), Takes (Y.tr pn xe) W → PassesOwn (model Y.prog Y.w) Y.A Y.env xe → PSs (Y.tr pn xe) body (tb W))
    (hsu : ∀ (ad : Addr) (oE : Obj) (cl : Value) (dd : Option Addr) (pn : List (Addr × Obj)), Zc cl dd oE → (∃ vs, oE.data = .fields vs) → PSs (Y.suite ad ((ad, oE) :: pn)) (b₀ :: suite) (ts ad cl dd)) :
    PS Y (.Try body [.ExceptHandler (some (.Name x np)) (some n) (b₀ :: suite) pos'] [] [] pos) (fun D σ H => tb (wKp Y.K c i ts Wout D) D σ H) := by
  refine ⟨fun pz s σ H D I h => ?_⟩
  have oK := I.ok
  have hfR : Y.A.frames = some (Y.env :: Y.outer) := by rw [oK.frames, hs]
  have hlC : Loc Y.env.scope n := .inl hln
  refine wpAny_Try_except ?_
  refine wpAny_mono ((hb (wKp Y.K c i ts Wout D) (Y.pn ++ pz) (fun e s₁ => wpAny (model Y.prog Y.w) Y.A (noteFrame e Y.env) (fun _ s₂ => wpAny (model Y.prog Y.w) Y.A (setFlight e none) (fun _ s₃ =>
    wpAny (model Y.prog Y.w) Y.A (handleBy e Y.env [.ExceptHandler (some (.Name x np)) (some n) (b₀ :: suite) pos']) (SP Y pz D) Y.xe s₃) Y.xe s₂) Y.xe s₁) (fun u sq xx => ?_) PassesOwn.looking).run [] s σ H D (I.toTry _) h) (fun f s1 hp => ?_) (fun e s1 hE => hE)
  · -- the catch
    obtain ⟨ad, B, sJ, py, τ, Hq, cl, dd, rfl, Jq, nB, uP, sKy, nA, oS, aG, b, bb1, hY, hN0⟩ := xx
    have Jz : Inv Y pz τ Hq sJ := Jq.ofTry oK
    have sKq : Sky B (Y.env :: Y.outer) ad (Zc cl dd) Y.env.locals sq.heap := by rw [← hs]; exact sKy
    show wpAny (model Y.prog Y.w) Y.A (noteFrame (.ref ad) Y.env) _ _ _
    refine Sky.land Zc.steady hfR hf sKq fun k3 fL uQ => ?_
    have Jt : Inv Y pz τ Hq { sq with heap := k3 } := Jz.landed nB fL.1 (uP.trans uQ) oS aG
    obtain ⟨oT, vT, eT, zT, dT⟩ := fL.there
    have nFr : ∀ {h : Heap} {o : Obj} {vs : Array Value}, h.FunFrames B (Y.env :: Y.outer) → h.get? ad = some o → o.data = .fields vs → ad ∉ frs (Y.env :: Y.outer) := fun {h o vs} ff e dd hm => by
      obtain ⟨_, o', e', hnf⟩ := ff.mem hm
      rw [e] at e'; cases e'
      exact hnf _ dd
    have nfq := nFr fL.2.2.1 eT dT
    have nL : ad ≠ Y.env.locals := fun z => nfq (List.mem_filterMap.mpr ⟨Y.env, List.mem_cons_self, by rw [hf, z]⟩)
    have nF : ad ∉ Y.fs := fun hm => by
      obtain ⟨e, hE, q⟩ := List.mem_filterMap.mp hm
      exact nfq (List.mem_filterMap.mpr ⟨e, List.mem_cons_of_mem _ hE, q⟩)
    have St := Jt.suite eT dT nA nL nF
    refine wpAny_handleBy_cons (codeAny_handlers_test ?_) (by intro q; cases q)
    have lT : PySem.W.Looks (model Y.prog Y.w) k3 (typeOf (.ref ad)) cl := fun A Q E s k q => wpAny_typeOf_ref (k _ _ eT) (by rw [zT.1]; exact q)
    have lM := PySem.W.exm_one (M := model Y.prog Y.w) (Jt.kIn) lT bb1
    have tst : ∀ {Q : Value → Shared → Prop} {E : Value → Shared → Prop}, Q c { sq with heap := k3 } → wpAny (model Y.prog Y.w) (Y.A.mark (some (.ref ad))) (eval (.Name x np) Y.env) Q E { sq with heap := k3 } := fun {Q E} q => by
      obtain ⟨hg, hdbg, hm | ⟨hm, hv, hnn⟩⟩ := hc
      · exact ld_glob (X := Y.suite ad ((ad, oT) :: (Y.pn ++ pz))) St hg hm q hdbg
      · exact ld_blt (X := Y.suite ad ((ad, oT) :: (Y.pn ++ pz))) St hg hm hv q hnn hdbg
    refine tst (lM.here ?_)
    cases b with
    | true =>
      obtain rfl := (hY rfl).1
      refine codeAny_handlers_suite_as ?_
      refine HandSPX.lands_againZ fL fun k4 fM uR => ?_
      have Ju : Inv Y pz τ Hq { sq with heap := k4 } := Jz.landed nB fM.1 ((uP.trans uQ).trans uR) oS aG
      obtain ⟨oU, vU, eU, zU, dU⟩ := fM.there
      have Su := Ju.suite eU dU nA nL nF
      refine store_ok (X := Y.suite ad ((ad, oU) :: (Y.pn ++ pz))) (v := .ref ad) Su hN hi hlC rfl (fun sv Sv => ?_) (.inr hln)
      refine wpAny_mono ((hsu ad oU cl none (Y.pn ++ pz) zU ⟨_, dU⟩).run [] sv _ Hq _ Sv ((hY rfl).2 ad nA)) (fun f sw hp => ?_) (fun _ _ z => False.elim z)
      have none_ : ∀ o, sJ.heap.get? ad = some o → False := fun o e => by
        have z := nB ad o e (by rw [hs]; exact nfq)
        rw [fM.2.1] at z
        cases z
      have n0 : Y.s_0.heap.get? ad = none := by
        cases e : Y.s_0.heap.get? ad with
        | none => rfl
        | some o =>
          obtain ⟨o2, e2⟩ := Jz.base.there ad o e (by rw [hex]; exact fun z => nomatch z)
          exact (none_ o2 e2).elim
      have nC : ∀ y z, Y.env.cells.lookup y = some z → z ≠ ad := fun y z e w => by
        obtain ⟨v, o, e2, _⟩ := Jz.cell y z e
        rw [w] at e2
        exact none_ o e2
      have nP : ∀ r ∈ Y.pn ++ pz, r.1 ≠ ad := fun r hr w => by
        have e2 := (Jz.pin r hr).1
        rw [w] at e2
        exact none_ _ e2
      cases f with
      | next =>
        obtain ⟨τw, Hw, Sw, qw⟩ := hp
        obtain ⟨g1, g2, _⟩ := Sw.pin (ad, oU) (List.mem_append.mpr (.inl List.mem_cons_self))
        exact gone_ok (track (Sw.unsuite oK) g1 zU dU g2 nL nC nP n0) hN hi hln fun sx Jx => ⟨_, _, Jx, qw⟩
      | brk =>
        obtain ⟨τw, Hw, Sw, qw⟩ := hp
        exact qw.elim
      | cont =>
        obtain ⟨τw, Hw, Sw, qw⟩ := hp
        exact qw.elim
      | ret u =>
        obtain ⟨v6, τw, Hw, Sw, r6, qw⟩ := hp
        exact qw.elim
    | false =>
      show wpAny _ Y.A (handleBy (.ref ad) Y.env []) _ _ _
      refine wpAny_handleBy_nil ?_
      obtain ⟨_, _, _, oE, vs, T, oT, _, hE, hz, hd, h1, hr⟩ := id fL
      unfold PySem.passOn
      refine wpAny_bind (wpAny_field hE hd h1 ?_)
      rw [if_neg (show ¬ ((Value.ref T == Value.none) = true) from by simp)]
      have fIn : wpAny (model Y.prog Y.w) Y.A (setFlight (.ref ad) Y.env.frame) (fun _ s4 => wpAny (model Y.prog Y.w) Y.A (throw (.ref ad) : Sem Flow) (SP Y pz D) Y.xe s4) Y.xe { sq with heap := k3 } := by
        rw [hf]
        refine HandSPX.setFlight_upZ fL fun k4 hh4 uR => wpAny_throw (tk _ _ ?_)
        exact ⟨ad, B, sJ, pz, τ, Hq, cl, dd, rfl, Jz, nB, (uP.trans uQ).trans uR, .inr (.inr (by rw [hs]; exact hh4)), nA, oS, aG, hN0 rfl⟩
      first
        | exact wpAny_bind (wpAny_pure (wpAny_bind fIn))
        | exact wpAny_bind fIn
  · cases f with
    | next =>
      obtain ⟨τ, Hq, Jq, q⟩ := hp
      exact wpAny_execs_nil ⟨τ, Hq, Jq.ofTry oK, q⟩
    | brk =>
      obtain ⟨τ, Hq, Jq, q⟩ := hp
      exact ⟨τ, Hq, Jq.ofTry oK, q⟩
    | cont =>
      obtain ⟨τ, Hq, Jq, q⟩ := hp
      exact ⟨τ, Hq, Jq.ofTry oK, q⟩
    | ret u =>
      obtain ⟨v, τ, Hq, Jq, r, q⟩ := hp
      exact ⟨v, τ, Hq, Jq.ofTry oK, r, q⟩
end
end Hd
namespace Hd
open PySem PySem.Spec L2
/-- c stands under d -/
def isB (c d : Ec) : Bool := decide (d = c) || decide (d = .weave)
/-- a caught refusal -/
def tExc (p : Pr) : Ty Ec := ⟨fun c v R => ∃ a, v = .ref a ∧ R a (ExQ (.ref (p.C c)) a), fun ⟨a, e, h⟩ s => ⟨a, e, s _ _ h⟩⟩
/-- a class of refusals, as a value -/
def tCls (p : Pr) : Ty Ec := ⟨fun c v _ => v = .ref (p.C c), fun h _ => h⟩
/-- what the head tells of the classes -/
structure Kn (p : Pr) (kn : List Ec) : Prop where
  isc : ∀ c ∈ kn, ExcC p.K (p.C c)
  exm : ∀ c ∈ kn, ∀ d ∈ kn, PySem.W.exmOne p.K (.ref (p.C c)) (.ref (p.C d)) = some (isB c d)
  kit : ∀ c ∈ kn, ∀ d ∈ kn, PySem.W.kitOne p.K (.ref (p.C c)) (.ref (p.C d)) = some (isB c d)
  kitV : ∀ c ∈ kn, PySem.W.kitOne p.K (.ref (p.C c)) (.type "ValueError") = some true
  kitN : ∀ c ∈ kn, PySem.W.kitOne p.K (.type "NoneType") (.ref (p.C c)) = some false
def tryM {β : Type} (kn : List Ec) (cx : Ec) (mb : M β) (h : Ec → β) : M β := match mb with
  | .ok s => .ok s
  | .ex c => if c ∈ kn then (if isB c cx = true then .ok (h c) else .ex c) else .no
  | .no => .no
section
variable {p : Pr} {sc : Scope} {NN VV GG VV' GG' : List Str} {k : Nat} {g : G} {L L' : List Slot} {a b c e e' : Expr} {es : List Expr} {md md' : Md} {α β γ δ ρ : Type} {S : Ty α} {T : Ty β} {U : Ty γ} {A : Ar δ} {pos : Pos} {K : PySem.W.Frag} {tg : Expr} {i j : Nat} {x : Str} {pp : Pos}
theorem At.setAnyV {fm : Fm} {kp : RdR} {σ : L2.St} {H : Hp} {own : List Addr} {v : Option V} (h : At fm kp L σ H own) : ∃ own', At fm kp (L.set i sAny) (σ.set i v) H own' ∧ ∀ p ∈ own', p ∈ own := by
  obtain ⟨h1, h2, ⟨Fs, h3, rfl⟩, h4, h5, h6⟩ := h
  have kk : ∀ p ∈ (Fs.set i []).flatten, p ∈ Fs.flatten := fun p hp => (set_sub (i := i)).subset hp
  exact ⟨_, ⟨h1, h2, ⟨Fs.set i [], (h3.st (RB.own kk) fun _ _ => rfl).set (s := sAny) (v := v) rfl i, rfl⟩, h4.sublist set_sub, fun p hp => h5 p (kk p hp), fun a o q => RX.own (md := .sh) (H := H) kk a o (h6 a o q)⟩, kk⟩
theorem wkL (h : g.LX = L') (w : Wk L L') : Wk L g.LX := h ▸ w
variable {st : List Stmt} {D : δ → Out} {d : δ}
/-- try: body / except X as e: y = e -/
theorem evb_tryA {kn : List Ec} {cx : Ec} {mb : M β} {h : Ec → β} {f : β → M δ} {LJ : β → List Slot} {body : List Stmt} {n y : Str} {iE iC jE jC : Nat} {np pos' p1 p2 p3 : Pos} (ok : OkS p sc NN VV GG k g) (wk : Wk L g.LX) (hkn : Kn p kn) (hcx : cx ∈ kn) (hx : p.mg x = some (.ref (p.C cx))) (hG : GG[j]? = some x)
    (hNE : NN[iE]? = some n) (hVE : VV[jE]? = some n) (hlE : isLoc sc n = true) (hNC : NN[iC]? = some y) (hVC : VV[jC]? = some y) {s₀ : Slot} (hLE : L[iE]? = some s₀)
    (hb : ∀ g', OkS p sc NN VV GG k g' → g'.LX = L → EvB g' L body (fun s => .nx (LJ s)) mb)
    (hh : ∀ c, Wk (((L.set iE sAny).set iC (sV false (tOpt (tExc p)) (some c))).set iE sAny) (LJ (h c))) (hr : ∀ s, EvB g (LJ s) st D (f s)) (hs : ∀ Y : Cx, swapsWith (.Name n p1) (some (.Name y p2)) p3.line Y.env = pure false := by intro _; rfl) :
    EvB g L (.Try body [.ExceptHandler (some (.Name x np)) (some n) [.Assign [.Name y p2] (.Name n p1) p3] pos'] [] [] pos :: st) D ((tryM kn cx mb h).bind f) := by
  obtain ⟨hg, ho⟩ := ok.gl hG
  obtain ⟨hvE, hoE⟩ := ok.vis hVE
  obtain ⟨n1, n2, _⟩ := okName_d hoE
  obtain ⟨_, hlE2⟩ := isLoc_k hlE
  have elE : g.X.env.scope.names.lookup n = some .local := by rw [ok.scp]; exact hlE2
  refine PSs.imp (pss_cons (ps_keep (i := iE) (c := .ref (p.C cx)) (tb := fun W D σ H => ∃ q : {W'' : Wx // ∀ c σ H, W'' c σ H → W (.ref (p.C c)) none σ H}, tB ⟨g.X, g.fm, q.1, L⟩ L (fun s => Out.nx (LJ s)) mb D σ H)
    (ts := fun ad cl dd => tAsg (tVar iE) (gName iC)) (Wout := fun cls d σ H => ∃ c, cls = .ref (p.C c) ∧ d = none ∧ g.W c σ H) ok.stk ok.frm ok.exn (by rw [ok.N]; exact ok.nd) (by rw [ok.N]; exact hNE) elE ⟨hg, (okName_d ho).1, .inl (by rw [ok.mg]; exact hx)⟩ ok.tk
    (fun W pn xe tkW psO => ?_) (fun ad oE cl dd pn _ _ => ?_)) (PSs.ex hr)) fun E σ H ⟨kp, own, at_, q⟩ => ?_
  · refine PSs.ex (t := fun (q : {W'' : Wx // ∀ c σ H, W'' c σ H → W (.ref (p.C c)) none σ H}) => tB ⟨g.X, g.fm, q.1, L⟩ L (fun s => Out.nx (LJ s)) mb) fun q => ?_
    exact hb ⟨g.X.tr pn xe, g.fm, q.1, L⟩
      { prog := ok.prog, w := ok.w, K := ok.K, mg := ok.mg, base := ok.base, N := ok.N, fmK := ok.fmK, tab := ok.tab, room := ok.room, nd := ok.nd, vis := ok.vis, gl := ok.gl
        tk := Takes.imp tkW fun cls d σ H ⟨c, e1, e2, z⟩ => by subst e1; subst e2; exact q.2 c σ H z
        calm := ok.calm, blk := ok.blk, loc := ok.loc, fnT := ok.fnT, psO := psO, scp := ok.scp, stk := ok.stk, frm := ok.frm, exn := ok.exn } rfl
  · exact pss_one (ps_set (i := iC) (by show g.X.N.Nodup; rw [ok.N]; exact ok.nd) (by show g.X.N[iC]? = _; rw [ok.N]; exact hNC) (ok.loc hVC) (pe_var (i := iE) (by show g.X.N[iE]? = _; rw [ok.N]; exact hNE) hvE n1 n2) (hs _) (.inl (ok.fnT y)))
  · have cont : ∀ c σ' H', c ∈ kn → isB c cx = true → (∃ own', At g.fm kp L σ' H' own') → BOk g kp E D (f (h c)) → ∀ ad, H' ad = none →
        ∃ d, tB g (LJ d) D (f d) E (((σ'.set iE (some (.ref ad))).set iC (some (.ref ad))).set iE none) (upd H' ad (ExQ (.ref (p.C c)) ad)) := fun c σ' H' _ _ ⟨own', a'⟩ qc ad hn => by
      have a1 := a'.ext (newSame (o := ExQ (.ref (p.C c)) ad) hn)
      obtain ⟨own2, a2, k2⟩ := At.setAnyV (i := iE) (v := some (.ref ad)) a1
      have hrep : (tOpt (tExc p)).rep (some c) (.ref ad) (RB g.fm own2 (upd H' ad (ExQ (.ref (p.C c)) ad)) false) := by
        refine ⟨⟨ad, rfl, .inl ⟨.inl (cl_of upd_same), fun z => ?_, fun z => ?_⟩⟩, fun z => nomatch z⟩
        · exact (a'.new ad (k2 ad z)).1 hn
        · exact a'.zin ad z hn
      obtain ⟨own3, a3⟩ := a2.setV (i := iC) (b := false) (T := tOpt (tExc p)) (d := some c) (v := .ref ad) hrep
      obtain ⟨own4, a4, _⟩ := At.setAnyV (i := iE) (v := none) a3
      obtain ⟨own5, a5, _⟩ := a4.weak (hh c)
      exact ⟨h c, kp, own5, a5, qc⟩
    refine ⟨⟨fun c σ' H' => (c ∈ kn → isB c cx = true → ∀ ad, H' ad = none → ∃ d, tB g (LJ d) D (f d) E (((σ'.set iE (some (.ref ad))).set iC (some (.ref ad))).set iE none) (upd H' ad (ExQ (.ref (p.C c)) ad))) ∧ (c ∈ kn) ∧ (isB c cx = false → g.W c σ' H') ∧ iE < σ'.length, fun c σ' H' ⟨z1, z2, z3, z4⟩ => ?_⟩, kp, own, at_, ?_⟩
    · refine ⟨isB c cx, by rw [ok.K]; exact hkn.exm c z2 cx hcx, fun hB => ⟨rfl, fun ad hn => ⟨.ref ad, by rw [List.getElem?_set_self z4], z1 z2 hB ad hn⟩⟩, fun hB => ⟨c, rfl, rfl, z3 hB⟩⟩
    · cases mb with
      | ok s => exact fun σ' H' own' a' => ⟨s, kp, own', a', q⟩
      | no => exact q.elim
      | ex c =>
        intro σ' H' own' a'
        have q : BOk g kp E D (((if c ∈ kn then (if isB c cx = true then M.ok (h c) else .ex c) else .no) : M β).bind f) := q
        by_cases hc : c ∈ kn
        · rw [if_pos hc] at q
          have hlen : iE < σ'.length := by rw [a'.len]; exact (List.getElem?_eq_some_iff.mp hLE).1
          refine ⟨fun _ hB ad hn => ?_, hc, fun hB => ?_, hlen⟩
          · rw [if_pos hB] at q
            exact cont c σ' H' hc hB ⟨own', a'⟩ q ad hn
          · rw [if_neg (by rw [hB]; exact Bool.false_ne_true)] at q
            obtain ⟨own2, a2, _⟩ := a'.weak wk
            exact q σ' H' own2 a2
        · rw [if_neg hc] at q; exact q.elim
def KitQ (K : PySem.W.Frag) (H : Hp) (v : V) (t : Value) : Prop := (v = .non ∧ t = .type "NoneType") ∨ ∃ a D, v = .ref a ∧ t = .ref D ∧ ExcC K D ∧ L2.Rd H a (ExQ (.ref D) a)
theorem kit_q {X : Cx} {pins : List (Addr × Obj)} {σ : L2.St} {H : Hp} {s : Shared} {v : V} {u t : Value} (I : Inv X pins σ H s) (rx : RelV v u) (q : KitQ X.K H v t) : ∃ P : Heap → Prop, PySem.W.KitX X.K u t P ∧ P s.heap ∧ u ≠ .builtin "__main__.__loader__#opaque" := by
  rcases q with ⟨rfl, rfl⟩ | ⟨a, D, rfl, rfl, C, h⟩
  · cases (show u = Value.none from rx)
    exact ⟨_, PySem.W.kitx_none, True.intro, fun z => nomatch z⟩
  · cases (show u = Value.ref a from rx)
    obtain ⟨⟨oe, vs, he, hz, hd⟩, _⟩ := (show ObjOk X.prog X.w H s.heap a (ExQ (.ref D) a) from h.ok I.hok)
    have J : PySem.W.InstAt s.heap a oe D none := by
      obtain ⟨oc, od, oda, osl⟩ := oe
      obtain ⟨h1, h2⟩ := hz
      dsimp only at h1 h2 hd
      subst h1 h2 hd
      exact ⟨he, rfl, rfl, trivial⟩
    exact ⟨_, PySem.W.handS_kitx_exc C.hg C.hk C.hs C.hd C.ha C.hn C.ht C.hm, J, fun z => nomatch z⟩
def rIsQ (K : PySem.W.Frag) : List V → Hp → VK → Prop := fun xs H Q => ∃ (x c : V) (t u : Value) (b : Bool), xs = [x, c] ∧ ClsV c u ∧ KitQ K H x t ∧ PySem.W.kitOne K t u = some b ∧ Q (.bl b) H
theorem call_isQ {X : Cx} : CallR X (.builtin "isinstance") (rIsQ X.K) := by
  intro pins s σ H xs us Q I r h
  obtain ⟨x, c, t, u, b, rfl, k, ty, e, q⟩ := h
  cases r with
  | cons r1 rr =>
    cases rr with
    | cons r2 rr =>
      cases rr
      have e2 := k.eq r2
      subst e2
      obtain ⟨P, Z, hP, hx⟩ := kit_q I r1 ty
      exact PySem.W.kia_one Z I.kIn hP e hx fun tk => ⟨.bl b, H, I.tok tk, rfl, q⟩
/-- isinstance(caught, X), X a class of refusals -/
def isEM (kn : List Ec) (c : Option Ec) (d : Ec) : M Bool := match c with
  | none => .ok false
  | some c => if c ∈ kn then .ok (isB c d) else .no
theorem isEM_ne {kn : List Ec} {c : Option Ec} {d : Ec} {z : Ec} : isEM kn c d ≠ .ex z := by unfold isEM; split <;> (try split) <;> exact fun h => nomatch h
/-- isinstance(caught, ValueError) -/
def isVM (kn : List Ec) (c : Option Ec) : M Bool := match c with
  | none => .ok false
  | some c => if c ∈ kn then .ok true else .no
theorem isVM_ne {kn : List Ec} {c : Option Ec} {z : Ec} : isVM kn c ≠ .ex z := by unfold isVM; split <;> (try split) <;> exact fun h => nomatch h
theorem ev_cls {cc : Ec} (ok : Ok p sc NN VV GG k g) (hG : GG[j]? = some x) (hx : p.mg x = some (.ref (p.C cc))) : EvE g L (.Name x pos) md (tCls p) (.ok cc) := ev_glob (v := .ref (p.C cc)) ok hG hx rfl (fun _ => rfl)
theorem kitQ_some {kn : List Ec} (hkn : Kn p kn) {c : Ec} (hc : c ∈ kn) {R : RdR} {H : Hp} {v : V} (rb : Rdb p.K R H) (h : (tExc p).rep c v R) : KitQ p.K H v (.ref (p.C c)) := by
  obtain ⟨a, e, h⟩ := h
  exact .inr ⟨a, p.C c, e, rfl, hkn.isc c hc, (rb _ _ h rfl).resolve_right fun z => z⟩
theorem ev_isE {kn : List Ec} {dd : Ec} {m : M (Option Ec)} (ok : Ok p sc NN VV GG k g) (hkn : Kn p kn) (hd : dd ∈ kn) (hG : GG[j]? = some "isinstance") (hmg : p.mg "isinstance" = none) (ha : EvE g L a md (tOpt (tExc p)) m) (hb : EvE g L b md (tCls p) (.ok dd))
    (hs1 : starEach [a, b] g.X.env = (false, eval a g.X.env) :: starEach [b] g.X.env := by rfl) (hs2 : starEach [b] g.X.env = (false, eval b g.X.env) :: starEach [] g.X.env := by rfl)
    (hpl : (backTo pos (starEach [b] g.X.env)).any (·.1) = false := by rfl) : EvE g L (.Call (.Name "isinstance" pp) [a, b] [] pos) md' tBool (m.bind fun c => isEM kn c dd) := by
  have h := ev_b2 (S := tOpt (tExc p)) (T := (⟨fun _ v _ => v = .ref (p.C dd), fun h _ => h⟩ : Ty Unit)) (md' := md') (U := tBool) (f := fun c _ => isEM kn c dd) (m2 := .ok ()) (fr := true) (pp := pp) (pos := pos) ok call_isQ (fun {d e v w R H W} rb h1 h2 q => by
    unfold isEM at q
    cases d with
    | none =>
      cases (show v = .non from h1)
      exact ⟨.non, w, .type "NoneType", .ref (p.C dd), false, rfl, by rw [h2]; exact .own _, .inl ⟨rfl, rfl⟩, by rw [ok.K]; exact hkn.kitN dd hd, q _ _ (Same.refl _) rfl⟩
    | some c =>
      by_cases hc : c ∈ kn
      · simp only [if_pos hc] at q
        exact ⟨v, w, .ref (p.C c), .ref (p.C dd), isB c dd, rfl, by rw [h2]; exact .own _, by rw [ok.K]; exact kitQ_some hkn hc rb h1.1, by rw [ok.K]; exact hkn.kit c hc dd hd, q _ _ (Same.refl _) rfl⟩
      · simp only [if_neg hc] at q
        exact q.elim) (fun _ _ _ => isEM_ne) .fresh hG hmg (by decide +kernel) ha (ev_asP (T := (⟨fun _ v _ => v = .ref (p.C dd), fun h _ => h⟩ : Ty Unit)) (d2 := ()) (fun v R r => r) hb) hs1 hs2 hpl
  have e : (m.bind fun d => (M.ok ()).bind fun _ => isEM kn d dd) = m.bind fun c => isEM kn c dd := by cases m <;> rfl
  rwa [e] at h
theorem ev_isV {kn : List Ec} {m : M (Option Ec)} (ok : Ok p sc NN VV GG k g) (hkn : Kn p kn) (hG : GG[j]? = some "isinstance") (hmg : p.mg "isinstance" = none) (ha : EvE g L a md (tOpt (tExc p)) m) (hb : EvE g L b md (tTy "ValueError") (.ok ()))
    (hs1 : starEach [a, b] g.X.env = (false, eval a g.X.env) :: starEach [b] g.X.env := by rfl) (hs2 : starEach [b] g.X.env = (false, eval b g.X.env) :: starEach [] g.X.env := by rfl)
    (hpl : (backTo pos (starEach [b] g.X.env)).any (·.1) = false := by rfl) : EvE g L (.Call (.Name "isinstance" pp) [a, b] [] pos) md' tBool (m.bind fun c => isVM kn c) := by
  have h := ev_b2 (S := tOpt (tExc p)) (T := tTy "ValueError") (md' := md') (U := tBool) (f := fun c _ => isVM kn c) (m2 := .ok ()) (fr := true) (pp := pp) (pos := pos) ok call_isQ (fun {d e v w R H W} rb h1 h2 q => by
    unfold isVM at q
    cases d with
    | none =>
      cases (show v = .non from h1)
      exact ⟨.non, w, .type "NoneType", .type "ValueError", false, rfl, by rw [h2]; exact .ty _, .inl ⟨rfl, rfl⟩, kit_ty (by decide +kernel), q _ _ (Same.refl _) rfl⟩
    | some c =>
      by_cases hc : c ∈ kn
      · simp only [if_pos hc] at q
        exact ⟨v, w, .ref (p.C c), .type "ValueError", true, rfl, by rw [h2]; exact .ty _, by rw [ok.K]; exact kitQ_some hkn hc rb h1.1, by rw [ok.K]; exact hkn.kitV c hc, q _ _ (Same.refl _) rfl⟩
      · simp only [if_neg hc] at q
        exact q.elim) (fun _ _ _ => isVM_ne) .fresh hG hmg (by decide +kernel) ha hb hs1 hs2 hpl
  have e : (m.bind fun d => (M.ok ()).bind fun _ => isVM kn d) = m.bind fun c => isVM kn c := by cases m <;> rfl
  rwa [e] at h
end
end Hd
namespace Hd
open PySem PySem.Spec L2
section
variable {p : Pr} {sc : Scope} {NN VV GG VV' GG' : List Str} {k : Nat} {g : G} {L L' : List Slot} {a b c e e' : Expr} {es : List Expr} {md md' : Md} {α β γ δ ρ : Type} {S : Ty α} {T : Ty β} {U : Ty γ} {A : Ar δ} {pos : Pos} {K : PySem.W.Frag} {tg : Expr} {i j : Nat} {x : Str} {pp : Pos}
variable {st : List Stmt} {D : δ → Out} {d : δ}
def tAny : Ty Unit := ⟨fun _ _ _ => True, fun h _ => h⟩
structure Cl (p : Pr) (c : Ec) (t : Tx) : Prop where
  ex : ∃ (f : Addr) (fd : FuncData), FnOk p.P p.w p.K p.mg p.base (L2.CX p.P p.w) 1 f fd ["self"] (spM p (aCons tAny aNil) (fun r => .rt false tStr r) (fun _ => .ok t)) ∧ Meth p.K (p.C c) "called" f ∧ Binds p.K fd ["self"] []
def calledM (kc : List (Ec × Tx)) (c : Ec) : M Tx := match kc.lookup c with
  | some t => .ok t
  | none => .no
theorem getm {X : Cx} {pins : List (Addr × Obj)} {σ : L2.St} {H : Hp} {s : Shared} {ad D f : Addr} {pl : Sem Bool} {Q : Value × List Value → Shared → Prop} {A : Around} {E : Value → Shared → Prop} (I : Inv X pins σ H s) (h : L2.Rd H ad (ExQ (.ref D) ad)) (C : ExcC X.K D) (m : Meth X.K D "called" f)
    (hq : Q (.ref f, [.ref ad]) s) : wpAny (model X.prog X.w) A (getMethod (.ref ad) "called" pl) Q E s := by
  obtain ⟨⟨oe, vs, he, hz, hd⟩, _⟩ := (show ObjOk X.prog X.w H s.heap ad (ExQ (.ref D) ad) from h.ok I.hok)
  have J : PySem.W.InstAt s.heap ad oe D none := by
    obtain ⟨oc, od, oda, osl⟩ := oe
    obtain ⟨h1, h2⟩ := hz
    dsimp only at h1 h2 hd
    subst h1 h2 hd
    exact ⟨he, rfl, rfl, trivial⟩
  obtain ⟨m', F⟩ := I.fr
  exact PySem.W.method_exc0 F I.mod.kin J C.hg C.hk m.at_ m.fn hq
def tCalled (X : Cx) (ta : TE) : TE := fun σ H Q => ta σ H fun v H1 => ∃ (ad D f : Addr) (fd : FuncData) (sp : Sp), v = .ref ad ∧ L2.Rd H1 ad (ExQ (.ref D) ad) ∧ ExcC X.K D ∧ Meth X.K D "called" f ∧ FnOk X.prog X.w X.K X.mg X.base (L2.CX X.prog X.w) 1 f fd ["self"] sp ∧ Binds X.K fd ["self"] [] ∧ sp [.ref ad] H1 Q fun _ _ _ => False
theorem pe_called {X : Cx} {o : Expr} {ta : TE} {apos : Pos} {pl : Sem Bool} (he : PE X o ta) (hr : Room 1 X.A)
    (ht : eval (.Call (.Attribute o "called" apos) [] [] pos) X.env = (do
      let ov ← eval o X.env
      standAt apos.atName
      let (f, first) ← holding [ov] (getMethod ov "called" pl)
      callWith pos f first (backTo pos (starEach [] X.env)) (backToKw pos (keywordEach [] X.env))) := by rfl) :
    PE X (.Call (.Attribute o "called" apos) [] [] pos) (tCalled X ta) := by
  refine ⟨fun pins s σ H Q I h => ?_⟩
  refine PySem.W.methodCall_KW (pl := pl) (thn (he.run pins s σ H _ I h) fun u s1 ⟨x, H1, I1, rx, q⟩ => ?_) ht
  obtain ⟨ad, D, f, fd, sp, rfl, hR, C, m, F, hb, hq⟩ := q
  obtain rfl : u = Value.ref ad := rx
  refine getm I1 hR C m ?_
  exact PySem.W.callWith_K0 (first := [.ref ad]) I1.kIn m.kp (run_fn (us := [.ref ad]) (vs := [.ref ad]) (dvs := []) (ds := []) F hr hb .nil (E := fun _ _ _ => False) (by intro a1 a2 a3 a4 a5 a6 a7 a8; obtain ⟨_, _, _, _, _, _, _, _, _, _, _, _, z⟩ := a8; exact z.elim) I1 (.cons rfl .nil) hq)
theorem ev_called {kn : List Ec} {kc : List (Ec × Tx)} {m : M Ec} {apos : Pos} {pl : Sem Bool} (ok : Ok p sc NN VV GG k g) (hk1 : 1 ≤ k) (hkn : Kn p kn) (hkc : ∀ c t, kc.lookup c = some t → c ∈ kn ∧ Cl p c t) (ha : EvE g L a md (tExc p) m)
    (ht : eval (.Call (.Attribute a "called" apos) [] [] pos) g.X.env = (do
      let ov ← eval a g.X.env
      standAt apos.atName
      let (f, first) ← holding [ov] (getMethod ov "called" pl)
      callWith pos f first (backTo pos (starEach [] g.X.env)) (backToKw pos (keywordEach [] g.X.env))) := by rfl) :
    EvE g L (.Call (.Attribute a "called" apos) [] [] pos) md' tStr (m.bind fun c => calledM kc c) := by
  refine PE.imp (pe_called (pl := pl) ha (ok.room.mono hk1) ht) fun σ H Q q => ?_
  obtain ⟨kp, own, at_, q⟩ := tE_iff.mp q
  refine sub finE (Same.refl H) at_ q fun c v H1 s1 r1 at1 q1 => ?_
  unfold calledM at q1
  cases hl : kc.lookup c with
  | none => rw [hl] at q1; exact q1.elim
  | some t =>
    rw [hl] at q1
    obtain ⟨hc, hC⟩ := hkc c t hl
    obtain ⟨f, fd, F, mth, bd⟩ := hC.ex
    obtain ⟨ad, rfl, hR⟩ := r1
    have hR' : L2.Rd H1 ad (ExQ (.ref (p.C c)) ad) := (RX.rdb (md := md) _ _ hR rfl).resolve_right fun z => z
    rw [← ok.prog, ← ok.w, ← ok.base] at F
    refine ⟨ad, p.C c, f, fd, _, rfl, hR', by rw [ok.K]; exact hkn.isc c hc, by rw [ok.K]; exact mth, by rw [ok.K, ok.mg]; exact F, by rw [ok.K]; exact bd, ?_⟩
    show ∃ d z, _ ∧ _ ∧ _
    refine ⟨((), ()), fun _ => False, ⟨fun _ z => z.elim, fun P e => at1.same.tab P (ok.tab P e)⟩, ⟨.ref ad, [], rfl, trivial, rfl⟩, ?_⟩
    exact fun v H' s r => q1 v H' (s1.trans s) r
end
def excCB (K : PySem.W.Frag) (D : Addr) : Bool :=
  He.eqO (PySem.W.findIn K (.ref D) "__getattribute__") (some (some (.builtin "BaseException.__getattribute__"))) && (He.eqO (PySem.W.findIn K (.ref D) "__getattr__") (some none) && (decide (PySem.W.subIn K (.ref D) (.type "BaseException") = some true) && (PySem.W.hasDictIn K D &&
    (He.eqO (PySem.W.findIn K (.ref D) "__class__") (some (some (.builtin "object.__class__"))) && (He.eqO (PySem.W.specialIn K (.builtin "object.__class__") "__get__") (some (some (.builtin "getset_descriptor.__get__"))) && (decide (PySem.W.takesIn K (.builtin "object.__class__") = some true) && decide (PySem.W.mroIn K D (.type "object") = some true)))))))
theorem excCB_ok {K : PySem.W.Frag} {D : Addr} (h : excCB K D = true) : ExcC K D := by
  obtain ⟨h1, h⟩ := He.ba h
  obtain ⟨h2, h⟩ := He.ba h
  obtain ⟨h3, h⟩ := He.ba h
  obtain ⟨h4, h⟩ := He.ba h
  obtain ⟨h5, h⟩ := He.ba h
  obtain ⟨h6, h⟩ := He.ba h
  obtain ⟨h7, h8⟩ := He.ba h
  exact ⟨He.eqO_ok h1, He.eqO_ok h2, of_decide_eq_true h3, h4, He.eqO_ok h5, He.eqO_ok h6, of_decide_eq_true h7, of_decide_eq_true h8⟩
def knB (kn : List Ec) (K : PySem.W.Frag) : Bool := kn.all fun c => excCB K (He.ga K (ecName c)) && (kn.all (fun d => decide (PySem.W.exmOne K (.ref (He.ga K (ecName c))) (.ref (He.ga K (ecName d))) = some (isB c d)) && decide (PySem.W.kitOne K (.ref (He.ga K (ecName c))) (.ref (He.ga K (ecName d))) = some (isB c d))) &&
  (decide (PySem.W.kitOne K (.ref (He.ga K (ecName c))) (.type "ValueError") = some true) && decide (PySem.W.kitOne K (.type "NoneType") (.ref (He.ga K (ecName c))) = some false)))
theorem kn_ok {kn : List Ec} {K : PySem.W.Frag} {P : Program} {w : World} {mg : Str → Option Value} {base : Heap} {T : Option Addr} (h : knB kn K = true) : Kn ⟨P, w, K, mg, base, fun c => He.ga K (ecName c), T⟩ kn := by
  have key := fun c hc => List.all_eq_true.mp h c hc
  refine ⟨fun c hc => ?_, fun c hc d hd => ?_, fun c hc d hd => ?_, fun c hc => ?_, fun c hc => ?_⟩
  · exact excCB_ok (He.ba (key c hc)).1
  · have h1 := (He.ba (He.ba (key c hc)).2).1
    exact of_decide_eq_true (He.ba (List.all_eq_true.mp h1 d hd)).1
  · have h1 := (He.ba (He.ba (key c hc)).2).1
    exact of_decide_eq_true (He.ba (List.all_eq_true.mp h1 d hd)).2
  · exact of_decide_eq_true (He.ba (He.ba (He.ba (key c hc)).2).2).1
  · exact of_decide_eq_true (He.ba (He.ba (He.ba (key c hc)).2).2).2
abbrev AlE : Type := Bool × He.AlD
def obsE (fa : List He.Fa) (fn : List He.DefD) (ex : PySem.W.Frag → Bool) (K : PySem.W.Frag) : AlE := (ex K, He.obsD fa fn K)
def obsEG (n : Nat) (fa : List He.Fa) (fn : List He.DefD) (ex : PySem.W.Frag → Bool) (g : Addr → Option Obj) : AlE := obsE fa fn ex (He.frG g (He.asD g n))
def hookE (n : Nat) (fa : List He.Fa) (fn : List He.DefD) (ex : PySem.W.Frag → Bool) : PySem.W.Hook where
  α := AlE
  obs := fun s => obsEG n fa fn ex s.heap.get?
  val := fun _ => (true, He.valD fn)
  says := fun _ h => ∃ K : PySem.W.Frag, K.In h ∧ ex K = true ∧ He.SaysD fa fn K
  of := fun _ _ e => ⟨_, He.frG_in, congrArg (fun z : AlE => z.1) e, congrArg (fun z : AlE => z.2) e⟩
  keeps := fun _ _ _ ⟨K, hK, h1, c⟩ kk => ⟨K, PySem.W.Frag.In.keeps hK kk, h1, c⟩
theorem obsEG_eq {n : Nat} {fa : List He.Fa} {fn : List He.DefD} {ex : PySem.W.Frag → Bool} {g : Addr → Option Obj} {s : Shared} (h : ∀ a, g a = s.heap.get? a) : obsEG n fa fn ex g = (hookE n fa fn ex).obs s := by
  have e : g = s.heap.get? := funext h
  rw [e]; rfl
def clsBody : Stmt → List Stmt
  | .ClassDef _ _ _ b _ _ _ _ _ _ _ => b
  | _ => []
end Hd
namespace Hd
open PySem PySem.Spec L2
theorem kc_nil {p : Pr} {kn : List Ec} : ∀ c t, ([] : List (Ec × Tx)).lookup c = some t → c ∈ kn ∧ Cl p c t := fun _ _ h => nomatch h
theorem kc_cons {p : Pr} {kn : List Ec} {c0 : Ec} {t0 : Tx} {l : List (Ec × Tx)} (h1 : c0 ∈ kn) (h2 : Cl p c0 t0) (h : ∀ c t, l.lookup c = some t → c ∈ kn ∧ Cl p c t) : ∀ c t, ((c0, t0) :: l).lookup c = some t → c ∈ kn ∧ Cl p c t := by
  intro c t e
  rw [List.lookup_cons] at e
  by_cases q : c = c0
  · subst q
    simp at e
    subst e
    exact ⟨h1, h2⟩
  · have : (c == c0) = false := by simpa using q
    rw [this] at e
    exact h c t e
end Hd
namespace Hd
open PySem PySem.Spec L2
section
variable {p : Pr} {sc : Scope} {NN VV GG : List Str} {k : Nat} {g : G} {α : Type} {S : Ty α}
variable {L : List Slot} {a b : Expr} {md md' : Md} {pos : Pos}
theorem evt_notN {m : M (Option α)} {j1 : Nat} {p1 : Pos} (ok : Ok p sc NN VV GG k g) (ha : EvE g L a md (tOpt S) m) : EvT g L (.Compare a [.IsNot] [.Constant .none j1 p1] pos) (m.bind fun d => .ok d.isSome) := by
  have h := evt_cmp (fr := true) (pos := pos) (S := tOpt S) (T := tNone) (f := fun d _ => .ok d.isSome) ok op_notN ⟨fun {d e x y R H W} rb rx ry q => ⟨ry, q _ _ (Same.refl _) (by
    show _ = V.bl _
    cases d with
    | none => cases (show x = .non from rx); rfl
    | some d => rw [decide_eq_false rx.2]; rfl)⟩⟩ (fun _ _ _ h => nomatch h) ha (ev_none (j := j1) (pos := p1)) (by first | exact nomark _ (by decide) (by decide) | rfl)
  have e : (m.bind fun d => (M.ok ()).bind fun _ => M.ok d.isSome) = m.bind fun d => .ok d.isSome := by cases m <;> rfl
  rwa [e] at h
end
end Hd
namespace Hd
open PySem PySem.Spec L2
section
end
end Hd
namespace Hd
open PySem PySem.Spec PyProof.Rows L2
section
variable {p : Pr} {sc : Scope} {NN VV GG : List Str} {k : Nat} {g : G} {L : List Slot} {a b e tg : Expr} {md md' : Md} {pos pp : Pos} {j : Nat} {α β δ : Type} {S : Ty α} {T : Ty β} {A : Ar δ}
structure HomA (A : Ar δ) (S : Ty α) (f : δ → List α) : Prop where
  r : ∀ {d vs R}, A.rep d vs R → Reps S R (f d) vs
theorem hom0 : HomA aNil S (fun _ => []) := ⟨fun {d vs R} h => by cases (show vs = [] from h); exact .nil⟩
end
end Hd
namespace Hd
open PySem PySem.Spec PyProof.Rows L2
section
end
end Hd
namespace Hd
open PySem PySem.Spec PyProof.Rows L2
section
end
end Hd
namespace Hd
open PySem PySem.Spec PyProof.Rows L2
section
end
end Hd
set_option maxHeartbeats 1000000
namespace Hd
open PySem PySem.Spec PyProof.Rows L2 RT
def IsRs (h : Heap) (a : Addr) (x : Str) (u : Tok) (i : Int) : Prop := ∃ o, h.get? a = some o ∧ o.cls = .type "reversed" ∧ o.data = .fields #[.str x u, rawInt i]
theorem IsRs.at {h h' : Heap} {a : Addr} {x : Str} {u : Tok} {i : Int} (y : IsRs h a x u i) (e : ∀ o, h.get? a = some o → h'.get? a = some o) : IsRs h' a x u i := let ⟨o, ho, r⟩ := y; ⟨o, e _ ho, r⟩
section
end
section
end
end Hd
namespace Hd
open PySem PySem.Spec PyProof.Rows L2
section
end
end Hd
namespace Hd
open PySem PySem.Spec PyProof.Rows L2
section
variable {p : Pr} {sc : Scope} {NN VV GG : List Str} {k : Nat} {g : G} {L : List Slot} {α β δ : Type} {S : Ty α} {T : Ty β} {md md' : Md} {pos : Pos} {st : List Stmt} {D : δ → Out} {i j : Nat} {x : Str} {a b c e : Expr}
inductive KReps {α : Type} (T : Ty α) (R : RdR) : List (Key × α) → List (Key × V) → Prop where
  | nil : KReps T R [] []
  | cons {k d v ds vs} : T.rep d v R → KReps T R ds vs → KReps T R ((k, d) :: ds) ((k, v) :: vs)
theorem KReps.mono {R R' : RdR} {ds : List (Key × α)} {vs : List (Key × V)} (h : KReps S R ds vs) (s : ∀ a o, R a o → R' a o) : KReps S R' ds vs := by
  induction h with
  | nil => exact .nil
  | cons r _ ih => exact .cons (S.mono r s) ih
theorem KReps.length {R : RdR} {ds : List (Key × α)} {vs : List (Key × V)} (h : KReps S R ds vs) : ds.length = vs.length := by
  induction h with
  | nil => rfl
  | cons r _ ih => simp [ih]
/-- what stands at a key -/
def dgetL {α : Type} (ds : List (Key × α)) (k : Key) : Option α := (ds.find? fun kv => decide (kv.1 = k)).map (·.2)
def dputL {α : Type} (ds : List (Key × α)) (k : Key) (d : α) : List (Key × α) := if (ds.any fun kv => decide (kv.1 = k)) = true then ds.map (fun kv => if kv.1 = k then (kv.1, d) else kv) else ds ++ [(k, d)]
theorem KReps.get {R : RdR} {ds : List (Key × α)} {vs : List (Key × V)} (h : KReps S R ds vs) (k : Key) : (dgetL ds k = none ∧ valV vs k = none) ∨ ∃ d v, dgetL ds k = some d ∧ valV vs k = some v ∧ S.rep d v R := by
  induction h with
  | nil => exact .inl ⟨rfl, rfl⟩
  | @cons k' d v ds vs r _ ih =>
    by_cases e : k' = k
    · exact .inr ⟨d, v, by simp [dgetL, List.find?_cons, e], valV_pos e, r⟩
    · have e1 : dgetL ((k', d) :: ds) k = dgetL ds k := by simp [dgetL, List.find?_cons, e]
      rw [e1, valV_neg e]
      exact ih
theorem KReps.map {R : RdR} {ds : List (Key × α)} {vs : List (Key × V)} (h : KReps S R ds vs) (k : Key) {d : α} {v : V} (r : S.rep d v R) : KReps S R (ds.map (fun kv => if kv.1 = k then (kv.1, d) else kv)) (vs.map (fun kv => if kv.1 = k then (kv.1, v) else kv)) := by
  induction h with
  | nil => exact .nil
  | @cons k' d' v' ds vs r' _ ih =>
    rw [List.map_cons, List.map_cons]
    by_cases e : k' = k
    · simp only [if_pos e]; exact .cons r ih
    · simp only [if_neg e]; exact .cons r' ih
theorem KReps.any {R : RdR} {ds : List (Key × α)} {vs : List (Key × V)} (h : KReps S R ds vs) (k : Key) : (ds.any fun kv => decide (kv.1 = k)) = (vs.any fun kv => decide (kv.1 = k)) := by
  induction h with
  | nil => rfl
  | cons r _ ih => rw [List.any_cons, List.any_cons, ih]
theorem KReps.snoc {R : RdR} {ds : List (Key × α)} {vs : List (Key × V)} (h : KReps S R ds vs) (k : Key) {d : α} {v : V} (r : S.rep d v R) : KReps S R (ds ++ [(k, d)]) (vs ++ [(k, v)]) := by
  induction h with
  | nil => exact .cons r .nil
  | cons r' _ ih => exact .cons r' ih
theorem KReps.put {R : RdR} {ds : List (Key × α)} {vs : List (Key × V)} (h : KReps S R ds vs) (k : Key) {d : α} {v : V} (r : S.rep d v R) : KReps S R (dputL ds k d) (putK vs k v) := by
  unfold dputL putK
  rw [h.any k]
  split
  · exact h.map k r
  · exact h.snoc k r
end
end Hd
namespace Hd
open PySem PySem.Spec PyProof.Rows L2
section
variable {p : Pr} {sc : Scope} {NN VV GG : List Str} {k : Nat} {g : G} {L : List Slot} {α β δ : Type} {S : Ty α} {T : Ty β} {md md' : Md} {pos : Pos} {st : List Stmt} {D : δ → Out} {i j : Nat} {x : Str} {a b c e : Expr}
theorem KReps.some {R : RdR} {ds : List (Key × α)} {vs : List (Key × V)} (h : KReps S R ds vs) (k : Key) : (valV vs k).isSome = (dgetL ds k).isSome := by
  rcases h.get k with ⟨g1, g2⟩ | ⟨d, v, g1, g2, _⟩ <;> rw [g1, g2] <;> rfl
end
end Hd
namespace Hd
open PySem PySem.Spec PyProof.Rows L2
section
end
end Hd
namespace Hd
open PySem PySem.Spec PyProof.Rows L2
section
end
end Hd
namespace Hd
open PySem PySem.Spec PyProof.Rows L2
section
end
section
end
end Hd
namespace Hd
open PySem PySem.Spec PyProof.Rows L2
section
end
section
open LamX
end
section
end
section
open LamX
end
section
open LamX
end
end Hd
namespace Hd
open PySem PySem.Spec L2
end Hd
namespace Hd
open PySem PySem.Spec PyProof.Rows L2
section
end
end Hd
namespace Hd
open PySem PySem.Spec PyProof.Rows L2
section
end
end Hd
namespace Hd
open PySem PySem.Spec PyProof.Rows L2
section
end
section
end
end Hd
namespace Hd
open PySem PySem.Spec PyProof.Rows L2
section
end
end Hd
namespace Hd
open PySem PySem.Spec PyProof.Rows L2
section
end
end Hd
namespace Hd
open PySem PySem.Spec PyProof.Rows L2
end Hd
namespace Hd
open PySem PySem.Spec PyProof.Rows L2
def tHl {δ : Type} (A : Ar δ) : Ty δ := ⟨fun d v R => ∃ a vs, v = .ref a ∧ R a (.lst vs) ∧ A.rep d vs R, fun ⟨a, vs, e, r, h⟩ s => ⟨a, vs, e, s _ _ r, A.mono h s⟩⟩
section
variable {α δ : Type} {p : Pr} {sc : Scope} {NN VV GG : List Str} {k : Nat} {g : G} {L : List Slot} {md : Md} {pos : Pos} {S : Ty α} {A : Ar δ} {es : List Expr} {a b : Expr}
theorem ev_hl {m : M δ} (hl : ∀ d vs R, A.rep d vs R → vs.length ≤ 1000) (ha : EvA g L es md A m) : EvE g L (.List es pos) md (tHl A) m := by
  refine PE.imp (pe_lst ha) fun σ H Q q => ?_
  obtain ⟨kp, own, at_, q⟩ := tE_iff.mp q
  refine tA_iff.mpr ⟨kp, own, at_, ?_⟩
  cases m with
  | ok d => exact fun vs H1 s1 r1 => ⟨Nat.le_trans (hl _ _ _ r1) (by decide), fun p hp => q _ _ (s1.trans (newSame hp)) ⟨p, vs, rfl, newRX (at_.ext s1) s1 hp, A.mono r1 (RX.same (newSame hp))⟩⟩
  | ex c => exact q
  | no => exact q
theorem ev_hlIx {n : Int} {f : δ → α} {m : M δ} (ok : Ok p sc NN VV GG k g) (hA : ArAt A n S f) (ha : EvE g L a md (tHl A) m) (hb : EvE g L b md tInt (.ok n)) (hs : PlainIx b := by exact fun _ _ => rfl) : EvE g L (.Subscript a b pos) md S (m.bind fun t => .ok (f t)) :=
  ev_ix (S := tHl A) (r := rIxL p.K) (m2 := .ok ()) (f := fun t _ => .ok (f t)) (T := tLit n) (fr := false) ok (by rw [← ok.K]; exact ix_list) ⟨fun {d e x y R H Q} rb ⟨a, vs, ex, h, r⟩ ry q => by
    obtain ⟨v, h1, h2⟩ := hA.get r
    refine ⟨a, vs, n, v, ex, ry, sq_of rb h, ?_, q _ _ (Same.refl _) (S.mono h2 (Nw.old rfl))⟩
    have := atI_nat (xs := vs) (j := n.toNat) h1
    rwa [Int.toNat_of_nonneg hA.nat] at this⟩ (fun _ _ _ h => nomatch h) .same ha (ev_lit hb) hs
def dHl (E : DeepA A) : Deep (tHl A) := ⟨fun d => .list (E.pd d), E.dp + 1, fun {K ds v R H} rb ⟨a, vs, e, h, r⟩ => by
    subst e
    obtain ⟨h1, h2⟩ := E.rep rb r
    exact ⟨.lst (.inl ((rb _ _ h rfl).resolve_right fun z => z)) h1, h2⟩, fun ds => by simp only [PyData.depth]; have := E.dep ds; omega, fun d e => by
    simp only [PyData.eqv]
    exact E.eqv d e⟩
end
end Hd
namespace Hd
open PySem PySem.Spec L2
section
end
end Hd
namespace Hd
open PySem PySem.Spec PyProof.Rows L2
section
end
section
end
end Hd
namespace Hd
open PySem PySem.Spec L2
/-- a field: its name, its kind, its worth -/
structure FldS : Type 1 where
  n : Str
  α : Type
  T : Ty α
  d : α
inductive FsR (R : RdR) : List FldS → List (Str × V) → Prop where
  | nil : FsR R [] []
  | cons {s : FldS} {l v fs} : s.T.rep s.d v R → FsR R l fs → FsR R (s :: l) ((s.n, v) :: fs)
section
variable {R R' : RdR} {l l' : List FldS} {fs fs' : List (Str × V)}
theorem FsR.mono (h : FsR R l fs) (s : ∀ a o, R a o → R' a o) : FsR R' l fs := by
  induction h with
  | nil => exact .nil
  | cons r _ ih => exact .cons (Ty.mono _ r s) ih
theorem FsR.snoc {s : FldS} {v : V} (h : FsR R l fs) (r : s.T.rep s.d v R) : FsR R (l ++ [s]) (fs ++ [(s.n, v)]) := by
  induction h with
  | nil => exact .cons r .nil
  | cons q _ ih => exact .cons q ih
theorem FsR.length (h : FsR R l fs) : l.length = fs.length := by
  induction h with
  | nil => rfl
  | cons _ _ ih => simp [ih]
theorem FsR.none {f : Str} (h : FsR R l fs) (hn : l.all (fun s => !(f == s.n)) = true) : fs.lookup f = none := by
  induction h with
  | nil => rfl
  | @cons s l v fs _ _ ih =>
    rw [List.all_cons, Bool.and_eq_true] at hn
    rw [List.lookup_cons]
    have : (f == s.n) = false := by simpa using hn.1
    rw [this]
    exact ih hn.2
theorem putF_new {f : Str} {y : V} : ∀ {fs : List (Str × V)}, fs.lookup f = none → putF f y fs = fs ++ [(f, y)]
  | [], _ => rfl
  | (g, x) :: r, h => by
    rw [List.lookup_cons] at h
    by_cases e : g = f
    · subst e; simp at h
    · have e2 : (f == g) = false := by simpa using fun z => e z.symm
      rw [e2] at h
      show (if g = f then _ else (g, x) :: putF f y r) = _
      rw [if_neg e, putF_new h]; rfl
end
/-- the field f is there -/
inductive FAt {β : Type} (f : Str) (T : Ty β) (d : β) : List FldS → Prop where
  | here {l} : FAt f T d (⟨f, β, T, d⟩ :: l)
  | there {s l} {n : Str} : s.n = n → (f == n) = false → FAt f T d l → FAt f T d (s :: l)
theorem FAt.get {β : Type} {f : Str} {T : Ty β} {d : β} {R : RdR} {l : List FldS} (h : FAt f T d l) : ∀ {fs : List (Str × V)}, FsR R l fs → ∃ v, fs.lookup f = some v ∧ T.rep d v R := by
  induction h with
  | here =>
    intro fs r
    cases r with
    | cons q _ => exact ⟨_, by rw [List.lookup_cons]; simp, q⟩
  | there e0 e _ ih =>
    subst e0
    intro fs r
    cases r with
    | cons _ q =>
      obtain ⟨v, h1, h2⟩ := ih q
      exact ⟨v, by rw [List.lookup_cons, e]; exact h1, h2⟩
/-- an object of the class at C -/
def tIns {δ : Type} (C : Addr) (fl : δ → List FldS) : Ty δ := ⟨fun d v R => ∃ a dx fs, v = .ref a ∧ R a (.ins C dx fs) ∧ FsR R (fl d) fs, fun ⟨a, dx, fs, e, r, h⟩ s => ⟨a, dx, fs, e, s _ _ r, h.mono s⟩⟩
/-- the address of a class -/
abbrev cA (p : Pr) (c : Str) : Addr := He.ga p.K c
section
variable {X : Cx} {pins : List (Addr × Obj)} {σ : L2.St} {H : Hp} {s : Shared} {a C dx : Addr} {fs : List (Str × V)} {f : Str} {v : V} {A : Around} {E : Value → Shared → Prop}
theorem ins_getR {P : Program} {w : World} {h : Heap} (x : ObjOk P w H h a (.ins C dx fs)) : ∃ mA, ObjM h a dx C mA ∧ (∀ f, RelO (fs.lookup f) (mA f)) := by
  obtain ⟨d, z, ne, ob, mA, n, r, q⟩ := x
  exact ⟨mA, ⟨ob, n, ne⟩, r⟩
theorem getattr_rd {b : Bool} {Q : Value → Shared → Prop} (I : Inv X pins σ H s) (e : L2.Rd H a (.ins C dx fs)) (c : Cls X.K C) (n : NoAttr X.K C f) (l : fs.lookup f = some v)
    (h : ∀ u s', Inv X pins σ H s' → RelV v u → Q u s') : wpAny (model X.prog X.w) A (getAttr (.ref a) f b) Q E s := by
  obtain ⟨mA, O, r⟩ := ins_getR (e.ok I.hok)
  obtain ⟨u, hu, ru⟩ := RelO.some_of (v := v) (o := mA f) (by rw [← l]; exact r f)
  exact get_map I.kIn O (c.get f) c.hd n hu (handed_of ru) (h u _ (I.tok _) ru)
def tFldR (K : PySem.W.Frag) (ta : TE) (f : Str) : TE := fun σ H Q => ta σ H fun x H1 => ∃ a C dx fs v, x = .ref a ∧ L2.Rd H1 a (.ins C dx fs) ∧ Cls K C ∧ NoAttr K C f ∧ fs.lookup f = some v ∧ Q v H1
theorem pe_fldR {e : Expr} {pos : Pos} {ta : TE} (he : PE X e ta) (hb : attributeBase e f X.env (eval e X.env) = eval e X.env) : PE X (.Attribute e f pos) (tFldR X.K ta f) := by
  refine ⟨fun pins s σ H Q I h => ?_⟩
  refine attr_of hb (thn (he.run pins s σ H _ I h) fun u s1 ⟨x, H1, I1, rx, a, C, dx, fs, v, ex, ea, c, n, l, q⟩ => ?_)
  subst ex
  obtain rfl : u = Value.ref a := rx
  exact getattr_rd I1 ea c n l fun u' s2 I2 ru => ⟨v, H1, I2, ru, q⟩
theorem run_makeS {k : Nat} {f : Addr} {fd : FuncData} {ps : List Str} {sp : Sp} {E : XK} {CX' : CXT} {Q : VK} {us : List Value} {vs : List V} (M : Mk X.K C f) (F : FnOk X.prog X.w X.K X.mg X.base CX' k f fd ps sp) (hr : Room (k + 1) X.A) (hb : Binds X.K fd ps [])
    (hx : PassesAt CX' X σ E) (I : Inv X pins σ H s) (r : Vals vs us)
    (h : ∀ x dx, H x = none → H dx = none → dx ≠ x → sp (.ref x :: vs) (upd (upd H dx (.own x)) x (.ins C dx [])) (fun v H2 => v = .non ∧ Q (.ref x) H2) E) :
    wpAny (model X.prog X.w) X.A (call (.ref C) us) (EP X pins σ Q) X.xe s := by
  have hq := h (s.heap.objs.size + 1) s.heap.objs.size (I.hok.fresh (Nat.le_succ _)) (I.hok.fresh (Nat.le_refl _)) (Nat.ne_of_lt (Nat.lt_succ_self _))
  have I2 := Inv.made (C := C) I
  have r2 : Vals (V.ref (s.heap.objs.size + 1) :: vs) (Value.ref (s.heap.objs.size + 1) :: us) := .cons rfl r
  have hl : (Value.ref (s.heap.objs.size + 1) :: us).length = ps.length := by
    have e := r2.length
    rw [F.len _ _ _ _ hq] at e
    exact e.symm
  have hbb := hb _ (Value.ref (s.heap.objs.size + 1) :: us) I2.kIn (by rw [List.append_nil]; exact hl)
  rw [List.append_nil] at hbb
  refine wpAny_call (make_map (f := f) I.kIn M.makes M.init (beq_iff_eq.mp M.fn) (codeAny_mono (F.run _ X.stack _ _ ⟨Value.ref (s.heap.objs.size + 1) :: us, []⟩ (Value.ref (s.heap.objs.size + 1) :: us) _ _ E (hr.make C us [])
    (I2.env0.make C us []) hbb r2 hq) fun r s' hq' => ?_))
  cases r with
  | error e => exact hx pins _ _ e s' I2 hq'
  | ok fl =>
    cases fl with
    | ret u =>
      obtain ⟨v, H', I3, rv, ev, q3⟩ := I2.after hq'
      subst ev
      exact ⟨rv, ⟨V.ref (s.heap.objs.size + 1), H', I3, rfl, q3⟩⟩
    | next => exact False.elim hq'
    | brk => exact False.elim hq'
    | cont => exact False.elim hq'
def tMakeS (C : Addr) (sp : Sp) (E : L2.St → XK) (t : TA) : TE := fun σ H Q => t σ H fun vs H1 => ∀ x dx, H1 x = none → H1 dx = none → dx ≠ x →
  sp (.ref x :: vs) (upd (upd H1 dx (.own x)) x (.ins C dx [])) (fun v H2 => v = .non ∧ Q (.ref x) H2) (E σ)
theorem pe_makeS {k : Nat} {e : Expr} {es : List Expr} {x : Str} {pos p : Pos} {t : TA} {f : Addr} {fd : FuncData} {ps : List Str} {sp : Sp} {E : L2.St → XK} {CX' : CXT} (M : Mk X.K C f) (F : FnOk X.prog X.w X.K X.mg X.base CX' k f fd ps sp) (hr : Room (k + 1) X.A) (hg : Gl X x) (hm : X.mg x = some (.ref C)) (hb : Binds X.K fd ps []) (hx : ∀ σ, PassesAt CX' X σ (E σ))
    (ha : PA X (e :: es) t) (hdb : (x == ("__debug__" : Str)) = false := by decide) (he : starEach (e :: es) X.env = (false, eval e X.env) :: starEach es X.env := by rfl) (hpl : (backTo pos (starEach es X.env)).any (·.1) = false := by rfl) :
    PE X (.Call (.Name x p) (e :: es) [] pos) (tMakeS C sp E t) := by
  refine ⟨fun pins s σ H Q I h => ?_⟩
  refine wpAny_Call_Name_kw (ld_glob I hg hm ?_ hdb)
  refine PySem.W.callWith_K (h₀ := X.base) I.ok.mod.kin M.kp (thn (ha.run pos pins s σ H _ I h) fun us s1 ⟨vs, H1, I1, r, q⟩ => ⟨I1.kIn, ?_⟩) he hpl
  exact run_makeS M F hr hb (hx σ) I1 r q
end
def sSelf (x C : Addr) (l : List FldS) : Slot := ⟨fun v H R F => ∃ dx fs, v = some (.ref x) ∧ F = [x] ∧ H x = some (.ins C dx fs) ∧ FsR (R false) l fs,
  fun ⟨dx, fs, e, f, h, r⟩ s k => ⟨dx, fs, e, f, by rw [k x (by simp [f])]; exact h, r.mono (s false)⟩, fun ⟨dx, fs, e, f, h, r⟩ q hq => by subst f; rw [List.mem_singleton.mp hq, cl_of h]; exact fun z => nomatch z⟩
section
variable {p : Pr} {sc : Scope} {NN VV GG : List Str} {k : Nat} {g : G} {L : List Slot} {a b c e e' : Expr} {es : List Expr} {md md' : Md} {α β γ δ ρ : Type} {S : Ty α} {T : Ty β} {U : Ty γ} {A : Ar δ} {pos : Pos} {i j : Nat} {x f : Str} {pp : Pos} {C : Addr}
variable {st : List Stmt} {D : δ → Out} {d : δ}
theorem At.mutS {fm : Fm} {kp : RdR} {σ : L2.St} {H : Hp} {own : List Addr} {q : Addr} {l : List FldS} {i : Nat} (h : At fm kp L σ H own) (hL : L[i]? = some (sSelf q C l)) :
    ∃ dx fs, σ[i]? = some (some (.ref q)) ∧ H q = some (.ins C dx fs) ∧ FsR (RB fm own H false) l fs ∧ ∀ l' fs', FsR (RB fm own H false) l' fs' → At fm kp (L.set i (sSelf q C l')) σ (upd H q (.ins C dx fs')) own := by
  obtain ⟨h1, h2, ⟨Fs, h3, rfl⟩, h4, h5, h6⟩ := h
  obtain ⟨v, F, e1, e2, dx, fs, rfl, rfl, hp, r⟩ := h3.get hL
  have qin : q ∈ Fs.flatten := List.mem_flatten.mpr ⟨[q], List.mem_of_getElem? e2, by simp⟩
  refine ⟨dx, fs, e1, hp, r, fun l' fs' r' => ?_⟩
  have key : ∀ (md : Md) a o, RX fm Fs.flatten H H md a o → RX fm Fs.flatten (upd H q (.ins C dx fs')) (upd H q (.ins C dx fs')) md a o ∨ md = .fx := fun md a o z => by
    cases md with
    | sh =>
      rcases z with z | z
      · have n : a ≠ q := fun e => z.2.1 (by rw [e]; exact qin)
        refine .inl (.inl ⟨?_, z.2⟩)
        unfold Rd
        rw [cl_upd_ne n]
        exact z.1
      · exact .inl (.inr z)
    | f0 =>
      have n : a ≠ q := fun e => z.2.1 (by rw [e]; exact qin)
      exact .inl ⟨by rw [cl_upd_ne n]; exact z.1, z.2⟩
    | fx => exact .inr rfl
  have keyB : ∀ (b : Bool) a o, RB fm Fs.flatten H b a o → RB fm Fs.flatten (upd H q (.ins C dx fs')) b a o := fun b a o z => by
    cases b with
    | false => exact (key .sh a o z).resolve_right (fun e => nomatch e)
    | true => exact (key .f0 a o z).resolve_right (fun e => nomatch e)
  have up : ∀ a, H a ≠ none → upd H q (.ins C dx fs') a ≠ none := fun a n => by
    by_cases e : a = q
    · rw [e, upd_same]; exact fun z => by cases z
    · rw [upd_ne e]; exact n
  refine ⟨h1.wr (h5 q qin).2.1 hp (fun _ z => nomatch z) rfl, fun a z => up a (h2 a z), ⟨Fs, ?_, rfl⟩, h4, fun x hx => ⟨up x (h5 x hx).1, (h5 x hx).2⟩, fun a o z => (key .sh a o (h6 a o z)).resolve_right (fun e => nomatch e)⟩
  · have gen : ∀ {L : List Slot} {σ : L2.St} {Fs' : List (List Addr)}, AllS H (RB fm Fs.flatten H) L σ Fs' → Fs'.flatten.Nodup → ∀ {i : Nat}, Fs'[i]? = some [q] → L[i]? = some (sSelf q C l) → σ[i]? = some (some (V.ref q)) →
        AllS (upd H q (.ins C dx fs')) (RB fm Fs.flatten (upd H q (.ins C dx fs'))) (L.set i (sSelf q C l')) σ Fs' := by
      intro L σ Fs' hA
      induction hA with
      | nil => intro _ i e _ _; simp at e
      | @cons sl L v σ F Fs' r t ih =>
        intro nd i e eL eσ
        rw [List.flatten_cons, List.nodup_append] at nd
        cases i with
        | zero =>
          simp at e eL eσ
          subst e; subst eL; subst eσ
          refine .cons ⟨dx, fs', rfl, rfl, upd_same, r'.mono (keyB false)⟩ (t.st keyB fun x hx => ?_)
          exact upd_ne fun z => nd.2.2 q (by simp) x hx z.symm
        | succ i =>
          have e' : Fs'[i]? = some [q] := by simpa using e
          refine .cons (sl.st r keyB fun x hx => upd_ne fun z => nd.2.2 x hx q (List.mem_flatten.mpr ⟨[q], List.mem_of_getElem? e', by simp⟩) z) (ih nd.2.1 e' (by simpa using eL) (by simpa using eσ))
    exact gen h3 h4 e2 hL e1
/-- self.f = e -/
theorem evb_fld {q : Addr} {l : List FldS} {m : M β} {h : β → M δ} {p1 p2 : Pos} {y : Str} (ok : OkS p sc NN VV GG k g) (wk : Wk L g.LX) (hN : NN[i]? = some y) (hV : VV[j]? = some y) (hL : L[i]? = some (sSelf q C l)) (hc : Cls p.K C) (hn : NoAttr p.K C f) {nm : List Str} (hnm : l.map (·.n) = nm) (hf : nm.all (fun n => !(f == n)) = true) (hl : nm.length ≤ 100)
    (he : EvE g L e md T m) (hr : ∀ d, EvB g (L.set i (sSelf q C (l ++ [⟨f, β, T, d⟩]))) st D (h d)) (hs : swapsWith e (some (.Attribute (.Name y p1) f p2)) pos.line g.X.env = pure false := by rfl) :
    EvB g L (.Assign [.Attribute (.Name y p1) f p2] e pos :: st) D (m.bind h) := by
  have hl : l.length ≤ 100 := by rw [← hnm, List.length_map] at hl; exact hl
  have hf : l.all (fun s => !(f == s.n)) = true := by rw [← hnm, List.all_map] at hf; exact hf
  obtain ⟨hv, ho⟩ := ok.vis hV
  obtain ⟨h1, h2, _⟩ := okName_d ho
  refine PSs.imp (pss_cons (ps_fld (pe_var (i := i) (by rw [ok.N]; exact hN) hv h1 h2) he hs) (PSs.ex hr)) fun E σ H ⟨kp, own, at_, q1⟩ => ?_
  refine tE_iff.mpr ⟨kp, own, at_, ?_⟩
  cases m with
  | ok d =>
    intro v H1 s1 r1
    have a1 := at_.ext s1
    obtain ⟨dx, fs, e1, hp, rr, mu⟩ := a1.mutS hL
    have hfn := rr.none hf
    refine ⟨_, e1, q, C, dx, fs, rfl, hp, by rw [ok.K]; exact hc, by rw [ok.K]; exact hn, by rw [← rr.length]; omega, ?_⟩
    rw [putF_new hfn]
    exact ⟨d, kp, own, mu _ _ (rr.snoc (s := ⟨f, β, T, d⟩) (T.mono r1 fun a o z => (SlB.sh (x := md)).rb a o z)), q1⟩
  | ex c => exact BOk.exx wk at_ q1
  | no => exact q1
/-- o.f -/
theorem ev_fld {fl : δ → List FldS} {pr : δ → β} {m : M δ} (ok : Ok p sc NN VV GG k g) (hc : Cls p.K C) (hn : NoAttr p.K C f) (hA : ∀ d, FAt f T (pr d) (fl d)) (ha : EvE g L e md (tIns C fl) m)
    (hb : attributeBase e f g.X.env (eval e g.X.env) = eval e g.X.env := by rfl) : EvE g L (.Attribute e f pos) md T (m.bind fun d => .ok (pr d)) := by
  refine PE.imp (pe_fldR ha hb) fun σ H Q q => ?_
  obtain ⟨kp, own, at_, q⟩ := tE_iff.mp q
  refine sub finE (Same.refl H) at_ q fun d v H1 s1 r1 at1 q1 => ?_
  obtain ⟨ad, dx, fs, rfl, hR, rr⟩ := r1
  obtain ⟨w, hw, rw_⟩ := (hA d).get rr
  have hR' : L2.Rd H1 ad (.ins C dx fs) := (RX.rdb (md := md) _ _ hR rfl).resolve_right fun z => z
  exact ⟨ad, C, dx, fs, w, rfl, hR', by rw [ok.K]; exact hc, by rw [ok.K]; exact hn, hw, q1 w H1 s1 rw_⟩
/-- what __init__ promises -/
def spI (p : Pr) {δ ρ : Type} (C : Addr) (A : Ar δ) (fl : ρ → List FldS) (F : δ → M ρ) : Sp := fun vs H Q E => ∃ x dx H1 vs', vs = .ref x :: vs' ∧ H1 x = none ∧ H1 dx = none ∧ dx ≠ x ∧ H = upd (upd H1 dx (.own x)) x (.ins C dx []) ∧
  ∃ d z, ((∀ a, z a → H1 a ≠ none) ∧ ∀ P, p.T = some P → LamX.TabS H1 P lamQ) ∧ A.rep d vs' (RD ⟨p.K, H1, z⟩ [] H1) ∧
  match F d with
  | .ok r => ∀ H' dx' fs, Same H1 H' → H' x = some (.ins C dx' fs) → FsR (RX ⟨p.K, H1, z⟩ [x] H' H' .sh) (fl r) fs → Q .non H'
  | .ex c => ∀ H', Same H1 H' → E (.ref (p.C c)) none H'
  | .no => False
theorem fn_init {qual : Str} {st : Stmt} {f : Addr} {fd : FuncData} {ps : List Str} {L0 : δ → List Slot} {n m : Nat} {LE : List Slot} {fl : ρ → List FldS} {F : δ → M ρ} (hF : FunD p.K "__init__" qual (defArgs st) (defBody st) (defScope st) [] [] f fd) (hS : Sc st NN VV ("self" :: ps) GG) (ha : ArS A n L0) (hn : ps.length = n) (hm : n + 1 + m = NN.length)
    (hb : ∀ x g, OkS p (defScope st) NN VV GG k g → g.LX = List.replicate NN.length sAny → ∀ d, EvB g (sSelf x C [] :: (L0 d ++ List.replicate m sAny)) (defBody st) (fun r => .nx (sSelf x C (fl r) :: LE)) (F d)) :
    FnOk p.P p.w p.K p.mg p.base (L2.CX p.P p.w) (k + 1) f fd ("self" :: ps) (spI p C A fl F) := by
  refine hF.ok hS.S (fun vs H Q E h => ?_) (fun cdv A' outer s H vs Q E hr h => ?_)
  · obtain ⟨x, dx, H1, vs', rfl, _, _, _, _, d, z, _, hrep, _⟩ := h
    have := (ha.all (H := H1) (R := fun _ => RD ⟨p.K, H1, z⟩ [] H1) hrep).1
    simp [this, hn]
  · obtain ⟨x, dx, H1, vs', rfl, nx, ndx, ne, rfl, d, z, ⟨hz, htab⟩, hrep, q⟩ := h
    have hlen : vs'.length = n := (ha.all (H := H1) (R := fun _ => RD ⟨p.K, H1, z⟩ [] H1) hrep).1
    have sm : Same H1 (upd (upd H1 dx (.own x)) x (.ins C dx [])) := (newSame ndx).trans (newSame (by rw [upd_ne (Ne.symm ne)]; exact nx))
    let X : Cx := cxOf (L2.CX p.P p.w) p.P p.w p.K p.mg p.base NN qual (defScope st) f cdv A' outer s (upd (upd H1 dx (.own x)) x (.ins C dx [])) E
    let g : G := ⟨X, ⟨p.K, H1, z⟩, fun c _ H' => E (.ref (p.C c)) none H', List.replicate NN.length sAny⟩
    have hN : ∀ {j : Nat} {y : Str}, VV[j]? = some y → y ∈ VV := fun e => List.mem_of_getElem? e
    have ok : OkS p (defScope st) NN VV GG k g :=
      { prog := rfl, w := rfl, K := rfl, mg := rfl, base := rfl, N := rfl, fmK := rfl, tab := htab, room := hr, nd := hS.S.nd
        vis := fun e => let h := seenB_v (List.all_eq_true.mp hS.vis _ (hN e)); ⟨h.2, h.1⟩
        gl := fun e => let h := glB_v (List.all_eq_true.mp hS.gl _ (List.mem_of_getElem? e)); ⟨h.2, h.1⟩
        tk := Takes.imp (takes_of (X := X) rfl rfl rfl (E := E) rfl) (fun cls d σ H ⟨c, e1, e2, h⟩ => by subst e1; subst e2; exact h)
        calm := rfl
        blk := fun h => blkOk_by h
        loc := fun e => locB_v (List.all_eq_true.mp hS.loc _ (hN e))
        fnT := fun _ => rfl
        psO := passes_of (X := X) rfl
        scp := rfl
        stk := rfl
        frm := rfl
        exn := rfl }
    have nz : ¬ z x := fun h => hz x h nx
    refine ⟨_, hb x g ok rfl d, (fun _ _ => False), [x], ?_, ?_⟩
    · refine ⟨sm, fun a h => fun e => hz a h (sm.free e), ⟨[x] :: (List.replicate n [] ++ List.replicate m []), ?_, by simp [flat_rep]⟩, by simp, fun a h => ?_, fun _ _ h => h.elim⟩
      · have h1 := (ha.all (H := H1) (R := RB ⟨p.K, H1, z⟩ [] H1) hrep).2
        have e : L2.start NN (V.ref x :: vs') = some (V.ref x) :: (vs'.map some ++ List.replicate m none) := by
          unfold L2.start
          rw [show NN.length - (V.ref x :: vs').length = m by simp; omega]
          rfl
        rw [e]
        refine .cons ⟨dx, [], rfl, rfl, upd_same, .nil⟩ (AllS.append (h1.st (fun b a o r => ?_) fun q hq => ?_) (AllS.anys m))
        · have out : ∀ {a : Addr} {o : HO}, cl H1 a = some o → a ∉ [x] := fun h hm => by
            rw [List.mem_singleton.mp hm] at h
            rw [cl_none nx] at h; cases h
          cases b with
          | false =>
            rcases r with ⟨r1, _, r3⟩ | r
            · refine .inl ⟨Rd.same sm r1, ?_, r3⟩
              rcases r1 with r1 | ⟨_, r1⟩ <;> exact out r1
            · exact .inr r
          | true => exact ⟨sm.cl _ _ r.1, out r.1, r.2.2⟩
        · rw [flat_rep] at hq; cases hq
      · rw [List.mem_singleton.mp h]
        exact ⟨by rw [upd_same]; exact (fun z => by cases z), nx, nz⟩
    · cases hF' : F d with
      | ok r =>
        rw [hF'] at q
        intro σ H' own at_
        obtain ⟨Fs, h3, e3⟩ := at_.sl
        obtain ⟨v, F', e1, e2, dx', fs, _, rfl, hp, rr⟩ := h3.get (i := 0) (s := sSelf x C (fl r)) rfl
        have xin : x ∈ own := by rw [e3]; exact List.mem_flatten.mpr ⟨[x], List.mem_of_getElem? e2, by simp⟩
        exact q H' dx' fs at_.same hp (rr.mono fun a o zz => RX.own (own' := [x]) (fun y hy => by rw [List.mem_singleton.mp hy]; exact xin) a o zz)
      | ex c =>
        rw [hF'] at q
        exact fun σ' H' own a' => q H' a'.same
      | no => rw [hF'] at q; exact q
/-- a class that is made by its __init__ -/
structure MkF (p : Pr) (k : Nat) (c : Str) (ps : List Str) (sp : Sp) : Prop where
  ex : ∃ (f : Addr) (fd : FuncData), FnOk p.P p.w p.K p.mg p.base (L2.CX p.P p.w) k f fd ("self" :: ps) sp ∧ Mk p.K (cA p c) f ∧ p.mg c = some (.ref (cA p c)) ∧ Binds p.K fd ("self" :: ps) []
theorem ev_make {kf : Nat} {c : Str} {ps : List Str} {fl : ρ → List FldS} {F : δ → M ρ} {m : M δ} (ok : Ok p sc NN VV GG k g) (hf : MkF p kf c ps (spI p (cA p c) A fl F)) (hk : kf + 1 ≤ k) (hG : GG[j]? = some c)
    (ha : EvA g L (e :: es) md A m) (he : starEach (e :: es) g.X.env = (false, eval e g.X.env) :: starEach es g.X.env := by rfl) (hpl : (backTo pos (starEach es g.X.env)).any (·.1) = false := by rfl) :
    EvE g L (.Call (.Name c pp) (e :: es) [] pos) .sh (tIns (cA p c) fl) (m.bind F) := by
  obtain ⟨f, fd, hF, hmk, hmg, hbd⟩ := hf.ex
  obtain ⟨hg, ho⟩ := ok.gl hG
  rw [← ok.prog, ← ok.w, ← ok.base] at hF
  have hF' : FnOk g.X.prog g.X.w g.X.K g.X.mg g.X.base (L2.CX g.X.prog g.X.w) kf f fd ("self" :: ps) (spI p (cA p c) A fl F) := by rw [ok.K, ok.mg]; exact hF
  refine PE.imp (pe_makeS (C := cA p c) (by rw [ok.K]; exact hmk) hF' (ok.room.mono hk) hg (by rw [ok.mg]; exact hmg) (by rw [ok.K]; exact hbd) (tk_at ok) ha (okName_d ho).1 he hpl) fun σ H Q q => ?_
  obtain ⟨kp, own, at_, q⟩ := tE_iff.mp q
  refine subA finE (Same.refl H) at_ q fun d vs H1 s1 r1 at1 q1 => fun x dx nx ndx ne => ⟨x, dx, H1, vs, rfl, nx, ndx, ne, rfl, d, fun a => a ∈ own ∨ g.fm.z a, ⟨fun a z => ?_, fun P e => at1.same.tab P (ok.tab P e)⟩, ?_, ?_⟩
  · rcases z with z | z
    · exact (at1.new a z).1
    · exact at1.zin a z
  · rw [← ok.fmK]; exact args_in r1
  · rw [← ok.fmK]
    cases hd : F d with
    | ok r =>
      rw [hd] at q1
      refine fun H' dx' fs s hx rr => ⟨rfl, q1 _ H' (s1.trans s) ⟨x, dx', fs, rfl, .inl ⟨.inl (cl_of hx), fun z => (at1.new x z).1 nx, fun z => at1.zin x z nx⟩, rr.mono fun a o z => ?_⟩⟩
      have := CaMd.sh.rx (q := some x) s1 at_.same a o z
      exact RX.own (own' := own) (fun y hy => List.mem_cons_of_mem _ hy) a o this
    | ex c =>
      rw [hd] at q1
      exact fun H' s => ⟨c, rfl, rfl, q1 H' (s1.trans s)⟩
    | no => rw [hd] at q1; exact q1
/-- a method, as its callers know it -/
structure MeF (p : Pr) (k : Nat) (c m : Str) (ps : List Str) (sp : Sp) : Prop where
  ex : ∃ (f : Addr) (fd : FuncData), FnOk p.P p.w p.K p.mg p.base (L2.CX p.P p.w) k f fd ("self" :: ps) sp ∧ Cls p.K (cA p c) ∧ Meth p.K (cA p c) m f ∧ Binds p.K fd ("self" :: ps) []
end
end Hd
namespace Hd
open PySem PySem.Spec PyProof.Rows L2
def tLn : Ty Int := ⟨fun n v R => ∃ a vs, v = .ref a ∧ R a (.lst vs) ∧ (vs.length : Int) = n, fun ⟨a, vs, e, r, h⟩ s => ⟨a, vs, e, s _ _ r, h⟩⟩
section
variable {p : Pr} {sc : Scope} {NN VV GG : List Str} {k : Nat} {g : G} {L : List Slot} {α δ : Type} {S : Ty α} {A : Ar δ} {md md' : Md} {pos pp : Pos} {j : Nat} {e tg : Expr}
theorem homN {f : δ → List Int} (h : HomA A tLn f) : HomA (aCons (tList S) A) tLn (fun d => (d.1.length : Int) :: f d.2) := ⟨fun {d vs R} q => by
  obtain ⟨v, r, e, ⟨a, ws, e1, h1, h3⟩, h2⟩ := q
  subst e
  exact .cons ⟨a, ws, e1, h1, by rw [h3.length]⟩ (h.r h2)⟩
theorem evi_hlH {f : δ → List α} {m : M δ} (ok : Ok p sc NN VV GG k g) (hA : HomA A S f) (he : EvE g L e md (tHl A) m) : EvI g L tg e S (m.bind fun d => .ok (f d)) :=
  evi_list (S := S) ok (ev_as (S := tHl A) (T := tList S) (d2 := f) (fun d v R ⟨a, vs, e, h, r⟩ => ⟨a, vs, e, h, hA.r r⟩) he)
theorem ev_lenN {mx : M Int} (ok : Ok p sc NN VV GG k g) (hG : GG[j]? = some "len") (hmg : p.mg "len" = none) (ha : EvE g L e md tLn mx) (hs : starEach [e] g.X.env = (false, eval e g.X.env) :: starEach [] g.X.env := by rfl) : EvE g L (.Call (.Name "len" pp) [e] [] pos) md' tInt (mx.bind fun n => .ok n) := by
  have h := ev_callB (md' := md') (U := tInt) (A := aCons tLn aNil) (f := fun d => .ok d.1) (fr := true) (pos := pos) (pp := pp) ok call_len_seq ⟨fun {d xs R H Q} rb ⟨v, r, e1, ⟨a, vs, e2, h, rr⟩, e3⟩ q => by
    subst e1; cases (show r = [] from e3)
    exact ⟨a, vs, by rw [e2], .inl (by rw [ok.K]; exact sq_of rb h), q _ _ (Same.refl _) (by show _ = V.int _; rw [rr])⟩⟩ (fun _ _ h => nomatch h) .fresh hG hmg PySem.boot_len (eva_cons ha eva_nil hs) hs rfl
  have e : (mx.bind fun d => (M.ok ()).bind fun e => M.ok (d, e)).bind (fun d => M.ok d.1) = mx.bind fun n => .ok n := by cases mx <;> rfl
  rwa [e] at h
end
end Hd
namespace Hd
open PySem PySem.Spec L2
section
end
end Hd
namespace Hd
open PySem PySem.Spec L2
/-- an object that may be owned -/
def gd : HO → Bool
  | .lst _ => true
  | .tup _ => true
  | .dK _ => true
  | .dT _ => true
  | .set _ _ => true
  | .ins _ _ _ => true
  | _ => false
theorem gd_nt {o : HO} (h : gd o = true) : nt o = true := by cases o <;> first | rfl | cases h
theorem gd_ext {o : HO} (h : gd o = true) : ∀ φ, o ≠ .ext φ := fun φ e => by subst e; cases h
/-- a kind of things of one's own: what is owned of one stands in F; T: as it looks when it is shared -/
structure WTy (α : Type) where
  T : Ty α
  rep : α → V → Hp → RdR → List Addr → Prop
  st : ∀ {d v H H' F} {R R' : RdR}, rep d v H R F → (∀ a o, R a o → R' a o) → (∀ p ∈ F, H' p = H p) → rep d v H' R' F
  tb : ∀ {d v H F} {R : RdR}, rep d v H R F → ∀ p ∈ F, ∃ o, H p = some o ∧ gd o = true
  fz : ∀ {d v H F} {R R' : RdR}, rep d v H R F → (∀ a o, R a o → R' a o) → (∀ p ∈ F, ∀ o, H p = some o → R' p o) → T.rep d v R'
/-- shared things -/
def wV {α : Type} (T : Ty α) : WTy α where
  T := T
  rep := fun d v _ R F => F = [] ∧ T.rep d v R
  st := fun ⟨e, r⟩ s _ => ⟨e, T.mono r s⟩
  tb := fun ⟨e, _⟩ p hp => by subst e; exact nomatch hp
  fz := fun ⟨_, r⟩ s _ => T.mono r s
inductive RepsO {α : Type} (O : WTy α) (H : Hp) (R : RdR) : List α → List V → List (List Addr) → Prop where
  | nil : RepsO O H R [] [] []
  | cons {d v F ds vs Fs} : O.rep d v H R F → RepsO O H R ds vs Fs → RepsO O H R (d :: ds) (v :: vs) (F :: Fs)
section
variable {α : Type} {O : WTy α} {H H' : Hp} {R R' : RdR} {ds es : List α} {vs ws : List V} {Fs Gs : List (List Addr)}
theorem RepsO.st (h : RepsO O H R ds vs Fs) (s : ∀ a o, R a o → R' a o) (k : ∀ p ∈ Fs.flatten, H' p = H p) : RepsO O H' R' ds vs Fs := by
  induction h with
  | nil => exact .nil
  | cons r _ ih => exact .cons (O.st r s fun p hp => k p (by simp [hp])) (ih fun p hp => k p (by simp only [List.flatten_cons, List.mem_append]; exact .inr hp))
theorem RepsO.tb (h : RepsO O H R ds vs Fs) : ∀ p ∈ Fs.flatten, ∃ o, H p = some o ∧ gd o = true := by
  induction h with
  | nil => intro p hp; simp at hp
  | cons r _ ih => intro p hp; rw [List.flatten_cons, List.mem_append] at hp; exact hp.elim (O.tb r p) (ih p)
theorem RepsO.fz (h : RepsO O H R ds vs Fs) (s : ∀ a o, R a o → R' a o) (k : ∀ p ∈ Fs.flatten, ∀ o, H p = some o → R' p o) : Reps O.T R' ds vs := by
  induction h with
  | nil => exact .nil
  | cons r _ ih => exact .cons (O.fz r s fun p hp => k p (by simp [hp])) (ih fun p hp => k p (by simp only [List.flatten_cons, List.mem_append]; exact .inr hp))
theorem RepsO.length (h : RepsO O H R ds vs Fs) : ds.length = vs.length := by
  induction h with
  | nil => rfl
  | cons _ _ ih => simp [ih]
theorem RepsO.get (h : RepsO O H R ds vs Fs) : ∀ {i : Nat} {d : α}, ds[i]? = some d → ∃ v F, vs[i]? = some v ∧ Fs[i]? = some F ∧ O.rep d v H R F := by
  induction h with
  | nil => intro i d e; simp at e
  | cons r _ ih =>
    intro i d e
    cases i with
    | zero => simp at e; subst e; exact ⟨_, _, rfl, rfl, r⟩
    | succ i => obtain ⟨v, F, e1, e2, r1⟩ := ih (i := i) (d := d) (by simpa using e); exact ⟨v, F, by simpa using e1, by simpa using e2, r1⟩
theorem RepsO.append (h : RepsO O H R ds vs Fs) (k : RepsO O H R es ws Gs) : RepsO O H R (ds ++ es) (vs ++ ws) (Fs ++ Gs) := by
  induction h with
  | nil => exact k
  | cons r _ ih => exact .cons r ih
theorem RepsO.set {d : α} {v : V} {F : List Addr} (h : RepsO O H R ds vs Fs) (r : O.rep d v H R F) : ∀ (i : Nat), RepsO O H R (ds.set i d) (vs.set i v) (Fs.set i F) := by
  induction h with
  | nil => intro i; exact .nil
  | cons q t ih =>
    intro i
    cases i with
    | zero => exact .cons r t
    | succ i => exact .cons q (ih i)
theorem RepsO.take (h : RepsO O H R ds vs Fs) : ∀ n, RepsO O H R (ds.take n) (vs.take n) (Fs.take n) := by
  induction h with
  | nil => intro n; simp; exact .nil
  | cons r _ ih => intro n; cases n with
    | zero => exact .nil
    | succ n => exact .cons r (ih n)
theorem RepsO.drop (h : RepsO O H R ds vs Fs) : ∀ n, RepsO O H R (ds.drop n) (vs.drop n) (Fs.drop n) := by
  induction h with
  | nil => intro n; simp; exact .nil
  | cons r t ih => intro n; cases n with
    | zero => exact .cons r t
    | succ n => exact ih n
/-- an item changes where it stands -/
theorem RepsO.chg {d' : α} {F F' : List Addr} {v : V} (h : RepsO O H R ds vs Fs) (s : ∀ a o, R a o → R' a o) : ∀ {i : Nat}, Fs.flatten.Nodup → Fs[i]? = some F → vs[i]? = some v → (∀ p ∈ Fs.flatten, p ∉ F → H' p = H p) → O.rep d' v H' R' F' → RepsO O H' R' (ds.set i d') vs (Fs.set i F') := by
  induction h with
  | nil => intro i _ e; simp at e
  | @cons d0 v0 F0 ds vs Fs q t ih =>
    intro i nd e1 e2 k r
    rw [List.flatten_cons, List.nodup_append] at nd
    cases i with
    | zero =>
      simp at e1 e2
      subst e1; subst e2
      exact .cons r (t.st s fun p hp => k p (by simp only [List.flatten_cons, List.mem_append]; exact .inr hp) fun hp' => nd.2.2 p hp' p hp rfl)
    | succ i =>
      have e1' : Fs[i]? = some F := by simpa using e1
      refine .cons (O.st q s fun p hp => k p (by simp [hp]) fun hp' => nd.2.2 p hp p (List.mem_flatten.mpr ⟨F, List.mem_of_getElem? e1', hp'⟩) rfl) ?_
      exact ih nd.2.1 e1' (by simpa using e2) (fun p hp => k p (by simp only [List.flatten_cons, List.mem_append]; exact .inr hp)) r
end
/-- the footprints' lists -/
theorem flat_set_mem {Fs : List (List Addr)} {F F' : List Addr} : ∀ {i : Nat}, Fs.flatten.Nodup → Fs[i]? = some F → ∀ x, x ∈ (Fs.set i F').flatten → x ∈ F' ∨ (x ∈ Fs.flatten ∧ x ∉ F) := by
  induction Fs with
  | nil => intro i _ e; simp at e
  | cons G Fs ih =>
    intro i nd e x hx
    rw [List.flatten_cons, List.nodup_append] at nd
    cases i with
    | zero =>
      simp at e; subst e
      rw [List.set_cons_zero, List.flatten_cons, List.mem_append] at hx
      rcases hx with h | h
      · exact .inl h
      · exact .inr ⟨by rw [List.flatten_cons, List.mem_append]; exact .inr h, fun h' => nd.2.2 x h' x h rfl⟩
    | succ i =>
      have e' : Fs[i]? = some F := by simpa using e
      rw [List.set_cons_succ, List.flatten_cons, List.mem_append] at hx
      rcases hx with h | h
      · exact .inr ⟨by rw [List.flatten_cons, List.mem_append]; exact .inl h, fun h' => nd.2.2 x h x (List.mem_flatten.mpr ⟨F, List.mem_of_getElem? e', h'⟩) rfl⟩
      · rcases ih nd.2.1 e' x h with h | ⟨h, h2⟩
        · exact .inl h
        · exact .inr ⟨by rw [List.flatten_cons, List.mem_append]; exact .inr h, h2⟩
theorem flat_set_nd {Fs : List (List Addr)} {F F' : List Addr} : ∀ {i : Nat}, Fs.flatten.Nodup → Fs[i]? = some F → F'.Nodup → (∀ x ∈ F', x ∈ F ∨ x ∉ Fs.flatten) → (Fs.set i F').flatten.Nodup := by
  induction Fs with
  | nil => intro i _ e; simp at e
  | cons G Fs ih =>
    intro i nd e n' k
    rw [List.flatten_cons, List.nodup_append] at nd
    cases i with
    | zero =>
      simp at e; subst e
      rw [List.set_cons_zero, List.flatten_cons, List.nodup_append]
      refine ⟨n', nd.2.1, fun a ha b hb e => ?_⟩
      subst e
      rcases k a ha with h | h
      · exact nd.2.2 a h a hb rfl
      · exact h (by rw [List.flatten_cons, List.mem_append]; exact .inr hb)
    | succ i =>
      have e' : Fs[i]? = some F := by simpa using e
      rw [List.set_cons_succ, List.flatten_cons, List.nodup_append]
      refine ⟨nd.1, ih nd.2.1 e' n' fun x hx => (k x hx).imp id (fun h h' => h (by rw [List.flatten_cons, List.mem_append]; exact .inr h')), fun a ha b hb e => ?_⟩
      subst e
      rcases flat_set_mem nd.2.1 e' a hb with h | ⟨h, _⟩
      · rcases k a h with h | h
        · exact nd.2.2 a ha a (List.mem_flatten.mpr ⟨F, List.mem_of_getElem? e', h⟩) rfl
        · exact h (by rw [List.flatten_cons, List.mem_append]; exact .inl ha)
      · exact nd.2.2 a ha a h rfl
theorem flat_mem {Fs : List (List Addr)} {F : List Addr} {i : Nat} (e : Fs[i]? = some F) : ∀ x ∈ F, x ∈ Fs.flatten := fun x hx => List.mem_flatten.mpr ⟨F, List.mem_of_getElem? e, hx⟩
theorem flat_nd {Fs : List (List Addr)} {F : List Addr} : ∀ {i : Nat}, Fs.flatten.Nodup → Fs[i]? = some F → F.Nodup := by
  induction Fs with
  | nil => intro i _ e; simp at e
  | cons G Fs ih =>
    intro i nd e
    rw [List.flatten_cons, List.nodup_append] at nd
    cases i with
    | zero => simp at e; subst e; exact nd.1
    | succ i => exact ih nd.2.1 (by simpa using e)
/-- a list of one's own -/
def wL {α : Type} (O : WTy α) : WTy (List α) where
  T := tList O.T
  rep := fun ds v H R F => ∃ p vs Fs, v = .ref p ∧ F = p :: Fs.flatten ∧ H p = some (.lst vs) ∧ RepsO O H R ds vs Fs
  st := by
    rintro d v H H' F R R' ⟨p, vs, Fs, e1, e2, h, r⟩ s k
    exact ⟨p, vs, Fs, e1, e2, by rw [k p (by rw [e2]; exact List.mem_cons_self)]; exact h, r.st s fun q hq => k q (by rw [e2]; exact List.mem_cons_of_mem _ hq)⟩
  tb := by
    rintro d v H F R ⟨p, vs, Fs, e1, e2, h, r⟩ q hq
    rw [e2] at hq
    rcases List.mem_cons.mp hq with e | hq
    · subst e; exact ⟨_, h, rfl⟩
    · exact r.tb q hq
  fz := by
    rintro d v H F R R' ⟨p, vs, Fs, e1, e2, h, r⟩ s k
    exact ⟨p, vs, e1, k p (by rw [e2]; exact List.mem_cons_self) _ h, r.fz s fun q hq => k q (by rw [e2]; exact List.mem_cons_of_mem _ hq)⟩
/-- written items of one's own -/
structure WAr (δ : Type) where
  A : Ar δ
  /-- as fields of an object with these names -/
  fl : List Str → δ → List FldS
  rep : δ → List V → Hp → RdR → List Addr → Prop
  st : ∀ {d vs H H' F} {R R' : RdR}, rep d vs H R F → (∀ a o, R a o → R' a o) → (∀ p ∈ F, H' p = H p) → rep d vs H' R' F
  tb : ∀ {d vs H F} {R : RdR}, rep d vs H R F → ∀ p ∈ F, ∃ o, H p = some o ∧ gd o = true
  fz : ∀ {d vs H F} {R R' : RdR}, rep d vs H R F → (∀ a o, R a o → R' a o) → (∀ p ∈ F, ∀ o, H p = some o → R' p o) → A.rep d vs R'
  fzF : ∀ {d vs H F} {R R' : RdR} {ns : List Str}, ns.length = vs.length → rep d vs H R F → (∀ a o, R a o → R' a o) → (∀ p ∈ F, ∀ o, H p = some o → R' p o) → FsR R' (fl ns d) (ns.zip vs)
def waNil : WAr Unit where
  A := aNil
  fl := fun _ _ => []
  rep := fun _ vs _ _ F => vs = [] ∧ F = []
  st := fun h _ _ => h
  tb := by
    rintro d vs H F R ⟨_, e⟩ p hp
    subst e; exact nomatch hp
  fz := fun h _ _ => h.1
  fzF := by
    rintro d vs H F R R' ns hl ⟨e, _⟩ _ _
    subst e
    cases ns with
    | nil => exact .nil
    | cons _ _ => cases hl
def waFl {α β : Type} (T : Ty α) (fl : List Str → β → List FldS) : List Str → α × β → List FldS
  | [], _ => []
  | n :: ns, d => ⟨n, α, T, d.1⟩ :: fl ns d.2
def waCons {α β : Type} (O : WTy α) (A : WAr β) : WAr (α × β) where
  A := aCons O.T A.A
  fl := waFl O.T A.fl
  rep := fun d vs H R F => ∃ v r F1 F2, vs = v :: r ∧ F = F1 ++ F2 ∧ O.rep d.1 v H R F1 ∧ A.rep d.2 r H R F2
  st := by
    rintro d vs H H' F R R' ⟨v, r, F1, F2, e1, e2, h1, h2⟩ s k
    exact ⟨v, r, F1, F2, e1, e2, O.st h1 s fun p hp => k p (by rw [e2]; exact List.mem_append_left _ hp), A.st h2 s fun p hp => k p (by rw [e2]; exact List.mem_append_right _ hp)⟩
  tb := by
    rintro d vs H F R ⟨v, r, F1, F2, e1, e2, h1, h2⟩ p hp
    rw [e2] at hp; exact (List.mem_append.mp hp).elim (O.tb h1 p) (A.tb h2 p)
  fz := by
    rintro d vs H F R R' ⟨v, r, F1, F2, e1, e2, h1, h2⟩ s k
    exact ⟨v, r, e1, O.fz h1 s fun p hp => k p (by rw [e2]; exact List.mem_append_left _ hp), A.fz h2 s fun p hp => k p (by rw [e2]; exact List.mem_append_right _ hp)⟩
  fzF := by
    rintro d vs H F R R' ns hl ⟨v, r, F1, F2, e1, e2, h1, h2⟩ s k
    subst e1
    cases ns with
    | nil => cases hl
    | cons n ns => exact .cons (O.fz h1 s fun p hp => k p (by rw [e2]; exact List.mem_append_left _ hp)) (A.fzF (by simpa using hl) h2 s fun p hp => k p (by rw [e2]; exact List.mem_append_right _ hp))
/-- a list of things of several kinds -/
def wHl {δ : Type} (A : WAr δ) : WTy δ where
  T := tHl A.A
  rep := fun d v H R F => ∃ p vs G, v = .ref p ∧ F = p :: G ∧ H p = some (.lst vs) ∧ A.rep d vs H R G
  st := by
    rintro d v H H' F R R' ⟨p, vs, Fs, e1, e2, h, r⟩ s k
    exact ⟨p, vs, Fs, e1, e2, by rw [k p (by rw [e2]; exact List.mem_cons_self)]; exact h, A.st r s fun q hq => k q (by rw [e2]; exact List.mem_cons_of_mem _ hq)⟩
  tb := by
    rintro d v H F R ⟨p, vs, Fs, e1, e2, h, r⟩ q hq
    rw [e2] at hq
    rcases List.mem_cons.mp hq with e | hq
    · subst e; exact ⟨_, h, rfl⟩
    · exact A.tb r q hq
  fz := by
    rintro d v H F R R' ⟨p, vs, Fs, e1, e2, h, r⟩ s k
    exact ⟨p, vs, e1, k p (by rw [e2]; exact List.mem_cons_self) _ h, A.fz r s fun q hq => k q (by rw [e2]; exact List.mem_cons_of_mem _ hq)⟩
section
end
/-- a slot of things of one's own; px: which value it is -/
def sP {α : Type} (px : V → Prop) (O : WTy α) (d : α) : Slot := ⟨fun v H R F => ∃ x, v = some x ∧ px x ∧ O.rep d x H (R false) F, fun ⟨x, e, hx, r⟩ s k => ⟨x, e, hx, O.st r (s false) k⟩,
  fun ⟨x, e, hx, r⟩ p hp => by obtain ⟨o, h, g⟩ := O.tb r p hp; rw [cl_of h (gd_nt g)]; exact fun z => nomatch z⟩
abbrev sO {α : Type} (O : WTy α) (d : α) : Slot := sP (fun _ => True) O d
abbrev sA {α : Type} (x : V) (O : WTy α) (d : α) : Slot := sP (fun v => v = x) O d
def FinN {β : Type} (fm : Fm) (W : Wx) (own : List Addr) (σ : L2.St) (H : Hp) (O : WTy β) (Q : VK) : M β → Prop
  | .ok d => ∀ v F H', Same H H' → F.Nodup → (∀ p ∈ F, H p = none) → O.rep d v H' (RD fm (F ++ own) H') F → Q v H'
  | .ex c => ∀ H', Same H H' → W c σ H'
  | .no => False
def EvN (g : G) (L : List Slot) (e : Expr) {β : Type} (O : WTy β) (m : M β) : Prop := PE g.X e (fun σ H Q => ∃ kp own, At g.fm kp L σ H own ∧ FinN g.fm g.W own σ H O Q m)
theorem RD.drop {fm : Fm} {own own' : List Addr} {H : Hp} (k : ∀ p ∈ own', p ∈ own) : ∀ a o, RD fm own H a o → RD fm own' H a o := RX.own (md := .sh) (H := H) k
/-- read ahead: what was there is none of the new -/
theorem RD.newer {fm : Fm} {own F : List Addr} {H H' : Hp} (s : Same H H') (n : ∀ p ∈ F, H p = none) : ∀ a o, RD fm own H a o → RD fm (F ++ own) H' a o := fun a o r => by
  rcases r with ⟨r1, r2, r3⟩ | r
  · refine .inl ⟨Rd.same s r1, fun h => ?_, r3⟩
    rcases List.mem_append.mp h with h | h
    · have := n a h
      rcases r1 with r1 | ⟨_, r1⟩ <;> rw [cl_none this] at r1 <;> cases r1
    · exact r2 h
  · exact .inr r
section
variable {p : Pr} {sc : Scope} {NN VV GG : List Str} {k : Nat} {g : G} {L L' : List Slot} {a b c e e' : Expr} {es : List Expr} {md md' : Md} {α β γ δ ρ : Type} {S : Ty α} {T : Ty β} {U : Ty γ} {O : WTy α} {A : WAr δ} {pos pp : Pos} {i j : Nat} {x : Str}
theorem evn_l {m : M (List α)} (h : EvL g L e md S m) : EvN g L e (wL (wV S)) m := PE.imp h fun σ H Q ⟨kp, own, at_, q⟩ => by
  refine tL_iff.mpr ⟨kp, own, at_, ?_⟩
  cases m with
  | ok ds =>
    intro p vs H' s n h' r
    have fl : ∀ {ds : List α} {vs : List V} {R : RdR}, Reps S R ds vs → ∃ Fs, RepsO (wV S) H' R ds vs Fs ∧ Fs.flatten = [] := fun {ds vs R} r => by
      induction r with
      | nil => exact ⟨[], .nil, rfl⟩
      | cons r _ ih => obtain ⟨Fs, h1, h2⟩ := ih; exact ⟨[] :: Fs, .cons ⟨rfl, r⟩ h1, by simpa using h2⟩
    obtain ⟨Fs, r1, e1⟩ := fl (r.mono fun a o z => RX.sh a o z)
    exact q (.ref p) [p] H' s (by simp) (fun q hq => by rw [List.mem_singleton.mp hq]; exact n) ⟨p, vs, Fs, rfl, by rw [e1], h', r1⟩
  | ex c => exact q
  | no => exact q
end
end Hd
namespace Hd
open PySem PySem.Spec L2
structure Plc (H : Hp) (R : RdR) {α : Type} (O : WTy α) (v : V) (F : List Addr) {β : Type} (O2 : WTy β) (d2 : β) (put : β → α) (v2 : V) (F2 : List Addr) : Prop where
  rep : O2.rep d2 v2 H R F2
  sub : ∀ p ∈ F2, p ∈ F
  nd : F2.Nodup
  up : ∀ {H' : Hp} {R' : RdR} {d2' : β} {F2' : List Addr}, (∀ a o, R a o → R' a o) → (∀ p ∈ F, p ∉ F2 → H' p = H p) → O2.rep d2' v2 H' R' F2' → F2'.Nodup → (∀ p ∈ F2', p ∈ F2 ∨ p ∉ F) →
    ∃ F', O.rep (put d2') v H' R' F' ∧ F'.Nodup ∧ ∀ p ∈ F', p ∈ F2' ∨ (p ∈ F ∧ p ∉ F2)
/-- the item k of written items -/
inductive WAt : {δ : Type} → WAr δ → Nat → {α : Type} → WTy α → (δ → α) → (δ → α → δ) → Prop where
  | z {α δ : Type} {O : WTy α} {A : WAr δ} : WAt (waCons O A) 0 O (fun d => d.1) (fun d y => (y, d.2))
  | s {α β δ : Type} {O : WTy α} {O' : WTy β} {A : WAr δ} {k : Nat} {pr : δ → α} {st : δ → α → δ} : WAt A k O pr st → WAt (waCons O' A) (k + 1) O (fun d => pr d.2) (fun d y => (d.1, st d.2 y))
section
variable {α β γ δ : Type} {O : WTy α} {O2 : WTy β} {O3 : WTy γ} {A : WAr δ} {H H' : Hp} {R R' : RdR} {v v2 : V} {F F2 G : List Addr} {d : α} {d2 : β} {put : β → α}
theorem Plc.root (r : O.rep d v H R F) (nd : F.Nodup) : Plc H R O v F O d (fun y => y) v F := ⟨r, fun _ h => h, nd, fun _ _ r' nd' _ => ⟨_, r', nd', fun _ hp => .inl hp⟩⟩
theorem Plc.ext (h : Plc H R O v F O2 d2 put v2 F2) (s : ∀ a o, R a o → R' a o) (k : ∀ p ∈ F, H' p = H p) : Plc H' R' O v F O2 d2 put v2 F2 :=
  ⟨O2.st h.rep s fun p hp => k p (h.sub p hp), h.sub, h.nd, fun s' k' r' nd' n' => h.up (fun a o z => s' a o (s a o z)) (fun p hp hn => (k' p hp hn).trans (k p hp)) r' nd' n'⟩
theorem WAt.get {k : Nat} {pr : δ → γ} {st : δ → γ → δ} (h : WAt A k O3 pr st) : ∀ {d : δ} {vs : List V} {G : List Addr}, A.rep d vs H R G → G.Nodup → ∃ v3 F3, vs[k]? = some v3 ∧ O3.rep (pr d) v3 H R F3 ∧ (∀ q ∈ F3, q ∈ G) ∧ F3.Nodup ∧
    ∀ {H' R' y F3'}, (∀ a o, R a o → R' a o) → (∀ q ∈ G, q ∉ F3 → H' q = H q) → O3.rep y v3 H' R' F3' → F3'.Nodup → (∀ q ∈ F3', q ∈ F3 ∨ q ∉ G) → ∃ G', A.rep (st d y) vs H' R' G' ∧ G'.Nodup ∧ ∀ q ∈ G', q ∈ F3' ∨ (q ∈ G ∧ q ∉ F3) := by
  induction h with
  | z =>
    rintro d vs G ⟨v, r, F1, F2, e1, e2, h1, h2⟩ nd
    subst e1; subst e2
    rw [List.nodup_append] at nd
    refine ⟨v, F1, rfl, h1, fun q hq => List.mem_append_left _ hq, nd.1, fun {H' R' y F3'} s k r' nd' n' => ?_⟩
    have dj : ∀ q ∈ F2, q ∉ F1 := fun q hq hq' => nd.2.2 q hq' q hq rfl
    refine ⟨F3' ++ F2, ⟨v, r, F3', F2, rfl, rfl, r', WAr.st _ h2 s fun q hq => k q (List.mem_append_right _ hq) (dj q hq)⟩, List.nodup_append.mpr ⟨nd', nd.2.1, fun a ha b hb e => ?_⟩, fun q hq => ?_⟩
    · subst e
      rcases n' a ha with hq | hq
      · exact dj a hb hq
      · exact hq (List.mem_append_right _ hb)
    · rcases List.mem_append.mp hq with hq | hq
      · exact .inl hq
      · exact .inr ⟨List.mem_append_right _ hq, dj q hq⟩
  | s _ ih =>
    rintro d vs G ⟨v, r, F1, F2, e1, e2, h1, h2⟩ nd
    subst e1; subst e2
    rw [List.nodup_append] at nd
    obtain ⟨v3, F3, e3, r3, s3, nd3, up3⟩ := ih h2 nd.2.1
    have dj : ∀ q ∈ F1, q ∉ F2 := fun q hq hq' => nd.2.2 q hq q hq' rfl
    refine ⟨v3, F3, by simpa using e3, r3, fun q hq => List.mem_append_right _ (s3 q hq), nd3, fun {H' R' y F3'} s k r' nd' n' => ?_⟩
    obtain ⟨G', r4, nd4, n4⟩ := up3 s (fun q hq hn => k q (List.mem_append_right _ hq) hn) r' nd' (fun q hq => (n' q hq).imp id fun hn hq' => hn (List.mem_append_right _ hq'))
    refine ⟨F1 ++ G', ⟨v, r, F1, G', rfl, rfl, WTy.st _ h1 s fun q hq => k q (List.mem_append_left _ hq) fun hq' => dj q hq (s3 q hq'), r4⟩, List.nodup_append.mpr ⟨nd.1, nd4, fun a ha b hb e => ?_⟩, fun q hq => ?_⟩
    · subst e
      rcases n4 a hb with hq | ⟨hq, _⟩
      · rcases n' a hq with hq | hq
        · exact dj a ha (s3 a hq)
        · exact hq (List.mem_append_left _ ha)
      · exact dj a ha hq
    · rcases List.mem_append.mp hq with hq | hq
      · exact .inr ⟨List.mem_append_left _ hq, fun hq' => dj q hq (s3 q hq')⟩
      · rcases n4 q hq with hq | ⟨hq, hn⟩
        · exact .inl hq
        · exact .inr ⟨List.mem_append_right _ hq, hn⟩
/-- a part of a thing that stands at one address and holds written items -/
theorem Plc.part {dd : δ} {put : δ → α} {B : WTy δ} {con : List V → HO} (h : Plc H R O v F B dd put v2 F2) {p : Addr} {vs : List V} {G : List Addr}
    (e1 : v2 = .ref p) (e2 : F2 = p :: G) (hp : H p = some (con vs)) (rr : A.rep dd vs H R G) (cl : ∀ H' R' d' G', H' p = some (con vs) → A.rep d' vs H' R' G' → B.rep d' v2 H' R' (p :: G'))
    {k : Nat} {pr : δ → γ} {st : δ → γ → δ} (hA : WAt A k O3 pr st) :
    ∃ v3 F3, vs[k]? = some v3 ∧ (∀ q ∈ F3, q ∈ F2) ∧ Plc H R O v F O3 (pr dd) (fun y => put (st dd y)) v3 F3 := by
  have nd := h.nd
  rw [e2, List.nodup_cons] at nd
  obtain ⟨v3, F3, e3, r3, s3, nd3, up3⟩ := hA.get rr nd.2
  have s32 : ∀ q ∈ F3, q ∈ F2 := fun q hq => by rw [e2]; exact List.mem_cons_of_mem _ (s3 q hq)
  have pF2 : p ∈ F2 := by rw [e2]; exact List.mem_cons_self
  have np3 : p ∉ F3 := fun hq => nd.1 (s3 p hq)
  refine ⟨v3, F3, e3, s32, r3, fun q hq => h.sub q (s32 q hq), nd3, fun {H' R' d3' F3'} s k r' nd' n' => ?_⟩
  obtain ⟨G', r4, nd4, n4⟩ := up3 s (fun q hq hn => k q (h.sub q (by rw [e2]; exact List.mem_cons_of_mem _ hq)) hn) r' nd' (fun q hq => (n' q hq).imp id fun hn hq' => hn (h.sub q (by rw [e2]; exact List.mem_cons_of_mem _ hq')))
  have np : p ∉ G' := fun hq => by
    rcases n4 p hq with hq | ⟨hq, _⟩
    · rcases n' p hq with hq | hq
      · exact np3 hq
      · exact hq (h.sub p pF2)
    · exact nd.1 hq
  obtain ⟨F', r5, nd5, n5⟩ := h.up (d2' := st dd d3') (F2' := p :: G') s (fun q hq hn => k q hq fun hq' => hn (s32 q hq')) (cl _ _ _ _ (by rw [k p (h.sub p pF2) np3]; exact hp) r4) (List.nodup_cons.mpr ⟨np, nd4⟩) (fun q hq => by
      rcases List.mem_cons.mp hq with hq | hq
      · subst hq; exact .inl pF2
      · rcases n4 q hq with hq | ⟨hq, _⟩
        · exact (n' q hq).imp (s32 q) id
        · exact .inl (by rw [e2]; exact List.mem_cons_of_mem _ hq))
  refine ⟨F', r5, nd5, fun q hq => ?_⟩
  rcases n5 q hq with hq | ⟨hq, hn⟩
  · rcases List.mem_cons.mp hq with hq | hq
    · subst hq; exact .inr ⟨h.sub _ pF2, np3⟩
    · rcases n4 q hq with hq | ⟨hq, hn⟩
      · exact .inl hq
      · exact .inr ⟨h.sub q (by rw [e2]; exact List.mem_cons_of_mem _ hq), hn⟩
  · exact .inr ⟨hq, fun hq' => hn (s32 q hq')⟩
end
/-- slot i holds a thing of one's own, of which d2 at v2 is a place -/
def AtP (fm : Fm) (L : List Slot) (σ : L2.St) (own : List Addr) (Fs : List (List Addr)) (i : Nat) (px : V → Prop) {α : Type} (O : WTy α) (d : α) (H : Hp) {β : Type} (O2 : WTy β) (d2 : β) (put : β → α) (v2 : V) (F2 : List Addr) : Prop :=
  ∃ v F, L[i]? = some (sP px O d) ∧ AllS H (RB fm own H) L σ Fs ∧ own = Fs.flatten ∧ σ[i]? = some (some v) ∧ px v ∧ Fs[i]? = some F ∧ Plc H (RD fm own H) O v F O2 d2 put v2 F2
section
variable {fm : Fm} {kp : RdR} {L : List Slot} {σ : L2.St} {H H' : Hp} {own : List Addr} {i : Nat} {px : V → Prop} {α β γ : Type} {O : WTy α} {O2 : WTy β} {d : α} {d2 : β} {put : β → α} {v2 : V} {F2 : List Addr} {Fs : List (List Addr)}
theorem At.gdo (h : At fm kp L σ H own) (hA : AtP fm L σ own Fs i px O d H O2 d2 put v2 F2) : ∀ p ∈ F2, p ∈ own := by
  obtain ⟨v, F, hL, hs, e, e1, hx, e2, pl⟩ := hA
  exact fun p hp => by rw [e]; exact flat_mem e2 p (pl.sub p hp)
theorem AtP.ext (hA : AtP fm L σ own Fs i px O d H O2 d2 put v2 F2) (s : Same H H') : AtP fm L σ own Fs i px O d H' O2 d2 put v2 F2 := by
  obtain ⟨v, F, hL, hs, e, e1, hx, e2, pl⟩ := hA
  have k : ∀ p ∈ Fs.flatten, H' p = H p := fun p hp => by
    cases r : cl H p with
    | none => exact absurd r (hs.tb p hp)
    | some o => rw [cl_raw r]; exact s.keep _ _ (cl_raw r) (cl_nt r)
  exact ⟨v, F, hL, hs.st (RB.same s) k, e, e1, hx, e2, pl.ext (RD.same s) fun p hp => k p (flat_mem e2 p hp)⟩
theorem At.toP (h : At fm kp L σ H own) (hs : AllS H (RB fm own H) L σ Fs) (e : own = Fs.flatten) (hL : L[i]? = some (sP px O d)) : ∃ v F, σ[i]? = some (some v) ∧ AtP fm L σ own Fs i px O d H O d (fun y => y) v F := by
  obtain ⟨v0, F, e1, e2, v, rfl, hx, r⟩ := hs.get hL
  have nd := h.nd
  rw [e] at nd
  exact ⟨v, F, e1, v, F, hL, hs, e, e1, hx, e2, Plc.root r (flat_nd nd e2)⟩
/-- one slot changes -/
theorem AllS.chg {R R' : Bool → RdR} {s' : Slot} : ∀ {L : List Slot} {σ : L2.St} {Fs : List (List Addr)} {i : Nat} {F F' : List Addr} {v : Option V}, AllS H R L σ Fs → Fs.flatten.Nodup → Fs[i]? = some F → σ[i]? = some v → (∀ b a o, R b a o → R' b a o) → (∀ p ∈ Fs.flatten, p ∉ F → H' p = H p) → s'.ok v H' R' F' → AllS H' R' (L.set i s') σ (Fs.set i F') := by
  intro L σ Fs i F F' v h
  induction h generalizing i with
  | nil => intro _ e; simp at e
  | @cons sl L v0 σ F0 Fs r t ih =>
    intro nd e1 e2 s k r'
    rw [List.flatten_cons, List.nodup_append] at nd
    cases i with
    | zero =>
      simp at e1 e2
      subst e1; subst e2
      exact .cons r' (t.st s fun p hp => k p (by simp only [List.flatten_cons, List.mem_append]; exact .inr hp) fun hp' => nd.2.2 p hp' p hp rfl)
    | succ i =>
      have e1' : Fs[i]? = some F := by simpa using e1
      refine .cons (sl.st r s fun p hp => k p (by simp [hp]) fun hp' => nd.2.2 p hp p (flat_mem e1' p hp') rfl) ?_
      exact ih nd.2.1 e1' (by simpa using e2) s (fun p hp => k p (by simp only [List.flatten_cons, List.mem_append]; exact .inr hp)) r'
/-- the heap without some things -/
def hm (H : Hp) (F : List Addr) : Hp := fun a => if a ∈ F then none else H a
theorem hm_in {H : Hp} {F : List Addr} {a : Addr} (h : a ∈ F) : hm H F a = none := by unfold hm; rw [if_pos h]
theorem hm_out {H : Hp} {F : List Addr} {a : Addr} (h : a ∉ F) : hm H F a = H a := by unfold hm; rw [if_neg h]
/-- the place changes, and nothing else that was there -/
theorem At.chg {d2' : β} {F2' : List Addr} (h : At fm kp L σ H own) (hA : AtP fm L σ own Fs i px O d H O2 d2 put v2 F2)
    (sm : Same (hm H F2) H') (nd' : F2'.Nodup) (n1 : ∀ p ∈ F2', p ∈ F2 ∨ H p = none) (n2 : ∀ p ∈ F2', H' p ≠ none)
    (r' : O2.rep d2' v2 H' (RD fm (F2' ++ own) H') F2') : ∃ own', At fm kp (L.set i (sP px O (put d2'))) σ H' own' ∧ ∀ p ∈ own', p ∈ F2' ∨ (p ∈ own ∧ p ∉ F2) := by
  have sub2 := h.gdo hA
  obtain ⟨v, F, hL, hs, e, e1, hx, e2, pl⟩ := hA
  obtain ⟨h1, h2, _, h4, h5, h6⟩ := h
  have nd := h4
  rw [e] at nd
  have keep : ∀ a o, H a = some o → nt o = true → a ∉ F2 → H' a = some o := fun a o ea na hn => sm.keep a o (by rw [hm_out hn]; exact ea) na
  have fr : ∀ a, H' a = none → a ∉ F2 → H a = none := fun a ea hn => by have := sm.fr a ea; rwa [hm_out hn] at this
  have tab : ∀ P, LamX.TabS H P lamQ → LamX.TabS H' P lamQ := fun P t => sm.tab P (by
    obtain ⟨ps, t1, t2, t3⟩ := t
    have ng : ∀ a o, H a = some o → gd o = false → a ∉ F2 := fun a o ea ga q => by
      obtain ⟨o', ho', go'⟩ := O2.tb pl.rep a q
      rw [ea] at ho'; cases ho'
      rw [ga] at go'; cases go'
    refine ⟨ps, by rw [hm_out (ng P _ t1 rfl)]; exact t1, t2, fun pos cv hc => ?_⟩
    obtain ⟨c, c1, c2⟩ := t3 pos cv hc
    exact ⟨c, c1, by rw [hm_out (ng c _ c2 rfl)]; exact c2⟩)
  have kcl : ∀ a o, cl H a = some o → a ∉ F2 → cl H' a = some o := fun a o ea hn => cl_of (keep a o (cl_raw ea) (cl_nt ea) hn) (cl_nt ea)
  have keq : ∀ a, cl H a ≠ none → a ∉ F2 → H' a = H a := fun a ha hn => by
    cases r : cl H a with
    | none => exact absurd r ha
    | some o => rw [cl_raw r]; exact keep a o (cl_raw r) (cl_nt r) hn
  have rdn : ∀ a o, RD fm own H a o → RD fm (F2' ++ own) H' a o := fun a o z => by
    rcases z with ⟨z1, z2, z3⟩ | z
    · have hne : H a ≠ none := fun q => by rcases z1 with z1 | ⟨_, z1⟩ <;> rw [cl_none q] at z1 <;> cases z1
      have n2 : a ∉ F2 := fun q => z2 (sub2 a q)
      refine .inl ⟨z1.imp (fun q => kcl a _ q n2) fun ⟨f, q⟩ => ⟨f, kcl a _ q n2⟩, fun hq => ?_, z3⟩
      rcases List.mem_append.mp hq with hq | hq
      · rcases n1 a hq with hq | hq
        · exact z2 (sub2 a hq)
        · exact hne hq
      · exact z2 hq
    · exact .inr z
  obtain ⟨F', r4, nd4, n4⟩ := pl.up rdn (fun p hp hn => keq p (hs.tb p (flat_mem e2 p hp)) hn) r' nd' (fun p hp => (n1 p hp).imp id fun q hq => (h5 p (by rw [e]; exact flat_mem e2 p hq)).1 q)
  have nF : ∀ p ∈ (Fs.set i F').flatten, p ∈ F2' ∨ (p ∈ own ∧ p ∉ F2) := fun p hp => by
    rcases flat_set_mem nd e2 p hp with hp | ⟨hp, hn⟩
    · rcases n4 p hp with hp | ⟨hp, hn⟩
      · exact .inl hp
      · exact .inr ⟨by rw [e]; exact flat_mem e2 p hp, hn⟩
    · exact .inr ⟨by rw [e]; exact hp, fun q => hn (pl.sub p q)⟩
  have dr : ∀ a o, RD fm (F2' ++ own) H' a o → RD fm (Fs.set i F').flatten H' a o := RD.drop fun p hp => List.mem_append.mpr ((nF p hp).imp id (·.1))
  have keyB : ∀ b a o, RB fm own H b a o → RB fm (Fs.set i F').flatten H' b a o := fun b a o z => by
    cases b with
    | false => exact dr a o (rdn a o z)
    | true =>
      obtain ⟨z1, z2, z3, z4⟩ := z
      have hne : H a ≠ none := fun q => by rw [cl_none q] at z1; cases z1
      refine ⟨kcl a _ z1 fun q => z2 (sub2 a q), fun hq => ?_, z3, z4⟩
      rcases nF a hq with hq | ⟨hq, _⟩
      · rcases n1 a hq with hq | hq
        · exact z2 (sub2 a hq)
        · exact hne hq
      · exact z2 hq
  have sH : Same fm.H0 H' := by
    refine ⟨fun a o ea na => keep a o (h1.keep a o ea na) na (fun q => by have := (h5 a (sub2 a q)).2.1; rw [this] at ea; cases ea), fun a ea => ?_, fun P t => tab P (h1.tab P t)⟩
    by_cases q2 : a ∈ F2
    · exact (h5 a (sub2 a q2)).2.1
    · exact h1.fr a (fr a ea q2)
  refine ⟨_, ⟨sH, fun a z ea => ?_, ⟨Fs.set i F', hs.chg nd e2 e1 keyB (fun p hp hn => keq p (hs.tb p hp) fun q => hn (pl.sub p q)) (s' := sP px O (put d2')) ⟨v, rfl, hx, O.st r4 dr fun _ _ => rfl⟩, rfl⟩, flat_set_nd nd e2 nd4 (fun p hp => ?_), fun p hp => ?_, fun a o z => dr a o (rdn a o (h6 a o z))⟩, nF⟩
  · exact h2 a z (fr a ea fun q => (h5 a (sub2 a q)).2.2 z)
  · rcases n4 p hp with hp | ⟨hp, _⟩
    · rcases n1 p hp with hp | hp
      · exact .inl (pl.sub p hp)
      · exact .inr fun q => (h5 p (by rw [e]; exact q)).1 hp
    · exact .inl hp
  · rcases nF p hp with hp | ⟨hp, hn⟩
    · refine ⟨n2 p hp, ?_, ?_⟩
      · rcases n1 p hp with hq | hq
        · exact (h5 p (sub2 p hq)).2.1
        · exact h1.free hq
      · rcases n1 p hp with hq | hq
        · exact (h5 p (sub2 p hq)).2.2
        · exact fun z => h2 p z hq
    · have q := h5 p hp
      exact ⟨fun z => q.1 (fr p z hn), q.2⟩
end
end Hd
namespace Hd
open PySem PySem.Spec L2
def FinP (fm : Fm) (W : Wx) (L : List Slot) (own : List Addr) (Fs : List (List Addr)) (σ : L2.St) (H : Hp) (i : Nat) (px : V → Prop) {α : Type} (O : WTy α) (d : α) {β : Type} (O2 : WTy β) (Q : VK) : M (β × (β → α)) → Prop
  | .ok q => ∀ v2 F2 H', Same H H' → AtP fm L σ own Fs i px O d H' O2 q.1 q.2 v2 F2 → Q v2 H'
  | .ex c => ∀ H', Same H H' → W c σ H'
  | .no => False
def EvP (g : G) (L : List Slot) (e : Expr) (i : Nat) (px : V → Prop) {α : Type} (O : WTy α) (d : α) {β : Type} (O2 : WTy β) (m : M (β × (β → α))) : Prop := PE g.X e (fun σ H Q => ∃ kp own Fs, At g.fm kp L σ H own ∧ AllS H (RB g.fm own H) L σ Fs ∧ own = Fs.flatten ∧ FinP g.fm g.W L own Fs σ H i px O d O2 Q m)
def NoEx {α : Type} (m : M α) : Prop := ∀ c, m ≠ .ex c
section
variable {p : Pr} {sc : Scope} {NN VV GG : List Str} {k : Nat} {g : G} {L L' : List Slot} {a b c e e' ix : Expr} {es : List Expr} {md md' : Md} {α β γ δ ρ : Type} {S : Ty α} {T : Ty β} {O : WTy α} {O2 : WTy β} {O3 : WTy γ} {A : WAr ρ} {pos pp : Pos} {i j : Nat} {x f : Str} {px : V → Prop} {d : α}
theorem evp_name (ok : Ok p sc NN VV GG k g) (hN : NN[i]? = some x) (hV : VV[j]? = some x) (hL : L[i]? = some (sP px O d)) : EvP g L (.Name x pos) i px O d O (.ok (d, fun y => y)) := by
  obtain ⟨hv, ho⟩ := ok.vis hV
  obtain ⟨h1, h2, _⟩ := okName_d ho
  refine PE.imp (pe_var (i := i) (by rw [ok.N]; exact hN) hv h1 h2) fun σ H Q ⟨kp, own, Fs, at_, hsl, heo, q⟩ => ?_
  obtain ⟨v, F, e1, hA⟩ := at_.toP hsl heo hL
  exact ⟨v, e1, q v F H (Same.refl H) hA⟩
theorem evp_hl {m : M (ρ × (ρ → α))} {kk : Nat} {pr : ρ → γ} {st : ρ → γ → ρ} (ok : Ok p sc NN VV GG k g) (hA : WAt A kk O3 pr st) (he : EvP g L e i px O d (wHl A) m) (hi : EvE g L ix md tInt (.ok (kk : Int))) (hs : PlainIx ix := by exact fun _ _ => rfl) : EvP g L (.Subscript e ix pos) i px O d O3 (m.bind fun q => .ok (pr q.1, fun y => q.2 (st q.1 y))) := by
  refine PE.imp (pe_ix (r := rIxL g.X.K) ix_list he hi hs) fun σ H Q ⟨kp, own, Fs, at_, hsl, heo, q⟩ => ?_
  refine ⟨kp, own, Fs, at_, hsl, heo, ?_⟩
  cases m with
  | ok q0 =>
    intro v2 F2 H1 s1 A1
    refine tE_iff.mpr ⟨kp, own, at_.ext s1, ?_⟩
    intro y H2 s2 r2
    cases (show y = .int kk from r2)
    obtain ⟨v, F, hL, hs, e, e1, hx, e2, pl⟩ := A1.ext s2
    obtain ⟨p', vs, G, r1, r2, hp, rr⟩ := pl.rep
    obtain ⟨v3, F3, e4, _, pl3⟩ := pl.part (con := .lst) r1 r2 hp rr (fun H' R' d' G' h' r' => ⟨p', vs, G', r1, rfl, h', r'⟩) hA
    exact ⟨p', vs, kk, v3, r1, rfl, .inl (.inl hp), atI_nat e4, q v3 F3 H2 (s1.trans s2) ⟨v, F, hL, hs, e, e1, hx, e2, pl3⟩⟩
  | ex c => exact q
  | no => exact q
variable {st : List Stmt} {D : δ → Out}
/-- exceptions: the slots ahead of them are told, or there are none -/
def Wkx (g : G) (L : List Slot) (n : Prop) : Prop := Wk L g.LX ∨ n
theorem BOk.exx' {kp : RdR} {E : Ends} {c : Ec} {σ : L2.St} {H : Hp} {own : List Addr} {n : Prop} (wk : Wkx g L n) (hn : n → False) (at_ : At g.fm kp L σ H own) (q : BOk g kp E D (.ex c)) : ∀ H', Same H H' → g.W c σ H' := by
  rcases wk with wk | z
  · exact BOk.exx wk at_ q
  · exact (hn z).elim
/-- one own thing is written -/
theorem hm_wr {H H1 : Hp} {F : List Addr} {q : Addr} {u o : HO} (s : Same H H1) (hq : q ∈ F) (h1 : H1 q = some u) (gu : gd u = true) (hg : ∀ a ∈ F, ∃ o, H a = some o ∧ gd o = true) : Same (hm H F) (upd H1 q o) := by
  have s0 : Same (hm H F) H := by
    refine ⟨fun a o e n => ?_, fun a e => ?_, fun P t => ?_⟩
    · by_cases z : a ∈ F
      · rw [hm_in z] at e; cases e
      · rwa [hm_out z] at e
    · unfold hm; split
      · rfl
      · exact e
    · obtain ⟨ps, t1, t2, t3⟩ := t
      have up : ∀ {a : Addr} {o : HO}, hm H F a = some o → H a = some o := fun {a o} e => by
        by_cases z : a ∈ F
        · rw [hm_in z] at e; cases e
        · rwa [hm_out z] at e
      exact ⟨ps, up t1, t2, fun pos cv hc => let ⟨c, c1, c2⟩ := t3 pos cv hc; ⟨c, c1, up c2⟩⟩
  exact (s0.trans s).wr (hm_in hq) h1 (gd_ext gu) (gd_nt gu)
/-- a list at a place changes -/
theorem At.chgL {fm : Fm} {kp : RdR} {σ : L2.St} {H1 H2 : Hp} {own : List Addr} {ds : List γ} {put : List γ → α} {v2 : V} {F1 F2 : List Addr} {Fs : List (List Addr)} (at1 : At fm kp L σ H1 own) (A1 : AtP fm L σ own Fs i px O d H1 (wL O3) ds put v2 F2) (s2 : Same H1 H2) (nF1 : ∀ q ∈ F1, H1 q = none) (tF1 : ∀ q ∈ F1, H2 q ≠ none) :
    ∃ p vs Gs, v2 = .ref p ∧ p ∈ own ∧ H1 p = some (.lst vs) ∧ H2 p = some (.lst vs) ∧ RepsO O3 H2 (RD fm (F1 ++ own) H2) ds vs Gs ∧ Gs.flatten.Nodup ∧ (∀ q ∈ Gs.flatten, H1 q ≠ none) ∧ (∀ q ∈ F1, q ∉ Gs.flatten) ∧
      ∀ ds' vs' Gs', RepsO O3 H2 (RD fm (F1 ++ own) H2) ds' vs' Gs' → Gs'.flatten.Nodup → (∀ q ∈ Gs'.flatten, q ∈ Gs.flatten ∨ q ∈ F1) → ∃ own', At fm kp (L.set i (sP px O (put ds'))) σ (upd H2 p (.lst vs')) own' ∧ ∀ q ∈ own', q ∈ own ∨ q ∈ F1 := by
  have sub2 := at1.gdo A1
  have A1' := A1
  obtain ⟨v, F, hL, hs, eo, e1, hx, e2, pl⟩ := A1
  obtain ⟨p, vs, Gs, r1, r2, hp, rr⟩ := pl.rep
  have nd := pl.nd
  rw [r2, List.nodup_cons] at nd
  have gH : ∀ q ∈ Gs.flatten, H1 q ≠ none := fun q hq => by obtain ⟨o, ho, _⟩ := rr.tb q hq; rw [ho]; exact fun z => nomatch z
  have h2p : H2 p = some (.lst vs) := s2.keep _ _ hp rfl
  have pF2 : p ∈ F2 := by rw [r2]; exact List.mem_cons_self
  have pown : p ∈ own := sub2 p pF2
  have dj : ∀ q ∈ F1, q ∉ Gs.flatten := fun q h1 h2 => gH q h2 (nF1 q h1)
  have np1 : p ∉ F1 := fun q => by rw [nF1 p q] at hp; cases hp
  have k2 : ∀ q ∈ Gs.flatten, H2 q = H1 q := fun q hq => by obtain ⟨o, ho, go⟩ := rr.tb q hq; rw [ho]; exact s2.keep _ _ ho (gd_nt go)
  refine ⟨p, vs, Gs, r1, pown, hp, h2p, rr.st (RD.newer s2 nF1) k2, nd.2, gH, dj, fun ds' vs' Gs' rr' nd' n' => ?_⟩
  have np : p ∉ Gs'.flatten := fun q => (n' p q).elim nd.1 np1
  have gdF2 : ∀ a ∈ F2, ∃ o, H1 a = some o ∧ gd o = true := fun a ha => by
    rw [r2] at ha
    rcases List.mem_cons.mp ha with e | ha
    · subst e; exact ⟨_, hp, rfl⟩
    · exact rr.tb a ha
  have rd : ∀ a o, RD fm (F1 ++ own) H2 a o → RD fm ((p :: Gs'.flatten) ++ own) (upd H2 p (.lst vs')) a o := fun a o z => by
    rcases z with ⟨z1, z2, z3⟩ | z
    · have ne : a ≠ p := fun e => z2 (by rw [e]; exact List.mem_append_right _ pown)
      refine .inl ⟨?_, fun hq => z2 ?_, z3⟩
      · unfold Rd at z1 ⊢; rw [cl_upd_ne ne]; exact z1
      · rcases List.mem_append.mp hq with hq | hq
        · rcases List.mem_cons.mp hq with e | hq
          · exact absurd e ne
          · rcases n' a hq with h | h
            · exact List.mem_append_right _ (sub2 a (by rw [r2]; exact List.mem_cons_of_mem _ h))
            · exact List.mem_append_left _ h
        · exact List.mem_append_right _ hq
    · exact .inr z
  have n1' : ∀ q ∈ p :: Gs'.flatten, q ∈ F2 ∨ H1 q = none := fun q hq => by
    rcases List.mem_cons.mp hq with e | hq
    · subst e; exact .inl pF2
    · exact (n' q hq).imp (fun h => by rw [r2]; exact List.mem_cons_of_mem _ h) (nF1 q)
  have n2' : ∀ q ∈ p :: Gs'.flatten, upd H2 p (.lst vs') q ≠ none := fun q hq => by
    rcases List.mem_cons.mp hq with e | hq
    · subst e; rw [upd_same]; exact fun z => nomatch z
    · rw [upd_ne fun e => np (by rw [← e]; exact hq)]
      rcases n' q hq with h | h
      · rw [k2 q h]; exact gH q h
      · exact tF1 q h
  obtain ⟨own', a', n3⟩ := at1.chg (d2' := ds') (F2' := p :: Gs'.flatten) A1' (hm_wr (o := .lst vs') s2 pF2 h2p rfl gdF2) (List.nodup_cons.mpr ⟨np, nd'⟩) n1' n2' ⟨p, vs', Gs', r1, rfl, upd_same, rr'.st rd fun q hq => upd_ne fun e => np (by rw [← e]; exact hq)⟩
  refine ⟨own', a', fun q hq => ?_⟩
  rcases n3 q hq with h | h
  · rcases List.mem_cons.mp h with e | h
    · subst e; exact .inl pown
    · rcases n' q h with h | h
      · exact .inl (sub2 q (by rw [r2]; exact List.mem_cons_of_mem _ h))
      · exact .inr h
  · exact .inl h.1
/-- place[n] = e, the items shared things -/
theorem evb_pSet {mp : M (List β × (List β → α))} {m : M β} {mi : M Int} {h : α → M δ} {p2 : Pos} (ok : OkS p sc NN VV GG k g) (wk : Wkx g L (NoEx m ∧ NoEx mp ∧ NoEx mi)) (he : EvE g L e md T m) (hp : EvP g L a i px O d (wL (wV T)) mp) (hi : EvE g L ix md' tInt mi) (hr : ∀ d', EvB g (L.set i (sP px O d')) st D (h d'))
    (hs : swapsWith e (some (.Subscript a ix p2)) pos.line g.X.env = pure false := by rfl)
    (hsub : ∀ v, assign (.Subscript a ix p2) g.X.env v = (do
      let ov ← holding [v] (eval a g.X.env)
      let iv ← holding [v, ov] (eval ix g.X.env)
      standAt p2
      holding [v, ov, iv] (setItem ov iv v)
      release [v, ov, iv] []) := by intro _; rfl)
    (hs' : swapsWithSole [.Subscript a ix p2] e pos.line g.X.env = pure false := by rfl) (hw : swappedStores [.Subscript a ix p2] e g.X.env = pure none := by rfl) (ha1 : (assignEach [.Subscript a ix p2] g.X.env).map (·.2) = [assign (.Subscript a ix p2) g.X.env] := by rfl) :
    EvB g L (.Assign [.Subscript a ix p2] e pos :: st) D (m.bind fun x => mp.bind fun q => mi.bind fun n => (setM q.1 n x).bind fun l => h (q.2 l)) := by
  refine PSs.imp (pss_cons (ps_asg he (pg_sub hp hi set_list hsub) hs' hw ha1) (PSs.ex hr)) fun E σ H ⟨kp, own, at_, q⟩ => ?_
  refine tE_iff.mpr ⟨kp, own, at_, ?_⟩
  cases m with
  | ok x =>
    intro w H0 s0 r0
    have at0 := at_.ext s0
    obtain ⟨Fs, hsl, heo⟩ := at0.sl
    refine ⟨kp, own, Fs, at0, hsl, heo, ?_⟩
    cases mp with
    | ok q0 =>
      intro v2 F2 H1 s1 A1
      have at1 := at0.ext s1
      refine tE_iff.mpr ⟨kp, own, at1, ?_⟩
      cases mi with
      | ok n =>
        intro y H2 s2 r2
        cases (show y = .int n from r2)
        have at2 := at1.ext s2
        have q : BOk g kp E D ((setM q0.1 n x).bind fun l => h (q0.2 l)) := q
        obtain ⟨p', vs, Gs, r1, _, hp', _, rr, nd, _, _, up⟩ := at2.chgL (F1 := []) (A1.ext s2) (Same.refl H2) (fun _ h => nomatch h) (fun _ h => nomatch h)
        subst r1
        unfold setM at q
        split at q
        · rename_i j hj
          have rx : (wV T).rep x w H2 (RD g.fm ([] ++ own) H2) [] := ⟨rfl, T.mono r0 fun a o z => RD.same s2 a o (RD.same s1 a o (RX.sh a o z))⟩
          have hj' := ixN_seq hj
          have nd2 : (Gs.set j []).flatten.Sublist Gs.flatten := set_sub
          obtain ⟨own', a', _⟩ := up _ _ _ (rr.set rx j) (nd.sublist nd2) (fun q hq => .inl (nd2.subset hq))
          exact ⟨_, vs, n, j, rfl, rfl, hp', by rw [← rr.length]; exact hj, q0.2 (q0.1.set j x), kp, own', a', q⟩
        · exact q.elim
      | ex c => exact BOk.exx' wk (fun n => n.2.2 c rfl) at1 q
      | no => exact q
    | ex c => exact BOk.exx' wk (fun n => n.2.1 c rfl) at0 q
    | no => exact q
  | ex c => exact BOk.exx' wk (fun n => n.1 c rfl) at_ q
  | no => exact q
end
end Hd
namespace Hd
open PySem PySem.Spec L2
section
variable {p : Pr} {sc : Scope} {NN VV GG : List Str} {k : Nat} {g : G} {L L' : List Slot} {a b c e e' ix : Expr} {es : List Expr} {md md' : Md} {α β γ δ ρ : Type} {S : Ty α} {T : Ty β} {O : WTy α} {O2 : WTy β} {O3 : WTy γ} {A : WAr ρ} {pos pp pos' : Pos} {i j : Nat} {x f : Str} {px : V → Prop} {d : α}
variable {st : List Stmt} {D : δ → Out}
theorem AllS.lenF {H : Hp} {R : Bool → RdR} {L : List Slot} {σ : L2.St} {Fs : List (List Addr)} (h : AllS H R L σ Fs) : Fs.length = L.length := by
  induction h with
  | nil => rfl
  | cons _ _ ih => rw [List.length_cons, List.length_cons, ih]
theorem At.setW {fm : Fm} {kp : RdR} {σ : L2.St} {H H' : Hp} {own F1 : List Addr} {v : V} (h : At fm kp L σ H own) (s : Same H H') (nd1 : F1.Nodup) (n1 : ∀ q ∈ F1, H q = none) (r : O.rep d v H' (RD fm (F1 ++ own) H') F1) : ∃ own', At fm kp (L.set i (sO O d)) (σ.set i (some v)) H' own' := by
  obtain ⟨h1, h2, ⟨Fs, h3, e⟩, h4, h5, h6⟩ := h
  have nd := h4
  rw [e] at nd
  have hk : ∀ q ∈ Fs.flatten, H' q = H q := fun q hq => by
    cases r : cl H q with
    | none => exact absurd r (h3.tb q hq)
    | some o => rw [cl_raw r]; exact s.keep _ _ (cl_raw r) (cl_nt r)
  by_cases hi : i < Fs.length
  · have ei : Fs[i]? = some Fs[i] := List.getElem?_eq_getElem hi
    have nF : ∀ q ∈ (Fs.set i F1).flatten, q ∈ F1 ∨ q ∈ own := fun q hq => by
      rcases flat_set_mem nd ei q hq with hq | ⟨hq, _⟩
      · exact .inl hq
      · exact .inr (by rw [e]; exact hq)
    have dr : ∀ a o, RD fm (F1 ++ own) H' a o → RD fm (Fs.set i F1).flatten H' a o := RD.drop fun q hq => List.mem_append.mpr (nF q hq)
    have keyB : ∀ b a o, RB fm own H b a o → RB fm (Fs.set i F1).flatten H' b a o := fun b a o z => by
      cases b with
      | false => exact dr a o (RD.newer s n1 a o z)
      | true =>
        obtain ⟨z1, z2, z3, z4⟩ := z
        refine ⟨s.cl _ _ z1, fun hq => ?_, z3, z4⟩
        rcases nF a hq with hq | hq
        · rw [cl_none (n1 a hq)] at z1; cases z1
        · exact z2 hq
    refine ⟨_, h1.trans s, fun a z ea => h2 a z (s.free ea), ⟨Fs.set i F1, (h3.st keyB hk).set (s := sO O d) ⟨v, rfl, trivial, O.st r dr fun _ _ => rfl⟩ i, rfl⟩, flat_set_nd nd ei nd1 fun q hq => .inr fun hq' => (h5 q (by rw [e]; exact hq')).1 (n1 q hq), fun q hq => ?_, fun a o z => dr a o (RD.newer s n1 a o (h6 a o z))⟩
    rcases nF q hq with hq | hq
    · exact ⟨(fun z => by obtain ⟨o, ho, _⟩ := O.tb r q hq; rw [ho] at z; cases z), h1.free (n1 q hq), fun z => h2 q z (n1 q hq)⟩
    · exact ⟨fun z => (h5 q hq).1 (s.free z), (h5 q hq).2⟩
  · have hl := h3.len
    have hl2 : Fs.length = L.length := h3.lenF
    have e1 : L.set i (sO O d) = L := List.set_eq_of_length_le (by omega)
    have e2 : σ.set i (some v) = σ := List.set_eq_of_length_le (by omega)
    rw [e1, e2]
    exact ⟨own, At.ext ⟨h1, h2, ⟨Fs, h3, e⟩, h4, h5, h6⟩ s⟩
/-- x = e -/
theorem evb_setN {m : M α} {h : α → M δ} (ok : OkS p sc NN VV GG k g) (hN : NN[i]? = some x) (hV : VV[j]? = some x) (wk : Wkx g L (NoEx m)) (he : EvN g L e O m) (hr : ∀ d, EvB g (L.set i (sO O d)) st D (h d))
    (hs : swapsWith e (some (.Name x pos')) pos.line g.X.env = pure false := by rfl) : EvB g L (.Assign [.Name x pos'] e pos :: st) D (m.bind h) := by
  refine PSs.imp (pss_cons (ps_set (i := i) (by rw [ok.N]; exact ok.nd) (by rw [ok.N]; exact hN) (ok.loc hV) he hs (okS_fn ok)) (PSs.ex hr)) fun E σ H ⟨kp, own, at_, q⟩ => ?_
  refine ⟨kp, own, at_, ?_⟩
  cases m with
  | ok d =>
    intro v F H' s nd n r
    obtain ⟨own', a'⟩ := at_.setW (i := i) s nd n r
    exact ⟨d, kp, own', a', q⟩
  | ex c => exact BOk.exx' wk (fun n => n c rfl) at_ q
  | no => exact q
/-- looked at, as if it were shared -/
theorem At.freezeP {fm : Fm} {kp : RdR} {σ : L2.St} {H : Hp} {own : List Addr} (h : At fm kp L σ H own) (hL : L[i]? = some (sP px O d)) : ∃ own', At fm kp (L.set i (sV false O.T d)) σ H own' ∧ ∀ p ∈ own', p ∈ own := by
  obtain ⟨h1, h2, ⟨Fs, h3, e⟩, h4, h5, h6⟩ := h
  obtain ⟨v0, F, e1, e2, v, rfl, hx, r⟩ := h3.get hL
  have nd := h4
  rw [e] at nd
  have nF : ∀ q ∈ (Fs.set i []).flatten, q ∈ Fs.flatten ∧ q ∉ F := fun q hq => by
    rcases flat_set_mem nd e2 q hq with hq | hq
    · exact nomatch hq
    · exact hq
  have kk : ∀ q ∈ (Fs.set i []).flatten, q ∈ own := fun q hq => by rw [e]; exact (nF q hq).1
  have hk : ∀ q ∈ Fs.flatten, q ∉ F → H q = H q := fun _ _ _ => rfl
  refine ⟨_, ⟨h1, h2, ⟨Fs.set i [], h3.chg nd e2 e1 (RB.own kk) hk (s' := sV false O.T d) ⟨rfl, v, rfl, O.fz r (RB.own kk false) fun q hq o ho => ?_⟩, rfl⟩, flat_set_nd nd e2 List.nodup_nil (fun _ h => nomatch h), fun q hq => h5 q (kk q hq), fun a o z => RX.own (md := .sh) (H := H) kk a o (h6 a o z)⟩, kk⟩
  obtain ⟨o', ho', go⟩ := O.tb r q hq
  rw [ho] at ho'; cases ho'
  exact .inl ⟨.inl (cl_of ho (gd_nt go)), fun hq' => (nF q hq').2 hq, (h5 q (by rw [e]; exact flat_mem e2 q hq)).2.2⟩
theorem evb_freezeP {m : M δ} (hL : L[i]? = some (sP px O d)) (hr : EvB g (L.set i (sV false O.T d)) st D m) : EvB g L st D m := PSs.imp hr fun E σ H ⟨kp, own, at_, q⟩ => by
  obtain ⟨own', a', _⟩ := at_.freezeP hL
  exact ⟨kp, own', a', q⟩
theorem evl_borrowP {m : M (List β)} (hf : Flat T) (hL : L[i]? = some (sP px O d)) (h : EvL g (L.set i (sV false O.T d)) e md T m) : EvL g L e md T m := PE.imp h fun σ H Q q => by
  obtain ⟨kp, own, at_, q⟩ := tL_iff.mp q
  obtain ⟨own', a', sub⟩ := at_.freezeP hL
  refine tL_iff.mpr ⟨kp, own', a', ?_⟩
  cases m with
  | ok d => exact fun p vs H' s n h' r => q p vs H' s n h' (r.flat hf)
  | ex c => exact q
  | no => exact q
end
end Hd
namespace Hd
open PySem PySem.Spec L2
/-- arguments: f: the slots they begin with; fo: the slots they end with; pj: what is owned of them; up: what they have become -/
inductive ArX : {δ ω : Type} → WAr δ → Nat → (δ → List V → List Slot) → (ω → List V → List Slot) → (δ → ω) → (δ → ω → δ) → Prop where
  | nil : ArX (ω := Unit) waNil 0 (fun _ _ => []) (fun _ _ => []) (fun _ => ()) (fun d _ => d)
  | sh {α δ ω : Type} {T : Ty α} {A : WAr δ} {n : Nat} {f : δ → List V → List Slot} {fo : ω → List V → List Slot} {pj : δ → ω} {up : δ → ω → δ} : ArX A n f fo pj up →
      ArX (ω := ω) (waCons (wV T) A) (n + 1) (fun d vs => sV false T d.1 :: f d.2 vs.tail) (fun w vs => sAny :: fo w vs.tail) (fun d => pj d.2) (fun d w => (d.1, up d.2 w))
  | ow {α δ ω : Type} {O : WTy α} {A : WAr δ} {n : Nat} {f : δ → List V → List Slot} {fo : ω → List V → List Slot} {pj : δ → ω} {up : δ → ω → δ} : ArX A n f fo pj up →
      ArX (ω := α × ω) (waCons O A) (n + 1) (fun d vs => sA (vs.headD .non) O d.1 :: f d.2 vs.tail) (fun w vs => sA (vs.headD .non) O w.1 :: fo w.2 vs.tail) (fun d => (d.1, pj d.2)) (fun d w => (w.1, up d.2 w.2))
section
variable {δ ω : Type} {A : WAr δ} {n : Nat} {f : δ → List V → List Slot} {fo : ω → List V → List Slot} {pj : δ → ω} {up : δ → ω → δ} {H H1 : Hp} {R : Bool → RdR} {R1 : RdR}
theorem ArX.all (h : ArX A n f fo pj up) : ∀ {d : δ} {vs : List V} {F : List Addr}, A.rep d vs H (R false) F → vs.length = n ∧ ∃ Fs, AllS H R (f d vs) (vs.map some) Fs ∧ Fs.flatten = F := by
  induction h with
  | nil => rintro d vs F ⟨e1, e2⟩; subst e1; subst e2; exact ⟨rfl, [], .nil, rfl⟩
  | sh _ ih =>
    rintro d vs F ⟨v, r, F1, F2, e1, e2, ⟨e3, h1⟩, h2⟩
    subst e1; subst e2; subst e3
    obtain ⟨hl, Fs, h3, h4⟩ := ih h2
    exact ⟨by simp [hl], [] :: Fs, .cons ⟨rfl, v, rfl, h1⟩ h3, by simp [h4]⟩
  | ow _ ih =>
    rintro d vs F ⟨v, r, F1, F2, e1, e2, h1, h2⟩
    subst e1; subst e2
    obtain ⟨hl, Fs, h3, h4⟩ := ih h2
    exact ⟨by simp [hl], F1 :: Fs, .cons ⟨v, rfl, rfl, h1⟩ h3, by simp [h4]⟩
theorem ArX.back (h : ArX A n f fo pj up) (s : ∀ a o, R1 a o → R false a o) {L : List Slot} (hL : ∀ {σ : L2.St} {Fs : List (List Addr)}, AllS H R L σ Fs → Fs.flatten = []) : ∀ {d : δ} {w : ω} {vs : List V} {F1 : List Addr} {σ : L2.St} {Fs : List (List Addr)}, A.rep d vs H1 R1 F1 → AllS H R (fo w vs ++ L) σ Fs → A.rep (up d w) vs H (R false) Fs.flatten := by
  induction h with
  | nil => rintro d w vs F1 σ Fs ⟨e1, e2⟩ ha; subst e1; exact ⟨rfl, hL ha⟩
  | sh _ ih =>
    rintro d w vs F1 σ Fs ⟨v, r, G1, G2, e1, e2, ⟨e3, h1⟩, h2⟩ ha
    subst e1
    cases ha with
    | @cons _ _ _ _ _ Fs' q t =>
      cases (show _ = [] from q)
      exact ⟨v, r, [], Fs'.flatten, rfl, by simp, ⟨rfl, Ty.mono _ h1 s⟩, ih h2 t⟩
  | ow _ ih =>
    rintro d w vs F1 σ Fs ⟨v, r, G1, G2, e1, e2, h1, h2⟩ ha
    subst e1
    cases ha with
    | @cons _ _ _ _ F0 Fs' q t =>
      obtain ⟨x, _, e6, r5⟩ := q
      have e6 : x = v := e6
      subst e6
      exact ⟨x, r, F0, Fs'.flatten, rfl, by simp, r5, ih h2 t⟩
theorem anys_flat : ∀ {m : Nat} {H : Hp} {R : Bool → RdR} {σ : L2.St} {Fs : List (List Addr)}, AllS H R (List.replicate m sAny) σ Fs → Fs.flatten = []
  | 0, _, _, _, _, h => by cases h; rfl
  | m + 1, _, _, _, _, h => by
    rw [List.replicate_succ] at h
    cases h with
    | cons q t => cases (show _ = [] from q); simpa using anys_flat t
theorem ArX.pu (h : ArX A n f fo pj up) : ∀ d, up d (pj d) = d := by
  induction h with
  | nil => exact fun _ => rfl
  | sh _ ih => intro d; show (d.1, _) = d; rw [ih]
  | ow _ ih => intro d; show (d.1, _) = d; rw [ih]
end
/-- what such a def promises: its answer, and what has become of what it may change -/
def spX (p : Pr) {δ ω ρ : Type} (A : WAr δ) (up : δ → ω → δ) (O : WTy ρ) (kx : Bool) (F : δ → M (ρ × ω)) : Sp := fun vs H Q E => ∃ d z Fa, ((∀ a, z a → H a ≠ none) ∧ ∀ P, p.T = some P → LamX.TabS H P lamQ) ∧ Fa.Nodup ∧ (∀ a ∈ Fa, ¬ z a) ∧ A.rep d vs H (RD ⟨p.K, hm H Fa, z⟩ Fa H) Fa ∧
  match F d with
  | .ok r => ∀ v H' Fr Fa', Same (hm H Fa) H' → (Fr ++ Fa').Nodup → (∀ a ∈ Fr ++ Fa', (a ∈ Fa ∨ H a = none) ∧ H' a ≠ none ∧ ¬ z a) → O.rep r.1 v H' (RD ⟨p.K, hm H Fa, z⟩ (Fr ++ Fa') H') Fr → A.rep (up d r.2) vs H' (RD ⟨p.K, hm H Fa, z⟩ (Fr ++ Fa') H') Fa' → Q v H'
  | .ex c => ∀ H', Same (hm H Fa) H' → (kx = true → ∃ Fa', Fa'.Nodup ∧ (∀ a ∈ Fa', (a ∈ Fa ∨ H a = none) ∧ H' a ≠ none ∧ ¬ z a) ∧ A.rep d vs H' (RD ⟨p.K, hm H Fa, z⟩ Fa' H') Fa') → E (.ref (p.C c)) none H'
  | .no => False
theorem hm_same {H : Hp} {F : List Addr} : Same (hm H F) H := by
  refine ⟨fun a o e n => ?_, fun a e => ?_, fun P t => ?_⟩
  · by_cases z : a ∈ F
    · rw [hm_in z] at e; cases e
    · rwa [hm_out z] at e
  · unfold hm; split
    · rfl
    · exact e
  · obtain ⟨ps, t1, t2, t3⟩ := t
    have up : ∀ {a : Addr} {o : HO}, hm H F a = some o → H a = some o := fun {a o} e => by
      by_cases z : a ∈ F
      · rw [hm_in z] at e; cases e
      · rwa [hm_out z] at e
    exact ⟨ps, up t1, t2, fun pos cv hc => let ⟨c, c1, c2⟩ := t3 pos cv hc; ⟨c, c1, up c2⟩⟩
theorem hm_tab {H : Hp} {F : List Addr} (hg : ∀ a ∈ F, ∃ o, H a = some o ∧ gd o = true) {P : Addr} {q : Str} (t : LamX.TabS H P q) : LamX.TabS (hm H F) P q := by
  obtain ⟨ps, t1, t2, t3⟩ := t
  have ng : ∀ a o, H a = some o → gd o = false → a ∉ F := fun a o ea ga q => by
    obtain ⟨o', ho', go'⟩ := hg a q
    rw [ea] at ho'; cases ho'
    rw [ga] at go'; cases go'
  refine ⟨ps, by rw [hm_out (ng P _ t1 rfl)]; exact t1, t2, fun pos cv hc => ?_⟩
  obtain ⟨c, c1, c2⟩ := t3 pos cv hc
  exact ⟨c, c1, by rw [hm_out (ng c _ c2 rfl)]; exact c2⟩
/-- how such a def's body ends -/
def xOut {ω ρ : Type} (fo : ω → List Slot) (O : WTy ρ) (r : ρ × ω) : Out := .gen fun fm rt => ∀ v σ H H' own Fr, At fm (fun _ _ => False) (fo r.2) σ H own → Same H H' → Fr.Nodup → (∀ a ∈ Fr, H a = none) → O.rep r.1 v H' (RD fm (Fr ++ own) H') Fr → rt v H'
section
variable {p : Pr} {sc : Scope} {NN VV GG : List Str} {k : Nat} {g : G} {L L' : List Slot} {a b c e e' ix : Expr} {es : List Expr} {md md' : Md} {α β γ δ ρ ω τ : Type} {S : Ty α} {T : Ty β} {O : WTy α} {O2 : WTy β} {O3 : WTy γ} {A : WAr δ} {pos pp pos' : Pos} {i j : Nat} {x : Str} {px : V → Prop} {d : α}
theorem fn_X {x qual : Str} {st : Stmt} {f : Addr} {fd : FuncData} {ps : List Str} {L0 : δ → List V → List Slot} {fo : ω → List V → List Slot} {pj : δ → ω} {up : δ → ω → δ} {n m : Nat} {O : WTy ρ} {F : δ → M (ρ × ω)} {kx : Bool} {D' : List V → ρ × ω → Out} (hF : FunD p.K x qual (defArgs st) (defBody st) (defScope st) [] [] f fd) (hS : Sc st NN VV ps GG) (ha : ArX A n L0 fo pj up) (hn : ps.length = n) (hm' : n + m = NN.length)
    (hD : ∀ (r : ρ × ω) (vs : List V) (fm : Fm) (Q : VK), OutOk fm (fun _ _ => False) { nx := fun _ H' => Q .non H', rt := Q } (xOut (fun w => fo w vs ++ List.replicate m sAny) O r) → OutOk fm (fun _ _ => False) { nx := fun _ H' => Q .non H', rt := Q } (D' vs r))
    (hb : ∀ vs g, OkS p (defScope st) NN VV GG k g → ∀ d, g.LX = (if kx = true then fo (pj d) vs ++ List.replicate m sAny else List.replicate NN.length sAny) → EvB g (L0 d vs ++ List.replicate m sAny) (defBody st) (D' vs) (F d)) :
    FnOk p.P p.w p.K p.mg p.base (L2.CX p.P p.w) (k + 1) f fd ps (spX p A up O kx F) := by
  refine hF.ok hS.S (fun vs H Q E h => ?_) (fun cdv A' outer s H vs Q E hr h => ?_)
  · obtain ⟨d, z, Fa, _, _, _, hrep, _⟩ := h
    exact (ha.all (R := fun _ => RD ⟨p.K, hm H Fa, z⟩ Fa H) hrep).1.trans hn.symm
  · obtain ⟨d, z, Fa, ⟨hz, htab⟩, hnd, hnz, hrep, q⟩ := h
    obtain ⟨hlen, Fs, hall, hfl⟩ := ha.all (R := RB ⟨p.K, hm H Fa, z⟩ Fa H) hrep
    have hg := A.tb hrep
    let X : Cx := cxOf (L2.CX p.P p.w) p.P p.w p.K p.mg p.base NN qual (defScope st) f cdv A' outer s H E
    let g : G := ⟨X, ⟨p.K, hm H Fa, z⟩, fun c _ H' => E (.ref (p.C c)) none H', if kx = true then fo (pj d) vs ++ List.replicate m sAny else List.replicate NN.length sAny⟩
    have hN : ∀ {j : Nat} {y : Str}, VV[j]? = some y → y ∈ VV := fun e => List.mem_of_getElem? e
    have ok : OkS p (defScope st) NN VV GG k g :=
      { prog := rfl, w := rfl, K := rfl, mg := rfl, base := rfl, N := rfl, fmK := rfl, tab := fun P e => hm_tab hg (htab P e), room := hr, nd := hS.S.nd
        vis := fun e => let h := seenB_v (List.all_eq_true.mp hS.vis _ (hN e)); ⟨h.2, h.1⟩
        gl := fun e => let h := glB_v (List.all_eq_true.mp hS.gl _ (List.mem_of_getElem? e)); ⟨h.2, h.1⟩
        tk := by
          refine Takes.imp (takes_of (X := X) rfl rfl rfl (E := E) rfl) ?_
          intro cls d' σ2 H2 h2
          obtain ⟨c, e1, e2, h3⟩ := h2
          rw [e1, e2]; exact h3
        calm := rfl
        blk := fun h => blkOk_by h
        loc := fun e => locB_v (List.all_eq_true.mp hS.loc _ (hN e))
        fnT := fun _ => rfl
        psO := passes_of (X := X) rfl
        scp := rfl
        stk := rfl
        frm := rfl
        exn := rfl }
    have fin : ∀ (w : ω) (σ' : L2.St) (H2 H' : Hp) (own : List Addr), At ⟨p.K, hm H Fa, z⟩ (fun _ _ => False) (fo w vs ++ List.replicate m sAny) σ' H2 own → Same H2 H' → ∀ Fr : List Addr, Fr.Nodup → (∀ a ∈ Fr, H2 a = none ∧ H' a ≠ none) → (Fr ++ own).Nodup ∧ (∀ a ∈ Fr ++ own, (a ∈ Fa ∨ H a = none) ∧ H' a ≠ none ∧ ¬ z a) ∧ A.rep (up d w) vs H' (RD ⟨p.K, hm H Fa, z⟩ (Fr ++ own) H') own := by
      intro w σ' H2 H' own at_ s2 Fr nd hFr
      obtain ⟨Fs', h3, e3⟩ := at_.sl
      have rd1 : ∀ a o, RD ⟨p.K, hm H Fa, z⟩ Fa H a o → RD ⟨p.K, hm H Fa, z⟩ own H2 a o := fun a o y => by
        rcases y with ⟨y1, y2, y3⟩ | y
        · have h1 : Rd (cl (hm H Fa)) a o := by
            have key : ∀ o', cl H a = some o' → cl (hm H Fa) a = some o' := fun o' ho => by
              unfold cl at ho ⊢; rw [hm_out y2]; exact ho
            exact y1.imp (key _) fun ⟨f, h⟩ => ⟨f, key _ h⟩
          have ne : hm H Fa a ≠ none := fun q => by rcases h1 with h1 | ⟨_, h1⟩ <;> rw [cl_none q] at h1 <;> cases h1
          exact .inl ⟨Rd.same at_.same h1, fun hq => ne (at_.new a hq).2.1, y3⟩
        · exact .inr y
      have r4 := ha.back (R := RB ⟨p.K, hm H Fa, z⟩ own H2) rd1 (fun h => anys_flat h) hrep h3
      rw [← e3] at r4
      have tb2 := A.tb r4
      refine ⟨List.nodup_append.mpr ⟨nd, at_.nd, fun a ha' b hb' e => ?_⟩, fun a ha' => ?_, A.st r4 (RD.newer s2 fun q hq => (hFr q hq).1) fun q hq => ?_⟩
      · subst e
        exact (at_.new a hb').1 (hFr a ha').1
      · have h0 : hm H Fa a = none ∧ H' a ≠ none ∧ ¬ z a := by
          rcases List.mem_append.mp ha' with ha' | ha'
          · exact ⟨at_.same.free (hFr a ha').1, (hFr a ha').2, fun y => at_.zin a y (hFr a ha').1⟩
          · exact ⟨(at_.new a ha').2.1, fun y => (at_.new a ha').1 (s2.free y), (at_.new a ha').2.2⟩
        refine ⟨?_, h0.2⟩
        by_cases y : a ∈ Fa
        · exact .inl y
        · exact .inr (by have := h0.1; rwa [hm_out y] at this)
      · obtain ⟨o, ho, go⟩ := tb2 q hq
        rw [ho]; exact s2.keep _ _ ho (gd_nt go)
    refine ⟨_, hb vs g ok d rfl, (fun _ _ => False), Fa, ?_, ?_⟩
    · refine ⟨hm_same, hz, ⟨Fs ++ List.replicate m [], ?_, by simp [flat_rep, hfl]⟩, hnd, fun a ha' => ⟨fun e => ?_, hm_in ha', hnz a ha'⟩, fun _ _ h => h.elim⟩
      · have e : L2.start NN vs = vs.map some ++ List.replicate m none := by
          unfold L2.start
          rw [show NN.length - vs.length = m by omega]
        rw [e]
        exact hall.append (AllS.anys m)
      · obtain ⟨o, ho, _⟩ := hg a ha'
        rw [ho] at e; cases e
    · cases hF' : F d with
      | ok r =>
        rw [hF'] at q
        refine hD r vs _ Q ?_
        intro v σ' H2 H' own Fr at_ s2 nd hFr r1
        obtain ⟨h1, h2, h3⟩ := fin r.2 σ' H2 H' own at_ s2 Fr nd (fun a ha' => ⟨hFr a ha', by obtain ⟨o, ho, _⟩ := O.tb r1 a ha'; rw [ho]; exact fun z => nomatch z⟩)
        exact q v H' Fr own (at_.same.trans s2) h1 h2 r1 h3
      | ex c =>
        rw [hF'] at q
        intro σ' H' own a'
        refine q H' a'.same fun hk => ?_
        have a2 : At ⟨p.K, hm H Fa, z⟩ (fun _ _ => False) (fo (pj d) vs ++ List.replicate m sAny) σ' H' own := by
          have : g.LX = fo (pj d) vs ++ List.replicate m sAny := if_pos hk
          rw [← this]; exact a'
        obtain ⟨h1, h2, h3⟩ := fin (pj d) σ' H' H' own a2 (Same.refl _) [] List.nodup_nil (fun _ h => nomatch h)
        rw [ha.pu] at h3
        exact ⟨own, h1, h2, h3⟩
      | no => rw [hF'] at q; exact q
end
end Hd
namespace Hd
open PySem PySem.Spec L2
/-- the slots, some of them set -/
def setAll (L : List Slot) : List (Nat × Slot) → List Slot
  | [] => L
  | c :: cs => (setAll L cs).set c.1 c.2
/-- pointwise, but for some places -/
structure Pw (H : Hp) (R : Bool → RdR) (L : List Slot) (σ : L2.St) (Fs : List (List Addr)) (out : Nat → Prop) : Prop where
  l1 : σ.length = L.length
  l2 : Fs.length = L.length
  ok : ∀ j, ¬ out j → ∀ s v F, L[j]? = some s → σ[j]? = some v → Fs[j]? = some F → s.ok v H R F
theorem AllS.pw {H : Hp} {R : Bool → RdR} {L : List Slot} {σ : L2.St} {Fs : List (List Addr)} (h : AllS H R L σ Fs) : Pw H R L σ Fs (fun _ => False) := by
  refine ⟨h.len, h.lenF, fun j _ s v F e1 e2 e3 => ?_⟩
  obtain ⟨v', F', e4, e5, r⟩ := h.get e1
  rw [e2] at e4; cases e4
  rw [e3] at e5; cases e5
  exact r
theorem Pw.all {H : Hp} {R : Bool → RdR} : ∀ {L : List Slot} {σ : L2.St} {Fs : List (List Addr)}, Pw H R L σ Fs (fun _ => False) → AllS H R L σ Fs
  | [], σ, Fs, h => by
    have e1 : σ = [] := List.length_eq_zero_iff.mp h.l1
    have e2 : Fs = [] := List.length_eq_zero_iff.mp h.l2
    subst e1; subst e2; exact .nil
  | s :: L, [], Fs, h => by have := h.l1; simp at this
  | s :: L, v :: σ, [], h => by have := h.l2; simp at this
  | s :: L, v :: σ, F :: Fs, h => .cons (h.ok 0 (fun z => z) s v F rfl rfl rfl) (Pw.all ⟨by have := h.l1; simpa using this, by have := h.l2; simpa using this, fun j _ s' v' F' e1 e2 e3 => h.ok (j + 1) (fun z => z) s' v' F' (by simpa using e1) (by simpa using e2) (by simpa using e3)⟩)
/-- arguments, some of them places in slots of their own -/
inductive ArgsAt (L : List Slot) (σ : L2.St) (Fs : List (List Addr)) (H : Hp) (R : RdR) : {δ ω τ : Type} → WAr δ → (δ → ω → δ) → δ → List V → List Addr → List Nat → (ω → τ) → (τ → List (Nat × Slot)) → Prop where
  | nil : ArgsAt L σ Fs H R (ω := Unit) (τ := Unit) waNil (fun d _ => d) () [] [] [] (fun _ => ()) (fun _ => [])
  | sh {α δ ω τ : Type} {T : Ty α} {A : WAr δ} {up : δ → ω → δ} {d : α} {ds : δ} {v : V} {vs : List V} {Fa : List Addr} {is : List Nat} {pu : ω → τ} {mk : τ → List (Nat × Slot)} : T.rep d v R → ArgsAt L σ Fs H R A up ds vs Fa is pu mk →
      ArgsAt L σ Fs H R (waCons (wV T) A) (fun d w => (d.1, up d.2 w)) (d, ds) (v :: vs) Fa is pu mk
  | ow {α β δ ω τ : Type} {O : WTy α} {O2 : WTy β} {A : WAr δ} {up : δ → ω → δ} {d : α} {d2 : β} {ds : δ} {v v2 : V} {vs : List V} {F F2 Fa : List Addr} {is : List Nat} {i : Nat} {put : β → α} {px : V → Prop} {pu : ω → τ} {mk : τ → List (Nat × Slot)} :
      L[i]? = some (sP px O d) → σ[i]? = some (some v) → px v → Fs[i]? = some F → Plc H R O v F O2 d2 put v2 F2 → i ∉ is → ArgsAt L σ Fs H R A up ds vs Fa is pu mk →
      ArgsAt L σ Fs H R (ω := β × ω) (τ := α × τ) (waCons O2 A) (fun d w => (w.1, up d.2 w.2)) (d2, ds) (v2 :: vs) (F2 ++ Fa) (i :: is) (fun w => (put w.1, pu w.2)) (fun t => (i, sP px O t.1) :: mk t.2)
section
variable {L : List Slot} {σ : L2.St} {Fs : List (List Addr)} {H H' : Hp} {R R' : RdR} {δ ω τ : Type} {A : WAr δ} {up : δ → ω → δ} {ds : δ} {vs : List V} {Fa : List Addr} {is : List Nat} {pu : ω → τ} {mk : τ → List (Nat × Slot)}
theorem ArgsAt.ext (h : ArgsAt L σ Fs H R A up ds vs Fa is pu mk) (s : ∀ a o, R a o → R' a o) (k : ∀ p ∈ Fs.flatten, H' p = H p) : ArgsAt L σ Fs H' R' A up ds vs Fa is pu mk := by
  induction h with
  | nil => exact .nil
  | sh r _ ih => exact .sh (Ty.mono _ r s) ih
  | ow h1 h2 h3 h4 pl hn _ ih => exact .ow h1 h2 h3 h4 (pl.ext s fun p hp => k p (flat_mem h4 p hp)) hn ih
/-- the roots: what they hold of the arguments -/
theorem ArgsAt.sub (h : ArgsAt L σ Fs H R A up ds vs Fa is pu mk) : ∀ q ∈ Fa, ∃ i ∈ is, ∃ F, Fs[i]? = some F ∧ q ∈ F := by
  induction h with
  | nil => exact fun q hq => nomatch hq
  | sh _ _ ih => exact ih
  | ow h1 h2 h3 h4 pl hn _ ih =>
    intro q hq
    rcases List.mem_append.mp hq with hq | hq
    · exact ⟨_, List.mem_cons_self, _, h4, pl.sub q hq⟩
    · obtain ⟨i, hi, F, e, hF⟩ := ih q hq
      exact ⟨i, List.mem_cons_of_mem _ hi, F, e, hF⟩
theorem ArgsAt.subF (h : ArgsAt L σ Fs H R A up ds vs Fa is pu mk) : ∀ q ∈ Fa, q ∈ Fs.flatten := fun q hq => by
  obtain ⟨i, _, F, e, hF⟩ := h.sub q hq
  exact flat_mem e q hF
theorem flat_two {i j : Nat} {F G : List Addr} (nd : Fs.flatten.Nodup) (h1 : Fs[i]? = some F) (h2 : Fs[j]? = some G) {q : Addr} (hF : q ∈ F) (hG : q ∈ G) : i = j := by
  induction Fs generalizing i j with
  | nil => simp at h1
  | cons E Fs ih =>
    rw [List.flatten_cons, List.nodup_append] at nd
    cases i with
    | zero =>
      cases j with
      | zero => rfl
      | succ j =>
        simp at h1; subst h1
        exact absurd rfl (nd.2.2 q hF q (flat_mem (by simpa using h2) q hG))
    | succ i =>
      cases j with
      | zero =>
        simp at h2; subst h2
        exact absurd rfl (nd.2.2 q hG q (flat_mem (by simpa using h1) q hF))
      | succ j =>
        have := ih nd.2.1 (i := i) (j := j) (by simpa using h1) (by simpa using h2)
        rw [this]
theorem ArgsAt.rep (h : ArgsAt L σ Fs H R A up ds vs Fa is pu mk) (nd : Fs.flatten.Nodup) : A.rep ds vs H R Fa ∧ Fa.Nodup := by
  induction h with
  | nil => exact ⟨⟨rfl, rfl⟩, List.nodup_nil⟩
  | sh r _ ih => exact ⟨⟨_, _, [], _, rfl, rfl, ⟨rfl, r⟩, ih.1⟩, ih.2⟩
  | ow h1 h2 h3 h4 pl hn t ih =>
    refine ⟨⟨_, _, _, _, rfl, rfl, pl.rep, ih.1⟩, List.nodup_append.mpr ⟨pl.nd, ih.2, fun a ha b hb e => ?_⟩⟩
    subst e
    obtain ⟨i', hi', F', e', hF'⟩ := t.sub a hb
    have := flat_two nd h4 e' (pl.sub a ha) hF'
    subst this
    exact hn hi'
/-- the roots hold again -/
theorem ArgsAt.done (h : ArgsAt L σ Fs H R A up ds vs Fa is pu mk) {FA : List Addr} {RR : Bool → RdR} (hFA : ∀ q ∈ Fa, q ∈ FA) (hR : ∀ a o, R a o → RR false a o) (hk : ∀ p ∈ Fs.flatten, p ∉ FA → H' p = H p) (nd : Fs.flatten.Nodup) {Gs : List (List Addr)} (eG : Gs = Fs.map (List.filter fun q => decide (q ∉ FA))) (ndG : Gs.flatten.Nodup)
    (hroot : ∀ i ∈ is, ∀ F, Fs[i]? = some F → ∀ q ∈ F, q ∈ FA → q ∈ Fa) {w : ω} : ∀ {Fa' : List Addr}, A.rep (up ds w) vs H' (RR false) Fa' → Fa'.Nodup → (∀ q ∈ Fa', q ∈ FA ∨ q ∉ Fs.flatten) →
    ∃ Fs' : List (List Addr), Fs'.length = Gs.length ∧ (∀ j, j ∉ is → Fs'[j]? = Gs[j]?) ∧ (∀ j ∈ is, ∀ s v F, (setAll L (mk (pu w)))[j]? = some s → σ[j]? = some v → Fs'[j]? = some F → s.ok v H' RR F) ∧ (∀ j, j ∉ is → (setAll L (mk (pu w)))[j]? = L[j]?) ∧ (setAll L (mk (pu w))).length = L.length ∧ Fs'.flatten.Nodup ∧ ∀ q ∈ Fs'.flatten, q ∈ Fa' ∨ q ∈ Gs.flatten := by
  have memG : ∀ {i : Nat} {F : List Addr}, Fs[i]? = some F → Gs[i]? = some (F.filter fun q => decide (q ∉ FA)) := fun {i F} e => by rw [eG, List.getElem?_map, e]; rfl
  have subG : ∀ q ∈ Gs.flatten, q ∈ Fs.flatten ∧ q ∉ FA := fun q hq => by
    rw [eG] at hq
    obtain ⟨G, hG, hq⟩ := List.mem_flatten.mp hq
    obtain ⟨F, hF, rfl⟩ := List.mem_map.mp hG
    rw [List.mem_filter, decide_eq_true_eq] at hq
    exact ⟨List.mem_flatten.mpr ⟨F, hF, hq.1⟩, hq.2⟩
  induction h with
  | nil => intro Fa' _ _ _; exact ⟨Gs, rfl, fun _ _ => rfl, (fun _ h => nomatch h), fun _ _ => rfl, rfl, ndG, fun q hq => .inr hq⟩
  | sh r t ih =>
    rintro Fa' ⟨v', r', G1, G2, e1, e2, ⟨e3, h1⟩, h2⟩ ndF nF
    cases e1
    subst e3; subst e2
    exact ih hFA hroot h2 ndF nF
  | @ow α β δ ω τ O O2 A up d d2 ds v v2 vs F F2 Fa is i put px pu mk h1 h2 h3 h4 pl hn t ih =>
    rintro Fa' ⟨v', r', G1, G2, e1, e2, r1, r2⟩ ndF nF
    cases e1
    subst e2
    rw [List.nodup_append] at ndF
    have hroot2 : ∀ i ∈ is, ∀ F, Fs[i]? = some F → ∀ q ∈ F, q ∈ FA → q ∈ Fa := fun j hj F' e' q hq hA => by
      rcases List.mem_append.mp (hroot j (List.mem_cons_of_mem _ hj) F' e' q hq hA) with z | z
      · have := flat_two nd h4 e' (pl.sub q z) hq
        subst this
        exact absurd hj hn
      · exact z
    obtain ⟨Fs1, l1, n1, k1, m1, ml, nd1, q1⟩ := ih (fun q hq => hFA q (List.mem_append_right _ hq)) hroot2 r2 ndF.2.1 (fun q hq => nF q (List.mem_append_right _ hq))
    have hF2 : ∀ q ∈ F, q ∈ FA → q ∈ F2 := fun q hq hA => by
      rcases List.mem_append.mp (hroot i List.mem_cons_self F h4 q hq hA) with z | z
      · exact z
      · obtain ⟨j, hj, F', e', hq'⟩ := t.sub q z
        have := flat_two nd h4 e' hq hq'
        subst this
        exact absurd hj hn
    obtain ⟨F', r3, nd3, n3⟩ := pl.up hR (fun p hp hpn => hk p (flat_mem h4 p hp) fun hA => hpn (hF2 p hp hA)) r1 ndF.1 (fun q hq => (nF q (List.mem_append_left _ hq)).elim (fun z => by
      by_cases y : q ∈ F
      · exact .inl (hF2 q y z)
      · exact .inr y) fun z => .inr fun y => z (flat_mem h4 q y))
    have ei : Fs1[i]? = some (F.filter fun q => decide (q ∉ FA)) := by rw [n1 i hn]; exact memG h4
    have hi : i < Fs1.length := (List.getElem?_eq_some_iff.mp ei).1
    have nF' : ∀ x ∈ F', x ∈ F.filter (fun q => decide (q ∉ FA)) ∨ x ∉ Fs1.flatten := fun x hx => by
      rcases n3 x hx with hx | ⟨hx, hx2⟩
      · refine .inr fun y => ?_
        rcases q1 x y with y | y
        · exact ndF.2.2 x hx x y rfl
        · obtain ⟨y1, y2⟩ := subG x y
          exact (nF x (List.mem_append_left _ hx)).elim y2 fun z => z y1
      · exact .inl (by rw [List.mem_filter, decide_eq_true_eq]; exact ⟨hx, fun hA => hx2 (hF2 x hx hA)⟩)
    refine ⟨Fs1.set i F', by rw [List.length_set, l1], fun j hj => ?_, fun j hj s v' F'' e1 e2 e3 => ?_, fun j hj => ?_, by show ((setAll L (mk (pu w.2))).set i _).length = _; rw [List.length_set, ml], flat_set_nd nd1 ei nd3 nF', fun q hq => ?_⟩
    · rw [List.getElem?_set_ne fun e => hj (by rw [e]; exact List.mem_cons_self)]
      exact n1 j fun z => hj (List.mem_cons_of_mem _ z)
    · have e1 : ((setAll L (mk (pu w.2))).set i (sP px O (put w.1)))[j]? = some s := e1
      by_cases hij : j = i
      · subst hij
        rw [List.getElem?_set_self hi] at e3
        have hj' : j < (setAll L (mk (pu w.2))).length := by rw [ml]; exact (List.getElem?_eq_some_iff.mp h1).1
        rw [List.getElem?_set_self hj'] at e1
        rw [h2] at e2
        cases e1; cases e2; cases e3
        exact ⟨v, rfl, h3, r3⟩
      · rw [List.getElem?_set_ne fun e => hij e.symm] at e1 e3
        exact k1 j ((List.mem_cons.mp hj).resolve_left hij) s v' F'' e1 e2 e3
    · show ((setAll L (mk (pu w.2))).set i _)[j]? = _
      rw [List.getElem?_set_ne fun e => hj (by rw [e]; exact List.mem_cons_self)]
      exact m1 j fun z => hj (List.mem_cons_of_mem _ z)
    · rcases flat_set_mem nd1 ei q hq with hq | ⟨hq, _⟩
      · rcases n3 q hq with hq | ⟨hq, hq2⟩
        · exact .inl (List.mem_append_left _ hq)
        · refine .inr (flat_mem (memG h4) q ?_)
          rw [List.mem_filter, decide_eq_true_eq]
          exact ⟨hq, fun hA => hq2 (hF2 q hq hA)⟩
      · exact (q1 q hq).imp (List.mem_append_right _) id
theorem flat_filter {f : Addr → Bool} : ∀ {Fs : List (List Addr)}, (Fs.map (List.filter f)).flatten.Sublist Fs.flatten
  | [] => List.Sublist.refl _
  | F :: Fs => by rw [List.map_cons, List.flatten_cons, List.flatten_cons]; exact List.Sublist.append List.filter_sublist flat_filter
/-- behind the call -/
theorem At.chgX {fm : Fm} {kp : RdR} {own Fr Fa' : List Addr} {w : ω} (h : At fm kp L σ H own) (hs : AllS H (RB fm own H) L σ Fs) (eo : own = Fs.flatten) (hA : ArgsAt L σ Fs H (RD fm own H) A up ds vs Fa is pu mk) (sm : Same (hm H Fa) H')
    (nd' : (Fr ++ Fa').Nodup) (n1 : ∀ a ∈ Fr ++ Fa', (a ∈ Fa ∨ H a = none) ∧ H' a ≠ none) (r : A.rep (up ds w) vs H' (RD fm (Fr ++ Fa' ++ own.filter fun q => decide (q ∉ Fa)) H') Fa') :
    ∃ own', At fm kp (setAll L (mk (pu w))) σ H' own' ∧ (∀ q ∈ own', q ∈ Fa' ∨ (q ∈ own ∧ q ∉ Fa)) ∧ (∀ a o, kp a o → RD fm (Fr ++ Fa' ++ own.filter fun q => decide (q ∉ Fa)) H' a o) ∧ ∃ Fs', AllS H' (RB fm (Fr ++ Fa' ++ own.filter fun q => decide (q ∉ Fa)) H') (setAll L (mk (pu w))) σ Fs' ∧ own' = Fs'.flatten := by
  obtain ⟨h1, h2, _, h4, h5, h6⟩ := h
  have nd := h4
  rw [eo] at nd
  have sub : ∀ q ∈ Fa, q ∈ own := fun q hq => by rw [eo]; exact hA.subF q hq
  obtain ⟨hrep, hFnd⟩ := hA.rep nd
  have hg := A.tb hrep
  have keep : ∀ a o, H a = some o → nt o = true → a ∉ Fa → H' a = some o := fun a o ea na hn => sm.keep a o (by rw [hm_out hn]; exact ea) na
  have fr : ∀ a, H' a = none → a ∉ Fa → H a = none := fun a ea hn => by have := sm.fr a ea; rwa [hm_out hn] at this
  have tab : ∀ P, LamX.TabS H P lamQ → LamX.TabS H' P lamQ := fun P t => sm.tab P (hm_tab hg t)
  have kcl : ∀ a o, cl H a = some o → a ∉ Fa → cl H' a = some o := fun a o ea hn => cl_of (keep a o (cl_raw ea) (cl_nt ea) hn) (cl_nt ea)
  have keq : ∀ a, cl H a ≠ none → a ∉ Fa → H' a = H a := fun a ha hn => by
    cases r : cl H a with
    | none => exact absurd r ha
    | some o => rw [cl_raw r]; exact keep a o (cl_raw r) (cl_nt r) hn
  have nA : ∀ a ∈ Fr ++ Fa', H a ≠ none → a ∈ Fa := fun a ha hne => (n1 a ha).1.resolve_right hne
  have rdB : ∀ b a o, RB fm own H b a o → RB fm (Fr ++ Fa' ++ own.filter fun q => decide (q ∉ Fa)) H' b a o := fun b a o z => by
    have out : cl H a ≠ none → a ∉ own → a ∉ Fr ++ Fa' ++ own.filter fun q => decide (q ∉ Fa) := fun hc hn hq => by
      rcases List.mem_append.mp hq with hq | hq
      · exact hn (sub a (nA a hq fun e => hc (cl_none e)))
      · exact hn (List.mem_filter.mp hq).1
    cases b with
    | false =>
      rcases z with ⟨z1, z2, z3⟩ | z
      · have hne : cl H a ≠ none := fun q => by rcases z1 with z1 | ⟨_, z1⟩ <;> rw [q] at z1 <;> cases z1
        have n2 : a ∉ Fa := fun q => z2 (sub a q)
        exact .inl ⟨z1.imp (fun q => kcl a _ q n2) fun ⟨f, q⟩ => ⟨f, kcl a _ q n2⟩, out hne z2, z3⟩
      · exact .inr z
    | true =>
      obtain ⟨z1, z2, z3, z4⟩ := z
      exact ⟨kcl a _ z1 fun q => z2 (sub a q), out (by rw [z1]; exact fun q => nomatch q) z2, z3, z4⟩
  have memF : ∀ {i : Nat} {F : List Addr}, Fs[i]? = some F → (Fs.map (List.filter fun q => decide (q ∉ Fa)))[i]? = some (F.filter fun q => decide (q ∉ Fa)) := fun {i F} e => by rw [List.getElem?_map, e]; rfl
  have flG : (Fs.map (List.filter fun q => decide (q ∉ Fa))).flatten.Sublist Fs.flatten := flat_filter
  have nG : ∀ q ∈ (Fs.map (List.filter fun q => decide (q ∉ Fa))).flatten, q ∉ Fa := fun q hq => by
    obtain ⟨G, hG, hq⟩ := List.mem_flatten.mp hq
    obtain ⟨F, hF, rfl⟩ := List.mem_map.mp hG
    rw [List.mem_filter, decide_eq_true_eq] at hq
    exact hq.2
  obtain ⟨Fs', l1, k0, k1, m1, ml, ndF, q1⟩ := hA.done (FA := Fa) (RR := RB fm (Fr ++ Fa' ++ own.filter fun q => decide (q ∉ Fa)) H') (H' := H') (w := w) (fun _ h => h) (fun a o z => rdB false a o z) (fun q hq hn => keq q (hs.tb q hq) hn) nd rfl (nd.sublist flG) (fun i hi F e q hq hF => hF) r (List.nodup_append.mp nd').2.1
    (fun q hq => by
      by_cases y : q ∈ Fs.flatten
      · exact .inl (nA q (List.mem_append_right _ hq) (h5 q (by rw [eo]; exact y)).1)
      · exact .inr y)
  have nF : ∀ q ∈ Fs'.flatten, q ∈ Fa' ∨ (q ∈ own ∧ q ∉ Fa) := fun q hq => (q1 q hq).imp id fun z => ⟨by rw [eo]; exact flG.subset z, nG q z⟩
  have dr : ∀ b a o, RB fm (Fr ++ Fa' ++ own.filter fun q => decide (q ∉ Fa)) H' b a o → RB fm Fs'.flatten H' b a o := RB.own fun q hq => by
    rcases nF q hq with hq | hq
    · exact List.mem_append_left _ (List.mem_append_right _ hq)
    · exact List.mem_append_right _ (List.mem_filter.mpr ⟨hq.1, by rw [decide_eq_true_eq]; exact hq.2⟩)
  have hpw := hs.pw
  have sl : AllS H' (RB fm (Fr ++ Fa' ++ own.filter fun q => decide (q ∉ Fa)) H') (setAll L (mk (pu w))) σ Fs' := by
    refine Pw.all ⟨by rw [ml]; exact hpw.l1, by rw [ml, l1, List.length_map]; exact hpw.l2, fun j _ s v F e1 e2 e3 => ?_⟩
    by_cases hj : j ∈ is
    · exact k1 j hj s v F e1 e2 e3
    · rw [m1 j hj] at e1
      have hlt : j < Fs.length := by rw [hpw.l2]; exact (List.getElem?_eq_some_iff.mp e1).1
      have e4 : Fs[j]? = some Fs[j] := List.getElem?_eq_getElem hlt
      have e5 : Fs[j].filter (fun q => decide (q ∉ Fa)) = Fs[j] := List.filter_eq_self.mpr fun q hq => by
        rw [decide_eq_true_eq]
        intro hF
        obtain ⟨i, hi, F0, e6, hF0⟩ := hA.sub q hF
        have := flat_two nd e4 e6 hq hF0
        subst this
        exact hj hi
      rw [k0 j hj, memF e4, e5] at e3
      cases e3
      refine s.st (hpw.ok j (fun z => z) s v _ e1 e2 e4) rdB fun q hq => keq q (hs.tb q (flat_mem e4 q hq)) fun hF => ?_
      rw [← e5, List.mem_filter, decide_eq_true_eq] at hq
      exact hq.2 hF
  have sH : Same fm.H0 H' := by
    refine ⟨fun a o ea na => keep a o (h1.keep a o ea na) na (fun q => by have := (h5 a (sub a q)).2.1; rw [this] at ea; cases ea), fun a ea => ?_, fun P t => tab P (h1.tab P t)⟩
    by_cases q2 : a ∈ Fa
    · exact (h5 a (sub a q2)).2.1
    · exact h1.fr a (fr a ea q2)
  refine ⟨Fs'.flatten, ⟨sH, fun a z ea => h2 a z (fr a ea fun q => (h5 a (sub a q)).2.2 z), ⟨Fs', sl.st dr fun _ _ => rfl, rfl⟩, ndF, fun q hq => ?_, fun a o z => dr false a o (rdB false a o (h6 a o z))⟩, nF, fun a o z => rdB false a o (h6 a o z), Fs', sl, rfl⟩
  rcases nF q hq with hq | ⟨hq, hn⟩
  · have hq' := n1 q (List.mem_append_right _ hq)
    refine ⟨hq'.2, ?_, ?_⟩
    · rcases hq'.1 with z | z
      · exact (h5 q (sub q z)).2.1
      · exact h1.free z
    · rcases hq'.1 with z | z
      · exact (h5 q (sub q z)).2.2
      · exact fun y => h2 q y z
  · have z := h5 q hq
    exact ⟨fun y => z.1 (fr q y hn), z.2⟩
end
end Hd
namespace Hd
open PySem PySem.Spec L2
def FinXA {δ ω τ : Type} (fm : Fm) (W : Wx) (L : List Slot) (own : List Addr) (Fs : List (List Addr)) (σ : L2.St) (H : Hp) (A : WAr δ) (up : δ → ω → δ) (is : List Nat) (mk : τ → List (Nat × Slot)) (Q : List V → Hp → Prop) : M (δ × (ω → τ)) → Prop
  | .ok q => ∀ vs Fa H', Same H H' → ArgsAt L σ Fs H' (RD fm own H') A up q.1 vs Fa is q.2 mk → Q vs H'
  | .ex c => ∀ H', Same H H' → W c σ H'
  | .no => False
def EvXA (g : G) (L : List Slot) (es : List Expr) {δ ω τ : Type} (A : WAr δ) (up : δ → ω → δ) (is : List Nat) (mk : τ → List (Nat × Slot)) (m : M (δ × (ω → τ))) : Prop :=
  PA g.X es (fun σ H Q => ∃ kp own Fs, At g.fm kp L σ H own ∧ AllS H (RB g.fm own H) L σ Fs ∧ own = Fs.flatten ∧ FinXA g.fm g.W L own Fs σ H A up is mk Q m)
/-- the end of an expression that changes the slots -/
def FinX {β τ : Type} (fm : Fm) (W : Wx) (kp : RdR) (σ : L2.St) (LX : List Slot) (L' : τ → List Slot) (O : WTy β) (Q : VK) : M (β × τ) → Prop
  | .ok r => ∀ v F H' own', At fm kp (L' r.2) σ H' own' → (F ++ own').Nodup → (∀ q ∈ F, H' q ≠ none ∧ fm.H0 q = none ∧ ¬ fm.z q) → (∀ a o, kp a o → RD fm (F ++ own') H' a o) → (∃ Fs, AllS H' (RB fm (F ++ own') H') (L' r.2) σ Fs ∧ own' = Fs.flatten) → O.rep r.1 v H' (RD fm (F ++ own') H') F → Q v H'
  | .ex c => ∀ H' own', At fm kp LX σ H' own' → W c σ H'
  | .no => False
def EvX (g : G) (L : List Slot) (e : Expr) {β τ : Type} (O : WTy β) (L' : τ → List Slot) (m : M (β × τ)) : Prop :=
  PE g.X e (fun σ H Q => ∃ kp own, At g.fm kp L σ H own ∧ FinX g.fm g.W kp σ g.LX L' O Q m)
section
variable {p : Pr} {sc : Scope} {NN VV GG : List Str} {k : Nat} {g : G} {L L' : List Slot} {a b c e e' ix : Expr} {es : List Expr} {md md' : Md} {α β γ δ ρ ω τ : Type} {S : Ty α} {T : Ty β} {O : WTy α} {O2 : WTy β} {O3 : WTy γ} {A : WAr δ} {pos pp pos' : Pos} {i j : Nat} {x f : Str} {px : V → Prop} {d : α}
theorem AllS.hk {fm : Fm} {own : List Addr} {L : List Slot} {σ : L2.St} {H H' : Hp} {Fs : List (List Addr)} {R : Bool → RdR} (hs : AllS H R L σ Fs) (s : Same H H') : ∀ q ∈ Fs.flatten, H' q = H q := fun q hq => by
  cases r : cl H q with
  | none => exact absurd r (hs.tb q hq)
  | some o => rw [cl_raw r]; exact s.keep _ _ (cl_raw r) (cl_nt r)
theorem evxa_nil : EvXA g L [] (ω := Unit) (τ := Unit) waNil (fun d _ => d) [] (fun _ => []) (.ok ((), fun _ => ())) :=
  PA.imp pa_nil fun σ H Q ⟨kp, own, Fs, at_, hsl, heo, q⟩ => q [] [] H (Same.refl H) .nil
theorem evxa_sh {up : δ → ω → δ} {is : List Nat} {mk : τ → List (Nat × Slot)} {m1 : M β} {m2 : M (δ × (ω → τ))} (ha : EvE g L a md T m1) (hb : EvXA g L es A up is mk m2) (hs : starEach (a :: es) g.X.env = (false, eval a g.X.env) :: starEach es g.X.env := by rfl) :
    EvXA g L (a :: es) (waCons (wV T) A) (fun d w => (d.1, up d.2 w)) is mk (m1.bind fun d => m2.bind fun r => .ok ((d, r.1), r.2)) := by
  refine PA.imp (pa_cons ha hb hs) fun σ H Q ⟨kp, own, Fs, at_, hsl, heo, q⟩ => ?_
  refine tE_iff.mpr ⟨kp, own, at_, ?_⟩
  cases m1 with
  | ok d =>
    intro v H1 s1 r1
    refine ⟨kp, own, Fs, at_.ext s1, hsl.st (RB.same s1) (hsl.hk (fm := g.fm) (own := own) s1), heo, ?_⟩
    cases m2 with
    | ok r =>
      intro vs Fa H2 s2 hA
      exact q (v :: vs) Fa H2 (s1.trans s2) (.sh (T.mono r1 fun a o z => RD.same s2 a o (RX.sh a o z)) hA)
    | ex c => exact fun H' s => q H' (s1.trans s)
    | no => exact q
  | ex c => exact q
  | no => exact q
theorem evxa_ow {up : δ → ω → δ} {is : List Nat} {mk : τ → List (Nat × Slot)} {m1 : M (β × (β → α))} {m2 : M (δ × (ω → τ))} (ha : EvP g L a i px O d O2 m1) (hb : EvXA g L es A up is mk m2) (hi : i ∉ is) (hs : starEach (a :: es) g.X.env = (false, eval a g.X.env) :: starEach es g.X.env := by rfl) :
    EvXA g L (a :: es) (ω := β × ω) (τ := α × τ) (waCons O2 A) (fun d w => (w.1, up d.2 w.2)) (i :: is) (fun t => (i, sP px O t.1) :: mk t.2) (m1.bind fun q => m2.bind fun r => .ok ((q.1, r.1), fun w => (q.2 w.1, r.2 w.2))) := by
  refine PA.imp (pa_cons ha hb hs) fun σ H Q ⟨kp, own, Fs, at_, hsl, heo, q⟩ => ?_
  refine ⟨kp, own, Fs, at_, hsl, heo, ?_⟩
  cases m1 with
  | ok q0 =>
    intro v2 F2 H1 s1 A1
    refine ⟨kp, own, Fs, at_.ext s1, hsl.st (RB.same s1) (hsl.hk (fm := g.fm) (own := own) s1), heo, ?_⟩
    cases m2 with
    | ok r =>
      intro vs Fa H2 s2 hA
      obtain ⟨v, F, hL, hs2, eo, e1, hx, e2, pl⟩ := A1.ext s2
      exact q (v2 :: vs) (F2 ++ Fa) H2 (s1.trans s2) (.ow hL e1 hx e2 pl hi hA)
    | ex c => exact fun H' s => q H' (s1.trans s)
    | no => exact q
  | ex c => exact q
  | no => exact q
/-- what is known where such a call refuses -/
inductive WkC {δ ω τ ρ : Type} (g : G) (L : List Slot) (up : δ → ω → δ) (mk : τ → List (Nat × Slot)) (m : M (δ × (ω → τ))) (F : δ → M (ρ × ω)) (kx : Bool) : Prop where
  | any : g.LX = List.replicate L.length sAny → WkC g L up mk m F kx
  | keep {pj : δ → ω} : kx = true → Wk L g.LX → (∀ d, up d (pj d) = d) → (∀ q, m = .ok q → setAll L (mk (q.2 (pj q.1))) = L) → WkC g L up mk m F kx
  | nx : NoEx m → (∀ q, m = .ok q → NoEx (F q.1)) → WkC g L up mk m F kx
theorem At.anys {fm : Fm} {kp : RdR} {σ : L2.St} {H H' : Hp} {own Fa : List Addr} {n : Nat} (h : At fm kp L σ H own) (sub : ∀ q ∈ Fa, q ∈ own) (sm : Same (hm H Fa) H') (hg : ∀ a ∈ Fa, ∃ o, H a = some o ∧ gd o = true) (hn : n = L.length) : At fm kp (List.replicate n sAny) σ H' [] := by
  have hl := h.len
  obtain ⟨h1, h2, ⟨Fs, h3, e⟩, h4, h5, h6⟩ := h
  have keep : ∀ a o, H a = some o → nt o = true → a ∉ Fa → H' a = some o := fun a o ea na hn => sm.keep a o (by rw [hm_out hn]; exact ea) na
  have fr : ∀ a, H' a = none → a ∉ Fa → H a = none := fun a ea hn => by have := sm.fr a ea; rwa [hm_out hn] at this
  have kcl : ∀ a o, cl H a = some o → a ∉ Fa → cl H' a = some o := fun a o ea hn => cl_of (keep a o (cl_raw ea) (cl_nt ea) hn) (cl_nt ea)
  refine ⟨⟨fun a o ea na => keep a o (h1.keep a o ea na) na (fun q => by have := (h5 a (sub a q)).2.1; rw [this] at ea; cases ea), fun a ea => ?_, fun P t => sm.tab P (hm_tab hg (h1.tab P t))⟩, fun a z ea => h2 a z (fr a ea fun q => (h5 a (sub a q)).2.2 z), ⟨List.replicate n [], ?_, by rw [flat_rep]⟩, List.nodup_nil, (fun _ h => nomatch h), fun a o z => ?_⟩
  · by_cases q2 : a ∈ Fa
    · exact (h5 a (sub a q2)).2.1
    · exact h1.fr a (fr a ea q2)
  · have : ∀ {H : Hp} {R : Bool → RdR} (n : Nat) (σ : L2.St), σ.length = n → AllS H R (List.replicate n sAny) σ (List.replicate n []) := by
      intro H R n
      induction n with
      | zero => intro σ hl; rw [List.length_eq_zero_iff.mp hl]; exact .nil
      | succ n ih =>
        intro σ hl
        cases σ with
        | nil => simp at hl
        | cons v σ => exact .cons rfl (ih σ (by simpa using hl))
    exact this n σ (by rw [hl, hn])
  · rcases h6 a o z with ⟨z1, z2, z3⟩ | z
    · have n2 : a ∉ Fa := fun q => z2 (sub a q)
      exact .inl ⟨z1.imp (fun q => kcl a _ q n2) fun ⟨f, q⟩ => ⟨f, kcl a _ q n2⟩, (fun q => nomatch q), z3⟩
    · exact .inr z
/-- exceptions ahead of the call -/
theorem WkC.pre {up : δ → ω → δ} {mk : τ → List (Nat × Slot)} {m : M (δ × (ω → τ))} {F : δ → M (ρ × ω)} {kx : Bool} {kp : RdR} {σ : L2.St} {H H' : Hp} {own : List Addr} {c : Ec} (wk : WkC g L up mk m F kx) (hn : m = .ex c) (at_ : At g.fm kp L σ H own) (s : Same H H') (q : ∀ H' own', At g.fm kp g.LX σ H' own' → g.W c σ H') : g.W c σ H' := by
  cases wk with
  | any h =>
    refine q H' [] (h ▸ At.anys (Fa := []) at_ (fun _ h => nomatch h) ?_ (fun _ h => nomatch h) rfl)
    have : hm H [] = H := funext fun a => hm_out (fun h => nomatch h)
    rw [this]; exact s
  | keep h1 h2 _ _ =>
    obtain ⟨own', a', _⟩ := (at_.ext s).weak h2
    exact q H' own' a'
  | nx h _ => exact absurd hn (h c)
theorem spX_of {up : δ → ω → δ} {is : List Nat} {mk : τ → List (Nat × Slot)} {m : M (δ × (ω → τ))} {q0 : δ × (ω → τ)} {F : δ → M (ρ × ω)} {O : WTy ρ} {kx : Bool} {kp : RdR} {σ : L2.St} {H : Hp} {own : List Addr} {Fs : List (List Addr)} {vs : List V} {Fa : List Addr} {Q : VK} (ok : Ok p sc NN VV GG k g) (wk : WkC g L up mk m F kx) (hm0 : m = .ok q0)
    (at_ : At g.fm kp L σ H own) (hs : AllS H (RB g.fm own H) L σ Fs) (eo : own = Fs.flatten) (hA : ArgsAt L σ Fs H (RD g.fm own H) A up q0.1 vs Fa is q0.2 mk)
    (q : FinX g.fm g.W kp σ g.LX (fun t => setAll L (mk t)) O Q ((F q0.1).bind fun r => .ok (r.1, q0.2 r.2))) :
    spX p A up O kx F vs H Q (fun cls d H => ∃ c, cls = .ref (p.C c) ∧ d = none ∧ g.W c σ H) := by
  have nd := at_.nd
  rw [eo] at nd
  obtain ⟨hrep, hFnd⟩ := hA.rep nd
  have hg := A.tb hrep
  have sub : ∀ q ∈ Fa, q ∈ own := fun q hq => by rw [eo]; exact hA.subF q hq
  let z : Addr → Prop := fun a => (a ∈ own ∧ a ∉ Fa) ∨ g.fm.z a
  -- what the callee may read at the end
  have rdO : ∀ {F1 Fa' : List Addr} {H' : Hp} {X : List Addr}, (∀ q ∈ X, q ∈ F1 ++ Fa' ∨ (q ∈ own ∧ q ∉ Fa)) → ∀ a o, RD ⟨p.K, hm H Fa, z⟩ (F1 ++ Fa') H' a o → RD g.fm X H' a o := fun {F1 Fa' H' X} hX a o y => by
    rcases y with ⟨y1, y2, y3⟩ | y
    · exact .inl ⟨y1, fun hq => (hX a hq).elim y2 fun h => y3 (.inl h), fun h => y3 (.inr h)⟩
    · rw [← ok.fmK] at y; exact .inr y
  refine ⟨q0.1, z, Fa, ⟨fun a y => ?_, fun P e => at_.same.tab P (ok.tab P e)⟩, hFnd, fun a ha y => ?_, A.st hrep (fun a o y => ?_) fun _ _ => rfl, ?_⟩
  · rcases y with y | y
    · exact (at_.new a y.1).1
    · exact at_.zin a y
  · rcases y with y | y
    · exact y.2 ha
    · exact (at_.new a (sub a ha)).2.2 y
  · rcases y with ⟨y1, y2, y3⟩ | y
    · exact .inl ⟨y1, fun h => y2 (sub a h), fun h => h.elim (fun h => y2 h.1) y3⟩
    · rw [ok.fmK] at y; exact .inr y
  cases hF : F q0.1 with
  | ok r =>
    rw [hF] at q
    intro v H' Fr Fa' sm ndf n1 rO rA
    obtain ⟨own', a', sub', kpt, Fs2, al2, eo2⟩ := at_.chgX (Fr := Fr) (w := r.2) hs eo hA sm ndf (fun a ha => ⟨(n1 a ha).1, (n1 a ha).2.1⟩) (A.st rA (rdO fun q hq => by
      rcases List.mem_append.mp hq with hq | hq
      · exact .inl hq
      · rw [List.mem_filter, decide_eq_true_eq] at hq; exact .inr hq) fun _ _ => rfl)
    have ndf2 := List.nodup_append.mp ndf
    have inc : ∀ q ∈ Fr ++ own', q ∈ Fr ++ Fa' ++ own.filter fun q => decide (q ∉ Fa) := fun q hq => by
      rcases List.mem_append.mp hq with hq | hq
      · exact List.mem_append_left _ (List.mem_append_left _ hq)
      · rcases sub' q hq with z | z
        · exact List.mem_append_left _ (List.mem_append_right _ z)
        · exact List.mem_append_right _ (List.mem_filter.mpr ⟨z.1, by rw [decide_eq_true_eq]; exact z.2⟩)
    refine q v Fr H' own' a' (List.nodup_append.mpr ⟨ndf2.1, a'.nd, fun a ha b hb e => ?_⟩) (fun a ha => ?_) (fun a o z => RD.drop (inc) a o (kpt a o z)) ⟨Fs2, al2.st (RB.own inc) (fun _ _ => rfl), eo2⟩ (O.st rO (rdO fun q hq => ?_) fun _ _ => rfl)
    · subst e
      rcases sub' a hb with h | h
      · exact ndf2.2.2 a ha a h rfl
      · rcases (n1 a (List.mem_append_left _ ha)).1 with y | y
        · exact h.2 y
        · exact (at_.new a h.1).1 y
    · have h := n1 a (List.mem_append_left _ ha)
      refine ⟨h.2.1, ?_, fun y => h.2.2 (.inr y)⟩
      rcases h.1 with y | y
      · exact (at_.new a (sub a y)).2.1
      · exact at_.same.free y
    · rcases List.mem_append.mp hq with hq | hq
      · exact .inl (List.mem_append_left _ hq)
      · exact (sub' q hq).imp (List.mem_append_right _) id
  | ex c =>
    rw [hF] at q
    intro H' sm hk
    refine ⟨c, rfl, rfl, ?_⟩
    cases wk with
    | any h => exact q H' [] (h ▸ At.anys at_ sub sm hg rfl)
    | nx _ h => exact absurd hF (h q0 hm0 c)
    | keep h1 h2 h3 h4 =>
      obtain ⟨Fa', nd', n1, rA⟩ := hk h1
      obtain ⟨own', a', _, _, _⟩ := at_.chgX (Fr := []) (Fa' := Fa') (H' := H') hs eo hA sm (by simpa using nd') (fun a ha => ⟨(n1 a (by simpa using ha)).1, (n1 a (by simpa using ha)).2.1⟩) (w := _) (by
        rw [h3]
        refine A.st rA (fun a o y => ?_) fun _ _ => rfl
        have := rdO (F1 := []) (Fa' := Fa') (H' := H') (X := [] ++ Fa' ++ own.filter fun q => decide (q ∉ Fa)) (fun q hq => by
          rcases List.mem_append.mp hq with hq | hq
          · exact .inl hq
          · rw [List.mem_filter, decide_eq_true_eq] at hq; exact .inr hq) a o
        exact this y)
      rw [h4 q0 hm0] at a'
      obtain ⟨own2, a2, _⟩ := a'.weak h2
      exact q H' own2 a2
  | no => rw [hF] at q; exact q
/-- a call of a def -/
theorem ex_call {up : δ → ω → δ} {is : List Nat} {mk : τ → List (Nat × Slot)} {m : M (δ × (ω → τ))} {F : δ → M (ρ × ω)} {O : WTy ρ} {kx : Bool} {kf : Nat} {ps : List Str} (ok : Ok p sc NN VV GG k g) (hf : Fn p kf x ps (spX p A up O kx F)) (hk : kf ≤ k) (hG : GG[j]? = some x) (wk : WkC g L up mk m F kx)
    (ha : EvXA g L (e :: es) A up is mk m) (he : starEach (e :: es) g.X.env = (false, eval e g.X.env) :: starEach es g.X.env := by rfl) (hpl : (backTo pos (starEach es g.X.env)).any (·.1) = false := by rfl) :
    EvX g L (.Call (.Name x pp) (e :: es) [] pos) O (fun t => setAll L (mk t)) (m.bind fun q => (F q.1).bind fun r => .ok (r.1, q.2 r.2)) := by
  obtain ⟨f, fd, hF, hm, hkp, hbd⟩ := hf.ex
  obtain ⟨hg, ho⟩ := ok.gl hG
  rw [← ok.prog, ← ok.w, ← ok.base] at hF
  have hF' : FnOk g.X.prog g.X.w g.X.K g.X.mg g.X.base (L2.CX g.X.prog g.X.w) kf f fd ps (spX p A up O kx F) := by rw [ok.K, ok.mg]; exact hF
  refine PE.imp (pe_callS hF' (ok.room.mono hk) hg (by rw [ok.mg]; exact hm) (by rw [ok.K]; exact hkp) (by rw [ok.K]; exact hbd) (tk_at ok) ha (okName_d ho).1 he hpl) fun σ H Q ⟨kp, own, at_, q⟩ => ?_
  obtain ⟨Fs, hsl, heo⟩ := at_.sl
  refine ⟨kp, own, Fs, at_, hsl, heo, ?_⟩
  cases hm0 : m with
  | ok q0 =>
    rw [hm0] at q
    intro vs Fa H1 s1 hA
    exact spX_of ok wk hm0 (at_.ext s1) (hsl.st (RB.same s1) (hsl.hk (fm := g.fm) (own := own) s1)) heo hA q
  | ex c =>
    rw [hm0] at q
    exact fun H' s => wk.pre hm0 at_ s q
  | no => rw [hm0] at q; exact q
end
section
end
section
end
end Hd
namespace Hd
open PySem PySem.Spec L2
section
end
end Hd
namespace Hd
open PySem PySem.Spec L2
def tSum {α β : Type} (S : Ty α) (T : Ty β) : Ty (α ⊕ β) := ⟨fun d v R => match d with | .inl a => S.rep a v R | .inr b => T.rep b v R, fun {d v R R'} h s => by
  cases d with
  | inl a => exact S.mono h s
  | inr b => exact T.mono h s⟩
inductive It where
  | path (ns : List Int)
  | times (n : Int) (l : List It)
def itP : V := .str (Str.ofString "path")
def itT : V := .str (Str.ofString "times")
inductive ItR (R : RdR) : It → V → Prop where
  | path {ns : List Int} {a b : Addr} : R a (.tup [itP, .ref b]) → R b (.lst (ns.map V.int)) → ItR R (.path ns) (.ref a)
  | times {n : Int} {l : List It} {a b : Addr} {vs : List V} : R a (.tup [itT, .int n, .ref b]) → R b (.lst vs) → l.length = vs.length → (∀ (i : Nat) x v, l[i]? = some x → vs[i]? = some v → ItR R x v) → ItR R (.times n l) (.ref a)
theorem ItR.mono {R R' : RdR} (s : ∀ a o, R a o → R' a o) {x : It} {v : V} (h : ItR R x v) : ItR R' x v := by
  induction h with
  | path h1 h2 => exact .path (s _ _ h1) (s _ _ h2)
  | times h1 h2 h3 _ ih => exact .times (s _ _ h1) (s _ _ h2) h3 ih
section
end
end Hd
namespace Hd
open PySem PySem.Spec L2
section
end
end Hd
namespace Hd
open PySem PySem.Spec L2
section
end
end Hd
namespace Hd
open PySem PySem.Spec L2
section
end
end Hd
namespace Hd
open PySem PySem.Spec L2
section
variable {p : Pr} {sc : Scope} {NN VV GG : List Str} {k : Nat} {g : G} {L : List Slot} {e : Expr} {α β γ δ τ : Type} {S : Ty α} {T : Ty β} {O : WTy α} {pos pos' : Pos} {i j : Nat} {x : Str} {d : α} {st : List Stmt} {D : δ → Out} {L' : τ → List Slot}
/-- f(a, b) -/
theorem evb_exprX {m : M (α × τ)} {f : α × τ → M δ} (he : EvX g L e O L' m) (hr : ∀ r, EvB g (L' r.2) st D (f r)) (hs : swapsWith e none pos.line g.X.env = pure false := by rfl) : EvB g L (.Expr e pos :: st) D (m.bind f) := by
  refine PSs.imp (pss_cons (ps_expr he hs) (PSs.ex hr)) fun E σ H ⟨kp, own, at_, q⟩ => ?_
  refine ⟨kp, own, at_, ?_⟩
  cases m with
  | ok r => exact fun v F H' own' a' nd n kpt al r1 => ⟨r, kp, own', a', q⟩
  | ex c => exact fun H' own' a' => q σ H' own' a'
  | no => exact q
end
end Hd
namespace Hd
open PySem PySem.Spec L2
section
variable {p : Pr} {sc : Scope} {NN VV GG : List Str} {k : Nat} {g : G} {L : List Slot} {e : Expr} {α β γ δ ω ρ τ : Type} {S : Ty α} {T : Ty β} {O : WTy α} {pos pos' : Pos} {i j : Nat} {x : Str} {d : α} {st : List Stmt} {D : δ → Out}
theorem At.conv {fm : Fm} {kp : RdR} {σ : L2.St} {H : Hp} {own : List Addr} {s s' : Slot} (hL : L[i]? = some s) (c : ∀ v H R F, s.ok v H R F → s'.ok v H R F) (h : At fm kp L σ H own) : At fm kp (L.set i s') σ H own := by
  obtain ⟨h1, h2, ⟨Fs, h3, e⟩, h4, h5, h6⟩ := h
  refine ⟨h1, h2, ⟨Fs, ?_, e⟩, h4, h5, h6⟩
  have hpw := h3.pw
  refine Pw.all ⟨by rw [List.length_set]; exact hpw.l1, by rw [List.length_set]; exact hpw.l2, fun j _ s2 v F e1 e2 e3 => ?_⟩
  by_cases hij : i = j
  · subst hij
    rw [List.getElem?_set_self (List.getElem?_eq_some_iff.mp hL).1] at e1
    cases e1
    exact c _ _ _ _ (hpw.ok i (fun z => z) _ v F hL e2 e3)
  · rw [List.getElem?_set_ne hij] at e1
    exact hpw.ok j (fun z => z) s2 v F e1 e2 e3
theorem evb_conv {m : M δ} {s s' : Slot} (hL : L[i]? = some s) (c : ∀ v H R F, s.ok v H R F → s'.ok v H R F) (hr : EvB g (L.set i s') st D m) : EvB g L st D m := PSs.imp hr fun E σ H ⟨kp, own, at_, q⟩ => ⟨kp, own, at_.conv hL c, q⟩
/-- its end is reached -/
theorem x_nx {fo : ω → List Slot} {r : Unit × ω} {fm : Fm} {Q : VK} (h : OutOk fm (fun _ _ => False) { nx := fun _ H' => Q .non H', rt := Q } (xOut fo (wV tNone) r)) : OutOk fm (fun _ _ => False) { nx := fun _ H' => Q .non H', rt := Q } (.nx (fo r.2)) :=
  fun σ H own a => h .non σ H H own [] a (Same.refl H) List.nodup_nil (fun _ z => nomatch z) ⟨rfl, rfl⟩
end
end Hd
namespace Hd
open PySem PySem.Spec L2
section
end
end Hd
namespace Hd
open PySem PySem.Spec L2
section
end
end Hd
namespace Hd
open PySem PySem.Spec L2
theorem WAt.set {δ : Type} {A : WAr δ} {kk : Nat} {α : Type} {O : WTy α} {pr : δ → α} {stt : δ → α → δ} (hA : WAt A kk O pr stt) : ∀ {d : δ} {vs : List V} {H : Hp} {R : RdR} {G F1 : List Addr} {x : α} {w : V}, A.rep d vs H R G → G.Nodup → O.rep x w H R F1 → F1.Nodup → (∀ q ∈ F1, q ∉ G) → ∃ G', A.rep (stt d x) (vs.set kk w) H R G' ∧ G'.Nodup ∧ (∀ q ∈ G', q ∈ F1 ∨ q ∈ G) ∧ kk < vs.length := by
  induction hA with
  | z =>
    rintro d vs H R G F1 x w ⟨v, r, Fa, Fb, e1, e2, h1, h2⟩ nd rx nd1 dis
    subst e1; subst e2
    have nd' := List.nodup_append.mp nd
    refine ⟨F1 ++ Fb, ⟨w, r, F1, Fb, rfl, rfl, rx, h2⟩, List.nodup_append.mpr ⟨nd1, nd'.2.1, fun q hq z hz e => dis q hq (by rw [e]; exact List.mem_append_right _ hz)⟩, fun q hq => ?_, by simp⟩
    rcases List.mem_append.mp hq with h | h
    · exact .inl h
    · exact .inr (List.mem_append_right _ h)
  | s _ ih =>
    rintro d vs H R G F1 x w ⟨v, r, Fa, Fb, e1, e2, h1, h2⟩ nd rx nd1 dis
    subst e1; subst e2
    have nd' := List.nodup_append.mp nd
    obtain ⟨G', g1, g2, g3, g4⟩ := ih h2 nd'.2.1 rx nd1 fun q hq hz => dis q hq (List.mem_append_right _ hz)
    refine ⟨Fa ++ G', ⟨v, _, Fa, G', rfl, rfl, h1, g1⟩, List.nodup_append.mpr ⟨nd'.1, g2, fun q hq z hz e => ?_⟩, fun q hq => ?_, by simp; omega⟩
    · subst e
      rcases g3 q hz with h | h
      · exact dis q h (List.mem_append_left _ hq)
      · exact nd'.2.2 q hq q h rfl
    · rcases List.mem_append.mp hq with h | h
      · exact .inr (List.mem_append_left _ h)
      · exact (g3 q h).imp id (List.mem_append_right _)
section
end
end Hd
namespace Hd
open PySem PySem.Spec PyProof.Rows L2
section
variable {p : Pr} {sc : Scope} {NN VV GG VV' GG' : List Str} {k : Nat} {g : G} {L L' : List Slot} {a b c e e' ix : Expr} {es : List Expr} {md md' : Md} {α β γ δ ρ : Type} {S : Ty α} {T : Ty β} {O : WTy α} {O2 : WTy β} {O3 : WTy γ} {A : WAr ρ} {pos pp pos' : Pos} {i j i2 : Nat} {x y f : Str} {px : V → Prop} {d : α} {st : List Stmt} {D : δ → Out} {py spos cpos tp : Pos} {elt it : Expr} {ifs : List Expr} {scope : Scope} {s₀ : Slot}
theorem evb_qSet {mp : M (List β × (List β → α))} {m : M β} {mi : M Int} {h : α → M δ} {p2 : Pos} (ok : OkS p sc NN VV GG k g) (wk : Wk L g.LX) (he : EvE g L e md T m) (hp : EvP g L a i px O d (wL (wV T)) mp) (hi : EvE g L ix md' tInt mi) (hr : ∀ d', EvB g (L.set i (sP px O d')) st D (h d'))
    (hs : swapsWith e (some (.Subscript a ix p2)) pos.line g.X.env = pure false := by rfl)
    (hsub : ∀ v, assign (.Subscript a ix p2) g.X.env v = (do
      let ov ← holding [v] (eval a g.X.env)
      let iv ← holding [v, ov] (eval ix g.X.env)
      standAt p2
      holding [v, ov, iv] (setItem ov iv v)
      release [v, ov, iv] []) := by intro _; rfl)
    (hs' : swapsWithSole [.Subscript a ix p2] e pos.line g.X.env = pure false := by rfl) (hw : swappedStores [.Subscript a ix p2] e g.X.env = pure none := by rfl) (ha1 : (assignEach [.Subscript a ix p2] g.X.env).map (·.2) = [assign (.Subscript a ix p2) g.X.env] := by rfl) :
    EvB g L (.Assign [.Subscript a ix p2] e pos :: st) D (m.bind fun x => mp.bind fun q => mi.bind fun n => (setM q.1 n x).bind fun l => M.bind (.ok (q.2 l)) h) :=
  evb_pSet ok (.inl wk) he hp hi hr hs hsub hs' hw ha1
end
end Hd
namespace Hd
open PySem PySem.Spec PyProof.Rows L2
section
end
end Hd
namespace Hd
open PySem PySem.Spec PyProof.Rows L2
section
end
end Hd
namespace Hd
open PySem PySem.Spec L2
section
end
section
end
end Hd
namespace Hd
open PySem PySem.Spec L2
def wSum {α β : Type} (O : WTy α) (O2 : WTy β) : WTy (α ⊕ β) := ⟨tSum O.T O2.T, fun d v H R F => match d with | .inl a => O.rep a v H R F | .inr b => O2.rep b v H R F,
  fun {d v H H' F R R'} h s k => by
    cases d with
    | inl a => exact O.st h s k
    | inr b => exact O2.st h s k,
  fun {d v H F R} h p hp => by
    cases d with
    | inl a => exact O.tb h p hp
    | inr b => exact O2.tb h p hp,
  fun {d v H F R R'} h s k => by
    cases d with
    | inl a => exact O.fz h s k
    | inr b => exact O2.fz h s k⟩
/-- the addresses of the slots is -/
def Mv (Fs : List (List Addr)) (is : List Nat) (a : Addr) : Prop := ∃ i ∈ is, ∃ F, Fs[i]? = some F ∧ a ∈ F
def FinMR {β : Type} (fm : Fm) (W : Wx) (own : List Addr) (Fs : List (List Addr)) (is : List Nat) (σ : L2.St) (H : Hp) (O : WTy β) (Q : VK) : M β → Prop
  | .ok d => ∀ v F H', Same H H' → F.Nodup → (∀ p ∈ F, H p = none ∨ Mv Fs is p) → O.rep d v H' (RD fm (F ++ own) H') F → Q v H'
  | .ex c => ∀ H', Same H H' → W c σ H'
  | .no => False
/-- an expression that makes a thing of one's own, of which the slots is are parts -/
def EvR (g : G) (L : List Slot) (is : List Nat) (e : Expr) {β : Type} (O : WTy β) (m : M β) : Prop := PE g.X e (fun σ H Q => ∃ kp own Fs, At g.fm kp L σ H own ∧ AllS H (RB g.fm own H) L σ Fs ∧ own = Fs.flatten ∧ FinMR g.fm g.W own Fs is σ H O Q m)
def FinMA {δ : Type} (fm : Fm) (W : Wx) (own : List Addr) (Fs : List (List Addr)) (is : List Nat) (σ : L2.St) (H : Hp) (A : WAr δ) (Q : List V → Hp → Prop) : M δ → Prop
  | .ok d => ∀ vs F H', Same H H' → F.Nodup → (∀ p ∈ F, H p = none ∨ Mv Fs is p) → A.rep d vs H' (RD fm (F ++ own) H') F → Q vs H'
  | .ex c => ∀ H', Same H H' → W c σ H'
  | .no => False
def EvRA (g : G) (L : List Slot) (is : List Nat) (es : List Expr) {δ : Type} (A : WAr δ) (m : M δ) : Prop := PA g.X es (fun σ H Q => ∃ kp own Fs, At g.fm kp L σ H own ∧ AllS H (RB g.fm own H) L σ Fs ∧ own = Fs.flatten ∧ FinMA g.fm g.W own Fs is σ H A Q m)
theorem RD.more {fm : Fm} {own own' : List Addr} {H H' : Hp} (s : Same H H') (k : ∀ p ∈ own', p ∈ own ∨ H p = none) : ∀ a o, RD fm own H a o → RD fm own' H' a o := fun a o r => by
  rcases r with ⟨r1, r2, r3⟩ | r
  · refine .inl ⟨Rd.same s r1, fun h => ?_, r3⟩
    rcases k a h with h | h
    · exact r2 h
    · rcases r1 with r1 | ⟨_, r1⟩ <;> rw [cl_none h] at r1 <;> cases r1
  · exact .inr r
theorem flat_ij {Fs : List (List Addr)} : ∀ {i j : Nat} {F G : List Addr} {x : Addr}, Fs.flatten.Nodup → Fs[i]? = some F → Fs[j]? = some G → x ∈ F → x ∈ G → i = j := by
  induction Fs with
  | nil => intro i j F G x _ e; simp at e
  | cons K Fs ih =>
    intro i j F G x nd e1 e2 h1 h2
    rw [List.flatten_cons, List.nodup_append] at nd
    cases i with
    | zero =>
      cases j with
      | zero => rfl
      | succ j =>
        simp at e1 e2
        subst e1
        exact absurd rfl (nd.2.2 x h1 x (flat_mem e2 x h2))
    | succ i =>
      cases j with
      | zero =>
        simp at e1 e2
        subst e2
        exact absurd rfl (nd.2.2 x h2 x (flat_mem e1 x h1))
      | succ j => exact congrArg (· + 1) (ih nd.2.1 (by simpa using e1) (by simpa using e2) h1 h2)
section
variable {p : Pr} {sc : Scope} {NN VV GG : List Str} {k : Nat} {g : G} {L L' : List Slot} {a b c e e' ix : Expr} {es : List Expr} {md md' : Md} {α β γ δ ρ : Type} {S : Ty α} {T : Ty β} {O : WTy α} {O2 : WTy β} {O3 : WTy γ} {A : WAr δ} {pos pp pos' : Pos} {i j : Nat} {x : Str} {px : V → Prop} {d : α} {is is2 : List Nat}
theorem evr_n {m : M α} (h : EvN g L e O m) : EvR g L [] e O m := PE.imp h fun σ H Q ⟨kp, own, Fs, at_, hsl, heo, q⟩ => by
  refine ⟨kp, own, at_, ?_⟩
  cases m with
  | ok d => exact fun v F H' s nd n r => q v F H' s nd (fun p hp => .inl (n p hp)) r
  | ex c => exact q
  | no => exact q
theorem evra_nil : EvRA g L [] [] waNil (.ok ()) := PA.imp pa_nil fun σ H Q ⟨kp, own, Fs, at_, hsl, heo, q⟩ => q [] [] H (Same.refl H) List.nodup_nil (fun _ z => nomatch z) ⟨rfl, rfl⟩
theorem evra_cons {m1 : M α} {m2 : M δ} (ok : Ok p sc NN VV GG k g) (ha : EvR g L is a O m1) (hb : ∀ g', Ok p sc NN VV GG k g' → EvRA g' L is2 es A m2) (hd : ∀ i ∈ is, i ∉ is2)
    (hs : starEach (a :: es) g.X.env = (false, eval a g.X.env) :: starEach es g.X.env := by rfl) : EvRA g L (is ++ is2) (a :: es) (waCons O A) (m1.bind fun d => m2.bind fun e => .ok (d, e)) := by
  refine ⟨fun po pins s σ H Q I ⟨kp, own, Fs, at_, hsl, heo, q⟩ => ?_⟩
  refine (pa_cons (t := fun σ' H1 Q' => ∃ (g' : G) (hg' : g'.X = g.X) (_ : Ok p sc NN VV GG k g') (kp' : RdR) (own' : List Addr) (Fs' : List (List Addr)), At g'.fm kp' L σ' H1 own' ∧ AllS H1 (RB g'.fm own' H1) L σ' Fs' ∧ own' = Fs'.flatten ∧ FinMA g'.fm g'.W own' Fs' is2 σ' H1 A Q' m2) ha ?_ hs).run po pins s σ H Q I ?_
  · refine ⟨fun po pins s σ H Q I ⟨g', hg', ok', z⟩ => ?_⟩
    have h := (hb g' ok').run
    rw [hg'] at h
    exact h po pins s σ H Q I z
  · refine ⟨kp, own, Fs, at_, hsl, heo, ?_⟩
    have nd := at_.nd
    rw [heo] at nd
    cases m1 with
    | ok d =>
      intro v F1 H1 s1 nd1 n1 r1
      have F1n : ∀ y ∈ F1, H1 y ≠ none := fun y hy => by
        obtain ⟨o, ho, _⟩ := O.tb r1 y hy
        rw [ho]; exact fun z => nomatch z
      -- the fresh of the first are hidden from the rest
      let Fr : Addr → Prop := fun y => y ∈ F1 ∧ H y = none
      let fm' : Fm := ⟨g.fm.K, g.fm.H0, fun y => Fr y ∨ g.fm.z y⟩
      let g' : G := ⟨g.X, fm', g.W, g.LX⟩
      have ok' : Ok p sc NN VV GG k g' := { prog := ok.prog, w := ok.w, K := ok.K, mg := ok.mg, base := ok.base, N := ok.N, fmK := ok.fmK, tab := ok.tab, room := ok.room, nd := ok.nd, vis := ok.vis, gl := ok.gl, tk := ok.tk, calm := ok.calm, blk := ok.blk }
      have rdo : ∀ a o, RD g.fm own H a o → RD fm' own H1 a o := fun a o r => by
        rcases r with ⟨r1, r2, r3⟩ | r
        · refine .inl ⟨Rd.same s1 r1, r2, fun z => z.elim (fun z => ?_) r3⟩
          rcases r1 with r1 | ⟨_, r1⟩ <;> rw [cl_none z.2] at r1 <;> cases r1
        · exact .inr r
      have hk : ∀ y ∈ Fs.flatten, H1 y = H y := hsl.hk (fm := g.fm) (own := own) s1
      have sl1 : AllS H1 (RB fm' own H1) L σ Fs := hsl.st (fun b a o z => by
        cases b with
        | false => exact rdo a o z
        | true =>
          obtain ⟨z1, z2, z3, z4⟩ := z
          exact ⟨s1.cl _ _ z1, z2, fun y => y.elim (fun y => by rw [cl_none y.2] at z1; cases z1) z3, z4⟩) hk
      have at1 : At fm' kp L σ H1 own := ⟨at_.same.trans s1, fun y hy => hy.elim (fun hy => F1n y hy.1) fun hy ea => at_.zin y hy (s1.free ea), ⟨Fs, sl1, heo⟩, at_.nd, fun y hy => ⟨fun z => (at_.new y hy).1 (s1.free z), (at_.new y hy).2.1, fun z => z.elim (fun z => (at_.new y hy).1 z.2) (at_.new y hy).2.2⟩, fun a o z => rdo a o (at_.kept a o z)⟩
      refine ⟨g', rfl, ok', kp, own, Fs, at1, sl1, heo, ?_⟩
      cases m2 with
      | ok e =>
        intro vs F2 H2 s2 nd2 n2 r2
        have dj : ∀ y ∈ F1, y ∉ F2 := fun y h1 h2 => by
          rcases n2 y h2 with h | ⟨i2, hi2, G2, eG2, hG2⟩
          · exact F1n y h1 h
          · rcases n1 y h1 with h | ⟨i1, hi1, G1, eG1, hG1⟩
            · exact (at_.new y (by rw [heo]; exact flat_mem eG2 y hG2)).1 h
            · have := flat_ij nd eG1 eG2 hG1 hG2
              subst this
              exact hd i1 hi1 hi2
        refine q (v :: vs) (F1 ++ F2) H2 (s1.trans s2) (List.nodup_append.mpr ⟨nd1, nd2, fun y h1 z h2 e => dj y h1 (by rw [e]; exact h2)⟩) (fun y hy => ?_) ⟨v, vs, F1, F2, rfl, rfl, O.st r1 (RD.more s2 fun y hy => ?_) fun y hy => ?_, A.st r2 (fun a o z => ?_) fun _ _ => rfl⟩
        · rcases List.mem_append.mp hy with hy | hy
          · exact (n1 y hy).imp id fun ⟨i1, h1, z⟩ => ⟨i1, List.mem_append_left _ h1, z⟩
          · exact (n2 y hy).imp s1.free fun ⟨i1, h1, z⟩ => ⟨i1, List.mem_append_right _ h1, z⟩
        · rcases List.mem_append.mp hy with hy | hy
          · rcases List.mem_append.mp hy with hy | hy
            · exact .inl (List.mem_append_left _ hy)
            · rcases n2 y hy with h | ⟨i2, hi2, G2, eG2, hG2⟩
              · exact .inr h
              · exact .inl (List.mem_append_right _ (by rw [heo]; exact flat_mem eG2 y hG2))
          · exact .inl (List.mem_append_right _ hy)
        · obtain ⟨o, ho, go⟩ := O.tb r1 y hy
          rw [ho]; exact s2.keep _ _ ho (gd_nt go)
        · rcases z with ⟨z1, z2, z3⟩ | z
          · refine .inl ⟨z1, fun hq => ?_, fun y => z3 (.inr y)⟩
            rcases List.mem_append.mp hq with hq | hq
            · rcases List.mem_append.mp hq with hq | hq
              · rcases n1 a hq with h | ⟨i1, hi1, G1, eG1, hG1⟩
                · exact z3 (.inl ⟨hq, h⟩)
                · exact z2 (List.mem_append_right _ (by rw [heo]; exact flat_mem eG1 a hG1))
              · exact z2 (List.mem_append_left _ hq)
            · exact z2 (List.mem_append_right _ hq)
          · exact .inr z
      | ex c => exact fun H' s => q H' (s1.trans s)
      | no => exact q
    | ex c => exact q
    | no => exact q
theorem evr_hl {m : M δ} (hl : ∀ d vs H R F, A.rep d vs H R F → vs.length ≤ 1000) (ha : EvRA g L is es A m) : EvR g L is (.List es pos) (wHl A) m := by
  refine PE.imp (pe_lst ha) fun σ H Q ⟨kp, own, Fs, at_, hsl, heo, q⟩ => ⟨kp, own, Fs, at_, hsl, heo, ?_⟩
  cases m with
  | ok d =>
    refine fun vs F H1 s1 nd n r1 => ⟨Nat.le_trans (hl _ _ _ _ _ r1) (by decide), fun p hp => q _ (p :: F) _ (s1.trans (newSame hp)) (List.nodup_cons.mpr ⟨fun h => ?_, nd⟩) (fun y hy => ?_) ⟨p, vs, F, rfl, rfl, upd_same, A.st r1 (RD.more (newSame hp) fun y hy => ?_) fun y hy => ?_⟩⟩
    · obtain ⟨o, ho, _⟩ := A.tb r1 p h
      rw [hp] at ho; cases ho
    · rcases List.mem_cons.mp hy with e | hy
      · rw [e]; exact .inl (s1.free hp)
      · exact n y hy
    · rcases List.mem_cons.mp hy with e | hy
      · rw [e]; exact .inr hp
      · exact .inl hy
    · obtain ⟨o, ho, _⟩ := A.tb r1 y hy
      exact upd_ne (ne_of_none ho hp)
  | ex c => exact q
  | no => exact q
theorem lenW0 {d : Unit} {vs : List V} {H : Hp} {R : RdR} {F : List Addr} (h : waNil.rep d vs H R F) : vs.length = 0 := by rw [h.1]; rfl
theorem lenWS {n : Nat} (h : ∀ d vs H R F, A.rep d vs H R F → vs.length = n) (d : α × δ) (vs : List V) (H : Hp) (R : RdR) (F : List Addr) (q : (waCons O A).rep d vs H R F) : vs.length = n + 1 := by
  obtain ⟨v, r, _, _, e, _, _, h2⟩ := q
  rw [e, List.length_cons, h _ _ _ _ _ h2]
theorem lenWl {n : Nat} (hn : n ≤ 1000) (h : ∀ d vs H R F, A.rep d vs H R F → vs.length = n) (d : δ) (vs : List V) (H : Hp) (R : RdR) (F : List Addr) (q : A.rep d vs H R F) : vs.length ≤ 1000 := by rw [h _ _ _ _ _ q]; exact hn
theorem evn_r {m : M α} (h : EvR g L [] e O m) : EvN g L e O m := PE.imp h fun σ H Q ⟨kp, own, at_, q⟩ => by
  obtain ⟨Fs, hsl, heo⟩ := at_.sl
  refine ⟨kp, own, Fs, at_, hsl, heo, ?_⟩
  cases m with
  | ok d => exact fun v F H' s nd n r => q v F H' s nd (fun p hp => (n p hp).resolve_right fun ⟨_, z, _⟩ => nomatch z) r
  | ex c => exact q
  | no => exact q
variable {st : List Stmt} {D : δ → Out}
/-- a leaf -/
theorem ev_leaf {m : M (β × (β → α))} (he : EvP g L e i px O d (wV T) m) : EvE g L e .sh T (m.bind fun q => .ok q.1) := PE.imp he fun σ H Q q => by
  obtain ⟨kp, own, at_, q⟩ := tE_iff.mp q
  obtain ⟨Fs, hsl, heo⟩ := at_.sl
  refine ⟨kp, own, Fs, at_, hsl, heo, ?_⟩
  cases m with
  | ok q0 =>
    refine fun v2 F2 H1 s1 A1 => ?_
    obtain ⟨v, F, hL, hs, e, e1, hx, e2, pl⟩ := A1
    exact q v2 H1 s1 pl.rep.2
  | ex c => exact q
  | no => exact q
end
end Hd
namespace Hd
open PySem PySem.Spec L2
section
end
end Hd
namespace Hd
open PySem PySem.Spec L2
/-- a list of one's own, its place and its values known -/
def wLv {α : Type} (a : Addr) (ws : List V) (O : WTy α) : WTy (List α) where
  T := tList O.T
  rep := fun ds v H R F => ∃ Fs, v = .ref a ∧ F = a :: Fs.flatten ∧ H a = some (.lst ws) ∧ RepsO O H R ds ws Fs
  st := by
    rintro d v H H' F R R' ⟨Fs, e1, e2, h, r⟩ s k
    exact ⟨Fs, e1, e2, by rw [k a (by rw [e2]; exact List.mem_cons_self)]; exact h, r.st s fun q hq => k q (by rw [e2]; exact List.mem_cons_of_mem _ hq)⟩
  tb := by
    rintro d v H F R ⟨Fs, e1, e2, h, r⟩ q hq
    rw [e2] at hq
    rcases List.mem_cons.mp hq with e | hq
    · subst e; exact ⟨_, h, rfl⟩
    · exact r.tb q hq
  fz := by
    rintro d v H F R R' ⟨Fs, e1, e2, h, r⟩ s k
    exact ⟨a, ws, e1, k a (by rw [e2]; exact List.mem_cons_self) _ h, r.fz s fun q hq => k q (by rw [e2]; exact List.mem_cons_of_mem _ hq)⟩
inductive WPin {γ : Type} (O3 : WTy γ) : {δ : Type} → WAr δ → Nat → (Addr → List V → WAr δ) → (δ → List γ) → (δ → List γ → δ) → Prop where
  | z {δ : Type} {A : WAr δ} : WPin O3 (waCons (wL O3) A) 0 (fun a ws => waCons (wLv a ws O3) A) (fun d => d.1) (fun d y => (y, d.2))
  | s {β δ : Type} {O' : WTy β} {A : WAr δ} {k : Nat} {A' : Addr → List V → WAr δ} {pr : δ → List γ} {stt : δ → List γ → δ} : WPin O3 A k A' pr stt → WPin O3 (waCons O' A) (k + 1) (fun a ws => waCons O' (A' a ws)) (fun d => pr d.2) (fun d y => (d.1, stt d.2 y))
section
variable {γ δ : Type} {O3 : WTy γ} {A : WAr δ} {kk : Nat} {A' : Addr → List V → WAr δ} {pr : δ → List γ} {stt : δ → List γ → δ} {H : Hp} {R : RdR}
theorem WPin.of (h : WPin O3 A kk A' pr stt) : ∀ {d vs G a ws}, (A' a ws).rep d vs H R G → A.rep d vs H R G := by
  induction h with
  | z =>
    rintro d vs G a ws ⟨v, r, F1, F2, e1, e2, ⟨Fs, e3, e4, h3, h4⟩, h2⟩
    exact ⟨v, r, F1, F2, e1, e2, ⟨a, ws, Fs, e3, e4, h3, h4⟩, h2⟩
  | s _ ih =>
    rintro d vs G a ws ⟨v, r, F1, F2, e1, e2, h1, h2⟩
    exact ⟨v, r, F1, F2, e1, e2, h1, ih h2⟩
theorem WPin.at_ (h : WPin O3 A kk A' pr stt) (a : Addr) (ws : List V) : WAt (A' a ws) kk (wLv a ws O3) pr stt := by
  induction h with
  | z => exact .z
  | s _ ih => exact .s ih
end
section
end
end Hd
namespace Hd
open PySem PySem.Spec L2
section
end
end Hd
namespace Hd
open PySem PySem.Spec L2
section
end
end Hd
namespace Hd
open PySem PySem.Spec L2
section
end
end Hd
namespace Hd
open PySem PySem.Spec L2
theorem NoEx.bind {α β : Type} {m : M α} {f : α → M β} (h : NoEx m) (k : ∀ a, NoEx (f a)) : NoEx (m.bind f) := fun c e => by
  cases m with
  | ok a => exact k a c e
  | ex c' => exact h c' rfl
  | no => cases e
section
end
end Hd
namespace Hd
open PySem PySem.Spec L2
section
end
end Hd
namespace Hd
open PySem PySem.Spec L2
section
end
section
end
/-- a part taken out of written items -/
inductive WTk : {δ δ' : Type} → WAr δ → Nat → {α : Type} → WTy α → (δ → α) → WAr δ' → (δ → δ') → Prop where
  | z {α δ : Type} {O : WTy α} {A : WAr δ} : WTk (waCons O A) 0 O (fun d => d.1) (waCons (wV tAny) A) (fun d => ((), d.2))
  | s {α β δ δ' : Type} {O : WTy α} {O' : WTy β} {A : WAr δ} {A' : WAr δ'} {k : Nat} {pr : δ → α} {f : δ → δ'} : WTk A k O pr A' f → WTk (waCons O' A) (k + 1) O (fun d => pr d.2) (waCons O' A') (fun d => (d.1, f d.2))
theorem WTk.take {δ δ' γ : Type} {A : WAr δ} {A' : WAr δ'} {k : Nat} {O : WTy γ} {pr : δ → γ} {f : δ → δ'} (h : WTk A k O pr A' f) : ∀ {d : δ} {vs : List V} {H : Hp} {R : RdR} {G : List Addr}, A.rep d vs H R G → G.Nodup → ∃ v3 F3 G', vs[k]? = some v3 ∧ O.rep (pr d) v3 H R F3 ∧ A'.rep (f d) vs H R G' ∧ (∀ q ∈ G', q ∈ G ∧ q ∉ F3) ∧ (∀ q ∈ F3, q ∈ G) ∧ F3.Nodup ∧ G'.Nodup := by
  induction h with
  | z =>
    rintro d vs H R G ⟨v, r, F1, F2, e1, e2, h1, h2⟩ nd
    subst e1; subst e2
    rw [List.nodup_append] at nd
    exact ⟨v, F1, F2, rfl, h1, ⟨v, r, [], F2, rfl, rfl, ⟨rfl, trivial⟩, h2⟩, fun q hq => ⟨List.mem_append_right _ hq, fun hq' => nd.2.2 q hq' q hq rfl⟩, fun q hq => List.mem_append_left _ hq, nd.1, nd.2.1⟩
  | s _ ih =>
    rintro d vs H R G ⟨v, r, F1, F2, e1, e2, h1, h2⟩ nd
    subst e1; subst e2
    rw [List.nodup_append] at nd
    obtain ⟨v3, F3, G', e3, r3, rr, g1, g2, g3, g4⟩ := ih h2 nd.2.1
    refine ⟨v3, F3, F1 ++ G', by simpa using e3, r3, ⟨v, r, F1, G', rfl, rfl, h1, rr⟩, fun q hq => ?_, fun q hq => List.mem_append_right _ (g2 q hq), g3, List.nodup_append.mpr ⟨nd.1, g4, fun a ha b hb e => nd.2.2 a ha b (g1 b hb).1 e⟩⟩
    rcases List.mem_append.mp hq with hq | hq
    · exact ⟨List.mem_append_left _ hq, fun hq' => nd.2.2 q hq q (g2 q hq') rfl⟩
    · exact ⟨List.mem_append_right _ (g1 q hq).1, (g1 q hq).2⟩
section
end
section
end
section
end
section
end
section
end
def Fl.mg {α : Type} : Fl α α → α
  | .nx a => a
  | .rt a => a
section
end
section
end
section
end
end Hd
namespace Hd
open PySem PySem.Spec PyProof.Rows L2
section
end
section
end
end Hd
namespace Hd
open PySem PySem.Spec PyProof.Rows L2
section
end
end Hd
namespace Hd
open PySem PySem.Spec PyProof.Rows L2
section
end
end Hd
namespace Hd
open PySem PySem.Spec PyProof.Rows L2
section
end
end Hd
namespace Hd
open PySem PySem.Spec PyProof.Rows L2
def RN : RdR := fun _ _ => False
structure KyA {κ : Type} (A : Ar κ) (f : κ → List Key) : Prop where
  inj : ∀ {a b}, f a = f b → a = b
  to : ∀ {d vs R}, A.rep d vs R → vs = (f d).map kV
  flat : ∀ {d vs} {R R' : RdR}, A.rep d vs R → A.rep d vs R'
section
variable {p : Pr} {sc : Scope} {NN VV GG : List Str} {k : Nat} {g : G} {L : List Slot} {α β δ κ : Type} {S : Ty α} {T : Ty β} {md md' : Md} {pos : Pos} {st : List Stmt} {D : δ → Out} {i j : Nat} {x : Str} {a b c e : Expr} {es : List Expr} {A : Ar κ} {f : κ → List Key}
inductive TReps {κ α : Type} (A : Ar κ) (f : κ → List Key) (T : Ty α) (R : RdR) : List (κ × α) → List (List Key × V) → Prop where
  | nil : TReps A f T R [] []
  | cons {k d v ds vs} : A.rep k ((f k).map kV) RN → T.rep d v R → TReps A f T R ds vs → TReps A f T R ((k, d) :: ds) ((f k, v) :: vs)
theorem TReps.mono {R R' : RdR} {ds : List (κ × α)} {vs : List (List Key × V)} (h : TReps A f S R ds vs) (s : ∀ a o, R a o → R' a o) : TReps A f S R' ds vs := by
  induction h with
  | nil => exact .nil
  | cons a r _ ih => exact .cons a (S.mono r s) ih
theorem TReps.length {R : RdR} {ds : List (κ × α)} {vs : List (List Key × V)} (h : TReps A f S R ds vs) : ds.length = vs.length := by
  induction h with
  | nil => rfl
  | cons a r _ ih => simp [ih]
section
variable [DecidableEq κ]
def dgetT {κ α : Type} [DecidableEq κ] (ds : List (κ × α)) (k : κ) : Option α := (ds.find? fun kv => decide (kv.1 = k)).map (·.2)
def dputT {κ α : Type} [DecidableEq κ] (ds : List (κ × α)) (k : κ) (d : α) : List (κ × α) := if (ds.any fun kv => decide (kv.1 = k)) = true then ds.map (fun kv => if kv.1 = k then (kv.1, d) else kv) else ds ++ [(k, d)]
theorem TReps.get {R : RdR} {ds : List (κ × α)} {vs : List (List Key × V)} (hk : KyA A f) (h : TReps A f S R ds vs) (k : κ) : (dgetT ds k = none ∧ valV vs (f k) = none) ∨ ∃ d v, dgetT ds k = some d ∧ valV vs (f k) = some v ∧ S.rep d v R := by
  induction h with
  | nil => exact .inl ⟨rfl, rfl⟩
  | @cons k' d v ds vs a r _ ih =>
    by_cases e : k' = k
    · exact .inr ⟨d, v, by simp [dgetT, List.find?_cons, e], valV_pos (by rw [e]), r⟩
    · have e1 : dgetT ((k', d) :: ds) k = dgetT ds k := by simp [dgetT, List.find?_cons, e]
      rw [e1, valV_neg (fun z => e (hk.inj z))]
      exact ih
theorem TReps.some {R : RdR} {ds : List (κ × α)} {vs : List (List Key × V)} (hk : KyA A f) (h : TReps A f S R ds vs) (k : κ) : (valV vs (f k)).isSome = (dgetT ds k).isSome := by
  rcases h.get hk k with ⟨g1, g2⟩ | ⟨d, v, g1, g2, _⟩ <;> rw [g1, g2] <;> rfl
theorem TReps.map {R : RdR} {ds : List (κ × α)} {vs : List (List Key × V)} (hk : KyA A f) (h : TReps A f S R ds vs) (k : κ) {d : α} {v : V} (r : S.rep d v R) : TReps A f S R (ds.map (fun kv => if kv.1 = k then (kv.1, d) else kv)) (vs.map (fun kv => if kv.1 = f k then (kv.1, v) else kv)) := by
  induction h with
  | nil => exact .nil
  | @cons k' d' v' ds vs a r' _ ih =>
    rw [List.map_cons, List.map_cons]
    by_cases e : k' = k
    · have e' : f k' = f k := by rw [e]
      simp only [if_pos e, if_pos e']; exact .cons a r ih
    · have e' : ¬ f k' = f k := fun z => e (hk.inj z)
      simp only [if_neg e, if_neg e']; exact .cons a r' ih
theorem TReps.any {R : RdR} {ds : List (κ × α)} {vs : List (List Key × V)} (hk : KyA A f) (h : TReps A f S R ds vs) (k : κ) : (ds.any fun kv => decide (kv.1 = k)) = (vs.any fun kv => decide (kv.1 = f k)) := by
  induction h with
  | nil => rfl
  | @cons k' d' v' ds vs a r' _ ih =>
    rw [List.any_cons, List.any_cons, ih]
    congr 1
    by_cases e : k' = k
    · rw [decide_eq_true e, decide_eq_true (show f k' = f k by rw [e])]
    · rw [decide_eq_false e, decide_eq_false (fun z : f k' = f k => e (hk.inj z))]
theorem TReps.snoc {R : RdR} {ds : List (κ × α)} {vs : List (List Key × V)} (h : TReps A f S R ds vs) (k : κ) {d : α} {v : V} (a : A.rep k ((f k).map kV) RN) (r : S.rep d v R) : TReps A f S R (ds ++ [(k, d)]) (vs ++ [(f k, v)]) := by
  induction h with
  | nil => exact .cons a r .nil
  | cons a' r' _ ih => exact .cons a' r' ih
theorem TReps.put {R : RdR} {ds : List (κ × α)} {vs : List (List Key × V)} (hk : KyA A f) (h : TReps A f S R ds vs) (k : κ) {d : α} {v : V} (a : A.rep k ((f k).map kV) RN) (r : S.rep d v R) : TReps A f S R (dputT ds k d) (putK vs (f k) v) := by
  unfold dputT putK
  rw [h.any hk k]
  split
  · exact h.map hk k r
  · exact h.snoc k a r
end
section
end
end
end Hd
namespace Hd
open PySem PySem.Spec PyProof.Rows L2
section
end
end Hd
namespace Hd
open PySem PySem.Spec PyProof.Rows L2
section
end
end Hd
namespace Hd
open PySem PySem.Spec PyProof.Rows L2
section
end
/-- the slots told anew -/
theorem evb_lit {δ : Type} {g : G} {L L' : List Slot} {st : List Stmt} {D : δ → Out} {m : M δ} (e : L = L') (h : EvB g L' st D m) : EvB g L st D m := e ▸ h
section
end
end Hd
namespace Hd
open PySem PySem.Spec PyProof.Rows L2
section
end
section
end
end Hd
namespace Hd
open PySem PySem.Spec L2
inductive Pc where
  | Given (ends picks : Int) (texts : List Tx)
  | Named (ends picks : Int) (texts : List Tx) (name : Tx)
  | Twill (ends picks : Int) (many : Int) (more : Int)
  | Satin (ends picks : Int) (step : Int)
  | Beside (ends picks : Int) (left : Pc) (right : Pc)
  | Above (ends picks : Int) (first : Pc) (later : Pc)
  | Mirrored (ends picks : Int) (inner : Pc)
  | Backed (ends picks : Int) (inner : Pc)
  | Upended (ends picks : Int) (inner : Pc)
  | Quartered (ends picks : Int) (inner : Pc)
  | Repeated (ends picks : Int) (inner : Pc) (across : Int) (along : Int)
  | Blocked (ends picks : Int) (profile : Pc) (unit : Pc) (other : Pc)
  | Covered (ends picks : Int) (upper_one : Pc) (lower_one : Pc)
inductive PK where
  | Given | Named | Twill | Satin | Beside | Above | Mirrored | Backed | Upended | Quartered | Repeated | Blocked | Covered
  deriving DecidableEq
def PK.nm : PK → Str
  | .Given => "Given"
  | .Named => "Named"
  | .Twill => "Twill"
  | .Satin => "Satin"
  | .Beside => "Beside"
  | .Above => "Above"
  | .Mirrored => "Mirrored"
  | .Backed => "Backed"
  | .Upended => "Upended"
  | .Quartered => "Quartered"
  | .Repeated => "Repeated"
  | .Blocked => "Blocked"
  | .Covered => "Covered"
def PK.all : List PK := [.Given, .Named, .Twill, .Satin, .Beside, .Above, .Mirrored, .Backed, .Upended, .Quartered, .Repeated, .Blocked, .Covered]
theorem PK.mem (c : PK) : c ∈ PK.all := by cases c <;> decide
def Pc.k : Pc → PK
  | .Given _ _ _ => .Given
  | .Named _ _ _ _ => .Named
  | .Twill _ _ _ _ => .Twill
  | .Satin _ _ _ => .Satin
  | .Beside _ _ _ _ => .Beside
  | .Above _ _ _ _ => .Above
  | .Mirrored _ _ _ => .Mirrored
  | .Backed _ _ _ => .Backed
  | .Upended _ _ _ => .Upended
  | .Quartered _ _ _ => .Quartered
  | .Repeated _ _ _ _ _ => .Repeated
  | .Blocked _ _ _ _ _ => .Blocked
  | .Covered _ _ _ _ => .Covered
def pcRep (p : Pr) (R : RdR) : Pc → V → Prop
  | .Given e q d0, v => ∃ (a dx : Addr) (w0 : V), v = .ref a ∧ R a (.ins (cA p "Given") dx [("ends", .int e), ("picks", .int q), ("texts", w0)]) ∧ (tList tStr).rep d0 w0 R
  | .Named e q d0 d1, v => ∃ (a dx : Addr) (w0 : V), v = .ref a ∧ R a (.ins (cA p "Named") dx [("ends", .int e), ("picks", .int q), ("texts", w0), ("name", .str (toS d1))]) ∧ (tList tStr).rep d0 w0 R ∧ OkTx d1
  | .Twill e q d0 d1, v => ∃ (a dx : Addr), v = .ref a ∧ R a (.ins (cA p "Twill") dx [("ends", .int e), ("picks", .int q), ("many", .int d0), ("more", .int d1)])
  | .Satin e q d0, v => ∃ (a dx : Addr), v = .ref a ∧ R a (.ins (cA p "Satin") dx [("ends", .int e), ("picks", .int q), ("step", .int d0)])
  | .Beside e q d0 d1, v => ∃ (a dx : Addr) (w0 : V) (w1 : V), v = .ref a ∧ R a (.ins (cA p "Beside") dx [("ends", .int e), ("picks", .int q), ("left", w0), ("right", w1)]) ∧ pcRep p R d0 w0 ∧ pcRep p R d1 w1
  | .Above e q d0 d1, v => ∃ (a dx : Addr) (w0 : V) (w1 : V), v = .ref a ∧ R a (.ins (cA p "Above") dx [("ends", .int e), ("picks", .int q), ("first", w0), ("later", w1)]) ∧ pcRep p R d0 w0 ∧ pcRep p R d1 w1
  | .Mirrored e q d0, v => ∃ (a dx : Addr) (w0 : V), v = .ref a ∧ R a (.ins (cA p "Mirrored") dx [("ends", .int e), ("picks", .int q), ("inner", w0)]) ∧ pcRep p R d0 w0
  | .Backed e q d0, v => ∃ (a dx : Addr) (w0 : V), v = .ref a ∧ R a (.ins (cA p "Backed") dx [("ends", .int e), ("picks", .int q), ("inner", w0)]) ∧ pcRep p R d0 w0
  | .Upended e q d0, v => ∃ (a dx : Addr) (w0 : V), v = .ref a ∧ R a (.ins (cA p "Upended") dx [("ends", .int e), ("picks", .int q), ("inner", w0)]) ∧ pcRep p R d0 w0
  | .Quartered e q d0, v => ∃ (a dx : Addr) (w0 : V), v = .ref a ∧ R a (.ins (cA p "Quartered") dx [("ends", .int e), ("picks", .int q), ("inner", w0)]) ∧ pcRep p R d0 w0
  | .Repeated e q d0 d1 d2, v => ∃ (a dx : Addr) (w0 : V), v = .ref a ∧ R a (.ins (cA p "Repeated") dx [("ends", .int e), ("picks", .int q), ("inner", w0), ("across", .int d1), ("along", .int d2)]) ∧ pcRep p R d0 w0
  | .Blocked e q d0 d1 d2, v => ∃ (a dx : Addr) (w0 : V) (w1 : V) (w2 : V), v = .ref a ∧ R a (.ins (cA p "Blocked") dx [("ends", .int e), ("picks", .int q), ("profile", w0), ("unit", w1), ("other", w2)]) ∧ pcRep p R d0 w0 ∧ pcRep p R d1 w1 ∧ pcRep p R d2 w2
  | .Covered e q d0 d1, v => ∃ (a dx : Addr) (w0 : V) (w1 : V), v = .ref a ∧ R a (.ins (cA p "Covered") dx [("ends", .int e), ("picks", .int q), ("upper_one", w0), ("lower_one", w1)]) ∧ pcRep p R d0 w0 ∧ pcRep p R d1 w1
theorem pcRep_mono {p : Pr} {R R' : RdR} (s : ∀ a o, R a o → R' a o) : ∀ (d : Pc) {v : V}, pcRep p R d v → pcRep p R' d v
  | .Given e q d0, v, ⟨a, dx, w0, e1, h, r0⟩ => ⟨a, dx, w0,  e1, s _ _ h, (tList tStr).mono r0 s⟩
  | .Named e q d0 d1, v, ⟨a, dx, w0, e1, h, r0, r1⟩ => ⟨a, dx, w0,  e1, s _ _ h, (tList tStr).mono r0 s, r1⟩
  | .Twill e q d0 d1, v, ⟨a, dx, e1, h⟩ => ⟨a, dx,  e1, s _ _ h⟩
  | .Satin e q d0, v, ⟨a, dx, e1, h⟩ => ⟨a, dx,  e1, s _ _ h⟩
  | .Beside e q d0 d1, v, ⟨a, dx, w0, w1, e1, h, r0, r1⟩ => ⟨a, dx, w0, w1,  e1, s _ _ h, pcRep_mono s d0 r0, pcRep_mono s d1 r1⟩
  | .Above e q d0 d1, v, ⟨a, dx, w0, w1, e1, h, r0, r1⟩ => ⟨a, dx, w0, w1,  e1, s _ _ h, pcRep_mono s d0 r0, pcRep_mono s d1 r1⟩
  | .Mirrored e q d0, v, ⟨a, dx, w0, e1, h, r0⟩ => ⟨a, dx, w0,  e1, s _ _ h, pcRep_mono s d0 r0⟩
  | .Backed e q d0, v, ⟨a, dx, w0, e1, h, r0⟩ => ⟨a, dx, w0,  e1, s _ _ h, pcRep_mono s d0 r0⟩
  | .Upended e q d0, v, ⟨a, dx, w0, e1, h, r0⟩ => ⟨a, dx, w0,  e1, s _ _ h, pcRep_mono s d0 r0⟩
  | .Quartered e q d0, v, ⟨a, dx, w0, e1, h, r0⟩ => ⟨a, dx, w0,  e1, s _ _ h, pcRep_mono s d0 r0⟩
  | .Repeated e q d0 d1 d2, v, ⟨a, dx, w0, e1, h, r0⟩ => ⟨a, dx, w0,  e1, s _ _ h, pcRep_mono s d0 r0⟩
  | .Blocked e q d0 d1 d2, v, ⟨a, dx, w0, w1, w2, e1, h, r0, r1, r2⟩ => ⟨a, dx, w0, w1, w2,  e1, s _ _ h, pcRep_mono s d0 r0, pcRep_mono s d1 r1, pcRep_mono s d2 r2⟩
  | .Covered e q d0 d1, v, ⟨a, dx, w0, w1, e1, h, r0, r1⟩ => ⟨a, dx, w0, w1,  e1, s _ _ h, pcRep_mono s d0 r0, pcRep_mono s d1 r1⟩
def tPc (p : Pr) : Ty Pc := ⟨fun d v R => pcRep p R d v, fun {d v R R'} h s => pcRep_mono s d h⟩
/-- just this one -/
def tOnly (p : Pr) (d : Pc) : Ty Unit := ⟨fun _ v R => pcRep p R d v, fun h s => pcRep_mono s d h⟩
section
end
section
variable {p : Pr} {δ δ' ρ : Type} {A : Ar δ} {A' : Ar δ'} {D : ρ → Out} {F : δ → M ρ} {φ : δ' → δ} {k k' : Nat} {c m : Str} {ps : List Str}
theorem spM_as (h : ∀ d vs R, A'.rep d vs R → A.rep (φ d) vs R) {vs : List V} {H : Hp} {Q : VK} {E : XK} : spM p A' D (fun d => F (φ d)) vs H Q E → spM p A D F vs H Q E := fun ⟨d, z, h1, h2, h3⟩ => ⟨φ d, z, h1, h _ _ _ h2, h3⟩
/-- a method that no class of pieces has of its own -/
structure MuF (p : Pr) (k : Nat) (m : Str) (ps : List Str) (sp : Sp) : Prop where
  ex : ∃ (f : Addr) (fd : FuncData), FnOk p.P p.w p.K p.mg p.base (L2.CX p.P p.w) k f fd ("self" :: ps) sp ∧ (∀ c : PK, Cls p.K (cA p c.nm) ∧ Meth p.K (cA p c.nm) m f) ∧ Binds p.K fd ("self" :: ps) []
theorem MuF.at {A : Ar δ} {F : Pc × δ → M ρ} (hf : MuF p k m ps (spM p (aCons (tPc p) A) D F)) (d : Pc) : MeF p k d.k.nm m ps (spM p (aCons (tOnly p d) A) D (fun a => F (d, a.2))) := by
  obtain ⟨f, fd, h1, h2, h3⟩ := hf.ex
  exact ⟨f, fd, h1.imp fun vs H Q E => spM_as (A := aCons (tPc p) A) (A' := aCons (tOnly p d) A) (φ := fun a : Unit × δ => (d, a.2)) (fun a vs R ⟨v, r, e, r1, r2⟩ => ⟨v, r, e, r1, r2⟩), (h2 d.k).1, (h2 d.k).2, h3⟩
end
section
end
section
end
end Hd
namespace Hd
open PySem PySem.Spec L2
section
end
end Hd
namespace Hd
open PySem PySem.Spec L2
inductive PV where
  | num (n : Int)
  | text (t : Tx)
  | tree (w : Tx) (its : List PV)
inductive PVR (R : RdR) : PV → V → Prop where
  | num {n : Int} : PVR R (.num n) (.int n)
  | text {t : Tx} : OkTx t → PVR R (.text t) (.str (toS t))
  | tree {w : Tx} {its : List PV} {a b : Addr} {vs : List V} : OkTx w → R a (.tup [.str (toS w), .ref b]) → R b (.lst vs) → its.length = vs.length → (∀ (i : Nat) x v, its[i]? = some x → vs[i]? = some v → PVR R x v) → PVR R (.tree w its) (.ref a)
theorem PVR.mono {R R' : RdR} (s : ∀ a o, R a o → R' a o) {x : PV} {v : V} (h : PVR R x v) : PVR R' x v := by
  induction h with
  | num => exact .num
  | text h => exact .text h
  | tree h0 h1 h2 h3 _ ih => exact .tree h0 (s _ _ h1) (s _ _ h2) h3 ih
section
variable {p : Pr} {sc : Scope} {NN VV GG : List Str} {k : Nat} {g : G} {L L' : List Slot} {a b c e e' : Expr} {es : List Expr} {md md' : Md} {α β γ δ ρ : Type} {S : Ty α} {T : Ty β} {A : Ar δ} {pos pp : Pos} {j : Nat}
/-- where nothing comes -/
theorem evb_no {st : List Stmt} {D : δ → Out} : EvB g L st D (.no : M δ) := ⟨fun pins s σ H D I ⟨kp, own, at_, q⟩ => q.elim⟩
end
end Hd
namespace Hd
open PySem PySem.Spec L2
section
end
end Hd
set_option maxHeartbeats 1000000
namespace Hd
open PySem PySem.Spec PyProof.Rows L2 RT
section
end
section
end
end Hd
namespace Hd
open PySem PySem.Spec L2
def lOf {β : Type} (p : Pr) (iC : Nat) : List (Ec × β) → List V → List (Value × (Addr → Value → Option Addr → TS))
  | (d, _) :: r, v :: vs => (.ref (p.C d), fun _ _ _ => tAsg (fun σ H Q => Q v H) (gName iC)) :: lOf p iC r vs
  | _, _ => []
inductive Hds (p : Pr) (kn : List Ec) (GG : List Str) (L : List Slot) {α : Type} (S : Ty α) (y : Str) (iC : Nat) {β : Type} (LJ : β → List Slot) : List ExceptHandler → List (Ec × β) → List V → Prop
  | nil : Hds p kn GG L S y iC LJ [] [] []
  | cons {x : Str} {cx : Ec} {j : Nat} {np pos' p2 p3 : Pos} {e : Expr} {v : V} {dv : α} {h : β} {hs cl vs} (hcx : cx ∈ kn) (hx : p.mg x = some (.ref (p.C cx))) (hG : GG[j]? = some x) (he : ∀ Y : Cx, PE Y e (fun σ H Q => Q v H)) (hrep : ∀ R, S.rep dv v R)
      (hh : Wk (L.set iC (sV false S dv)) (LJ h)) (r : Hds p kn GG L S y iC LJ hs cl vs) (hsw : ∀ Y : Cx, swapsWith e (some (.Name y p2)) p3.line Y.env = pure false := by intro _; rfl) :
      Hds p kn GG L S y iC LJ (.ExceptHandler (some (.Name x np)) none [.Assign [.Name y p2] e p3] pos' :: hs) ((cx, h) :: cl) (v :: vs)
section
variable {p : Pr} {sc : Scope} {NN VV GG : List Str} {k : Nat} {g : G} {L L' : List Slot} {α β γ δ : Type} {S : Ty α} {pos : Pos} {st : List Stmt} {D : δ → Out}
theorem Hds.ok {kn : List Ec} {y : Str} {iC jC : Nat} {LJ : β → List Slot} {hs : List ExceptHandler} {cl : List (Ec × β)} {vs : List V} (ok : OkS p sc NN VV GG k g) (hNC : NN[iC]? = some y) (hVC : VV[jC]? = some y) (r : Hds p kn GG L S y iC LJ hs cl vs) : HdsOk g.X hs (lOf p iC cl vs) := by
  induction r with
  | nil => exact .nil
  | cons hcx hx hG he hrep hh r hsw ih =>
    obtain ⟨hg, ho⟩ := ok.gl hG
    refine .cons ⟨hg, (okName_d ho).1, .inl (by rw [ok.mg]; exact hx)⟩ (fun ad oE cl dd pn _ _ => ?_) ih
    exact pss_one (ps_set (i := iC) (by show g.X.N.Nodup; rw [ok.N]; exact ok.nd) (by show g.X.N[iC]? = _; rw [ok.N]; exact hNC) (ok.loc hVC) (he _) (hsw _) (.inl (ok.fnT y)))
end
end Hd
namespace Hd
open PySem PySem.Spec L2
section
end
end Hd
namespace Hd
open PySem PySem.Spec L2
section
end
end Hd
namespace Hd
open PySem PySem.Spec L2
section
end
section
end
end Hd
namespace Hd
open PySem PySem.Spec PyProof.Rows L2
section
end
end Hd
noncomputable section
namespace Hd
open PySem PySem.Spec PySem.W PySem.Calls PyProof.Rows HandSHeadRun
section
end
def oS (l : List Value) : Obj := ⟨.type "tuple", none, .seq ⟨l⟩ 0, #[]⟩
end Hd
namespace Hd
open PySem PySem.Spec L2
section
variable {α β γ δ ε : Type} {S : Ty α} {T : Ty β} {U : Ty γ} {W : Ty ε} {A : Ar δ}
/-- never the same -/
structure Apart (D : Deep S) (E : Deep T) : Prop where
  l : ∀ a b, PyData.eqv (D.pd a) (E.pd b) = false
  r : ∀ a b, PyData.eqv (E.pd b) (D.pd a) = false
end
section
end
end Hd
namespace Hd
open PySem PySem.Spec L2
section
variable {α β γ δ ε : Type} {S : Ty α} {T : Ty β} {S' : Ty γ} {A : Ar δ} {B : Ar ε}
theorem Apart.symm {D : Deep S} {E : Deep T} (h : Apart D E) : Apart E D := ⟨fun a b => h.r b a, fun a b => h.l b a⟩
end
section
end
end Hd
namespace Hd
open PySem PySem.Spec L2
section
end
end Hd
namespace Hd
open PySem PySem.Spec L2
section
end
end Hd
namespace Hd
open PySem PySem.Spec L2
/-- what holds written items: a list or a tuple -/
structure Cn where
  con : List V → HO
  T : {δ : Type} → Ar δ → Ty δ
  g : ∀ vs, gd (con vs) = true
  build : ∀ {δ : Type} {A : Ar δ} {d : δ} {R : RdR} {a : Addr} {vs : List V}, R a (con vs) → A.rep d vs R → (T A).rep d (.ref a) R
def cL : Cn := ⟨.lst, tHl, fun _ => rfl, fun h r => ⟨_, _, rfl, h, r⟩⟩
/-- it stands at a and holds the values ws -/
def wPn {δ : Type} (c : Cn) (a : Addr) (ws : List V) (A : WAr δ) : WTy δ where
  T := c.T A.A
  rep := fun d v H R F => ∃ G, v = .ref a ∧ F = a :: G ∧ H a = some (c.con ws) ∧ A.rep d ws H R G
  st := by
    rintro d v H H' F R R' ⟨G, e1, e2, h, r⟩ s k
    exact ⟨G, e1, e2, by rw [k a (by rw [e2]; exact List.mem_cons_self)]; exact h, A.st r s fun q hq => k q (by rw [e2]; exact List.mem_cons_of_mem _ hq)⟩
  tb := by
    rintro d v H F R ⟨G, e1, e2, h, r⟩ q hq
    rw [e2] at hq
    rcases List.mem_cons.mp hq with e | hq
    · subst e; exact ⟨_, h, c.g ws⟩
    · exact A.tb r q hq
  fz := by
    rintro d v H F R R' ⟨G, e1, e2, h, r⟩ s k
    subst e1
    exact c.build (k a (by rw [e2]; exact List.mem_cons_self) _ h) (A.fz r s fun q hq => k q (by rw [e2]; exact List.mem_cons_of_mem _ hq))
/-- .. looked at as a shared thing -/
def sFz {δ : Type} (c : Cn) (a : Addr) (ws : List V) (A : Ar δ) (d : δ) : Slot := ⟨fun v _ R F => F = [] ∧ v = some (.ref a) ∧ R false a (c.con ws) ∧ A.rep d ws (R false), fun ⟨e1, e2, h, r⟩ s _ => ⟨e1, e2, s _ _ _ h, A.mono r (s false)⟩, fun ⟨e, _⟩ p hp => by subst e; exact nomatch hp⟩
/-- the item k of known values -/
def sAt (ws : List V) (k : Nat) : Slot := ⟨fun v _ _ F => F = [] ∧ ∃ w, v = some w ∧ ws[k]? = some w, fun h _ _ => h, fun ⟨e, _⟩ p hp => by subst e; exact nomatch hp⟩
section
variable {α δ γ : Type} {O3 : WTy γ} {A : WAr δ} {kk : Nat} {pr : δ → γ} {stt : δ → γ → δ}
theorem WAt.see (h : WAt A kk O3 pr stt) : ∀ {d : δ} {vs : List V} {R : RdR}, A.A.rep d vs R → ∃ v, vs[kk]? = some v ∧ O3.T.rep (pr d) v R := by
  induction h with
  | z => rintro d vs R ⟨v, r, e, h1, h2⟩; subst e; exact ⟨v, rfl, h1⟩
  | s _ ih =>
    rintro d vs R ⟨v, r, e, h1, h2⟩
    subst e
    obtain ⟨w, e1, e2⟩ := ih h2
    exact ⟨w, by simpa using e1, e2⟩
end
section
variable {fm : Fm} {kp : RdR} {L : List Slot} {σ : L2.St} {H : Hp} {own : List Addr} {i j : Nat} {s s' : Slot}
theorem At.convI (hL : L[i]? = some s) (h : At fm kp L σ H own) (c : ∀ Fs, AllS H (RB fm own H) L σ Fs → ∀ v F, σ[i]? = some v → s.ok v H (RB fm own H) F → s'.ok v H (RB fm own H) F) : At fm kp (L.set i s') σ H own := by
  obtain ⟨h1, h2, ⟨Fs, h3, e⟩, h4, h5, h6⟩ := h
  refine ⟨h1, h2, ⟨Fs, ?_, e⟩, h4, h5, h6⟩
  have hpw := h3.pw
  refine Pw.all ⟨by rw [List.length_set]; exact hpw.l1, by rw [List.length_set]; exact hpw.l2, fun j _ s2 v F e1 e2 e3 => ?_⟩
  by_cases hij : i = j
  · subst hij
    rw [List.getElem?_set_self (List.getElem?_eq_some_iff.mp hL).1] at e1
    cases e1
    exact c Fs h3 v F e2 (hpw.ok i (fun z => z) _ v F hL e2 e3)
  · rw [List.getElem?_set_ne hij] at e1
    exact hpw.ok j (fun z => z) s2 v F e1 e2 e3
end
/-- another way of looking at the slots -/
def AtC (L L' : List Slot) : Prop := ∀ {fm : Fm} {kp : RdR} {σ : L2.St} {H : Hp} {own : List Addr}, At fm kp L σ H own → ∃ own', At fm kp L' σ H own' ∧ ∀ p ∈ own', p ∈ own
theorem ac_tr {L L1 L2 : List Slot} (h : AtC L L1) (k : AtC L1 L2) : AtC L L2 := fun a => by
  obtain ⟨o1, a1, s1⟩ := h a
  obtain ⟨o2, a2, s2⟩ := k a1
  exact ⟨o2, a2, fun p hp => s1 p (s2 p hp)⟩
section
variable {L : List Slot} {i j kk : Nat} {α δ γ : Type} {O3 : WTy γ} {A : WAr δ} {pr : δ → γ} {stt : δ → γ → δ} {px : V → Prop} {d : δ} {c : Cn} {a : Addr} {ws : List V}
theorem ac_lend (hL : L[i]? = some (sP px (wPn c a ws A) d)) : AtC L (L.set i (sFz c a ws A.A d)) := fun {fm kp σ H own} h => by
  obtain ⟨h1, h2, ⟨Fs, h3, e⟩, h4, h5, h6⟩ := h
  obtain ⟨v0, F, e1, e2, v, rfl, hx, G, e3, e4, h7, r⟩ := h3.get hL
  have nd := h4
  rw [e] at nd
  have nF : ∀ q ∈ (Fs.set i []).flatten, q ∈ Fs.flatten ∧ q ∉ F := fun q hq => by
    rcases flat_set_mem nd e2 q hq with hq | hq
    · exact nomatch hq
    · exact hq
  have kk : ∀ q ∈ (Fs.set i []).flatten, q ∈ own := fun q hq => by rw [e]; exact (nF q hq).1
  have hk : ∀ q ∈ Fs.flatten, q ∉ F → H q = H q := fun _ _ _ => rfl
  have rd : ∀ q ∈ F, ∀ o, H q = some o → gd o = true → RD fm (Fs.set i []).flatten H q o := fun q hq o ho go => .inl ⟨.inl (cl_of ho (gd_nt go)), fun hq' => (nF q hq').2 hq, (h5 q (by rw [e]; exact flat_mem e2 q hq)).2.2⟩
  refine ⟨_, ⟨h1, h2, ⟨Fs.set i [], h3.chg nd e2 e1 (RB.own kk) hk (s' := sFz c a ws A.A d) ⟨rfl, by rw [e3], ?_, A.fz r (RB.own kk false) fun q hq o ho => ?_⟩, rfl⟩, flat_set_nd nd e2 List.nodup_nil (fun _ h => nomatch h), fun q hq => h5 q (kk q hq), fun a o z => RX.own (md := .sh) (H := H) kk a o (h6 a o z)⟩, kk⟩
  · exact rd a (by rw [e4]; exact List.mem_cons_self) _ h7 (c.g ws)
  · obtain ⟨o', ho', go⟩ := A.tb r q hq
    rw [ho] at ho'; cases ho'
    exact rd q (by rw [e4]; exact List.mem_cons_of_mem _ hq) _ ho go
theorem ac_see (hL : L[i]? = some (sFz c a ws A.A d)) (hj : L[j]? = some (sAt ws kk)) (hA : WAt A kk O3 pr stt) : AtC L (L.set j (sV false O3.T (pr d))) := fun {fm kp σ H own} h => ⟨own, h.convI hj fun Fs hs v F e1 ⟨e2, w, e3, e4⟩ => by
  obtain ⟨v0, F0, x1, x2, y1, y2, y3, y4⟩ := hs.get hL
  obtain ⟨w', e5, e6⟩ := hA.see y4
  rw [e4] at e5; cases e5
  exact ⟨e2, w, e3, e6⟩, fun _ h => h⟩
theorem ac_shut (hL : L[i]? = some (sFz c a ws A.A d)) : AtC L (L.set i (sV false (c.T A.A) d)) := fun {fm kp σ H own} h => ⟨own, h.convI hL fun Fs hs v F e1 ⟨e2, e3, e4, e5⟩ => ⟨e2, .ref a, e3, c.build e4 e5⟩, fun _ h => h⟩
end
section
variable {p : Pr} {sc : Scope} {NN VV GG : List Str} {k : Nat} {g : G} {L L' : List Slot} {a b c e e' ix : Expr} {md md' : Md} {α β γ δ ρ : Type} {S : Ty α} {T : Ty β} {O : WTy α} {O2 : WTy β} {O3 : WTy γ} {A A' : WAr ρ} {pos pos' pp : Pos} {i j kk : Nat} {x y : Str} {px : V → Prop} {st : List Stmt} {D : δ → Out} {cn : Cn} {q : Addr} {ws : List V} {d : ρ} {pr : ρ → γ} {stt : ρ → γ → ρ}
theorem ev_look {m : M β} (hf : Flat T ∨ md = .fx) (ha : AtC L L') (h : EvE g L' e md T m) : EvE g L e md T m := PE.imp h fun σ H Q q => by
  obtain ⟨kp, own, at_, q⟩ := tE_iff.mp q
  obtain ⟨own', a', sub⟩ := ha at_
  refine tE_iff.mpr ⟨kp, own', a', ?_⟩
  cases m with
  | ok d =>
    refine fun v H' s r => q v H' s ?_
    rcases hf with hf | rfl
    · exact hf r
    · exact T.mono r fun a o z => ⟨z.1, fun y => (at_.new a y).1 z.2.2.2.2, z.2.2⟩
  | ex c => exact q
  | no => exact q
theorem evt_look {m : M Bool} (ha : AtC L L') (h : EvT g L' e m) : EvT g L e m := PT.imp h fun σ H Q q => by
  obtain ⟨kp, own, at_, q⟩ := tT_iff.mp q
  obtain ⟨own', a', sub⟩ := ha at_
  refine tT_iff.mpr ⟨kp, own', a', ?_⟩
  cases m <;> exact q
/-- where it stands is known from here on -/
theorem evb_pinL {m : M δ} (hL : L[i]? = some (sP px (wHl A) d)) (hr : ∀ q ws, EvB g (L.set i (sP px (wPn cL q ws A) d)) st D m) : EvB g L st D m := PSs.imp (PSs.ex (t := fun z : Addr × List V => tB g (L.set i (sP px (wPn cL z.1 z.2 A) d)) D m) fun z => hr z.1 z.2) fun E σ H ⟨kp, own, at_, q⟩ => by
  obtain ⟨Fs, hsl, heo⟩ := at_.sl
  obtain ⟨v0, F, e1, e2, x, e3, hx, p, vs, G, e4, e5, h, r⟩ := hsl.get hL
  refine ⟨(p, vs), kp, own, at_.convI hL fun Fs2 _ v F2 e1' ⟨x', e3', hx', p', vs', G', e4', e5', h', r'⟩ => ?_, q⟩
  rw [e1] at e1'; cases e1'
  rw [e3] at e3'; cases e3'
  rw [e4] at e4'; cases e4'
  rw [h] at h'; cases h'
  exact ⟨x, e3, hx, G', e4, e5', h, r'⟩
theorem evb_unpinL {m : M δ} (hL : L[i]? = some (sP px (wPn cL q ws A) d)) (hr : EvB g (L.set i (sP px (wHl A) d)) st D m) : EvB g L st D m := evb_conv (s' := sP px (wHl A) d) hL (fun v H R F ⟨x, e3, hx, G, e4, e5, h, r⟩ => ⟨x, e3, hx, q, ws, G, e4, e5, h, r⟩) hr
theorem At.pinned {fm : Fm} {kp : RdR} {σ : L2.St} {H : Hp} {own : List Addr} (h : At fm kp L σ H own) (hL : L[i]? = some (sP px (wPn cn q ws A) d)) : σ[i]? = some (some (.ref q)) ∧ H q = some (cn.con ws) := by
  obtain ⟨Fs, hsl, heo⟩ := h.sl
  obtain ⟨v0, F, e1, e2, x, e3, hx, G, e4, e5, h, r⟩ := hsl.get hL
  rw [e3, e4] at e1
  exact ⟨e1, h⟩
/-- x = y[kk], another name of the part -/
theorem evb_aliasL {m : M δ} {yp ip : Pos} {iy jy : Nat} (ok : OkS p sc NN VV GG k g) (hN : NN[i]? = some x) (hV : VV[j]? = some x) (hNy : NN[iy]? = some y) (hVy : VV[jy]? = some y) (hL : L[iy]? = some (sP px (wPn cL q ws A) d)) (hA : WAt A kk O3 pr stt) (hi : EvE g L ix md tInt (.ok (kk : Int)))
    (hr : EvB g (L.set i (sAt ws kk)) st D m) (hsx : PlainIx ix := by exact fun _ _ => rfl) (hs : swapsWith (.Subscript (.Name y yp) ix ip) (some (.Name x pos')) pos.line g.X.env = pure false := by rfl) :
    EvB g L (.Assign [.Name x pos'] (.Subscript (.Name y yp) ix ip) pos :: st) D m := by
  obtain ⟨hv, ho⟩ := ok.toOk.vis hVy
  obtain ⟨h1, h2, _⟩ := okName_d ho
  refine PSs.imp (pss_cons (ps_set (i := i) (by rw [ok.N]; exact ok.nd) (by rw [ok.N]; exact hN) (ok.loc hV) (pe_ix (pos := ip) (r := rIxL g.X.K) ix_list (pe_var (pos := yp) (i := iy) (by rw [ok.N]; exact hNy) hv h1 h2) hi hsx) hs (okS_fn ok)) hr) fun E σ H ⟨kp, own, at_, q'⟩ => ?_
  obtain ⟨e1, hp⟩ := at_.pinned hL
  refine ⟨_, e1, tE_iff.mpr ⟨kp, own, at_, ?_⟩⟩
  intro z H1 s1 r1
  cases (show z = .int kk from r1)
  have at1 := at_.ext s1
  obtain ⟨Fs, hsl, heo⟩ := at1.sl
  obtain ⟨v0, F, e2, e3, x', e4, hx, G, e5, e6, h7, r⟩ := hsl.get hL
  have nd := at1.nd
  rw [heo] at nd
  obtain ⟨v3, F3, e8, _⟩ := hA.get r (by have := flat_nd nd e3; rw [e6, List.nodup_cons] at this; exact this.2)
  refine ⟨q, ws, kk, v3, rfl, rfl, .inl (.inl h7), atI_nat e8, ?_⟩
  have kk' : ∀ p ∈ (Fs.set i []).flatten, p ∈ Fs.flatten := fun p hp => (set_sub (i := i)).subset hp
  exact ⟨kp, _, ⟨at1.same, at1.zin, ⟨Fs.set i [], (hsl.st (RB.own fun p hp => by rw [heo]; exact kk' p hp) fun _ _ => rfl).set (s := sAt ws kk) ⟨rfl, v3, rfl, e8⟩ i, rfl⟩, nd.sublist set_sub, fun p hp => at1.new p (by rw [heo]; exact kk' p hp), fun a o z => RX.own (md := .sh) (H := H1) (fun p hp => by rw [heo]; exact kk' p hp) a o (at1.kept a o z)⟩, q'⟩
/-- a place that another name tells -/
theorem evp_ali {ia ja : Nat} {xp : Pos} (ok : Ok p sc NN VV GG k g) (hN : NN[ia]? = some x) (hV : VV[ja]? = some x) (hL : L[i]? = some (sP px (wPn cn q ws A) d)) (ha : L[ia]? = some (sAt ws kk)) (hA : WAt A kk O3 pr stt) :
    EvP g L (.Name x xp) i px (wPn cn q ws A) d O3 (.ok (pr d, fun y => stt d y)) := by
  obtain ⟨hv, ho⟩ := ok.vis hV
  obtain ⟨h1, h2, _⟩ := okName_d ho
  refine PE.imp (pe_var (i := ia) (by rw [ok.N]; exact hN) hv h1 h2) fun σ H Q ⟨kp, own, Fs, at_, hsl, heo, q'⟩ => ?_
  obtain ⟨v0, F0, x1, x2, x3, w, x4, x5⟩ := hsl.get ha
  obtain ⟨v, F, e1, hP⟩ := at_.toP hsl heo hL
  obtain ⟨v', F', hL', hs, e, e1', hx, e2, pl⟩ := hP
  obtain ⟨G, y1, y2, y3, y4⟩ := pl.rep
  obtain ⟨v3, F3, e3, _, pl3⟩ := pl.part (con := cn.con) y1 y2 y3 y4 (fun H' R' d' G' h' r' => ⟨G', y1, rfl, h', r'⟩) hA
  rw [x5] at e3; cases e3
  subst x4
  exact ⟨w, x1, q' w F3 H (Same.refl H) ⟨v', F', hL', hs, e, e1', hx, e2, pl3⟩⟩
/-- by what a number is -/
theorem evb_case {LF : Int → List Slot} {w n : Int} {m1 m2 : M δ} (h1 : EvB g (LF n) st D m1) (h2 : EvB g (LF w) st D m2) : EvB g (LF w) st D (if decide (w = n) = true then m1 else m2) := by
  by_cases h : w = n
  · subst h
    rw [if_pos (decide_eq_true rfl)]
    exact h1
  · rw [if_neg (by simpa using h)]
    exact h2
end
/-- an item of another kind of owning, the same data -/
inductive WRe {γ : Type} (O O' : WTy γ) : {δ : Type} → WAr δ → Nat → WAr δ → (δ → γ) → (δ → γ → δ) → Prop where
  | z {δ : Type} {A : WAr δ} : WRe O O' (waCons O A) 0 (waCons O' A) (fun d => d.1) (fun d y => (y, d.2))
  | s {β δ : Type} {P : WTy β} {A A' : WAr δ} {k : Nat} {pr : δ → γ} {st : δ → γ → δ} : WRe O O' A k A' pr st → WRe O O' (waCons P A) (k + 1) (waCons P A') (fun d => pr d.2) (fun d y => (d.1, st d.2 y))
section
variable {γ δ : Type} {O O' : WTy γ} {A A' : WAr δ} {k : Nat} {pr : δ → γ} {stt : δ → γ → δ} {H : Hp} {R : RdR}
/-- the part is given up: it is a shared thing from here on -/
theorem WRe.giveA (h : WRe O (wV O.T) A k A' pr stt) : ∀ {d vs G}, A.rep d vs H R G → G.Nodup → ∃ Fp G' : List Addr, (∀ x ∈ G', x ∈ G ∧ x ∉ Fp) ∧ G'.Nodup ∧ (∀ x ∈ Fp, x ∈ G ∧ ∃ o, H x = some o ∧ gd o = true) ∧ ∀ {R' : RdR}, (∀ a o, R a o → R' a o) → (∀ x ∈ Fp, ∀ o, H x = some o → gd o = true → R' x o) → A'.rep d vs H R' G' := by
  induction h with
  | z =>
    rintro d vs G ⟨v, r, F1, F2, e1, e2, h1, h2⟩ nd
    subst e1; subst e2
    rw [List.nodup_append] at nd
    refine ⟨F1, F2, fun x hx => ⟨List.mem_append_right _ hx, fun hx' => nd.2.2 x hx' x hx rfl⟩, nd.2.1, fun x hx => ⟨List.mem_append_left _ hx, O.tb h1 x hx⟩, fun s f => ⟨v, r, [], F2, rfl, rfl, ⟨rfl, O.fz h1 s fun x hx o ho => ?_⟩, WAr.st _ h2 s fun _ _ => rfl⟩⟩
    obtain ⟨o', ho', go⟩ := O.tb h1 x hx
    rw [ho] at ho'; cases ho'
    exact f x hx o ho go
  | s _ ih =>
    rintro d vs G ⟨v, r, F1, F2, e1, e2, h1, h2⟩ nd
    subst e1; subst e2
    rw [List.nodup_append] at nd
    obtain ⟨Fp, G', g1, g2, g3, g4⟩ := ih h2 nd.2.1
    refine ⟨Fp, F1 ++ G', fun x hx => ?_, List.nodup_append.mpr ⟨nd.1, g2, fun a ha b hb e => nd.2.2 a ha b (g1 b hb).1 e⟩, fun x hx => ⟨List.mem_append_right _ (g3 x hx).1, (g3 x hx).2⟩, fun s f => ⟨v, r, F1, G', rfl, rfl, WTy.st _ h1 s fun _ _ => rfl, g4 s f⟩⟩
    rcases List.mem_append.mp hx with hx | hx
    · exact ⟨List.mem_append_left _ hx, fun hq => nd.2.2 x hx x (g3 x hq).1 rfl⟩
    · exact ⟨List.mem_append_right _ (g1 x hx).1, (g1 x hx).2⟩
/-- .. and another one is put there -/
theorem WRe.put (h : WRe O (wV O.T) A k A' pr stt) : ∀ {d vs G F1 x w}, A'.rep d vs H R G → G.Nodup → O.rep x w H R F1 → F1.Nodup → (∀ q ∈ F1, q ∉ G) → ∃ G', A.rep (stt d x) (vs.set k w) H R G' ∧ G'.Nodup ∧ (∀ q ∈ G', q ∈ F1 ∨ q ∈ G) ∧ k < vs.length := by
  induction h with
  | z =>
    rintro d vs G F1 x w ⟨v, r, Fa, Fb, e1, e2, h1, h2⟩ nd rx nd1 dis
    subst e1; subst e2
    have nd' := List.nodup_append.mp nd
    refine ⟨F1 ++ Fb, ⟨w, r, F1, Fb, rfl, rfl, rx, h2⟩, List.nodup_append.mpr ⟨nd1, nd'.2.1, fun q hq z hz e => dis q hq (by rw [e]; exact List.mem_append_right _ hz)⟩, fun q hq => ?_, by simp⟩
    rcases List.mem_append.mp hq with h | h
    · exact .inl h
    · exact .inr (List.mem_append_right _ h)
  | s _ ih =>
    rintro d vs G F1 x w ⟨v, r, Fa, Fb, e1, e2, h1, h2⟩ nd rx nd1 dis
    subst e1; subst e2
    have nd' := List.nodup_append.mp nd
    obtain ⟨G', g1, g2, g3, g4⟩ := ih h2 nd'.2.1 rx nd1 fun q hq hz => dis q hq (List.mem_append_right _ hz)
    refine ⟨Fa ++ G', ⟨v, _, Fa, G', rfl, rfl, h1, g1⟩, List.nodup_append.mpr ⟨nd'.1, g2, fun q hq z hz e => ?_⟩, fun q hq => ?_, by simp; omega⟩
    · subst e
      rcases g3 q hz with h | h
      · exact dis q h (List.mem_append_left _ hq)
      · exact nd'.2.2 q hq q h rfl
    · rcases List.mem_append.mp hq with h | h
      · exact .inr (List.mem_append_left _ h)
      · exact (g3 q h).imp id (List.mem_append_right _)
end
section
variable {fm : Fm} {kp : RdR} {L : List Slot} {σ : L2.St} {H : Hp} {own : List Addr} {i kk : Nat} {px : V → Prop} {γ ρ : Type} {O3 : WTy γ} {A A' : WAr ρ} {pr : ρ → γ} {stt : ρ → γ → ρ} {d : ρ}
theorem At.giveL (h : At fm kp L σ H own) (hL : L[i]? = some (sP px (wHl A) d)) (hA : WRe O3 (wV O3.T) A kk A' pr stt) : ∃ own', At fm kp (L.set i (sP px (wHl A') d)) σ H own' ∧ ∀ p ∈ own', p ∈ own := by
  obtain ⟨h1, h2, ⟨Fs, h3, e⟩, h4, h5, h6⟩ := h
  obtain ⟨v0, F, e1, e2, v, rfl, hx, p, vs, G, e3, e4, h7, r⟩ := h3.get hL
  have nd := h4
  rw [e] at nd
  have ndF := flat_nd nd e2
  rw [e4, List.nodup_cons] at ndF
  have inO : ∀ q ∈ F, q ∈ own := fun q hq => by rw [e]; exact flat_mem e2 q hq
  obtain ⟨Fp, G', g1, g2, g3, g4⟩ := hA.giveA r ndF.2
  have inF : ∀ q ∈ p :: G', q ∈ F ∧ q ∉ Fp := fun q hq => by
    rcases List.mem_cons.mp hq with hq | hq
    · rw [hq, e4]; exact ⟨List.mem_cons_self, fun hz => ndF.1 (g3 _ hz).1⟩
    · rw [e4]; exact ⟨List.mem_cons_of_mem _ (g1 q hq).1, (g1 q hq).2⟩
  have nF : ∀ q ∈ (Fs.set i (p :: G')).flatten, q ∈ own ∧ q ∉ Fp := fun q hq => by
    rcases flat_set_mem nd e2 q hq with hq | ⟨hq, hn⟩
    · exact ⟨inO q (inF q hq).1, (inF q hq).2⟩
    · exact ⟨by rw [e]; exact hq, fun hz => hn (by rw [e4]; exact List.mem_cons_of_mem _ (g3 q hz).1)⟩
  have kk : ∀ q ∈ (Fs.set i (p :: G')).flatten, q ∈ own := fun q hq => (nF q hq).1
  refine ⟨_, ⟨h1, h2, ⟨Fs.set i (p :: G'), h3.chg nd e2 e1 (RB.own kk) (fun _ _ _ => rfl) (s' := sP px (wHl A') d) ⟨v, rfl, hx, p, vs, G', e3, rfl, h7, g4 (RB.own kk false) fun x hx o ho go => ?_⟩, rfl⟩, flat_set_nd nd e2 (List.nodup_cons.mpr ⟨fun hz => ndF.1 (g1 _ hz).1, g2⟩) (fun x hx => .inl (inF x hx).1), fun q hq => h5 q (kk q hq), fun a o z => RX.own (md := .sh) (H := H) kk a o (h6 a o z)⟩, kk⟩
  exact .inl ⟨.inl (cl_of ho (gd_nt go)), fun hq' => (nF x hq').2 hx, (h5 x (inO x (by rw [e4]; exact List.mem_cons_of_mem _ (g3 x hx).1))).2.2⟩
end
section
variable {p : Pr} {sc : Scope} {NN VV GG : List Str} {k : Nat} {g : G} {L : List Slot} {e ix : Expr} {md : Md} {γ δ ρ : Type} {O3 : WTy γ} {A A' : WAr ρ} {pos : Pos} {i jy kk : Nat} {y : Str} {px : V → Prop} {st : List Stmt} {D : δ → Out} {d : ρ} {pr : ρ → γ} {stt : ρ → γ → ρ}
/-- y[kk] = e, e a thing of one's own made with what stood there, which is given up -/
theorem evb_setOwn {m : M γ} {h : γ → M δ} {yp p2 : Pos} (ok : OkS p sc NN VV GG k g) (hA : WRe O3 (wV O3.T) A kk A' pr stt) (hN : NN[i]? = some y) (hV : VV[jy]? = some y) (hL : L[i]? = some (sP px (wHl A) d)) (wk : Wkx g L (NoEx m)) (he : EvN g (L.set i (sP px (wHl A') d)) e O3 m) (hi : EvE g (L.set i (sP px (wHl A') d)) ix md tInt (.ok (kk : Int))) (hr : ∀ x, EvB g (L.set i (sP px (wHl A) (stt d x))) st D (h x))
    (hs : swapsWith e (some (.Subscript (.Name y yp) ix p2)) pos.line g.X.env = pure false := by rfl)
    (hsub : ∀ v, assign (.Subscript (.Name y yp) ix p2) g.X.env v = (do
      let ov ← holding [v] (eval (.Name y yp) g.X.env)
      let iv ← holding [v, ov] (eval ix g.X.env)
      standAt p2
      holding [v, ov, iv] (setItem ov iv v)
      release [v, ov, iv] []) := by intro _; rfl)
    (hs' : swapsWithSole [.Subscript (.Name y yp) ix p2] e pos.line g.X.env = pure false := by rfl) (hw : swappedStores [.Subscript (.Name y yp) ix p2] e g.X.env = pure none := by rfl) (ha1 : (assignEach [.Subscript (.Name y yp) ix p2] g.X.env).map (·.2) = [assign (.Subscript (.Name y yp) ix p2) g.X.env] := by rfl) :
    EvB g L (.Assign [.Subscript (.Name y yp) ix p2] e pos :: st) D (m.bind h) := by
  obtain ⟨hv, ho⟩ := ok.toOk.vis hV
  obtain ⟨h1, h2, _⟩ := okName_d ho
  have hlt : i < L.length := (List.getElem?_eq_some_iff.mp hL).1
  refine PSs.imp (pss_cons (ps_asg he (pg_sub (pe_var (pos := yp) (i := i) (by rw [ok.N]; exact hN) hv h1 h2) hi set_list hsub) hs' hw ha1) (PSs.ex hr)) fun E σ H ⟨kp, own, at_, q⟩ => ?_
  obtain ⟨own1, at1, sub1⟩ := at_.giveL hL hA
  have hL1 : (L.set i (sP px (wHl A') d))[i]? = some (sP px (wHl A') d) := List.getElem?_set_self hlt
  refine ⟨kp, own1, at1, ?_⟩
  cases m with
  | ok x =>
    intro w F1 H1 s1 nd1 n1 rw_
    have at2 := at1.conv (s' := sP px (wSum (wHl A') (wHl A)) (.inl d)) hL1 fun v H R F z => z
    rw [List.set_set] at at2
    have hL2 : (L.set i (sP px (wSum (wHl A') (wHl A)) (.inl d)))[i]? = some (sP px (wSum (wHl A') (wHl A)) (.inl d)) := List.getElem?_set_self hlt
    obtain ⟨Fs, hsl, heo⟩ := at2.sl
    obtain ⟨v0, F, e1, e2, v, rfl, hx, rall⟩ := hsl.get hL2
    have rall0 := rall
    obtain ⟨p', vs, G, r1, r3, hp', rr⟩ : (wHl A').rep d v H (RD g.fm own1 H) F := rall
    subst r1
    refine ⟨_, e1, ?_⟩
    refine tE_iff.mpr ⟨kp, own1, at1.ext s1, ?_⟩
    intro yv H2 s2 r2
    cases (show yv = .int kk from r2)
    have s12 := s1.trans s2
    have q : BOk g kp E D (h x) := q
    have nd := at1.nd
    rw [heo] at nd
    have ndF := flat_nd nd e2
    have inO : ∀ z ∈ F, z ∈ own1 := fun z hz => by rw [heo]; exact flat_mem e2 z hz
    have tbF : ∀ z ∈ F, ∃ o, H z = some o ∧ gd o = true := (wSum (wHl A') (wHl A)).tb rall0
    have kF : ∀ z ∈ F, H2 z = H z := fun z hz => by
      obtain ⟨o, ho, go⟩ := tbF z hz
      rw [ho]; exact s12.keep _ _ ho (gd_nt go)
    have tb1 : ∀ z ∈ F1, ∃ o, H1 z = some o ∧ gd o = true := O3.tb rw_
    have k1 : ∀ z ∈ F1, H2 z = H1 z := fun z hz => by
      obtain ⟨o, ho, go⟩ := tb1 z hz
      rw [ho]; exact s2.keep _ _ ho (gd_nt go)
    have pF : p' ∈ F := by rw [r3]; exact List.mem_cons_self
    have GF : ∀ z ∈ G, z ∈ F := fun z hz => by rw [r3]; exact List.mem_cons_of_mem _ hz
    rw [r3, List.nodup_cons] at ndF
    have hp2 : H2 p' = some (.lst vs) := by rw [kF p' pF]; exact hp'
    have rr2 : A'.rep d vs H2 (RD g.fm (F1 ++ own1) H2) G := A'.st rr (RD.newer s12 n1) fun z hz => kF z (GF z hz)
    have rx2 : O3.rep x w H2 (RD g.fm (F1 ++ own1) H2) F1 := O3.st rw_ (RD.same s2) k1
    have dj : ∀ z ∈ F1, z ∉ F := fun z hz hz' => by
      obtain ⟨o, ho, _⟩ := tbF z hz'
      rw [n1 z hz] at ho; cases ho
    obtain ⟨G', g1, g2, g3, g4⟩ := hA.put rr2 ndF.2 rx2 nd1 fun z hz hz' => dj z hz (GF z hz')
    have np : p' ∉ G' := fun hz => (g3 _ hz).elim (fun hz => dj _ hz pF) ndF.1
    have A2 : AtP g.fm (L.set i (sP px (wSum (wHl A') (wHl A)) (.inl d))) σ own1 Fs i px (wSum (wHl A') (wHl A)) (.inl d) H (wSum (wHl A') (wHl A)) (.inl d) (fun y => y) (.ref p') F := ⟨.ref p', F, hL2, hsl, heo, e1, hx, e2, Plc.root rall0 (flat_nd nd e2)⟩
    have inF1 : ∀ z ∈ (p' :: G') ++ own1, z ∈ F1 ++ own1 := fun z hz => by
      rcases List.mem_append.mp hz with hz | hz
      · rcases List.mem_cons.mp hz with hz | hz
        · rw [hz]; exact List.mem_append_right _ (inO _ pF)
        · rcases g3 z hz with hz | hz
          · exact List.mem_append_left _ hz
          · exact List.mem_append_right _ (inO z (GF z hz))
      · exact List.mem_append_right _ hz
    have mono : ∀ b o, RD g.fm (F1 ++ own1) H2 b o → RD g.fm ((p' :: G') ++ own1) (upd H2 p' (.lst (vs.set kk w))) b o := fun b o z => by
      rcases z with ⟨z1, z2, z3⟩ | z
      · have ne : b ≠ p' := fun h => z2 (by rw [h]; exact List.mem_append_right _ (inO _ pF))
        refine .inl ⟨?_, fun h => z2 (inF1 b h), z3⟩
        unfold Rd
        show _ ∨ _
        rw [cl_upd_ne ne]
        exact z1
      · exact .inr z
    have rz : (wSum (wHl A') (wHl A)).rep (.inr (stt d x)) (.ref p') (upd H2 p' (.lst (vs.set kk w))) (RD g.fm ((p' :: G') ++ own1) (upd H2 p' (.lst (vs.set kk w)))) (p' :: G') := by
      show (wHl A).rep (stt d x) _ _ _ _
      exact ⟨p', vs.set kk w, G', rfl, rfl, upd_same, A.st g1 mono fun z hz => upd_ne fun h => np (by rw [← h]; exact hz)⟩
    obtain ⟨own', a', _⟩ := at2.chg (F2' := p' :: G') (d2' := (.inr (stt d x) : ρ ⊕ ρ)) A2 (hm_wr (o := .lst (vs.set kk w)) s12 pF hp2 rfl tbF) (List.nodup_cons.mpr ⟨np, g2⟩)
      (fun z hz => by
        rcases List.mem_cons.mp hz with hz | hz
        · exact .inl (by rw [hz]; exact pF)
        · exact (g3 z hz).symm.imp (GF z) (n1 z))
      (fun z hz => by
        by_cases ez : z = p'
        · rw [ez, upd_same]; exact fun h => nomatch h
        · rw [upd_ne ez]
          rcases List.mem_cons.mp hz with hz | hz
          · exact absurd hz ez
          · rcases g3 z hz with hz | hz
            · rw [k1 z hz]; obtain ⟨o, ho, _⟩ := tb1 z hz; rw [ho]; exact fun h => nomatch h
            · rw [kF z (GF z hz)]; obtain ⟨o, ho, _⟩ := tbF z (GF z hz); rw [ho]; exact fun h => nomatch h)
      rz
    rw [List.set_set] at a'
    have a3 := a'.conv (s' := sP px (wHl A) (stt d x)) (List.getElem?_set_self hlt) fun v H R F z => z
    rw [List.set_set] at a3
    have hix : L2.ixN vs.length (kk : Int) = some kk := by
      unfold L2.ixN
      rw [if_pos (by omega), if_pos (by omega), Int.toNat_natCast]
    exact ⟨_, vs, (kk : Int), kk, rfl, rfl, hp2, hix, x, kp, own', a3, q⟩
  | ex c => exact fun H' s => BOk.exx' wk (fun n => n c rfl) at_ q H' s
  | no => exact q
end
end Hd
namespace Hd
open PySem PySem.Spec L2
def Okm {α : Type} (m : M α) (P : α → Prop) : Prop := ∃ a, m = .ok a ∧ P a
section
variable {α β γ ρ : Type} {m : M α} {f : α → M β} {P P' : α → Prop} {Q : β → Prop}
theorem okv {a : α} (h : P a) : Okm (.ok a) P := ⟨a, rfl, h⟩
theorem okb (h : Okm m P) (k : ∀ a, P a → Okm (f a) Q) : Okm (m.bind f) Q := by
  obtain ⟨a, rfl, ha⟩ := h
  exact k a ha
theorem okmono (h : Okm m P) (k : ∀ a, P a → P' a) : Okm m P' := by
  obtain ⟨a, e, ha⟩ := h
  exact ⟨a, e, k a ha⟩
theorem okif {c : Bool} {a b : M α} (h1 : c = true → Okm a P) (h2 : c = false → Okm b P) : Okm (if c = true then a else b) P := by
  cases c with
  | true => exact h1 rfl
  | false => exact h2 rfl
theorem oke {a : α} (h : Okm m (· = a)) : m = .ok a := by
  obtain ⟨b, e, rfl⟩ := h
  exact e
theorem ok_mod {x y : Int} (h : 0 < y) : Okm (modM x y) (· = x % y) := by unfold modM; rw [if_pos h]; exact okv rfl
theorem ok_mul {x y : Int} (n m : Nat) (h : x.natAbs < 2 ^ n) (h2 : y.natAbs < 2 ^ m) (hn : n ≤ 10000 := by decide) (hm : m ≤ 10000 := by decide) : Okm (mulM x y) (· = x * y) := by
  unfold mulM
  rw [if_pos ⟨Nat.lt_of_lt_of_le h (Nat.pow_le_pow_right (by decide) hn), Nat.lt_of_lt_of_le h2 (Nat.pow_le_pow_right (by decide) hm)⟩]
  exact okv rfl
theorem getM_at {xs : List α} {i : Int} {v : α} (h0 : 0 ≤ i) (h : xs[i.toNat]? = some v) : getM xs i = .ok v := by
  have hl : i.toNat < xs.length := (List.getElem?_eq_some_iff.mp h).1
  unfold getM L2.atI L2.ixN
  rw [if_pos h0, if_pos (by omega)]
  show (match xs[i.toNat]? with | some d => M.ok d | none => .no) = _
  rw [h]
theorem ok_get {xs : List α} {i : Int} (h0 : 0 ≤ i) (h1 : i < xs.length) : Okm (getM xs i) (fun v => xs[i.toNat]? = some v) := by
  have hl : i.toNat < xs.length := by omega
  exact ⟨xs[i.toNat], getM_at h0 (by simp [hl]), by simp [hl]⟩
theorem ok_push {xs : List α} {d : α} (h : xs.length < 1000000) : Okm (pushM xs d) (· = xs ++ [d]) := by
  unfold pushM
  rw [if_pos (Nat.lt_trans h (by decide))]
  exact okv rfl
theorem ok_set {xs : List α} {i : Int} {d : α} (h0 : 0 ≤ i) (h1 : i < xs.length) : Okm (setM xs i d) (· = xs.set i.toNat d) := by
  unfold setM L2.ixN
  rw [if_pos h0, if_pos h1]
  exact okv rfl
theorem ok_catL {x y : List α} (h : x.length + y.length ≤ 1000000) : Okm (catL x y) (· = x ++ y) := by
  unfold catL
  rw [if_pos (Nat.le_trans h (by decide))]
  exact okv rfl
theorem flat_rep1 {d : α} : ∀ n, (List.replicate n [d]).flatten = List.replicate n d
  | 0 => rfl
  | n + 1 => by rw [List.replicate_succ, List.flatten_cons, flat_rep1 n]; rfl
theorem ok_rep1 {d : α} {n : Int} (h : n < 1000000) (h' : -1000000 < n) : Okm (repM [d] n) (· = List.replicate n.toNat d) := by
  unfold repM
  rw [if_pos ⟨by omega, by omega, by
    have : ([d] : List α).length * n.toNat ≤ 1000000 := by simp; omega
    exact Nat.le_trans this (by decide)⟩, flat_rep1]
  exact okv rfl
theorem ok_range {lo hi : Int} (h1 : -(2 ^ 62) ≤ lo := by omega) (h2 : lo < 2 ^ 62 := by omega) (h3 : -(2 ^ 62) ≤ hi := by omega) (h4 : hi < 2 ^ 62 := by omega) : Okm (rangeM lo hi) (· = upFrom lo (hi - lo).toNat) := by
  unfold rangeM
  rw [if_pos ⟨h1, h2, h3, h4⟩]
  exact okv rfl
theorem range_eq {lo hi : Int} (h1 : -(2 ^ 62) ≤ lo := by omega) (h2 : lo < 2 ^ 62 := by omega) (h3 : -(2 ^ 62) ≤ hi := by omega) (h4 : hi < 2 ^ 62 := by omega) : rangeM lo hi = .ok (upFrom lo (hi - lo).toNat) := oke (ok_range h1 h2 h3 h4)
theorem upFrom_mem {lo x : Int} {n : Nat} : x ∈ upFrom lo n ↔ lo ≤ x ∧ x < lo + n := by
  induction n generalizing lo with
  | zero => simp [upFrom]
  | succ n ih => rw [upFrom, List.mem_cons, ih]; push_cast; omega
theorem ok_for {f : β → α → M β} {s0 : β} {xs : List α} (I : Nat → β → Prop) (h0 : I 0 s0) (hs : ∀ i x s, xs[i]? = some x → I i s → Okm (f s x) (I (i + 1))) : Okm (forM f s0 xs) (I xs.length) := by
  induction xs generalizing s0 I with
  | nil => exact okv h0
  | cons x r ih =>
    refine okb (hs 0 x s0 rfl h0) fun s1 h1 => ?_
    exact ih (fun i => I (i + 1)) h1 fun i y s e h => hs (i + 1) y s (by simpa using e) h
theorem ok_forR {f : β → Int → M β} {s0 : β} {lo : Int} {n : Nat} (I : Nat → β → Prop) (h0 : I 0 s0) (hs : ∀ i s, i < n → I i s → Okm (f s (lo + i)) (I (i + 1))) : Okm (forM f s0 (upFrom lo n)) (I n) := by
  have h := ok_for (f := f) (xs := upFrom lo n) I h0 fun i x s e h => by
    rw [upFrom_get] at e
    by_cases hi : i < n
    · rw [if_pos hi] at e
      cases e
      exact hs i s hi h
    · rw [if_neg hi] at e; cases e
  rwa [upFrom_len] at h
def FlP {β ρ : Type} (N : β → Prop) (R : ρ → Prop) : Fl β ρ → Prop
  | .nx s => N s
  | .rt r => R r
theorem ok_forF {f : β → α → M (Fl β ρ)} {s0 : β} {xs : List α} (I : Nat → β → Prop) (R : ρ → Prop) (h0 : I 0 s0) (hs : ∀ i x s, xs[i]? = some x → I i s → Okm (f s x) (FlP (I (i + 1)) R)) : Okm (forF f s0 xs) (FlP (I xs.length) R) := by
  induction xs generalizing s0 I with
  | nil => exact okv h0
  | cons x r ih =>
    refine okb (hs 0 x s0 rfl h0) fun s1 h1 => ?_
    cases s1 with
    | nx s1 => exact ih (fun i => I (i + 1)) h1 fun i y s e h => hs (i + 1) y s (by simpa using e) h
    | rt q => exact okv h1
theorem ok_forFR {f : β → Int → M (Fl β ρ)} {s0 : β} {lo : Int} {n : Nat} (I : Nat → β → Prop) (R : ρ → Prop) (h0 : I 0 s0) (hs : ∀ i s, i < n → I i s → Okm (f s (lo + i)) (FlP (I (i + 1)) R)) : Okm (forF f s0 (upFrom lo n)) (FlP (I n) R) := by
  have h := ok_forF (f := f) (xs := upFrom lo n) I R h0 fun i x s e h => by
    rw [upFrom_get] at e
    by_cases hi : i < n
    · rw [if_pos hi] at e
      cases e
      exact hs i s hi h
    · rw [if_neg hi] at e; cases e
  rwa [upFrom_len] at h
/-- a law's loop that leaves with no False: all its turns go on -/
theorem okel {g : β → M γ} {h : ρ → M γ} {m : M (Fl β ρ)} {N : β → Prop} {R : ρ → Prop} {Q : γ → Prop} (hm : Okm m (FlP N R)) (h1 : ∀ s, N s → Okm (g s) Q) (h2 : ∀ r, R r → Okm (h r) Q) : Okm (m.bind (Fl.el g h)) Q :=
  okb hm fun a ha => by
    cases a with
    | nx s => exact h1 s ha
    | rt r => exact h2 r ha
theorem ok_while {t : β → M Bool} {f : β → M β} {s0 : β} (I : β → Prop) (μ : β → Nat) (h0 : I s0) (hm : μ s0 < 1000000) (ht : ∀ s, I s → Okm (t s) (fun c => c = true → Okm (f s) (fun s' => I s' ∧ μ s' < μ s))) : Okm (whileM t f fuel s0) (fun s => I s ∧ t s = .ok false) := by
  have key : ∀ n s, I s → μ s < n → Okm (whileM t f n s) (fun s => I s ∧ t s = .ok false) := by
    intro n
    induction n with
    | zero => intro s _ h; omega
    | succ n ih =>
      intro s hI hμ
      obtain ⟨c, e, hc⟩ := ht s hI
      show Okm ((t s).bind fun c => if c = true then (f s).bind (whileM t f n) else .ok s) _
      rw [e]
      show Okm (if c = true then (f s).bind (whileM t f n) else .ok s) _
      cases c with
      | true =>
        rw [if_pos rfl]
        exact okb (hc rfl) fun s' h' => ih s' h'.1 (by omega)
      | false => exact okv ⟨hI, e⟩
  exact key fuel s0 h0 (Nat.lt_trans hm (by decide))
theorem comp_eq {h : α → M (Option β)} {g : α → Option β} {xs : List α} (hl : xs.length ≤ 1000000) (hs : ∀ x ∈ xs, h x = .ok (g x)) : compM h xs = .ok (xs.filterMap g) := by
  unfold compM
  rw [if_pos (Nat.le_trans hl (by decide))]
  clear hl
  induction xs with
  | nil => rfl
  | cons x r ih =>
    show ((h x).nox.bind fun o => (compG h r).bind fun l => M.ok (o.toList ++ l)) = _
    rw [hs x List.mem_cons_self, ih fun y hy => hs y (List.mem_cons_of_mem _ hy)]
    show M.ok ((g x).toList ++ r.filterMap g) = _
    rw [List.filterMap_cons]
    cases g x <;> rfl
theorem comp_map {h : α → M (Option β)} {g : α → β} {xs : List α} (hl : xs.length ≤ 1000000) (hs : ∀ x ∈ xs, h x = .ok (some (g x))) : compM h xs = .ok (xs.map g) := by
  rw [comp_eq (g := fun x => some (g x)) hl hs]
  congr 1
  induction xs with
  | nil => rfl
  | cons x r ih => rw [List.filterMap_cons]; simp only [List.map_cons]; rw [ih (by simp at hl; omega) fun y hy => hs y (List.mem_cons_of_mem _ hy)]
theorem ok_comp {h : α → M (Option β)} {xs : List α} (R : α → β → Prop) (hl : xs.length ≤ 1000000) (hs : ∀ x ∈ xs, Okm (h x) (fun o => ∃ y, o = some y ∧ R x y)) : Okm (compM h xs) (fun ys => ys.length = xs.length ∧ ∀ (i : Nat) (x : α) (y : β), xs[i]? = some x → ys[i]? = some y → R x y) := by
  unfold compM
  rw [if_pos (Nat.le_trans hl (by decide))]
  clear hl
  induction xs with
  | nil => exact okv ⟨rfl, fun i x y e => by simp at e⟩
  | cons x r ih =>
    obtain ⟨o, e, y, rfl, hy⟩ := hs x List.mem_cons_self
    obtain ⟨ys, e2, h2, h3⟩ := ih fun z hz => hs z (List.mem_cons_of_mem _ hz)
    show Okm ((h x).nox.bind fun o => (compG h r).bind fun l => M.ok (o.toList ++ l)) _
    rw [e, e2]
    refine okv ⟨by simp [h2], fun i a b ea eb => ?_⟩
    cases i with
    | zero => simp at ea eb; subst ea; subst eb; exact hy
    | succ i => exact h3 i a b (by simpa using ea) (by simpa using eb)
end
theorem sIx_at {n d : Nat} {i : Int} (h0 : 0 ≤ i) (h : i ≤ n) : HT.sIx n d (some i) = i.toNat := by
  simp only [HT.sIx]
  split <;> omega
theorem cut_mid {α : Type} {xs : List α} {a b : Int} (h0 : 0 ≤ a) (h1 : a ≤ b) (h2 : b ≤ xs.length) : cutL xs (some a) (some b) = (xs.drop a.toNat).take (b.toNat - a.toNat) := by
  unfold cutL; rw [sIx_at h0 (by omega), sIx_at (by omega) h2]
theorem cut_from {α : Type} {xs : List α} {a : Int} (h0 : 0 ≤ a) (h1 : a ≤ xs.length) : cutL xs (some a) none = xs.drop a.toNat := by
  unfold cutL; rw [sIx_at h0 (by omega)]
  show (xs.drop a.toNat).take (xs.length - a.toNat) = _
  rw [List.take_of_length_le (by rw [List.length_drop]; exact Nat.le_refl _)]
theorem cut_to {α : Type} {xs : List α} {b : Int} (h0 : 0 ≤ b) (h1 : b ≤ xs.length) : cutL xs none (some b) = xs.take b.toNat := by
  unfold cutL; rw [sIx_at h0 (by omega)]
  rfl
theorem cut_mem {α : Type} {xs : List α} {a b : Option Int} {x : α} (h : x ∈ cutL xs a b) : x ∈ xs := List.mem_of_mem_drop (List.mem_of_mem_take h)
end Hd
set_option maxHeartbeats 0
namespace Hd
open PySem PySem.Spec L2
def topS (i : Nat) : Stmt := PySem.Challenge.pw_heddle_k07_drafts_refused.main.body.getD i (.Pass ⟨0, 0, 0, 0⟩)
def kn_ : List Ec := [.weave, .noCloth, .noDraft]
def kc_ : List (Ec × Tx) := [(.weave, tx "WeaveError"), (.noCloth, tx "NoCloth"), (.noDraft, tx "NoDraft")]
abbrev s_clWeaveError : Stmt := (clsBody (topS 1)).getD 0 (.Pass ⟨0, 0, 0, 0⟩)
theorem sc_clWeaveError : Sc s_clWeaveError ["self"] ["self"] ["self"] [] := ⟨⟨rfl, rfl, rfl, by decide +kernel, rfl, by decide +kernel, by decide +kernel⟩, by decide +kernel, by decide +kernel, by decide +kernel⟩
theorem b_clWeaveError {p : Pr} : Body p s_clWeaveError ["self"] ["self"] [] 0 (fun (d : Unit × Unit) => [sV false tAny d.1]) (fun r => .rt false tStr r) (fun _ => .ok (tx "WeaveError")) := fun g ok hX d => evb_ret (wkX hX rfl) .sh (by intro _; rfl) (ev_str (md := .sh) (by decide +kernel))
theorem cl_WeaveError {p : Pr} {f : Addr} {fd : FuncData} (hF : FunD p.K "called" "WeaveError.called" (defArgs s_clWeaveError) (defBody s_clWeaveError) (defScope s_clWeaveError) [] [] f fd) (hm : Meth p.K (p.C .weave) "called" f) : Cl p .weave (tx "WeaveError") := ⟨f, fd, fn_rt (m := 0) hF sc_clWeaveError (.cons .nil) rfl rfl b_clWeaveError, hm, hF.bindsN fun _ _ _ _ _ _ us hl => match us, hl with | [_], _ => rfl⟩
abbrev s_clNoCloth : Stmt := (clsBody (topS 2)).getD 0 (.Pass ⟨0, 0, 0, 0⟩)
theorem sc_clNoCloth : Sc s_clNoCloth ["self"] ["self"] ["self"] [] := ⟨⟨rfl, rfl, rfl, by decide +kernel, rfl, by decide +kernel, by decide +kernel⟩, by decide +kernel, by decide +kernel, by decide +kernel⟩
theorem b_clNoCloth {p : Pr} : Body p s_clNoCloth ["self"] ["self"] [] 0 (fun (d : Unit × Unit) => [sV false tAny d.1]) (fun r => .rt false tStr r) (fun _ => .ok (tx "NoCloth")) := fun g ok hX d => evb_ret (wkX hX rfl) .sh (by intro _; rfl) (ev_str (md := .sh) (by decide +kernel))
theorem cl_NoCloth {p : Pr} {f : Addr} {fd : FuncData} (hF : FunD p.K "called" "NoCloth.called" (defArgs s_clNoCloth) (defBody s_clNoCloth) (defScope s_clNoCloth) [] [] f fd) (hm : Meth p.K (p.C .noCloth) "called" f) : Cl p .noCloth (tx "NoCloth") := ⟨f, fd, fn_rt (m := 0) hF sc_clNoCloth (.cons .nil) rfl rfl b_clNoCloth, hm, hF.bindsN fun _ _ _ _ _ _ us hl => match us, hl with | [_], _ => rfl⟩
abbrev s_clNoDraft : Stmt := (clsBody (topS 3)).getD 0 (.Pass ⟨0, 0, 0, 0⟩)
theorem sc_clNoDraft : Sc s_clNoDraft ["self"] ["self"] ["self"] [] := ⟨⟨rfl, rfl, rfl, by decide +kernel, rfl, by decide +kernel, by decide +kernel⟩, by decide +kernel, by decide +kernel, by decide +kernel⟩
theorem b_clNoDraft {p : Pr} : Body p s_clNoDraft ["self"] ["self"] [] 0 (fun (d : Unit × Unit) => [sV false tAny d.1]) (fun r => .rt false tStr r) (fun _ => .ok (tx "NoDraft")) := fun g ok hX d => evb_ret (wkX hX rfl) .sh (by intro _; rfl) (ev_str (md := .sh) (by decide +kernel))
theorem cl_NoDraft {p : Pr} {f : Addr} {fd : FuncData} (hF : FunD p.K "called" "NoDraft.called" (defArgs s_clNoDraft) (defBody s_clNoDraft) (defScope s_clNoDraft) [] [] f fd) (hm : Meth p.K (p.C .noDraft) "called" f) : Cl p .noDraft (tx "NoDraft") := ⟨f, fd, fn_rt (m := 0) hF sc_clNoDraft (.cons .nil) rfl rfl b_clNoDraft, hm, hF.bindsN fun _ _ _ _ _ _ us hl => match us, hl with | [_], _ => rfl⟩
abbrev O_Draft : Type := (List Int) × (List (List Int)) × (List Int) × Unit
def fl_Draft (p : Pr) (d : O_Draft) : List FldS := [⟨"threading", (List Int), (tList tInt), d.1⟩, ⟨"ties", (List (List Int)), (tList (tList tInt)), d.2.1⟩, ⟨"treading", (List Int), (tList tInt), d.2.2.1⟩]
def dds : List He.DefD := ([⟨("_law_numbers", none), "_law_numbers", "_law_numbers", defArgs (topS 10), defBody (topS 10), defScope (topS 10), [], []⟩, ⟨("_law_subset", none), "_law_subset", "_law_subset", defArgs (topS 11), defBody (topS 11), defScope (topS 11), [], []⟩, ⟨("_law_draft_by", none), "_law_draft_by", "_law_draft_by", defArgs (topS 12), defBody (topS 12), defScope (topS 12), [], []⟩, ⟨("_law_of_length", none), "_law_of_length", "_law_of_length", defArgs (topS 16), defBody (topS 16), defScope (topS 16), [], []⟩, ⟨("_law_of_length", none), "_law_of_length", "_law_of_length", defArgs (topS 16), defBody (topS 16), defScope (topS 16), [], []⟩, ⟨("_law_odd", none), "_law_odd", "_law_odd", defArgs (topS 15), defBody (topS 15), defScope (topS 15), [], []⟩, ⟨("_law_tie_changed", none), "_law_tie_changed", "_law_tie_changed", defArgs (topS 17), defBody (topS 17), defScope (topS 17), [], []⟩, ⟨("_law_changed", none), "_law_changed", "_law_changed", defArgs (topS 18), defBody (topS 18), defScope (topS 18), [], []⟩, ⟨("tie_rises", none), "tie_rises", "tie_rises", defArgs (topS 6), defBody (topS 6), defScope (topS 6), [], []⟩, ⟨("lists_fit", none), "lists_fit", "lists_fit", defArgs (topS 7), defBody (topS 7), defScope (topS 7), [], []⟩, ⟨("Draft", some "__init__"), "__init__", "Draft.__init__", defArgs ((clsBody (topS 8)).getD 0 (.Pass ⟨0, 0, 0, 0⟩)), defBody ((clsBody (topS 8)).getD 0 (.Pass ⟨0, 0, 0, 0⟩)), defScope ((clsBody (topS 8)).getD 0 (.Pass ⟨0, 0, 0, 0⟩)), [], []⟩, ⟨("_law_caught", none), "_law_caught", "_law_caught", defArgs (topS 20), defBody (topS 20), defScope (topS 20), [], []⟩, ⟨("_law_fits", none), "_law_fits", "_law_fits", defArgs (topS 19), defBody (topS 19), defScope (topS 19), [], []⟩, ⟨("_law_numbers_same", none), "_law_numbers_same", "_law_numbers_same", defArgs (topS 13), defBody (topS 13), defScope (topS 13), [], []⟩, ⟨("_law_draft_same", none), "_law_draft_same", "_law_draft_same", defArgs (topS 14), defBody (topS 14), defScope (topS 14), [], []⟩, ⟨("_law_no_draft", none), "_law_no_draft", "_law_no_draft", defArgs (topS 21), defBody (topS 21), defScope (topS 21), [], []⟩, ⟨("law", none), "law", "law", defArgs (topS 22), defBody (topS 22), defScope (topS 22), [], []⟩, ⟨("WeaveError", some "called"), "called", "WeaveError.called", defArgs s_clWeaveError, defBody s_clWeaveError, defScope s_clWeaveError, [], []⟩, ⟨("NoCloth", some "called"), "called", "NoCloth.called", defArgs s_clNoCloth, defBody s_clNoCloth, defScope s_clNoCloth, [], []⟩, ⟨("NoDraft", some "called"), "called", "NoDraft.called", defArgs s_clNoDraft, defBody s_clNoDraft, defScope s_clNoDraft, [], []⟩] : List He.DefD)
def fas : List He.Fa := ([.glo "_law_numbers", .glo "_law_subset", .glo "_law_draft_by", .glo "_law_of_length", .glo "_law_odd", .glo "_law_tie_changed", .glo "_law_changed", .glo "tie_rises", .glo "lists_fit", .glo "_law_caught", .glo "_law_fits", .glo "_law_numbers_same", .glo "_law_draft_same", .glo "_law_no_draft", .glo "law", .glo "Draft", .cls "Draft", .mkr "Draft", .noat "Draft" "threading", .noat "Draft" "ties", .noat "Draft" "treading", .free "ValueError", .free "bool", .free "int", .free "isinstance", .free "len", .free "list", .free "range", .int "MOST_IN_DRAFT" 40, .glo "NoCloth"] : List He.Fa) ++ ([.exc "NoCloth", .glo "NoDraft", .exc "NoDraft", .glo "WeaveError", .exc "WeaveError", .meth "WeaveError" "called", .meth "NoCloth" "called", .meth "NoDraft" "called"] : List He.Fa)
def loose : List Str := (["WeaveError", "NoCloth", "NoDraft", "MOST_IN_DRAFT", "tie_rises", "lists_fit", "Draft", "_law_numbers", "_law_subset", "_law_draft_by", "_law_numbers_same", "_law_draft_same", "_law_odd", "_law_of_length", "_law_tie_changed", "_law_changed", "_law_fits", "_law_caught", "_law_no_draft"] : List Str)
abbrev hdR : PySem.W.OpenRow := PySem.W.OpenLaw.row PySem.Challenge.rw_heddle_k07_drafts_refused
abbrev hk : PySem.W.Hook := hookE 6 fas dds (knB kn_)
def ob (s : PySem.W.SharedT) : AlE := obsEG 6 fas dds (knB kn_) (HandSHeadRun.getT s)
theorem ob_eq (s : PySem.W.SharedT) : ob s = hk.obs s.abs := obsEG_eq (HandSHeadRun.getT_eq s)
theorem run (w : World) : HandSHeadRun.RunEq hdR (PySem.W.view hdR.prog [22]) hk ob 9000 loose w := by intro os; kernel_rfl
structure Facts (p : Pr) : Prop where
  g_ValueError : p.mg "ValueError" = none
  g_bool : p.mg "bool" = none
  g_int : p.mg "int" = none
  g_isinstance : p.mg "isinstance" = none
  g_len : p.mg "len" = none
  g_list : p.mg "list" = none
  g_range : p.mg "range" = none
  c_MOST_IN_DRAFT : ∃ t, p.mg "MOST_IN_DRAFT" = some (.int 40 t)
  x_NoCloth : ExF p "NoCloth" .noCloth
  x_NoDraft : ExF p "NoDraft" .noDraft
  x_WeaveError : ExF p "WeaveError" .weave
  kn : Kn p kn_
  cl_WeaveError : Cl p .weave (tx "WeaveError")
  cl_NoCloth : Cl p .noCloth (tx "NoCloth")
  cl_NoDraft : Cl p .noDraft (tx "NoDraft")
  a_Draft : Cls p.K (cA p "Draft")
  n_Draft_threading : NoAttr p.K (cA p "Draft") "threading"
  n_Draft_ties : NoAttr p.K (cA p "Draft") "ties"
  n_Draft_treading : NoAttr p.K (cA p "Draft") "treading"
  d__law_numbers : ∃ f fd, FunD p.K "_law_numbers" "_law_numbers" (defArgs (topS 10)) (defBody (topS 10)) (defScope (topS 10)) [] [] f fd ∧ p.mg "_law_numbers" = some (.ref f)
  d__law_subset : ∃ f fd, FunD p.K "_law_subset" "_law_subset" (defArgs (topS 11)) (defBody (topS 11)) (defScope (topS 11)) [] [] f fd ∧ p.mg "_law_subset" = some (.ref f)
  d__law_draft_by : ∃ f fd, FunD p.K "_law_draft_by" "_law_draft_by" (defArgs (topS 12)) (defBody (topS 12)) (defScope (topS 12)) [] [] f fd ∧ p.mg "_law_draft_by" = some (.ref f)
  d__law_of_length : ∃ f fd, FunD p.K "_law_of_length" "_law_of_length" (defArgs (topS 16)) (defBody (topS 16)) (defScope (topS 16)) [] [] f fd ∧ p.mg "_law_of_length" = some (.ref f)
  d__law_of_length__k2 : ∃ f fd, FunD p.K "_law_of_length" "_law_of_length" (defArgs (topS 16)) (defBody (topS 16)) (defScope (topS 16)) [] [] f fd ∧ p.mg "_law_of_length" = some (.ref f)
  d__law_odd : ∃ f fd, FunD p.K "_law_odd" "_law_odd" (defArgs (topS 15)) (defBody (topS 15)) (defScope (topS 15)) [] [] f fd ∧ p.mg "_law_odd" = some (.ref f)
  d__law_tie_changed : ∃ f fd, FunD p.K "_law_tie_changed" "_law_tie_changed" (defArgs (topS 17)) (defBody (topS 17)) (defScope (topS 17)) [] [] f fd ∧ p.mg "_law_tie_changed" = some (.ref f)
  d__law_changed : ∃ f fd, FunD p.K "_law_changed" "_law_changed" (defArgs (topS 18)) (defBody (topS 18)) (defScope (topS 18)) [] [] f fd ∧ p.mg "_law_changed" = some (.ref f)
  d_tie_rises : ∃ f fd, FunD p.K "tie_rises" "tie_rises" (defArgs (topS 6)) (defBody (topS 6)) (defScope (topS 6)) [] [] f fd ∧ p.mg "tie_rises" = some (.ref f)
  d_lists_fit : ∃ f fd, FunD p.K "lists_fit" "lists_fit" (defArgs (topS 7)) (defBody (topS 7)) (defScope (topS 7)) [] [] f fd ∧ p.mg "lists_fit" = some (.ref f)
  k_Draft_init : ∃ f fd, FunD p.K "__init__" "Draft.__init__" (defArgs ((clsBody (topS 8)).getD 0 (.Pass ⟨0, 0, 0, 0⟩))) (defBody ((clsBody (topS 8)).getD 0 (.Pass ⟨0, 0, 0, 0⟩))) (defScope ((clsBody (topS 8)).getD 0 (.Pass ⟨0, 0, 0, 0⟩))) [] [] f fd ∧ Mk p.K (cA p "Draft") f ∧ p.mg "Draft" = some (.ref (cA p "Draft"))
  d__law_caught : ∃ f fd, FunD p.K "_law_caught" "_law_caught" (defArgs (topS 20)) (defBody (topS 20)) (defScope (topS 20)) [] [] f fd ∧ p.mg "_law_caught" = some (.ref f)
  d__law_fits : ∃ f fd, FunD p.K "_law_fits" "_law_fits" (defArgs (topS 19)) (defBody (topS 19)) (defScope (topS 19)) [] [] f fd ∧ p.mg "_law_fits" = some (.ref f)
  d__law_numbers_same : ∃ f fd, FunD p.K "_law_numbers_same" "_law_numbers_same" (defArgs (topS 13)) (defBody (topS 13)) (defScope (topS 13)) [] [] f fd ∧ p.mg "_law_numbers_same" = some (.ref f)
  d__law_draft_same : ∃ f fd, FunD p.K "_law_draft_same" "_law_draft_same" (defArgs (topS 14)) (defBody (topS 14)) (defScope (topS 14)) [] [] f fd ∧ p.mg "_law_draft_same" = some (.ref f)
  d__law_no_draft : ∃ f fd, FunD p.K "_law_no_draft" "_law_no_draft" (defArgs (topS 21)) (defBody (topS 21)) (defScope (topS 21)) [] [] f fd ∧ p.mg "_law_no_draft" = some (.ref f)
  d_law : ∃ f fd, FunD p.K "law" "law" (defArgs (topS 22)) (defBody (topS 22)) (defScope (topS 22)) [] [] f fd ∧ p.mg "law" = some (.ref f)
theorem hkc {p : Pr} (X : Facts p) : ∀ c t, kc_.lookup c = some t → c ∈ kn_ ∧ Cl p c t := (kc_cons (by decide) X.cl_WeaveError (kc_cons (by decide) X.cl_NoCloth (kc_cons (by decide) X.cl_NoDraft kc_nil)))
abbrev s__law_numbers : Stmt := (topS 10)
abbrev N__law_numbers : List Str := ["script", "many", "mixed", "found", "k"]
abbrev V__law_numbers : List Str := ["script", "many", "mixed", "found", "k"]
abbrev G__law_numbers : List Str := ["len", "range"]
theorem sc__law_numbers : Sc s__law_numbers N__law_numbers V__law_numbers ["script", "many"] G__law_numbers := ⟨⟨rfl, rfl, rfl, by decide +kernel, rfl, by decide +kernel, by decide +kernel⟩, by decide +kernel, by decide +kernel, by decide +kernel⟩
def r_f_law_numbers_l1 (script1 : (List Int)) (many2 : Int) : (Int × (List Int)) → Int → M (Int × (List Int)) := fun s12 k13 => M.bind (M.bind (M.bind (M.bind (M.bind (M.ok s12.2) fun y16 => M.bind (M.bind (M.ok k13) fun y14 => M.bind (M.ok many2) fun y15 => modM y14 y15) fun y17 => getM y16 y17) fun y18 => M.ok (y18 * (31 : Int))) fun y21 => M.bind (M.bind (M.ok script1) fun y19 => M.bind (M.ok k13) fun y20 => getM y19 y20) fun y22 => M.ok (y21 + y22)) fun y23 => M.ok (y23 % ((10 : Int) ^ 60))) fun y26 => M.bind (M.bind (M.ok k13) fun y24 => M.bind (M.ok many2) fun y25 => modM y24 y25) fun i27 => M.bind (setM s12.2 i27 y26) fun found28 => M.bind (M.bind (M.bind (M.bind (M.ok s12.1) fun y30 => M.ok (y30 * (48271 : Int))) fun y33 => M.bind (M.bind (M.ok script1) fun y31 => M.bind (M.ok k13) fun y32 => getM y31 y32) fun y34 => M.ok (y33 + y34)) fun y35 => M.ok (y35 % (2147483647 : Int))) fun mixed29 => M.ok (mixed29, found28)
def f_law_numbers_l1 (script1 : (List Int)) (many2 : Int) : (Int × (List Int)) → Int → M (Int × (List Int)) := fun s12 k13 => M.bind (M.bind (M.bind (M.bind (M.bind (modM k13 many2) fun y17 => getM s12.2 y17) fun y18 => M.ok (y18 * (31 : Int))) fun y21 => M.bind (getM script1 k13) fun y22 => M.ok (y21 + y22)) fun y23 => M.ok (y23 % ((10 : Int) ^ 60))) fun y26 => M.bind (modM k13 many2) fun i27 => M.bind (setM s12.2 i27 y26) fun found28 => M.bind (M.bind (M.bind (getM script1 k13) fun y34 => M.ok ((s12.1 * (48271 : Int)) + y34)) fun y35 => M.ok (y35 % (2147483647 : Int))) fun mixed29 => M.ok (mixed29, found28)
theorem eq_f_law_numbers_l1 (script1 : (List Int)) (many2 : Int) : r_f_law_numbers_l1 script1 many2 = f_law_numbers_l1 script1 many2 := by funext s12 k13; first | (simp only [r_f_law_numbers_l1, f_law_numbers_l1, M.bind_assoc, M.bok]; done) | (simp only [r_f_law_numbers_l1, f_law_numbers_l1, M.bind_assoc, M.bok]; rfl)
def r_f_law_numbers_l2  : (Int × (List Int)) → Int → M (Int × (List Int)) := fun s41 k42 => M.bind (M.bind (M.bind (M.bind (M.ok s41.1) fun y44 => M.ok (y44 * (16807 : Int))) fun y45 => M.bind (M.ok k42) fun y46 => M.ok (y45 + y46)) fun y47 => M.ok (y47 % (2147483647 : Int))) fun mixed43 => M.bind (M.bind (M.ok mixed43) fun y48 => M.ok (y48 / (1000 : Int))) fun y49 => M.bind (M.ok k42) fun i50 => M.bind (setM s41.2 i50 y49) fun found51 => M.ok (mixed43, found51)
def f_law_numbers_l2  : (Int × (List Int)) → Int → M (Int × (List Int)) := fun s41 k42 => let mixed43 : Int := (((s41.1 * (16807 : Int)) + k42) % (2147483647 : Int)); M.bind (setM s41.2 k42 (mixed43 / (1000 : Int))) fun found51 => M.ok (mixed43, found51)
theorem eq_f_law_numbers_l2  : r_f_law_numbers_l2  = f_law_numbers_l2  := by funext s41 k42; first | (simp only [r_f_law_numbers_l2, f_law_numbers_l2, M.bind_assoc, M.bok, eq_f_law_numbers_l1]; done) | (simp only [r_f_law_numbers_l2, f_law_numbers_l2, M.bind_assoc, M.bok, eq_f_law_numbers_l1]; rfl)
def q__law_numbers (script1 : (List Int)) (many2 : Int) : M (List Int) := M.bind (M.ok (7 : Int)) fun mixed3 => M.bind (M.bind (M.bind (M.ok (0 : Int)) fun y5 => M.bind (M.ok []) fun y6 => M.ok (y5 :: y6)) fun y8 => M.bind (M.ok many2) fun y9 => repM y8 y9) fun found4 => M.bind (M.bind (M.bind (M.ok script1) fun y10 => M.ok (y10.length : Int)) fun y11 => rangeM 0 y11) fun xs36 => M.bind (forM (r_f_law_numbers_l1 script1 many2) (mixed3, found4) xs36) fun (s37 : (Int × (List Int))) => M.bind (M.bind (M.bind (M.ok script1) fun y38 => M.ok (y38.length : Int)) fun y39 => M.bind (M.ok many2) fun y40 => rangeM y39 y40) fun xs52 => M.bind (forM r_f_law_numbers_l2 (s37.1, s37.2) xs52) fun (s53 : (Int × (List Int))) => M.ok s53.2
def f_law_numbers (script1 : (List Int)) (many2 : Int) : M (List Int) := let mixed3 : Int := (7 : Int); M.bind (repM ([(0 : Int)]) many2) fun found4 => M.bind (rangeM 0 (script1.length : Int)) fun xs36 => M.bind (forM (f_law_numbers_l1 script1 many2) (mixed3, found4) xs36) fun (s37 : (Int × (List Int))) => M.bind (rangeM (script1.length : Int) many2) fun xs52 => M.bind (forM f_law_numbers_l2 (s37.1, s37.2) xs52) fun (s53 : (Int × (List Int))) => M.ok s53.2
def r__law_numbers (d : ((List Int) × Int × Unit)) : M (List Int) := q__law_numbers d.1 d.2.1
def c__law_numbers (d : ((List Int) × Int × Unit)) : M (List Int) := f_law_numbers d.1 d.2.1
theorem eq__law_numbers : r__law_numbers = c__law_numbers := by funext d; first | (simp only [r__law_numbers, c__law_numbers, q__law_numbers, f_law_numbers, M.bind_assoc, M.bok, eq_f_law_numbers_l1, eq_f_law_numbers_l2]; done) | (simp only [r__law_numbers, c__law_numbers, q__law_numbers, f_law_numbers, M.bind_assoc, M.bok, eq_f_law_numbers_l1, eq_f_law_numbers_l2]; rfl)
theorem bb__law_numbers {p : Pr} (X : Facts p) {g : G} (ok : OkS p (defScope s__law_numbers) N__law_numbers V__law_numbers G__law_numbers 0 g) (hX : g.LX = List.replicate N__law_numbers.length sAny) (script1 : (List Int)) (many2 : Int) : EvB g [(sV false (tListK p.K tInt) script1), (sV false tInt many2), sAny, sAny, sAny] (defBody s__law_numbers) (fun r => .rtL false tInt r) (q__law_numbers script1 many2) := (evb_set ok (i := 2) (j := 2) rfl rfl (wkX hX rfl) .sh (ev_int (md := .sh)) fun mixed3 => (evb_own ok (i := 3) (j := 3) rfl rfl (wkX hX rfl) .sh (evl_rep (md := .sh) ok.toOk (evl_lstN (n := 1) (lnS ln0) (by decide) (evs_cons (ev_int (md := .sh)) evs_nil)) (ev_vsh ok.toOk (i := 1) (j := 1) rfl rfl rfl)) fun found4 => (evb_for (LF := (fun (s12 : (Int × (List Int))) => [(sV false (tListK p.K tInt) script1), (sV false tInt many2), (sV false tInt s12.1), (sOwn false tInt s12.2), sAny])) (s0 := (mixed3, found4)) ok (wkX hX rfl) (evi_range1 ok.toOk (j := 1) rfl X.g_range (ev_lenQ (md' := .sh) ok.toOk sq_k (j := 0) rfl X.g_len (ev_vsh ok.toOk (i := 0) (j := 0) rfl rfl rfl))) (Wk.s (Wk.s (Wk.s (Wk.s (Wk.s Wk.n))))) (fun _ => evg_name ok (i := 4) (j := 4) rfl rfl) (fun s12 k13 => (evb_setitem ok (wkX hX rfl) (i := 3) (j := 3) rfl rfl rfl .sh (ev_borrow (i := 3) (.inl flInt) rfl (ev_modC (md' := .sh) ok.toOk (by decide) (ev_add (md' := .sh) ok.toOk (ev_mulC (md' := .sh) ok.toOk (by decide) (ev_ixQ ok.toOk sq_l (ev_vsh ok.toOk (i := 3) (j := 3) rfl rfl rfl) (ev_mod (md' := .sh) ok.toOk (ev_vsh ok.toOk (i := 4) (j := 4) rfl rfl rfl) (ev_vsh ok.toOk (i := 1) (j := 1) rfl rfl rfl))) (ev_int (md := .sh))) (ev_ixQ ok.toOk sq_k (ev_vsh ok.toOk (i := 0) (j := 0) rfl rfl rfl) (ev_vsh ok.toOk (i := 4) (j := 4) rfl rfl rfl))) (ev_powC (md' := .sh) (n := 60) ok.toOk (by decide) (by decide) (ev_int (md := .sh)) (ev_int (md := .sh))))) (ev_mod (md' := .sh) ok.toOk (ev_vsh ok.toOk (i := 4) (j := 4) rfl rfl rfl) (ev_vsh ok.toOk (i := 1) (j := 1) rfl rfl rfl)) fun found28 => (evb_set ok (i := 2) (j := 2) rfl rfl (wkX hX rfl) .sh (ev_modC (md' := .sh) ok.toOk (by decide) (ev_add (md' := .sh) ok.toOk (ev_mulC (md' := .sh) ok.toOk (by decide) (ev_vsh ok.toOk (i := 2) (j := 2) rfl rfl rfl) (ev_int (md := .sh))) (ev_ixQ ok.toOk sq_k (ev_vsh ok.toOk (i := 0) (j := 0) rfl rfl rfl) (ev_vsh ok.toOk (i := 4) (j := 4) rfl rfl rfl))) (ev_int (md := .sh))) fun mixed29 => (evb_go (by rfl) (Wk.s (Wk.s (Wk.s (Wk.s (Wk.a Wk.n))))))))) fun s37 => (evb_for (LF := (fun (s41 : (Int × (List Int))) => [(sV false (tListK p.K tInt) script1), (sV false tInt many2), (sV false tInt s41.1), (sOwn false tInt s41.2), sAny])) (s0 := (s37.1, s37.2)) ok (wkX hX rfl) (evi_range2 ok.toOk (j := 1) rfl X.g_range (ev_lenQ (md' := .sh) ok.toOk sq_k (j := 0) rfl X.g_len (ev_vsh ok.toOk (i := 0) (j := 0) rfl rfl rfl)) (ev_vsh ok.toOk (i := 1) (j := 1) rfl rfl rfl)) (Wk.s (Wk.s (Wk.s (Wk.s (Wk.s Wk.n))))) (fun _ => evg_name ok (i := 4) (j := 4) rfl rfl) (fun s41 k42 => (evb_set ok (i := 2) (j := 2) rfl rfl (wkX hX rfl) .sh (ev_modC (md' := .sh) ok.toOk (by decide) (ev_add (md' := .sh) ok.toOk (ev_mulC (md' := .sh) ok.toOk (by decide) (ev_vsh ok.toOk (i := 2) (j := 2) rfl rfl rfl) (ev_int (md := .sh))) (ev_vsh ok.toOk (i := 4) (j := 4) rfl rfl rfl)) (ev_int (md := .sh))) fun mixed43 => (evb_setitem ok (wkX hX rfl) (i := 3) (j := 3) rfl rfl rfl .sh (ev_divC (md' := .sh) ok.toOk (by decide) (by decide) (ev_vsh ok.toOk (i := 2) (j := 2) rfl rfl rfl) (ev_int (md := .sh))) (ev_vsh ok.toOk (i := 4) (j := 4) rfl rfl rfl) fun found51 => (evb_go (by rfl) (Wk.s (Wk.s (Wk.s (Wk.s (Wk.a Wk.n))))))))) fun s53 => (evb_retOwn ok.toOk (i := 3) (j := 3) rfl rfl rfl (.inl rfl) (by rfl))))))
theorem b__law_numbers {p : Pr} (X : Facts p) : Body p s__law_numbers N__law_numbers V__law_numbers G__law_numbers 0 (fun (d : ((List Int) × Int × Unit)) => [(sV false (tListK p.K tInt) d.1), (sV false tInt d.2.1), sAny, sAny, sAny]) (fun r => .rtL false tInt r) r__law_numbers := fun g ok hX d => bb__law_numbers X ok hX d.1 d.2.1
theorem fn__law_numbers {p : Pr} (X : Facts p) : Fn p 1 "_law_numbers" ["script", "many"] (spM p (aCons (tListK p.K tInt) (aCons tInt aNil)) (fun r => .rtL false tInt r) c__law_numbers) := by
  obtain ⟨f, fd, hF, hm⟩ := X.d__law_numbers
  exact ⟨f, fd, eq__law_numbers ▸ fn_rtL (m := 3) hF sc__law_numbers (.cons (.cons .nil)) rfl rfl (b__law_numbers X), hm, hF.kp, hF.bindsN fun _ _ _ _ _ _ us hl => match us, hl with | [_, _], _ => rfl⟩
abbrev s__law_subset : Stmt := (topS 11)
abbrev N__law_subset : List Str := ["number", "found", "shaft"]
abbrev V__law_subset : List Str := ["number", "found", "shaft"]
abbrev G__law_subset : List Str := ["range"]
theorem sc__law_subset : Sc s__law_subset N__law_subset V__law_subset ["number"] G__law_subset := ⟨⟨rfl, rfl, rfl, by decide +kernel, rfl, by decide +kernel, by decide +kernel⟩, by decide +kernel, by decide +kernel, by decide +kernel⟩
def r_f_law_subset_l1  : (Int × (List Int)) → Int → M (Int × (List Int)) := fun s22 shaft23 => M.bind (M.bind (M.bind (M.ok s22.1) fun y24 => M.ok (y24 % (2 : Int))) fun y25 => M.bind (M.ok (1 : Int)) fun y26 => M.ok (decide (y25 = y26))) fun c27 => M.bind (if c27 = true then M.bind (M.ok shaft23) fun y29 => M.bind (pushM s22.2 y29) fun found28 => M.ok found28 else M.ok s22.2) fun (s30 : ((List Int))) => M.bind (M.bind (M.ok s22.1) fun y32 => M.ok (y32 / (2 : Int))) fun number31 => M.ok (number31, s30)
def f_law_subset_l1  : (Int × (List Int)) → Int → M (Int × (List Int)) := fun s22 shaft23 => M.bind (if (decide ((s22.1 % (2 : Int)) = (1 : Int))) = true then M.bind (pushM s22.2 shaft23) fun found28 => M.ok found28 else M.ok s22.2) fun (s30 : ((List Int))) => let number31 : Int := (s22.1 / (2 : Int)); M.ok (number31, s30)
theorem eq_f_law_subset_l1  : r_f_law_subset_l1  = f_law_subset_l1  := by funext s22 shaft23; first | (simp only [r_f_law_subset_l1, f_law_subset_l1, M.bind_assoc, M.bok]; done) | (simp only [r_f_law_subset_l1, f_law_subset_l1, M.bind_assoc, M.bok]; rfl)
def q__law_subset (number1 : Int) : M (List Int) := M.bind (M.ok ((decide (number1 < ((10 : Int) ^ 6))) && (decide ((number1 % (8 : Int)) = (3 : Int))))) fun c8 => if c8 = true then M.ok [] else M.bind (M.bind (M.ok number1) fun y10 => M.bind (M.ok ((10 : Int) ^ 6)) fun y11 => M.ok (decide (y10 < y11))) fun c12 => M.bind (if c12 = true then M.bind (M.bind (M.bind (M.bind (M.ok number1) fun y14 => M.bind (M.ok number1) fun y15 => mulM y14 y15) fun y16 => M.ok (y16 * (1000003 : Int))) fun y17 => M.bind (M.ok number1) fun y18 => M.ok (y17 + y18)) fun number13 => M.ok number13 else M.ok number1) fun (s19 : (Int)) => M.bind (M.ok []) fun found20 => M.bind (M.bind (M.ok (40 : Int)) fun y21 => rangeM 0 y21) fun xs33 => M.bind (forM r_f_law_subset_l1 (s19, found20) xs33) fun (s34 : (Int × (List Int))) => M.ok s34.2
def f_law_subset (number1 : Int) : M (List Int) := if ((decide (number1 < ((10 : Int) ^ 6))) && (decide ((number1 % (8 : Int)) = (3 : Int)))) = true then M.ok ([]) else M.bind (if (decide (number1 < ((10 : Int) ^ 6))) = true then M.bind (M.bind (M.bind (mulM number1 number1) fun y16 => M.ok (y16 * (1000003 : Int))) fun y17 => M.ok (y17 + number1)) fun number13 => M.ok number13 else M.ok number1) fun (s19 : (Int)) => let found20 : (List Int) := []; M.bind (rangeM 0 (40 : Int)) fun xs33 => M.bind (forM f_law_subset_l1 (s19, found20) xs33) fun (s34 : (Int × (List Int))) => M.ok s34.2
def r__law_subset (d : (Int × Unit)) : M (List Int) := q__law_subset d.1
def c__law_subset (d : (Int × Unit)) : M (List Int) := f_law_subset d.1
theorem eq__law_subset : r__law_subset = c__law_subset := by funext d; first | (simp only [r__law_subset, c__law_subset, q__law_subset, f_law_subset, M.bind_assoc, M.bok, eq_f_law_subset_l1]; done) | (simp only [r__law_subset, c__law_subset, q__law_subset, f_law_subset, M.bind_assoc, M.bok, eq_f_law_subset_l1]; rfl)
theorem bb__law_subset {p : Pr} (X : Facts p) {g : G} (ok : OkS p (defScope s__law_subset) N__law_subset V__law_subset G__law_subset 0 g) (hX : g.LX = List.replicate N__law_subset.length sAny) (number1 : Int) : EvB g [(sV false tInt number1), sAny, sAny] (defBody s__law_subset) (fun r => .rtL false tInt r) (q__law_subset number1) := (evb_ifx (wkX hX rfl) (EvW.t (evw_andP (pureT (m := M.bind (M.ok number1) fun y2 => M.bind (M.ok ((10 : Int) ^ 6)) fun y3 => M.ok (decide (y2 < y3))) (evt_c ok.toOk c_lt (ev_vsh ok.toOk (i := 0) (j := 0) rfl rfl rfl) (ev_powC (md' := .sh) (n := 6) ok.toOk (by decide) (by decide) (ev_int (md := .sh)) (ev_int (md := .sh)))) rfl) (pureW (m := M.bind (M.bind (M.ok number1) fun y4 => M.ok (y4 % (8 : Int))) fun y5 => M.bind (M.ok (3 : Int)) fun y6 => M.ok (decide (y5 = y6))) (evw_and1 (evt_c ok.toOk (c_eq s_int) (ev_modC (md' := .sh) ok.toOk (by decide) (ev_vsh ok.toOk (i := 0) (j := 0) rfl rfl rfl) (ev_int (md := .sh))) (ev_int (md := .sh)))) rfl))) (evb_retL (wkX hX rfl) .sh (by intro _; rfl) (evl_nil (md := .sh) (S := tInt))) (evb_if (LJ := (fun (s19 : (Int)) => [(sV false tInt s19), sAny, sAny])) (wkX hX rfl) (evt_c ok.toOk c_lt (ev_vsh ok.toOk (i := 0) (j := 0) rfl rfl rfl) (ev_powC (md' := .sh) (n := 6) ok.toOk (by decide) (by decide) (ev_int (md := .sh)) (ev_int (md := .sh)))) (evb_set ok (i := 0) (j := 0) rfl rfl (wkX hX rfl) .sh (ev_add (md' := .sh) ok.toOk (ev_mulC (md' := .sh) ok.toOk (by decide) (ev_mul (md' := .sh) ok.toOk (ev_vsh ok.toOk (i := 0) (j := 0) rfl rfl rfl) (ev_vsh ok.toOk (i := 0) (j := 0) rfl rfl rfl)) (ev_int (md := .sh))) (ev_vsh ok.toOk (i := 0) (j := 0) rfl rfl rfl)) fun number13 => (evb_nx (by rfl) (Wk.s (Wk.s (Wk.s Wk.n))))) (evb_nx (by rfl) (Wk.s (Wk.s (Wk.s Wk.n)))) fun s19 => (evb_own ok (i := 1) (j := 1) rfl rfl (wkX hX rfl) .sh (evl_nil (md := .sh) (S := tInt)) fun found20 => (evb_for (LF := (fun (s22 : (Int × (List Int))) => [(sV false tInt s22.1), (sOwn false tInt s22.2), sAny])) (s0 := (s19, found20)) ok (wkX hX rfl) (evi_range1 ok.toOk (j := 0) rfl X.g_range (ev_int (md := .sh))) (Wk.s (Wk.s (Wk.s Wk.n))) (fun _ => evg_name ok (i := 2) (j := 2) rfl rfl) (fun s22 shaft23 => (evb_if (LJ := (fun (s30 : ((List Int))) => [(sV false tInt s22.1), (sOwn false tInt s30), (sV false tInt shaft23)])) (wkX hX rfl) (evt_c ok.toOk (c_eq s_int) (ev_modC (md' := .sh) ok.toOk (by decide) (ev_vsh ok.toOk (i := 0) (j := 0) rfl rfl rfl) (ev_int (md := .sh))) (ev_int (md := .sh))) (evb_append ok (wkX hX rfl) (i := 1) (j := 1) rfl rfl rfl .sh (ev_vsh ok.toOk (i := 2) (j := 2) rfl rfl rfl) fun found28 => (evb_nx (by rfl) (Wk.s (Wk.s (Wk.s Wk.n))))) (evb_nx (by rfl) (Wk.s (Wk.s (Wk.s Wk.n)))) fun s30 => (evb_set ok (i := 0) (j := 0) rfl rfl (wkX hX rfl) .sh (ev_divC (md' := .sh) ok.toOk (by decide) (by decide) (ev_vsh ok.toOk (i := 0) (j := 0) rfl rfl rfl) (ev_int (md := .sh))) fun number31 => (evb_go (by rfl) (Wk.s (Wk.s (Wk.a Wk.n))))))) fun s34 => (evb_retOwn ok.toOk (i := 1) (j := 1) rfl rfl rfl (.inl rfl) (by rfl))))))
theorem b__law_subset {p : Pr} (X : Facts p) : Body p s__law_subset N__law_subset V__law_subset G__law_subset 0 (fun (d : (Int × Unit)) => [(sV false tInt d.1), sAny, sAny]) (fun r => .rtL false tInt r) r__law_subset := fun g ok hX d => bb__law_subset X ok hX d.1
theorem fn__law_subset {p : Pr} (X : Facts p) : Fn p 1 "_law_subset" ["number"] (spM p (aCons tInt aNil) (fun r => .rtL false tInt r) c__law_subset) := by
  obtain ⟨f, fd, hF, hm⟩ := X.d__law_subset
  exact ⟨f, fd, eq__law_subset ▸ fn_rtL (m := 2) hF sc__law_subset (.cons .nil) rfl rfl (b__law_subset X), hm, hF.kp, hF.bindsN fun _ _ _ _ _ _ us hl => match us, hl with | [_], _ => rfl⟩
abbrev s__law_draft_by : Stmt := (topS 12)
abbrev N__law_draft_by : List Str := ["numbers", "ends", "treadles", "picks", "high", "threading", "ties", "at", "treading", "number"]
abbrev V__law_draft_by : List Str := ["numbers", "ends", "treadles", "picks", "high", "threading", "ties", "at", "treading"]
abbrev G__law_draft_by : List Str := []
theorem sc__law_draft_by : Sc s__law_draft_by N__law_draft_by V__law_draft_by ["numbers"] G__law_draft_by := ⟨⟨rfl, rfl, rfl, by decide +kernel, rfl, by decide +kernel, by decide +kernel⟩, by decide +kernel, by decide +kernel, by decide +kernel⟩
def q__law_draft_by (numbers1 : (List Int)) : M ((List Int) × (List (List Int)) × (List Int) × Unit) := M.bind (M.bind (M.ok (1 : Int)) fun y6 => M.bind (M.bind (M.bind (M.ok numbers1) fun y3 => M.bind (M.ok (0 : Int)) fun y4 => getM y3 y4) fun y5 => M.ok (y5 % (40 : Int))) fun y7 => M.ok (y6 + y7)) fun ends2 => M.bind (M.bind (M.ok (1 : Int)) fun y12 => M.bind (M.bind (M.bind (M.ok numbers1) fun y9 => M.bind (M.ok (1 : Int)) fun y10 => getM y9 y10) fun y11 => M.ok (y11 % (40 : Int))) fun y13 => M.ok (y12 + y13)) fun treadles8 => M.bind (M.bind (M.ok (1 : Int)) fun y18 => M.bind (M.bind (M.bind (M.ok numbers1) fun y15 => M.bind (M.ok (2 : Int)) fun y16 => getM y15 y16) fun y17 => M.ok (y17 % (40 : Int))) fun y19 => M.ok (y18 + y19)) fun picks14 => M.bind (M.bind (M.ok (1 : Int)) fun y25 => M.bind (M.bind (M.bind (M.bind (M.ok numbers1) fun y21 => M.bind (M.ok (0 : Int)) fun y22 => getM y21 y22) fun y23 => M.ok (y23 / (40 : Int))) fun y24 => M.ok (y24 % (40 : Int))) fun y26 => M.ok (y25 + y26)) fun high20 => M.bind (M.bind (M.bind (M.bind (M.bind (M.ok numbers1) fun y27 => M.bind (M.ok (1 : Int)) fun y28 => getM y27 y28) fun y29 => M.ok (y29 / (40 : Int))) fun y30 => M.ok (y30 % (3 : Int))) fun y31 => M.bind (M.ok (1 : Int)) fun y32 => M.ok (decide (y31 = y32))) fun c33 => M.bind (if c33 = true then M.bind (M.ok (40 : Int)) fun high34 => M.ok high34 else M.ok high20) fun (s35 : (Int)) => M.bind (M.bind (M.bind (M.ok numbers1) fun y41 => M.bind (M.bind (M.ok (3 : Int)) fun y37 => M.ok (some y37)) fun y42 => M.bind (M.bind (M.bind (M.ok (3 : Int)) fun y38 => M.bind (M.ok ends2) fun y39 => M.ok (y38 + y39)) fun y40 => M.ok (some y40)) fun y43 => M.ok (cutL y41 y42 y43)) fun xs49 => compM (fun number44 => M.bind (M.ok true) fun c47 => if c47 = true then M.bind (M.bind (M.ok number44) fun y45 => M.bind (M.ok s35) fun y46 => modM y45 y46) fun y48 => M.ok (some y48) else M.ok none) xs49) fun threading36 => M.bind (M.bind (M.bind (M.ok numbers1) fun y59 => M.bind (M.bind (M.bind (M.ok (3 : Int)) fun y51 => M.bind (M.ok ends2) fun y52 => M.ok (y51 + y52)) fun y53 => M.ok (some y53)) fun y60 => M.bind (M.bind (M.bind (M.bind (M.ok (3 : Int)) fun y54 => M.bind (M.ok ends2) fun y55 => M.ok (y54 + y55)) fun y56 => M.bind (M.ok treadles8) fun y57 => M.ok (y56 + y57)) fun y58 => M.ok (some y58)) fun y61 => M.ok (cutL y59 y60 y61)) fun xs68 => compM (fun number62 => M.bind (M.ok true) fun c66 => if c66 = true then M.bind (M.bind (M.bind (M.ok number62) fun y63 => M.bind (M.ok ()) fun y64 => M.ok (y63, y64)) c__law_subset) fun y67 => M.ok (some y67) else M.ok none) xs68) fun ties50 => M.bind (M.bind (M.bind (M.ok (3 : Int)) fun y70 => M.bind (M.ok ends2) fun y71 => M.ok (y70 + y71)) fun y72 => M.bind (M.ok treadles8) fun y73 => M.ok (y72 + y73)) fun at69 => M.bind (M.bind (M.bind (M.ok numbers1) fun y79 => M.bind (M.bind (M.ok at69) fun y75 => M.ok (some y75)) fun y80 => M.bind (M.bind (M.bind (M.ok at69) fun y76 => M.bind (M.ok picks14) fun y77 => M.ok (y76 + y77)) fun y78 => M.ok (some y78)) fun y81 => M.ok (cutL y79 y80 y81)) fun xs87 => compM (fun number82 => M.bind (M.ok true) fun c85 => if c85 = true then M.bind (M.bind (M.ok number82) fun y83 => M.bind (M.ok treadles8) fun y84 => modM y83 y84) fun y86 => M.ok (some y86) else M.ok none) xs87) fun treading74 => (M.bind (M.ok threading36) fun y92 => M.bind (M.bind (M.ok ties50) fun y90 => M.bind (M.bind (M.ok treading74) fun y88 => M.bind (M.ok ()) fun y89 => M.ok (y88, y89)) fun y91 => M.ok (y90, y91)) fun y93 => M.ok (y92, y93))
def f_law_draft_by (numbers1 : (List Int)) : M ((List Int) × (List (List Int)) × (List Int) × Unit) := M.bind (M.bind (M.bind (getM numbers1 (0 : Int)) fun y5 => M.ok (y5 % (40 : Int))) fun y7 => M.ok ((1 : Int) + y7)) fun ends2 => M.bind (M.bind (M.bind (getM numbers1 (1 : Int)) fun y11 => M.ok (y11 % (40 : Int))) fun y13 => M.ok ((1 : Int) + y13)) fun treadles8 => M.bind (M.bind (M.bind (getM numbers1 (2 : Int)) fun y17 => M.ok (y17 % (40 : Int))) fun y19 => M.ok ((1 : Int) + y19)) fun picks14 => M.bind (M.bind (M.bind (M.bind (getM numbers1 (0 : Int)) fun y23 => M.ok (y23 / (40 : Int))) fun y24 => M.ok (y24 % (40 : Int))) fun y26 => M.ok ((1 : Int) + y26)) fun high20 => M.bind (M.bind (M.bind (M.bind (getM numbers1 (1 : Int)) fun y29 => M.ok (y29 / (40 : Int))) fun y30 => M.ok (y30 % (3 : Int))) fun y31 => M.ok (decide (y31 = (1 : Int)))) fun c33 => M.bind (if c33 = true then let high34 : Int := (40 : Int); M.ok high34 else M.ok high20) fun (s35 : (Int)) => M.bind (compM (fun number44 => M.bind (modM number44 s35) fun y48 => M.ok (some y48)) (cutL numbers1 (some (3 : Int)) (some ((3 : Int) + ends2)))) fun threading36 => M.bind (compM (fun number62 => M.bind (f_law_subset number62) fun y67 => M.ok (some y67)) (cutL numbers1 (some ((3 : Int) + ends2)) (some (((3 : Int) + ends2) + treadles8)))) fun ties50 => let at69 : Int := (((3 : Int) + ends2) + treadles8); M.bind (compM (fun number82 => M.bind (modM number82 treadles8) fun y86 => M.ok (some y86)) (cutL numbers1 (some at69) (some (at69 + picks14)))) fun treading74 => M.ok (threading36, ties50, treading74, ())
def r__law_draft_by (d : ((List Int) × Unit)) : M ((List Int) × (List (List Int)) × (List Int) × Unit) := q__law_draft_by d.1
def c__law_draft_by (d : ((List Int) × Unit)) : M ((List Int) × (List (List Int)) × (List Int) × Unit) := f_law_draft_by d.1
theorem eq__law_draft_by : r__law_draft_by = c__law_draft_by := by funext d; first | (simp only [r__law_draft_by, c__law_draft_by, q__law_draft_by, f_law_draft_by, M.bind_assoc, M.bok, c__law_subset]; done) | (simp only [r__law_draft_by, c__law_draft_by, q__law_draft_by, f_law_draft_by, M.bind_assoc, M.bok, c__law_subset]; rfl)
theorem bb__law_draft_by {p : Pr} (X : Facts p) {g : G} (ok : OkS p (defScope s__law_draft_by) N__law_draft_by V__law_draft_by G__law_draft_by 1 g) (hX : g.LX = List.replicate N__law_draft_by.length sAny) (numbers1 : (List Int)) : EvB g [(sV false (tList tInt) numbers1), sAny, sAny, sAny, sAny, sAny, sAny, sAny, sAny, sAny] (defBody s__law_draft_by) (fun r => .rt false (tTup (aCons (tList tInt) (aCons (tList (tList tInt)) (aCons (tList tInt) aNil)))) r) (q__law_draft_by numbers1) := (evb_set ok (i := 1) (j := 1) rfl rfl (wkX hX rfl) .sh (ev_add (md' := .sh) ok.toOk (ev_int (md := .sh)) (ev_modC (md' := .sh) ok.toOk (by decide) (ev_ixQ ok.toOk sq_l (ev_vsh ok.toOk (i := 0) (j := 0) rfl rfl rfl) (ev_int (md := .sh))) (ev_int (md := .sh)))) fun ends2 => (evb_set ok (i := 2) (j := 2) rfl rfl (wkX hX rfl) .sh (ev_add (md' := .sh) ok.toOk (ev_int (md := .sh)) (ev_modC (md' := .sh) ok.toOk (by decide) (ev_ixQ ok.toOk sq_l (ev_vsh ok.toOk (i := 0) (j := 0) rfl rfl rfl) (ev_int (md := .sh))) (ev_int (md := .sh)))) fun treadles8 => (evb_set ok (i := 3) (j := 3) rfl rfl (wkX hX rfl) .sh (ev_add (md' := .sh) ok.toOk (ev_int (md := .sh)) (ev_modC (md' := .sh) ok.toOk (by decide) (ev_ixQ ok.toOk sq_l (ev_vsh ok.toOk (i := 0) (j := 0) rfl rfl rfl) (ev_int (md := .sh))) (ev_int (md := .sh)))) fun picks14 => (evb_set ok (i := 4) (j := 4) rfl rfl (wkX hX rfl) .sh (ev_add (md' := .sh) ok.toOk (ev_int (md := .sh)) (ev_modC (md' := .sh) ok.toOk (by decide) (ev_divC (md' := .sh) ok.toOk (by decide) (by decide) (ev_ixQ ok.toOk sq_l (ev_vsh ok.toOk (i := 0) (j := 0) rfl rfl rfl) (ev_int (md := .sh))) (ev_int (md := .sh))) (ev_int (md := .sh)))) fun high20 => (evb_if (LJ := (fun (s35 : (Int)) => [(sV false (tList tInt) numbers1), (sV false tInt ends2), (sV false tInt treadles8), (sV false tInt picks14), (sV false tInt s35), sAny, sAny, sAny, sAny, sAny])) (wkX hX rfl) (evt_c ok.toOk (c_eq s_int) (ev_modC (md' := .sh) ok.toOk (by decide) (ev_divC (md' := .sh) ok.toOk (by decide) (by decide) (ev_ixQ ok.toOk sq_l (ev_vsh ok.toOk (i := 0) (j := 0) rfl rfl rfl) (ev_int (md := .sh))) (ev_int (md := .sh))) (ev_int (md := .sh))) (ev_int (md := .sh))) (evb_set ok (i := 4) (j := 4) rfl rfl (wkX hX rfl) .sh (ev_int (md := .sh)) fun high34 => (evb_nx (by rfl) (Wk.s (Wk.s (Wk.s (Wk.s (Wk.s (Wk.s (Wk.s (Wk.s (Wk.s (Wk.s Wk.n)))))))))))) (evb_nx (by rfl) (Wk.s (Wk.s (Wk.s (Wk.s (Wk.s (Wk.s (Wk.s (Wk.s (Wk.s (Wk.s Wk.n))))))))))) fun s35 => (evb_setC (md := .sh) (VV' := ["number", "high"]) (GG' := []) (i := 9) (i2 := 5) ok rfl (wkX hX rfl) (by decide +kernel) (by rfl) (by decide +kernel) (evi_seq ok.toOk sq_l (ev_ofL (evl_slQ (md := .sh) ok.toOk sq_l (ev_vsh ok.toOk (i := 0) (j := 0) rfl rfl rfl) (evo_some (ev_int (md := .sh))) (evo_some (ev_add (md' := .sh) ok.toOk (ev_int (md := .sh)) (ev_vsh ok.toOk (i := 1) (j := 1) rfl rfl rfl)))))) rfl rfl no_any (by decide +kernel) (by decide +kernel) (by decide +kernel) (by decide +kernel) (fun g' okc number44 => evpts_nil) (fun g' okc number44 => (ev_mod (md' := .sh) okc (ev_vsh okc (i := 9) (j := 0) rfl rfl rfl) (ev_vsh okc (i := 4) (j := 1) rfl rfl rfl))) fun threading36 => (evb_setC (md := .sh) (VV' := ["number"]) (GG' := ["_law_subset"]) (i := 9) (i2 := 6) ok rfl (wkX hX rfl) (by decide +kernel) (by rfl) (by decide +kernel) (evi_seq ok.toOk sq_l (ev_ofL (evl_slQ (md := .sh) ok.toOk sq_l (ev_vsh ok.toOk (i := 0) (j := 0) rfl rfl rfl) (evo_some (ev_add (md' := .sh) ok.toOk (ev_int (md := .sh)) (ev_vsh ok.toOk (i := 1) (j := 1) rfl rfl rfl))) (evo_some (ev_add (md' := .sh) ok.toOk (ev_add (md' := .sh) ok.toOk (ev_int (md := .sh)) (ev_vsh ok.toOk (i := 1) (j := 1) rfl rfl rfl)) (ev_vsh ok.toOk (i := 2) (j := 2) rfl rfl rfl)))))) rfl rfl no_any (by decide +kernel) (by decide +kernel) (by decide +kernel) (by decide +kernel) (fun g' okc number62 => evpts_nil) (fun g' okc number62 => (ev_ofL (evl_call (md' := .sh) okc (fn__law_subset X) (by decide) (j := 0) rfl .sh (eva_cons (md := .sh) (ev_vsh okc (i := 9) (j := 0) rfl rfl rfl) eva_nil)))) fun ties50 => (evb_set ok (i := 7) (j := 7) rfl rfl (wkX hX rfl) .sh (ev_add (md' := .sh) ok.toOk (ev_add (md' := .sh) ok.toOk (ev_int (md := .sh)) (ev_vsh ok.toOk (i := 1) (j := 1) rfl rfl rfl)) (ev_vsh ok.toOk (i := 2) (j := 2) rfl rfl rfl)) fun at69 => (evb_setC (md := .sh) (VV' := ["number", "treadles"]) (GG' := []) (i := 9) (i2 := 8) ok rfl (wkX hX rfl) (by decide +kernel) (by rfl) (by decide +kernel) (evi_seq ok.toOk sq_l (ev_ofL (evl_slQ (md := .sh) ok.toOk sq_l (ev_vsh ok.toOk (i := 0) (j := 0) rfl rfl rfl) (evo_some (ev_vsh ok.toOk (i := 7) (j := 7) rfl rfl rfl)) (evo_some (ev_add (md' := .sh) ok.toOk (ev_vsh ok.toOk (i := 7) (j := 7) rfl rfl rfl) (ev_vsh ok.toOk (i := 3) (j := 3) rfl rfl rfl)))))) rfl rfl no_any (by decide +kernel) (by decide +kernel) (by decide +kernel) (by decide +kernel) (fun g' okc number82 => evpts_nil) (fun g' okc number82 => (ev_mod (md' := .sh) okc (ev_vsh okc (i := 9) (j := 0) rfl rfl rfl) (ev_vsh okc (i := 2) (j := 1) rfl rfl rfl))) fun treading74 => (evb_ret (wkX hX rfl) .sh (by intro _; rfl) (ev_tup (fun d vs R h => by rw [(lenS (lenS (lenS len0))) h]; decide) (eva_cons (ev_vsh ok.toOk (i := 5) (j := 5) rfl rfl rfl) (eva_cons (ev_vsh ok.toOk (i := 6) (j := 6) rfl rfl rfl) (eva_cons (ev_vsh ok.toOk (i := 8) (j := 8) rfl rfl rfl) eva_nil))))))))))))))
theorem b__law_draft_by {p : Pr} (X : Facts p) : Body p s__law_draft_by N__law_draft_by V__law_draft_by G__law_draft_by 1 (fun (d : ((List Int) × Unit)) => [(sV false (tList tInt) d.1), sAny, sAny, sAny, sAny, sAny, sAny, sAny, sAny, sAny]) (fun r => .rt false (tTup (aCons (tList tInt) (aCons (tList (tList tInt)) (aCons (tList tInt) aNil)))) r) r__law_draft_by := fun g ok hX d => bb__law_draft_by X ok hX d.1
theorem fn__law_draft_by {p : Pr} (X : Facts p) : Fn p 2 "_law_draft_by" ["numbers"] (spM p (aCons (tList tInt) aNil) (fun r => .rt false (tTup (aCons (tList tInt) (aCons (tList (tList tInt)) (aCons (tList tInt) aNil)))) r) c__law_draft_by) := by
  obtain ⟨f, fd, hF, hm⟩ := X.d__law_draft_by
  exact ⟨f, fd, eq__law_draft_by ▸ fn_rt (m := 9) hF sc__law_draft_by (.cons .nil) rfl rfl (b__law_draft_by X), hm, hF.kp, hF.bindsN fun _ _ _ _ _ _ us hl => match us, hl with | [_], _ => rfl⟩
abbrev s__law_of_length : Stmt := (topS 16)
abbrev N__law_of_length : List Str := ["part", "length", "made"]
abbrev V__law_of_length : List Str := ["part", "length", "made"]
abbrev G__law_of_length : List Str := ["list", "len"]
theorem sc__law_of_length : Sc s__law_of_length N__law_of_length V__law_of_length ["part", "length"] G__law_of_length := ⟨⟨rfl, rfl, rfl, by decide +kernel, rfl, by decide +kernel, by decide +kernel⟩, by decide +kernel, by decide +kernel, by decide +kernel⟩
def r_f_law_of_length_t1 (length2 : Int) : ((List Int)) → M Bool := fun s4 => M.ok ((!decide (s4 = ([]))) && (decide ((s4.length : Int) < length2)))
def f_law_of_length_t1 (length2 : Int) : ((List Int)) → M Bool := fun s4 => M.ok ((!decide (s4 = ([]))) && (decide ((s4.length : Int) < length2)))
theorem eq_f_law_of_length_t1 (length2 : Int) : r_f_law_of_length_t1 length2 = f_law_of_length_t1 length2 := by funext s4; first | (simp only [r_f_law_of_length_t1, f_law_of_length_t1, M.bind_assoc, M.bok]; done) | (simp only [r_f_law_of_length_t1, f_law_of_length_t1, M.bind_assoc, M.bok]; rfl)
def r_f_law_of_length_w2 (part1 : (List Int)) : ((List Int)) → M ((List Int)) := fun s4 => M.bind (M.bind (M.ok s4) fun y16 => M.bind (M.bind (M.bind (M.ok s4) fun y12 => M.ok (y12.length : Int)) fun y14 => M.bind (M.bind (M.ok part1) fun y13 => M.ok (y13.length : Int)) fun y15 => modM y14 y15) fun y17 => getM y16 y17) fun y18 => M.bind (pushM s4 y18) fun made11 => M.ok made11
def f_law_of_length_w2 (part1 : (List Int)) : ((List Int)) → M ((List Int)) := fun s4 => M.bind (M.bind (modM (s4.length : Int) (part1.length : Int)) fun y17 => getM s4 y17) fun y18 => M.bind (pushM s4 y18) fun made11 => M.ok made11
theorem eq_f_law_of_length_w2 (part1 : (List Int)) : r_f_law_of_length_w2 part1 = f_law_of_length_w2 part1 := by funext s4; first | (simp only [r_f_law_of_length_w2, f_law_of_length_w2, M.bind_assoc, M.bok, eq_f_law_of_length_t1]; done) | (simp only [r_f_law_of_length_w2, f_law_of_length_w2, M.bind_assoc, M.bok, eq_f_law_of_length_t1]; rfl)
def q__law_of_length (part1 : (List Int)) (length2 : Int) : M (List Int) := M.bind (M.ok part1) fun made3 => M.bind (whileM (r_f_law_of_length_t1 length2) (r_f_law_of_length_w2 part1) fuel made3) fun (s19 : ((List Int))) => M.bind (M.ok s19) fun y21 => M.bind (M.ok (none : Option Int)) fun y22 => M.bind (M.bind (M.ok length2) fun y20 => M.ok (some y20)) fun y23 => M.ok (cutL y21 y22 y23)
def f_law_of_length (part1 : (List Int)) (length2 : Int) : M (List Int) := let made3 : (List Int) := part1; M.bind (whileM (f_law_of_length_t1 length2) (f_law_of_length_w2 part1) fuel made3) fun (s19 : ((List Int))) => M.ok (cutL s19 none (some length2))
def r__law_of_length (d : ((List Int) × Int × Unit)) : M (List Int) := q__law_of_length d.1 d.2.1
def c__law_of_length (d : ((List Int) × Int × Unit)) : M (List Int) := f_law_of_length d.1 d.2.1
theorem eq__law_of_length : r__law_of_length = c__law_of_length := by funext d; first | (simp only [r__law_of_length, c__law_of_length, q__law_of_length, f_law_of_length, M.bind_assoc, M.bok, eq_f_law_of_length_t1, eq_f_law_of_length_w2]; done) | (simp only [r__law_of_length, c__law_of_length, q__law_of_length, f_law_of_length, M.bind_assoc, M.bok, eq_f_law_of_length_t1, eq_f_law_of_length_w2]; rfl)
theorem bb__law_of_length {p : Pr} (X : Facts p) {g : G} (ok : OkS p (defScope s__law_of_length) N__law_of_length V__law_of_length G__law_of_length 0 g) (hX : g.LX = List.replicate N__law_of_length.length sAny) (part1 : (List Int)) (length2 : Int) : EvB g [(sV false (tList tInt) part1), (sV false tInt length2), sAny] (defBody s__law_of_length) (fun r => .rtL false tInt r) (q__law_of_length part1 length2) := (evb_own ok (i := 2) (j := 2) rfl rfl (wkX hX rfl) .sh (evl_copyQ (md := .sh) ok.toOk sq_l (j := 0) rfl X.g_list (ev_vsh ok.toOk (i := 0) (j := 0) rfl rfl rfl)) fun made3 => (evb_while (LF := (fun (s4 : ((List Int))) => [(sV false (tList tInt) part1), (sV false tInt length2), (sOwn false tInt s4)])) (s0 := made3) ok (fun _ => wkX hX rfl) (Wk.s (Wk.s (Wk.s Wk.n))) (fun s4 => (evt_borrow (i := 2) rfl (EvW.t (evw_andP (pureT (m := M.bind (M.ok s4) fun y5 => M.bind (M.ok []) fun y6 => M.ok (!decide (y5 = y6))) (evt_c ok.toOk (c_neD ok.toOk (dList dInt) (by decide)) (ev_vsh ok.toOk (i := 2) (j := 2) rfl rfl rfl) (ev_ofL (evl_nil (md := .sh) (S := tInt)))) rfl) (pureW (m := M.bind (M.bind (M.ok s4) fun y7 => M.ok (y7.length : Int)) fun y8 => M.bind (M.ok length2) fun y9 => M.ok (decide (y8 < y9))) (evw_and1 (evt_c ok.toOk c_lt (ev_lenQ (md' := .sh) ok.toOk sq_l (j := 1) rfl X.g_len (ev_vsh ok.toOk (i := 2) (j := 2) rfl rfl rfl)) (ev_vsh ok.toOk (i := 1) (j := 1) rfl rfl rfl))) rfl))))) (fun s4 => (evb_append ok (wkX hX rfl) (i := 2) (j := 2) rfl rfl rfl .sh (ev_borrow (i := 2) (.inl flInt) rfl (ev_ixQ ok.toOk sq_l (ev_vsh ok.toOk (i := 2) (j := 2) rfl rfl rfl) (ev_mod (md' := .sh) ok.toOk (ev_lenQ (md' := .sh) ok.toOk sq_l (j := 1) rfl X.g_len (ev_vsh ok.toOk (i := 2) (j := 2) rfl rfl rfl)) (ev_lenQ (md' := .sh) ok.toOk sq_l (j := 1) rfl X.g_len (ev_vsh ok.toOk (i := 0) (j := 0) rfl rfl rfl))))) fun made11 => (evb_go (by rfl) (Wk.s (Wk.s (Wk.s Wk.n)))))) fun s19 => (evb_retL (wkX hX rfl) .sh (by intro _; rfl) (evl_borrow (i := 2) (.inl flInt) rfl (evl_slQ (md := .sh) ok.toOk sq_l (ev_vsh ok.toOk (i := 2) (j := 2) rfl rfl rfl) evo_none (evo_some (ev_vsh ok.toOk (i := 1) (j := 1) rfl rfl rfl)))))))
theorem b__law_of_length {p : Pr} (X : Facts p) : Body p s__law_of_length N__law_of_length V__law_of_length G__law_of_length 0 (fun (d : ((List Int) × Int × Unit)) => [(sV false (tList tInt) d.1), (sV false tInt d.2.1), sAny]) (fun r => .rtL false tInt r) r__law_of_length := fun g ok hX d => bb__law_of_length X ok hX d.1 d.2.1
theorem fn__law_of_length {p : Pr} (X : Facts p) : Fn p 1 "_law_of_length" ["part", "length"] (spM p (aCons (tList tInt) (aCons tInt aNil)) (fun r => .rtL false tInt r) c__law_of_length) := by
  obtain ⟨f, fd, hF, hm⟩ := X.d__law_of_length
  exact ⟨f, fd, eq__law_of_length ▸ fn_rtL (m := 1) hF sc__law_of_length (.cons (.cons .nil)) rfl rfl (b__law_of_length X), hm, hF.kp, hF.bindsN fun _ _ _ _ _ _ us hl => match us, hl with | [_, _], _ => rfl⟩
abbrev s__law_of_length__k2 : Stmt := (topS 16)
abbrev N__law_of_length__k2 : List Str := ["part", "length", "made"]
abbrev V__law_of_length__k2 : List Str := ["part", "length", "made"]
abbrev G__law_of_length__k2 : List Str := ["list", "len"]
theorem sc__law_of_length__k2 : Sc s__law_of_length__k2 N__law_of_length__k2 V__law_of_length__k2 ["part", "length"] G__law_of_length__k2 := ⟨⟨rfl, rfl, rfl, by decide +kernel, rfl, by decide +kernel, by decide +kernel⟩, by decide +kernel, by decide +kernel, by decide +kernel⟩
def r_f_law_of_length__k2_t1 (length2 : Int) : ((List (List Int))) → M Bool := fun s4 => M.ok ((!decide (s4 = ([]))) && (decide ((s4.length : Int) < length2)))
def f_law_of_length__k2_t1 (length2 : Int) : ((List (List Int))) → M Bool := fun s4 => M.ok ((!decide (s4 = ([]))) && (decide ((s4.length : Int) < length2)))
theorem eq_f_law_of_length__k2_t1 (length2 : Int) : r_f_law_of_length__k2_t1 length2 = f_law_of_length__k2_t1 length2 := by funext s4; first | (simp only [r_f_law_of_length__k2_t1, f_law_of_length__k2_t1, M.bind_assoc, M.bok]; done) | (simp only [r_f_law_of_length__k2_t1, f_law_of_length__k2_t1, M.bind_assoc, M.bok]; rfl)
def r_f_law_of_length__k2_w2 (part1 : (List (List Int))) : ((List (List Int))) → M ((List (List Int))) := fun s4 => M.bind (M.bind (M.bind (M.bind (M.ok s4) fun y12 => M.ok (y12.length : Int)) fun y14 => M.bind (M.bind (M.ok part1) fun y13 => M.ok (y13.length : Int)) fun y15 => modM y14 y15) fun y16 => getM s4 y16) fun y17 => M.bind (pushM s4 y17) fun made11 => M.ok made11
def f_law_of_length__k2_w2 (part1 : (List (List Int))) : ((List (List Int))) → M ((List (List Int))) := fun s4 => M.bind (M.bind (modM (s4.length : Int) (part1.length : Int)) fun y16 => getM s4 y16) fun y17 => M.bind (pushM s4 y17) fun made11 => M.ok made11
theorem eq_f_law_of_length__k2_w2 (part1 : (List (List Int))) : r_f_law_of_length__k2_w2 part1 = f_law_of_length__k2_w2 part1 := by funext s4; first | (simp only [r_f_law_of_length__k2_w2, f_law_of_length__k2_w2, M.bind_assoc, M.bok, eq_f_law_of_length__k2_t1]; done) | (simp only [r_f_law_of_length__k2_w2, f_law_of_length__k2_w2, M.bind_assoc, M.bok, eq_f_law_of_length__k2_t1]; rfl)
def q__law_of_length__k2 (part1 : (List (List Int))) (length2 : Int) : M (List (List Int)) := M.bind (M.ok part1) fun made3 => M.bind (whileM (r_f_law_of_length__k2_t1 length2) (r_f_law_of_length__k2_w2 part1) fuel made3) fun (s18 : ((List (List Int)))) => M.bind (M.ok s18) fun y20 => M.bind (M.ok (none : Option Int)) fun y21 => M.bind (M.bind (M.ok length2) fun y19 => M.ok (some y19)) fun y22 => M.ok (cutL y20 y21 y22)
def f_law_of_length__k2 (part1 : (List (List Int))) (length2 : Int) : M (List (List Int)) := let made3 : (List (List Int)) := part1; M.bind (whileM (f_law_of_length__k2_t1 length2) (f_law_of_length__k2_w2 part1) fuel made3) fun (s18 : ((List (List Int)))) => M.ok (cutL s18 none (some length2))
def r__law_of_length__k2 (d : ((List (List Int)) × Int × Unit)) : M (List (List Int)) := q__law_of_length__k2 d.1 d.2.1
def c__law_of_length__k2 (d : ((List (List Int)) × Int × Unit)) : M (List (List Int)) := f_law_of_length__k2 d.1 d.2.1
theorem eq__law_of_length__k2 : r__law_of_length__k2 = c__law_of_length__k2 := by funext d; first | (simp only [r__law_of_length__k2, c__law_of_length__k2, q__law_of_length__k2, f_law_of_length__k2, M.bind_assoc, M.bok, eq_f_law_of_length__k2_t1, eq_f_law_of_length__k2_w2]; done) | (simp only [r__law_of_length__k2, c__law_of_length__k2, q__law_of_length__k2, f_law_of_length__k2, M.bind_assoc, M.bok, eq_f_law_of_length__k2_t1, eq_f_law_of_length__k2_w2]; rfl)
theorem bb__law_of_length__k2 {p : Pr} (X : Facts p) {g : G} (ok : OkS p (defScope s__law_of_length__k2) N__law_of_length__k2 V__law_of_length__k2 G__law_of_length__k2 0 g) (hX : g.LX = List.replicate N__law_of_length__k2.length sAny) (part1 : (List (List Int))) (length2 : Int) : EvB g [(sV false (tList (tList tInt)) part1), (sV false tInt length2), sAny] (defBody s__law_of_length__k2) (fun r => .rtL false (tList tInt) r) (q__law_of_length__k2 part1 length2) := (evb_own ok (i := 2) (j := 2) rfl rfl (wkX hX rfl) .sh (evl_copyQ (md := .sh) ok.toOk sq_l (j := 0) rfl X.g_list (ev_vsh ok.toOk (i := 0) (j := 0) rfl rfl rfl)) fun made3 => (evb_while (LF := (fun (s4 : ((List (List Int)))) => [(sV false (tList (tList tInt)) part1), (sV false tInt length2), (sOwn false (tList tInt) s4)])) (s0 := made3) ok (fun _ => wkX hX rfl) (Wk.s (Wk.s (Wk.s Wk.n))) (fun s4 => (evt_borrow (i := 2) rfl (EvW.t (evw_andP (pureT (m := M.bind (M.ok s4) fun y5 => M.bind (M.ok []) fun y6 => M.ok (!decide (y5 = y6))) (evt_c ok.toOk (c_neD ok.toOk (dList (dList dInt)) (by decide)) (ev_vsh ok.toOk (i := 2) (j := 2) rfl rfl rfl) (ev_ofL (evl_nil (md := .sh) (S := (tList tInt))))) rfl) (pureW (m := M.bind (M.bind (M.ok s4) fun y7 => M.ok (y7.length : Int)) fun y8 => M.bind (M.ok length2) fun y9 => M.ok (decide (y8 < y9))) (evw_and1 (evt_c ok.toOk c_lt (ev_lenQ (md' := .sh) ok.toOk sq_l (j := 1) rfl X.g_len (ev_vsh ok.toOk (i := 2) (j := 2) rfl rfl rfl)) (ev_vsh ok.toOk (i := 1) (j := 1) rfl rfl rfl))) rfl))))) (fun s4 => (evb_append ok (wkX hX rfl) (i := 2) (j := 2) rfl rfl rfl .sh (ev_ixOwn ok.toOk (i := 2) (j := 2) rfl rfl rfl (ev_borrow (i := 2) (.inl flInt) rfl (ev_mod (md' := .sh) ok.toOk (ev_lenQ (md' := .sh) ok.toOk sq_l (j := 1) rfl X.g_len (ev_vsh ok.toOk (i := 2) (j := 2) rfl rfl rfl)) (ev_lenQ (md' := .sh) ok.toOk sq_l (j := 1) rfl X.g_len (ev_vsh ok.toOk (i := 0) (j := 0) rfl rfl rfl))))) fun made11 => (evb_go (by rfl) (Wk.s (Wk.s (Wk.s Wk.n)))))) fun s18 => (evb_freeze (i := 2) rfl (evb_retL (wkX hX rfl) .sh (by intro _; rfl) (evl_slQ (md := .sh) ok.toOk sq_l (ev_vsh ok.toOk (i := 2) (j := 2) rfl rfl rfl) evo_none (evo_some (ev_vsh ok.toOk (i := 1) (j := 1) rfl rfl rfl)))))))
theorem b__law_of_length__k2 {p : Pr} (X : Facts p) : Body p s__law_of_length__k2 N__law_of_length__k2 V__law_of_length__k2 G__law_of_length__k2 0 (fun (d : ((List (List Int)) × Int × Unit)) => [(sV false (tList (tList tInt)) d.1), (sV false tInt d.2.1), sAny]) (fun r => .rtL false (tList tInt) r) r__law_of_length__k2 := fun g ok hX d => bb__law_of_length__k2 X ok hX d.1 d.2.1
theorem fn__law_of_length__k2 {p : Pr} (X : Facts p) : Fn p 1 "_law_of_length" ["part", "length"] (spM p (aCons (tList (tList tInt)) (aCons tInt aNil)) (fun r => .rtL false (tList tInt) r) c__law_of_length__k2) := by
  obtain ⟨f, fd, hF, hm⟩ := X.d__law_of_length__k2
  exact ⟨f, fd, eq__law_of_length__k2 ▸ fn_rtL (m := 1) hF sc__law_of_length__k2 (.cons (.cons .nil)) rfl rfl (b__law_of_length__k2 X), hm, hF.kp, hF.bindsN fun _ _ _ _ _ _ us hl => match us, hl with | [_, _], _ => rfl⟩
abbrev s__law_odd : Stmt := (topS 15)
abbrev N__law_odd : List Str := ["number"]
abbrev V__law_odd : List Str := ["number"]
abbrev G__law_odd : List Str := []
theorem sc__law_odd : Sc s__law_odd N__law_odd V__law_odd ["number"] G__law_odd := ⟨⟨rfl, rfl, rfl, by decide +kernel, rfl, by decide +kernel, by decide +kernel⟩, by decide +kernel, by decide +kernel, by decide +kernel⟩
def q__law_odd (number1 : Int) : M Int := M.bind (M.bind (M.bind (M.ok (1 : Int)) fun y2 => M.ok (-y2)) fun y21 => M.bind (M.bind (M.ok (40 : Int)) fun y19 => M.bind (M.bind (M.ok (41 : Int)) fun y17 => M.bind (M.bind (M.bind (M.ok (40 : Int)) fun y3 => M.ok (-y3)) fun y15 => M.bind (M.bind (M.bind (M.bind (M.ok number1) fun y4 => M.ok (y4 % ((10 : Int) ^ 59))) fun y5 => M.bind (M.ok (40 : Int)) fun y6 => M.ok (y5 + y6)) fun y13 => M.bind (M.bind (M.bind (M.bind (M.ok (1 : Int)) fun y7 => M.ok (-y7)) fun y9 => M.bind (M.bind (M.ok number1) fun y8 => M.ok (y8 % ((10 : Int) ^ 59))) fun y10 => M.ok (y9 - y10)) fun y11 => M.bind (M.ok []) fun y12 => M.ok (y11 :: y12)) fun y14 => M.ok (y13 :: y14)) fun y16 => M.ok (y15 :: y16)) fun y18 => M.ok (y17 :: y18)) fun y20 => M.ok (y19 :: y20)) fun y22 => M.ok (y21 :: y22)) fun y30 => M.bind (M.bind (M.ok number1) fun y29 => M.ok (y29 % (6 : Int))) fun y31 => getM y30 y31
def f_law_odd (number1 : Int) : M Int := getM ([(-(1 : Int)), (40 : Int), (41 : Int), (-(40 : Int)), ((number1 % ((10 : Int) ^ 59)) + (40 : Int)), ((-(1 : Int)) - (number1 % ((10 : Int) ^ 59)))]) (number1 % (6 : Int))
def r__law_odd (d : (Int × Unit)) : M Int := q__law_odd d.1
def c__law_odd (d : (Int × Unit)) : M Int := f_law_odd d.1
theorem eq__law_odd : r__law_odd = c__law_odd := by funext d; first | (simp only [r__law_odd, c__law_odd, q__law_odd, f_law_odd, M.bind_assoc, M.bok]; done) | (simp only [r__law_odd, c__law_odd, q__law_odd, f_law_odd, M.bind_assoc, M.bok]; rfl)
theorem bb__law_odd {p : Pr} (X : Facts p) {g : G} (ok : OkS p (defScope s__law_odd) N__law_odd V__law_odd G__law_odd 0 g) (hX : g.LX = List.replicate N__law_odd.length sAny) (number1 : Int) : EvB g [(sV false tInt number1)] (defBody s__law_odd) (fun r => .rt false tInt r) (q__law_odd number1) := (evb_ret (wkX hX rfl) .sh (by intro _; rfl) (ev_ixQ ok.toOk sq_l (ev_ofL (evl_lstN (n := 6) (lnS (lnS (lnS (lnS (lnS (lnS ln0)))))) (by decide) (evs_cons (ev_neg (md' := .sh) ok.toOk (ev_int (md := .sh))) (evs_cons (ev_int (md := .sh)) (evs_cons (ev_int (md := .sh)) (evs_cons (ev_neg (md' := .sh) ok.toOk (ev_int (md := .sh))) (evs_cons (ev_add (md' := .sh) ok.toOk (ev_modC (md' := .sh) ok.toOk (by decide) (ev_vsh ok.toOk (i := 0) (j := 0) rfl rfl rfl) (ev_powC (md' := .sh) (n := 59) ok.toOk (by decide) (by decide) (ev_int (md := .sh)) (ev_int (md := .sh)))) (ev_int (md := .sh))) (evs_cons (ev_subt (md' := .sh) ok.toOk (ev_neg (md' := .sh) ok.toOk (ev_int (md := .sh))) (ev_modC (md' := .sh) ok.toOk (by decide) (ev_vsh ok.toOk (i := 0) (j := 0) rfl rfl rfl) (ev_powC (md' := .sh) (n := 59) ok.toOk (by decide) (by decide) (ev_int (md := .sh)) (ev_int (md := .sh))))) evs_nil)))))))) (ev_modC (md' := .sh) ok.toOk (by decide) (ev_vsh ok.toOk (i := 0) (j := 0) rfl rfl rfl) (ev_int (md := .sh)))))
theorem b__law_odd {p : Pr} (X : Facts p) : Body p s__law_odd N__law_odd V__law_odd G__law_odd 0 (fun (d : (Int × Unit)) => [(sV false tInt d.1)]) (fun r => .rt false tInt r) r__law_odd := fun g ok hX d => bb__law_odd X ok hX d.1
theorem fn__law_odd {p : Pr} (X : Facts p) : Fn p 1 "_law_odd" ["number"] (spM p (aCons tInt aNil) (fun r => .rt false tInt r) c__law_odd) := by
  obtain ⟨f, fd, hF, hm⟩ := X.d__law_odd
  exact ⟨f, fd, eq__law_odd ▸ fn_rt (m := 0) hF sc__law_odd (.cons .nil) rfl rfl (b__law_odd X), hm, hF.kp, hF.bindsN fun _ _ _ _ _ _ us hl => match us, hl with | [_], _ => rfl⟩
abbrev s__law_tie_changed : Stmt := (topS 17)
abbrev N__law_tie_changed : List Str := ["tie", "way", "number", "at"]
abbrev V__law_tie_changed : List Str := ["tie", "way", "number", "at"]
abbrev G__law_tie_changed : List Str := ["len", "_law_odd"]
theorem sc__law_tie_changed : Sc s__law_tie_changed N__law_tie_changed V__law_tie_changed ["tie", "way", "number"] G__law_tie_changed := ⟨⟨rfl, rfl, rfl, by decide +kernel, rfl, by decide +kernel, by decide +kernel⟩, by decide +kernel, by decide +kernel, by decide +kernel⟩
def q__law_tie_changed (tie1 : (List Int)) (way2 : Int) (number3 : Int) : M (List Int) := M.bind (M.bind (M.ok number3) fun y8 => M.bind (M.bind (M.bind (M.ok tie1) fun y5 => M.ok (y5.length : Int)) fun y6 => M.bind (M.ok (1 : Int)) fun y7 => M.ok (y6 + y7)) fun y9 => modM y8 y9) fun at4 => M.bind (M.bind (M.ok way2) fun y10 => M.bind (M.ok (4 : Int)) fun y11 => M.ok (decide (y10 = y11))) fun c12 => if c12 = true then M.bind (M.bind (M.bind (M.ok tie1) fun y14 => M.bind (M.ok (none : Option Int)) fun y15 => M.bind (M.bind (M.ok at4) fun y13 => M.ok (some y13)) fun y16 => M.ok (cutL y14 y15 y16)) fun y24 => M.bind (M.bind (M.bind (M.bind (M.bind (M.ok number3) fun y17 => M.ok (y17 / (41 : Int))) fun y18 => M.bind (M.ok ()) fun y19 => M.ok (y18, y19)) c__law_odd) fun y21 => M.bind (M.ok []) fun y22 => M.ok (y21 :: y22)) fun y25 => catL y24 y25) fun y30 => M.bind (M.bind (M.ok tie1) fun y27 => M.bind (M.bind (M.ok at4) fun y26 => M.ok (some y26)) fun y28 => M.bind (M.ok (none : Option Int)) fun y29 => M.ok (cutL y27 y28 y29)) fun y31 => catL y30 y31 else M.bind (M.bind (M.ok tie1) fun y33 => M.bind (M.ok []) fun y34 => M.ok (decide (y33 = y34))) fun c35 => if c35 = true then (M.bind (M.ok (5 : Int)) fun y38 => M.bind (M.bind (M.ok (3 : Int)) fun y36 => M.bind (M.ok []) fun y37 => M.ok (y36 :: y37)) fun y39 => M.ok (y38 :: y39)) else M.bind (M.bind (M.ok number3) fun y45 => M.bind (M.bind (M.ok tie1) fun y44 => M.ok (y44.length : Int)) fun y46 => modM y45 y46) fun at43 => M.bind (M.ok ((decide (way2 = (5 : Int))) || (decide ((tie1.length : Int) = (1 : Int))))) fun c53 => if c53 = true then M.bind (M.bind (M.bind (M.ok tie1) fun y55 => M.bind (M.ok (none : Option Int)) fun y56 => M.bind (M.bind (M.ok at43) fun y54 => M.ok (some y54)) fun y57 => M.ok (cutL y55 y56 y57)) fun y63 => M.bind (M.bind (M.bind (M.ok tie1) fun y58 => M.bind (M.ok at43) fun y59 => getM y58 y59) fun y60 => M.bind (M.ok []) fun y61 => M.ok (y60 :: y61)) fun y64 => catL y63 y64) fun y69 => M.bind (M.bind (M.ok tie1) fun y66 => M.bind (M.bind (M.ok at43) fun y65 => M.ok (some y65)) fun y67 => M.bind (M.ok (none : Option Int)) fun y68 => M.ok (cutL y66 y67 y68)) fun y70 => catL y69 y70 else M.bind (M.bind (M.ok at43) fun y72 => M.bind (M.ok (0 : Int)) fun y73 => M.ok (decide (y72 = y73))) fun c74 => M.bind (if c74 = true then M.bind (M.ok (1 : Int)) fun at75 => M.ok at75 else M.ok at43) fun (s76 : (Int)) => M.bind (M.bind (M.bind (M.ok tie1) fun y80 => M.bind (M.ok (none : Option Int)) fun y81 => M.bind (M.bind (M.bind (M.ok s76) fun y77 => M.bind (M.ok (1 : Int)) fun y78 => M.ok (y77 - y78)) fun y79 => M.ok (some y79)) fun y82 => M.ok (cutL y80 y81 y82)) fun y95 => M.bind (M.bind (M.bind (M.ok tie1) fun y83 => M.bind (M.ok s76) fun y84 => getM y83 y84) fun y91 => M.bind (M.bind (M.bind (M.ok tie1) fun y87 => M.bind (M.bind (M.ok s76) fun y85 => M.bind (M.ok (1 : Int)) fun y86 => M.ok (y85 - y86)) fun y88 => getM y87 y88) fun y89 => M.bind (M.ok []) fun y90 => M.ok (y89 :: y90)) fun y92 => M.ok (y91 :: y92)) fun y96 => catL y95 y96) fun y103 => M.bind (M.bind (M.ok tie1) fun y100 => M.bind (M.bind (M.bind (M.ok s76) fun y97 => M.bind (M.ok (1 : Int)) fun y98 => M.ok (y97 + y98)) fun y99 => M.ok (some y99)) fun y101 => M.bind (M.ok (none : Option Int)) fun y102 => M.ok (cutL y100 y101 y102)) fun y104 => catL y103 y104
def f_law_tie_changed (tie1 : (List Int)) (way2 : Int) (number3 : Int) : M (List Int) := M.bind (modM number3 ((tie1.length : Int) + (1 : Int))) fun at4 => if (decide (way2 = (4 : Int))) = true then M.bind (M.bind (M.bind (f_law_odd (number3 / (41 : Int))) fun y23 => M.ok ([y23])) fun y25 => catL (cutL tie1 none (some at4)) y25) fun y30 => catL y30 (cutL tie1 (some at4) none) else if (decide (tie1 = ([]))) = true then M.ok ([(5 : Int), (3 : Int)]) else M.bind (modM number3 (tie1.length : Int)) fun at43 => if ((decide (way2 = (5 : Int))) || (decide ((tie1.length : Int) = (1 : Int)))) = true then M.bind (M.bind (M.bind (getM tie1 at43) fun y62 => M.ok ([y62])) fun y64 => catL (cutL tie1 none (some at43)) y64) fun y69 => catL y69 (cutL tie1 (some at43) none) else M.bind (if (decide (at43 = (0 : Int))) = true then let at75 : Int := (1 : Int); M.ok at75 else M.ok at43) fun (s76 : (Int)) => M.bind (M.bind (M.bind (getM tie1 s76) fun y93 => M.bind (getM tie1 (s76 - (1 : Int))) fun y94 => M.ok ([y93, y94])) fun y96 => catL (cutL tie1 none (some (s76 - (1 : Int)))) y96) fun y103 => catL y103 (cutL tie1 (some (s76 + (1 : Int))) none)
def r__law_tie_changed (d : ((List Int) × Int × Int × Unit)) : M (List Int) := q__law_tie_changed d.1 d.2.1 d.2.2.1
def c__law_tie_changed (d : ((List Int) × Int × Int × Unit)) : M (List Int) := f_law_tie_changed d.1 d.2.1 d.2.2.1
theorem eq__law_tie_changed : r__law_tie_changed = c__law_tie_changed := by funext d; first | (simp only [r__law_tie_changed, c__law_tie_changed, q__law_tie_changed, f_law_tie_changed, M.bind_assoc, M.bok, c__law_odd]; done) | (simp only [r__law_tie_changed, c__law_tie_changed, q__law_tie_changed, f_law_tie_changed, M.bind_assoc, M.bok, c__law_odd]; rfl)
theorem bb__law_tie_changed {p : Pr} (X : Facts p) {g : G} (ok : OkS p (defScope s__law_tie_changed) N__law_tie_changed V__law_tie_changed G__law_tie_changed 1 g) (hX : g.LX = List.replicate N__law_tie_changed.length sAny) (tie1 : (List Int)) (way2 : Int) (number3 : Int) : EvB g [(sV false (tList tInt) tie1), (sV false tInt way2), (sV false tInt number3), sAny] (defBody s__law_tie_changed) (fun r => .rtL false tInt r) (q__law_tie_changed tie1 way2 number3) := (evb_set ok (i := 3) (j := 3) rfl rfl (wkX hX rfl) .sh (ev_mod (md' := .sh) ok.toOk (ev_vsh ok.toOk (i := 2) (j := 2) rfl rfl rfl) (ev_add (md' := .sh) ok.toOk (ev_lenQ (md' := .sh) ok.toOk sq_l (j := 0) rfl X.g_len (ev_vsh ok.toOk (i := 0) (j := 0) rfl rfl rfl)) (ev_int (md := .sh)))) fun at4 => (evb_ifx (wkX hX rfl) (evt_c ok.toOk (c_eq s_int) (ev_vsh ok.toOk (i := 1) (j := 1) rfl rfl rfl) (ev_int (md := .sh))) (evb_retL (wkX hX rfl) .sh (by intro _; rfl) (evl_cat (md := .sh) ok.toOk (ev_ofL (evl_cat (md := .sh) ok.toOk (ev_ofL (evl_slQ (md := .sh) ok.toOk sq_l (ev_vsh ok.toOk (i := 0) (j := 0) rfl rfl rfl) evo_none (evo_some (ev_vsh ok.toOk (i := 3) (j := 3) rfl rfl rfl)))) (ev_ofL (evl_lstN (n := 1) (lnS ln0) (by decide) (evs_cons (ev_call (md' := .sh) ok.toOk (fn__law_odd X) (by decide) (j := 1) rfl .sh (eva_cons (md := .sh) (ev_divC (md' := .sh) ok.toOk (by decide) (by decide) (ev_vsh ok.toOk (i := 2) (j := 2) rfl rfl rfl) (ev_int (md := .sh))) eva_nil)) evs_nil))))) (ev_ofL (evl_slQ (md := .sh) ok.toOk sq_l (ev_vsh ok.toOk (i := 0) (j := 0) rfl rfl rfl) (evo_some (ev_vsh ok.toOk (i := 3) (j := 3) rfl rfl rfl)) evo_none)))) (evb_ifx (wkX hX rfl) (evt_c ok.toOk (c_eqD ok.toOk (dList dInt) (by decide)) (ev_vsh ok.toOk (i := 0) (j := 0) rfl rfl rfl) (ev_ofL (evl_nil (md := .sh) (S := tInt)))) (evb_retL (wkX hX rfl) .sh (by intro _; rfl) (evl_lstN (n := 2) (lnS (lnS ln0)) (by decide) (evs_cons (ev_int (md := .sh)) (evs_cons (ev_int (md := .sh)) evs_nil)))) (evb_set ok (i := 3) (j := 3) rfl rfl (wkX hX rfl) .sh (ev_mod (md' := .sh) ok.toOk (ev_vsh ok.toOk (i := 2) (j := 2) rfl rfl rfl) (ev_lenQ (md' := .sh) ok.toOk sq_l (j := 0) rfl X.g_len (ev_vsh ok.toOk (i := 0) (j := 0) rfl rfl rfl))) fun at43 => (evb_ifx (wkX hX rfl) (EvW.t (evw_orP (pureT (m := M.bind (M.ok way2) fun y47 => M.bind (M.ok (5 : Int)) fun y48 => M.ok (decide (y47 = y48))) (evt_c ok.toOk (c_eq s_int) (ev_vsh ok.toOk (i := 1) (j := 1) rfl rfl rfl) (ev_int (md := .sh))) rfl) (pureW (m := M.bind (M.bind (M.ok tie1) fun y49 => M.ok (y49.length : Int)) fun y50 => M.bind (M.ok (1 : Int)) fun y51 => M.ok (decide (y50 = y51))) (evw_or1 (evt_c ok.toOk (c_eq s_int) (ev_lenQ (md' := .sh) ok.toOk sq_l (j := 0) rfl X.g_len (ev_vsh ok.toOk (i := 0) (j := 0) rfl rfl rfl)) (ev_int (md := .sh)))) rfl))) (evb_retL (wkX hX rfl) .sh (by intro _; rfl) (evl_cat (md := .sh) ok.toOk (ev_ofL (evl_cat (md := .sh) ok.toOk (ev_ofL (evl_slQ (md := .sh) ok.toOk sq_l (ev_vsh ok.toOk (i := 0) (j := 0) rfl rfl rfl) evo_none (evo_some (ev_vsh ok.toOk (i := 3) (j := 3) rfl rfl rfl)))) (ev_ofL (evl_lstN (n := 1) (lnS ln0) (by decide) (evs_cons (ev_ixQ ok.toOk sq_l (ev_vsh ok.toOk (i := 0) (j := 0) rfl rfl rfl) (ev_vsh ok.toOk (i := 3) (j := 3) rfl rfl rfl)) evs_nil))))) (ev_ofL (evl_slQ (md := .sh) ok.toOk sq_l (ev_vsh ok.toOk (i := 0) (j := 0) rfl rfl rfl) (evo_some (ev_vsh ok.toOk (i := 3) (j := 3) rfl rfl rfl)) evo_none)))) (evb_if (LJ := (fun (s76 : (Int)) => [(sV false (tList tInt) tie1), (sV false tInt way2), (sV false tInt number3), (sV false tInt s76)])) (wkX hX rfl) (evt_c ok.toOk (c_eq s_int) (ev_vsh ok.toOk (i := 3) (j := 3) rfl rfl rfl) (ev_int (md := .sh))) (evb_set ok (i := 3) (j := 3) rfl rfl (wkX hX rfl) .sh (ev_int (md := .sh)) fun at75 => (evb_nx (by rfl) (Wk.s (Wk.s (Wk.s (Wk.s Wk.n)))))) (evb_nx (by rfl) (Wk.s (Wk.s (Wk.s (Wk.s Wk.n))))) fun s76 => (evb_retL (wkX hX rfl) .sh (by intro _; rfl) (evl_cat (md := .sh) ok.toOk (ev_ofL (evl_cat (md := .sh) ok.toOk (ev_ofL (evl_slQ (md := .sh) ok.toOk sq_l (ev_vsh ok.toOk (i := 0) (j := 0) rfl rfl rfl) evo_none (evo_some (ev_subt (md' := .sh) ok.toOk (ev_vsh ok.toOk (i := 3) (j := 3) rfl rfl rfl) (ev_int (md := .sh)))))) (ev_ofL (evl_lstN (n := 2) (lnS (lnS ln0)) (by decide) (evs_cons (ev_ixQ ok.toOk sq_l (ev_vsh ok.toOk (i := 0) (j := 0) rfl rfl rfl) (ev_vsh ok.toOk (i := 3) (j := 3) rfl rfl rfl)) (evs_cons (ev_ixQ ok.toOk sq_l (ev_vsh ok.toOk (i := 0) (j := 0) rfl rfl rfl) (ev_subt (md' := .sh) ok.toOk (ev_vsh ok.toOk (i := 3) (j := 3) rfl rfl rfl) (ev_int (md := .sh)))) evs_nil)))))) (ev_ofL (evl_slQ (md := .sh) ok.toOk sq_l (ev_vsh ok.toOk (i := 0) (j := 0) rfl rfl rfl) (evo_some (ev_add (md' := .sh) ok.toOk (ev_vsh ok.toOk (i := 3) (j := 3) rfl rfl rfl) (ev_int (md := .sh)))) evo_none))))))))))
theorem b__law_tie_changed {p : Pr} (X : Facts p) : Body p s__law_tie_changed N__law_tie_changed V__law_tie_changed G__law_tie_changed 1 (fun (d : ((List Int) × Int × Int × Unit)) => [(sV false (tList tInt) d.1), (sV false tInt d.2.1), (sV false tInt d.2.2.1), sAny]) (fun r => .rtL false tInt r) r__law_tie_changed := fun g ok hX d => bb__law_tie_changed X ok hX d.1 d.2.1 d.2.2.1
theorem fn__law_tie_changed {p : Pr} (X : Facts p) : Fn p 2 "_law_tie_changed" ["tie", "way", "number"] (spM p (aCons (tList tInt) (aCons tInt (aCons tInt aNil))) (fun r => .rtL false tInt r) c__law_tie_changed) := by
  obtain ⟨f, fd, hF, hm⟩ := X.d__law_tie_changed
  exact ⟨f, fd, eq__law_tie_changed ▸ fn_rtL (m := 1) hF sc__law_tie_changed (.cons (.cons (.cons .nil))) rfl rfl (b__law_tie_changed X), hm, hF.kp, hF.bindsN fun _ _ _ _ _ _ us hl => match us, hl with | [_, _, _], _ => rfl⟩
abbrev s__law_changed : Stmt := (topS 18)
abbrev N__law_changed : List Str := ["lists", "way", "number", "threading", "ties", "treading", "length", "at"]
abbrev V__law_changed : List Str := ["lists", "way", "number", "threading", "ties", "treading", "length", "at"]
abbrev G__law_changed : List Str := ["_law_of_length", "_law_odd", "len", "_law_tie_changed"]
theorem sc__law_changed : Sc s__law_changed N__law_changed V__law_changed ["lists", "way", "number"] G__law_changed := ⟨⟨rfl, rfl, rfl, by decide +kernel, rfl, by decide +kernel, by decide +kernel⟩, by decide +kernel, by decide +kernel, by decide +kernel⟩
def q__law_changed (lists1 : ((List Int) × (List (List Int)) × (List Int) × Unit)) (way2 : Int) (number3 : Int) : M (Unit × (((List Int) × (List (List Int)) × (List Int) × Unit) × Unit)) := M.bind (M.bind (M.ok way2) fun y6 => M.bind (M.ok (3 : Int)) fun y7 => M.ok (decide (y6 < y7))) fun c8 => if c8 = true then M.bind (M.bind (M.bind (M.ok (0 : Int)) fun y14 => M.bind (M.bind (M.ok (40 : Int)) fun y12 => M.bind (M.bind (M.ok (41 : Int)) fun y10 => M.bind (M.ok []) fun y11 => M.ok (y10 :: y11)) fun y13 => M.ok (y12 :: y13)) fun y15 => M.ok (y14 :: y15)) fun y20 => M.bind (M.bind (M.ok number3) fun y19 => M.ok (y19 % (3 : Int))) fun y21 => getM y20 y21) fun length9 => if decide (way2 = (0 : Int)) = true then M.bind (M.bind (M.bind (M.bind (M.ok lists1) fun y41 => M.ok y41.1) fun y44 => M.bind (M.bind (M.ok length9) fun y42 => M.bind (M.ok ()) fun y43 => M.ok (y42, y43)) fun y45 => M.ok (y44, y45)) c__law_of_length) fun y48 => M.ok ((), ((y48, lists1.2), ())) else if decide (way2 = (1 : Int)) = true then M.bind (M.bind (M.bind (M.bind (M.bind (M.ok (lists1, fun (y : ((List Int) × (List (List Int)) × (List Int) × Unit)) => y)) fun y32 => M.ok (y32.1.2.1, fun (y : (List (List Int))) => y32.2 (y32.1.1, (y, y32.1.2.2)))) fun q33 => M.ok q33.1) fun y36 => M.bind (M.bind (M.ok length9) fun y34 => M.bind (M.ok ()) fun y35 => M.ok (y34, y35)) fun y37 => M.ok (y36, y37)) c__law_of_length__k2) fun y40 => M.ok ((), ((lists1.1, (y40, lists1.2.2)), ())) else if decide (way2 = (2 : Int)) = true then M.bind (M.bind (M.bind (M.bind (M.ok lists1) fun y22 => M.ok y22.2.2.1) fun y25 => M.bind (M.bind (M.ok length9) fun y23 => M.bind (M.ok ()) fun y24 => M.ok (y23, y24)) fun y26 => M.ok (y25, y26)) c__law_of_length) fun y29 => M.ok ((), ((lists1.1, (lists1.2.1, (y29, lists1.2.2.2))), ())) else M.no else M.bind (M.ok ((decide (way2 = (3 : Int))) && (!decide (lists1.1 = ([]))))) fun c54 => if c54 = true then M.bind (M.bind (M.bind (M.bind (M.ok number3) fun y55 => M.ok (y55 / (1681 : Int))) fun y56 => M.bind (M.ok ()) fun y57 => M.ok (y56, y57)) c__law_odd) fun y66 => M.bind (M.ok (lists1.1, fun (y : (List Int)) => (y, lists1.2))) fun q63 => M.bind (M.bind (M.bind (M.ok number3) fun y59 => M.ok (y59 / (41 : Int))) fun y61 => M.bind (M.bind (M.ok lists1.1) fun y60 => M.ok (y60.length : Int)) fun y62 => modM y61 y62) fun y67 => M.bind (setM q63.1 y67 y66) fun l64 => M.bind (M.ok (q63.2 l64)) fun lists65 => M.ok ((), (lists65, ())) else M.bind (M.ok ((decide (way2 < (7 : Int))) && (!decide (lists1.2.1 = ([]))))) fun c73 => if c73 = true then M.bind (M.bind (M.bind (M.ok number3) fun y75 => M.ok (y75 / (41 : Int))) fun y77 => M.bind (M.bind (M.ok lists1.2.1) fun y76 => M.ok (y76.length : Int)) fun y78 => modM y77 y78) fun at74 => M.bind (M.bind (M.bind (M.bind (M.ok lists1.2.1) fun y79 => M.bind (M.ok at74) fun y80 => getM y79 y80) fun y86 => M.bind (M.bind (M.ok way2) fun y84 => M.bind (M.bind (M.bind (M.ok number3) fun y81 => M.ok (y81 / (1681 : Int))) fun y82 => M.bind (M.ok ()) fun y83 => M.ok (y82, y83)) fun y85 => M.ok (y84, y85)) fun y87 => M.ok (y86, y87)) c__law_tie_changed) fun y94 => M.bind (M.ok (lists1.2.1, fun (y : (List (List Int))) => (lists1.1, (y, lists1.2.2)))) fun q91 => M.bind (M.ok at74) fun y95 => M.bind (setM q91.1 y95 y94) fun l92 => M.bind (M.ok (q91.2 l92)) fun lists93 => M.ok ((), (lists93, ())) else M.bind (M.ok ((decide (way2 = (7 : Int))) && (!decide (lists1.2.2.1 = ([]))))) fun c101 => if c101 = true then M.bind (M.bind (M.bind (M.bind (M.ok lists1.2.1) fun y102 => M.ok (y102.length : Int)) fun y115 => M.bind (M.bind (M.bind (M.ok (1 : Int)) fun y103 => M.ok (-y103)) fun y113 => M.bind (M.bind (M.bind (M.bind (M.ok lists1.2.1) fun y104 => M.ok (y104.length : Int)) fun y105 => M.ok (-y105)) fun y111 => M.bind (M.bind (M.bind (M.bind (M.ok number3) fun y106 => M.bind (M.ok ()) fun y107 => M.ok (y106, y107)) c__law_odd) fun y109 => M.bind (M.ok []) fun y110 => M.ok (y109 :: y110)) fun y112 => M.ok (y111 :: y112)) fun y114 => M.ok (y113 :: y114)) fun y116 => M.ok (y115 :: y116)) fun y123 => M.bind (M.bind (M.bind (M.ok number3) fun y121 => M.ok (y121 / (1681 : Int))) fun y122 => M.ok (y122 % (4 : Int))) fun y124 => getM y123 y124) fun y132 => M.bind (M.ok (lists1.2.2.1, fun (y : (List Int)) => (lists1.1, (lists1.2.1, (y, lists1.2.2.2))))) fun q129 => M.bind (M.bind (M.bind (M.ok number3) fun y125 => M.ok (y125 / (41 : Int))) fun y127 => M.bind (M.bind (M.ok lists1.2.2.1) fun y126 => M.ok (y126.length : Int)) fun y128 => modM y127 y128) fun y133 => M.bind (setM q129.1 y133 y132) fun l130 => M.bind (M.ok (q129.2 l130)) fun lists131 => M.ok ((), (lists131, ())) else M.ok ((), (lists1, ()))
def f_law_changed (lists1 : ((List Int) × (List (List Int)) × (List Int) × Unit)) (way2 : Int) (number3 : Int) : M (Unit × (((List Int) × (List (List Int)) × (List Int) × Unit) × Unit)) := if (decide (way2 < (3 : Int))) = true then M.bind (getM ([(0 : Int), (40 : Int), (41 : Int)]) (number3 % (3 : Int))) fun length9 => if decide (way2 = (0 : Int)) = true then M.bind (f_law_of_length lists1.1 length9) fun y48 => M.ok ((), ((y48, lists1.2), ())) else if decide (way2 = (1 : Int)) = true then M.bind (f_law_of_length__k2 (((lists1, fun (y : ((List Int) × (List (List Int)) × (List Int) × Unit)) => y).1.2.1, fun (y : (List (List Int))) => (lists1, fun (y : ((List Int) × (List (List Int)) × (List Int) × Unit)) => y).2 ((lists1, fun (y : ((List Int) × (List (List Int)) × (List Int) × Unit)) => y).1.1, (y, (lists1, fun (y : ((List Int) × (List (List Int)) × (List Int) × Unit)) => y).1.2.2))).1) length9) fun y40 => M.ok ((), ((lists1.1, (y40, lists1.2.2)), ())) else if decide (way2 = (2 : Int)) = true then M.bind (f_law_of_length lists1.2.2.1 length9) fun y29 => M.ok ((), ((lists1.1, (lists1.2.1, (y29, lists1.2.2.2))), ())) else M.no else if ((decide (way2 = (3 : Int))) && (!decide (lists1.1 = ([])))) = true then M.bind (f_law_odd (number3 / (1681 : Int))) fun y66 => M.bind (modM (number3 / (41 : Int)) (lists1.1.length : Int)) fun y67 => M.bind (setM (lists1.1, fun (y : (List Int)) => (y, lists1.2)).1 y67 y66) fun l64 => let lists65 : ((List Int) × (List (List Int)) × (List Int) × Unit) := (lists1.1, fun (y : (List Int)) => (y, lists1.2)).2 l64; M.ok ((), (lists65, ())) else if ((decide (way2 < (7 : Int))) && (!decide (lists1.2.1 = ([])))) = true then M.bind (modM (number3 / (41 : Int)) (lists1.2.1.length : Int)) fun at74 => M.bind (M.bind (getM lists1.2.1 at74) fun y88 => f_law_tie_changed y88 way2 (number3 / (1681 : Int))) fun y94 => M.bind (setM (lists1.2.1, fun (y : (List (List Int))) => (lists1.1, (y, lists1.2.2))).1 at74 y94) fun l92 => let lists93 : ((List Int) × (List (List Int)) × (List Int) × Unit) := (lists1.2.1, fun (y : (List (List Int))) => (lists1.1, (y, lists1.2.2))).2 l92; M.ok ((), (lists93, ())) else if ((decide (way2 = (7 : Int))) && (!decide (lists1.2.2.1 = ([])))) = true then M.bind (M.bind (M.bind (f_law_odd number3) fun y120 => M.ok ([(lists1.2.1.length : Int), (-(1 : Int)), (-(lists1.2.1.length : Int)), y120])) fun y123 => getM y123 ((number3 / (1681 : Int)) % (4 : Int))) fun y132 => M.bind (modM (number3 / (41 : Int)) (lists1.2.2.1.length : Int)) fun y133 => M.bind (setM (lists1.2.2.1, fun (y : (List Int)) => (lists1.1, (lists1.2.1, (y, lists1.2.2.2)))).1 y133 y132) fun l130 => let lists131 : ((List Int) × (List (List Int)) × (List Int) × Unit) := (lists1.2.2.1, fun (y : (List Int)) => (lists1.1, (lists1.2.1, (y, lists1.2.2.2)))).2 l130; M.ok ((), (lists131, ())) else M.ok ((), (lists1, ()))
def r__law_changed (d : (((List Int) × (List (List Int)) × (List Int) × Unit) × Int × Int × Unit)) : M (Unit × (((List Int) × (List (List Int)) × (List Int) × Unit) × Unit)) := q__law_changed d.1 d.2.1 d.2.2.1
def c__law_changed (d : (((List Int) × (List (List Int)) × (List Int) × Unit) × Int × Int × Unit)) : M (Unit × (((List Int) × (List (List Int)) × (List Int) × Unit) × Unit)) := f_law_changed d.1 d.2.1 d.2.2.1
theorem eq__law_changed : r__law_changed = c__law_changed := by funext d; first | (simp only [r__law_changed, c__law_changed, q__law_changed, f_law_changed, M.bind_assoc, M.bok, c__law_odd, c__law_of_length, c__law_of_length__k2, c__law_tie_changed]; done) | (simp only [r__law_changed, c__law_changed, q__law_changed, f_law_changed, M.bind_assoc, M.bok, c__law_odd, c__law_of_length, c__law_of_length__k2, c__law_tie_changed]; rfl)
theorem bb__law_changed {p : Pr} (X : Facts p) {g : G} (ok : OkS p (defScope s__law_changed) N__law_changed V__law_changed G__law_changed 2 g) (vs : List V) (lists1 : ((List Int) × (List (List Int)) × (List Int) × Unit)) (way2 : Int) (number3 : Int) (hX : g.LX = List.replicate N__law_changed.length sAny) : EvB g [(sA (vs.headD .non) (wHl (waCons (wL (wV tInt)) (waCons (wL (wV (tList tInt))) (waCons (wL (wV tInt)) waNil)))) lists1), (sV false tInt way2), (sV false tInt number3), sAny, sAny, sAny, sAny, sAny] (defBody s__law_changed) (fun (r : (Unit × (((List Int) × (List (List Int)) × (List Int) × Unit) × Unit))) => .nx [(sA (vs.headD .non) (wHl (waCons (wL (wV tInt)) (waCons (wL (wV (tList tInt))) (waCons (wL (wV tInt)) waNil)))) r.2.1), sAny, sAny, sAny, sAny, sAny, sAny, sAny]) (q__law_changed lists1 way2 number3) := (evb_pinL (i := 0) rfl fun q4 ws5 => (evb_aliasL ok (i := 3) (j := 3) rfl rfl (iy := 0) (jy := 0) rfl rfl rfl .z (ev_int (md := .sh)) (evb_aliasL ok (i := 4) (j := 4) rfl rfl (iy := 0) (jy := 0) rfl rfl rfl (.s .z) (ev_int (md := .sh)) (evb_aliasL ok (i := 5) (j := 5) rfl rfl (iy := 0) (jy := 0) rfl rfl rfl (.s (.s .z)) (ev_int (md := .sh)) (evb_ifl (wkX hX rfl) (evt_c ok.toOk c_lt (ev_vsh ok.toOk (i := 1) (j := 1) rfl rfl rfl) (ev_int (md := .sh))) (evb_set ok (i := 6) (j := 6) rfl rfl (wkX hX rfl) .sh (ev_ixQ ok.toOk sq_l (ev_ofL (evl_lstN (n := 3) (lnS (lnS (lnS ln0))) (by decide) (evs_cons (ev_int (md := .sh)) (evs_cons (ev_int (md := .sh)) (evs_cons (ev_int (md := .sh)) evs_nil))))) (ev_modC (md' := .sh) ok.toOk (by decide) (ev_vsh ok.toOk (i := 2) (j := 2) rfl rfl rfl) (ev_int (md := .sh)))) fun length9 => (evb_unpinL (i := 0) rfl (evb_lit (L' := [(sA (vs.headD .non) (wHl (waCons (wL (wV tInt)) (waCons (wL (wV (tList tInt))) (waCons (wL (wV tInt)) waNil)))) lists1), (sV false tInt way2), (sV false tInt number3), (sAt ws5 0), (sAt ws5 1), (sAt ws5 2), (sV false tInt length9), sAny]) rfl (evb_case (LF := (fun (w_ : Int) => [(sA (vs.headD .non) (wHl (waCons (wL (wV tInt)) (waCons (wL (wV (tList tInt))) (waCons (wL (wV tInt)) waNil)))) lists1), (sV false tInt w_), (sV false tInt number3), (sAt ws5 0), (sAt ws5 1), (sAt ws5 2), (sV false tInt length9), sAny])) (evb_setOwn (i := 0) (jy := 0) ok .z rfl rfl rfl (.inl (wkX hX rfl)) (evn_l (evl_borrowP (i := 0) flInt rfl (evl_call (md' := .sh) ok.toOk (fn__law_of_length X) (by decide) (j := 0) rfl .sh (eva_cons (md := .sh) (ev_hlIx (n := 0) ok.toOk .z (ev_vsh ok.toOk (i := 0) (j := 0) rfl rfl rfl) (ev_vsh ok.toOk (i := 1) (j := 1) rfl rfl rfl)) (eva_cons (md := .sh) (ev_vsh ok.toOk (i := 6) (j := 6) rfl rfl rfl) eva_nil))))) (ev_vsh ok.toOk (i := 1) (j := 1) rfl rfl rfl) fun y48 => (evb_nx (by rfl) (Wk.s (Wk.a (Wk.a (Wk.a (Wk.a (Wk.a (Wk.a (Wk.s Wk.n)))))))))) (evb_case (LF := (fun (w_ : Int) => [(sA (vs.headD .non) (wHl (waCons (wL (wV tInt)) (waCons (wL (wV (tList tInt))) (waCons (wL (wV tInt)) waNil)))) lists1), (sV false tInt w_), (sV false tInt number3), (sAt ws5 0), (sAt ws5 1), (sAt ws5 2), (sV false tInt length9), sAny])) (evb_setOwn (i := 0) (jy := 0) ok (.s .z) rfl rfl rfl (.inl (wkX hX rfl)) (evn_l (evl_call (md' := .sh) ok.toOk (fn__law_of_length__k2 X) (by decide) (j := 0) rfl .sh (eva_cons (md := .sh) (ev_leaf (evp_hl ok.toOk (.s .z) (evp_name ok.toOk (i := 0) (j := 0) rfl rfl rfl) (ev_vsh ok.toOk (i := 1) (j := 1) rfl rfl rfl))) (eva_cons (md := .sh) (ev_vsh ok.toOk (i := 6) (j := 6) rfl rfl rfl) eva_nil)))) (ev_vsh ok.toOk (i := 1) (j := 1) rfl rfl rfl) fun y40 => (evb_nx (by rfl) (Wk.s (Wk.a (Wk.a (Wk.a (Wk.a (Wk.a (Wk.a (Wk.s Wk.n)))))))))) (evb_case (LF := (fun (w_ : Int) => [(sA (vs.headD .non) (wHl (waCons (wL (wV tInt)) (waCons (wL (wV (tList tInt))) (waCons (wL (wV tInt)) waNil)))) lists1), (sV false tInt w_), (sV false tInt number3), (sAt ws5 0), (sAt ws5 1), (sAt ws5 2), (sV false tInt length9), sAny])) (evb_setOwn (i := 0) (jy := 0) ok (.s (.s .z)) rfl rfl rfl (.inl (wkX hX rfl)) (evn_l (evl_borrowP (i := 0) flInt rfl (evl_call (md' := .sh) ok.toOk (fn__law_of_length X) (by decide) (j := 0) rfl .sh (eva_cons (md := .sh) (ev_hlIx (n := 2) ok.toOk (.s (.s .z)) (ev_vsh ok.toOk (i := 0) (j := 0) rfl rfl rfl) (ev_vsh ok.toOk (i := 1) (j := 1) rfl rfl rfl)) (eva_cons (md := .sh) (ev_vsh ok.toOk (i := 6) (j := 6) rfl rfl rfl) eva_nil))))) (ev_vsh ok.toOk (i := 1) (j := 1) rfl rfl rfl) fun y29 => (evb_nx (by rfl) (Wk.s (Wk.a (Wk.a (Wk.a (Wk.a (Wk.a (Wk.a (Wk.s Wk.n)))))))))) evb_no)))))) (evb_ifl (wkX hX rfl) (evt_look (ac_tr (ac_lend (i := 0) rfl) (ac_tr (ac_see (i := 0) (j := 5) rfl rfl (.s (.s .z))) (ac_tr (ac_see (i := 0) (j := 4) rfl rfl (.s .z)) (ac_tr (ac_see (i := 0) (j := 3) rfl rfl .z) (ac_shut (i := 0) rfl))))) (EvW.t (evw_andP (pureT (m := M.bind (M.ok way2) fun y49 => M.bind (M.ok (3 : Int)) fun y50 => M.ok (decide (y49 = y50))) (evt_c ok.toOk (c_eq s_int) (ev_vsh ok.toOk (i := 1) (j := 1) rfl rfl rfl) (ev_int (md := .sh))) rfl) (pureW (m := M.bind (M.ok lists1.1) fun y51 => M.bind (M.ok []) fun y52 => M.ok (!decide (y51 = y52))) (evw_and1 (evt_c ok.toOk (c_neD ok.toOk (dList dInt) (by decide)) (ev_vsh ok.toOk (i := 3) (j := 3) rfl rfl rfl) (ev_ofL (evl_nil (md := .sh) (S := tInt))))) rfl)))) (evb_qSet ok (wkX hX rfl) (ev_call (md' := .sh) ok.toOk (fn__law_odd X) (by decide) (j := 1) rfl .sh (eva_cons (md := .sh) (ev_divC (md' := .sh) ok.toOk (by decide) (by decide) (ev_vsh ok.toOk (i := 2) (j := 2) rfl rfl rfl) (ev_int (md := .sh))) eva_nil)) (evp_ali ok.toOk (ia := 3) (ja := 3) rfl rfl (i := 0) rfl rfl .z) (ev_look (.inl flInt) (ac_tr (ac_lend (i := 0) rfl) (ac_tr (ac_see (i := 0) (j := 5) rfl rfl (.s (.s .z))) (ac_tr (ac_see (i := 0) (j := 4) rfl rfl (.s .z)) (ac_tr (ac_see (i := 0) (j := 3) rfl rfl .z) (ac_shut (i := 0) rfl))))) (ev_mod (md' := .sh) ok.toOk (ev_divC (md' := .sh) ok.toOk (by decide) (by decide) (ev_vsh ok.toOk (i := 2) (j := 2) rfl rfl rfl) (ev_int (md := .sh))) (ev_lenQ (md' := .sh) ok.toOk sq_l (j := 2) rfl X.g_len (ev_vsh ok.toOk (i := 3) (j := 3) rfl rfl rfl)))) fun lists65 => (evb_unpinL (i := 0) rfl (evb_nx (by rfl) (Wk.s (Wk.a (Wk.a (Wk.a (Wk.a (Wk.a (Wk.s (Wk.s Wk.n))))))))))) (evb_ifl (wkX hX rfl) (evt_look (ac_tr (ac_lend (i := 0) rfl) (ac_tr (ac_see (i := 0) (j := 5) rfl rfl (.s (.s .z))) (ac_tr (ac_see (i := 0) (j := 4) rfl rfl (.s .z)) (ac_tr (ac_see (i := 0) (j := 3) rfl rfl .z) (ac_shut (i := 0) rfl))))) (EvW.t (evw_andP (pureT (m := M.bind (M.ok way2) fun y68 => M.bind (M.ok (7 : Int)) fun y69 => M.ok (decide (y68 < y69))) (evt_c ok.toOk c_lt (ev_vsh ok.toOk (i := 1) (j := 1) rfl rfl rfl) (ev_int (md := .sh))) rfl) (pureW (m := M.bind (M.ok lists1.2.1) fun y70 => M.bind (M.ok []) fun y71 => M.ok (!decide (y70 = y71))) (evw_and1 (evt_c ok.toOk (c_neD ok.toOk (dList (dList dInt)) (by decide)) (ev_vsh ok.toOk (i := 4) (j := 4) rfl rfl rfl) (ev_ofL (evl_nil (md := .sh) (S := (tList tInt)))))) rfl)))) (evb_set ok (i := 7) (j := 7) rfl rfl (wkX hX rfl) .sh (ev_look (.inl flInt) (ac_tr (ac_lend (i := 0) rfl) (ac_tr (ac_see (i := 0) (j := 5) rfl rfl (.s (.s .z))) (ac_tr (ac_see (i := 0) (j := 4) rfl rfl (.s .z)) (ac_tr (ac_see (i := 0) (j := 3) rfl rfl .z) (ac_shut (i := 0) rfl))))) (ev_mod (md' := .sh) ok.toOk (ev_divC (md' := .sh) ok.toOk (by decide) (by decide) (ev_vsh ok.toOk (i := 2) (j := 2) rfl rfl rfl) (ev_int (md := .sh))) (ev_lenQ (md' := .sh) ok.toOk sq_l (j := 2) rfl X.g_len (ev_vsh ok.toOk (i := 4) (j := 4) rfl rfl rfl)))) fun at74 => (evb_qSet ok (wkX hX rfl) (ev_sh (ev_look (.inr rfl) (ac_tr (ac_lend (i := 0) rfl) (ac_tr (ac_see (i := 0) (j := 5) rfl rfl (.s (.s .z))) (ac_tr (ac_see (i := 0) (j := 4) rfl rfl (.s .z)) (ac_tr (ac_see (i := 0) (j := 3) rfl rfl .z) (ac_shut (i := 0) rfl))))) (ev_ofL (evl_flat (md' := .fx) flInt (evl_call (md' := .sh) ok.toOk (fn__law_tie_changed X) (by decide) (j := 3) rfl .sh (eva_cons (md := .sh) (ev_ixQ ok.toOk sq_l (ev_vsh ok.toOk (i := 4) (j := 4) rfl rfl rfl) (ev_vsh ok.toOk (i := 7) (j := 7) rfl rfl rfl)) (eva_cons (md := .sh) (ev_vsh ok.toOk (i := 1) (j := 1) rfl rfl rfl) (eva_cons (md := .sh) (ev_divC (md' := .sh) ok.toOk (by decide) (by decide) (ev_vsh ok.toOk (i := 2) (j := 2) rfl rfl rfl) (ev_int (md := .sh))) eva_nil)))))))) (evp_ali ok.toOk (ia := 4) (ja := 4) rfl rfl (i := 0) rfl rfl (.s .z)) (ev_vsh ok.toOk (i := 7) (j := 7) rfl rfl rfl) fun lists93 => (evb_unpinL (i := 0) rfl (evb_nx (by rfl) (Wk.s (Wk.a (Wk.a (Wk.a (Wk.a (Wk.a (Wk.s (Wk.a Wk.n)))))))))))) (evb_ifl (wkX hX rfl) (evt_look (ac_tr (ac_lend (i := 0) rfl) (ac_tr (ac_see (i := 0) (j := 5) rfl rfl (.s (.s .z))) (ac_tr (ac_see (i := 0) (j := 4) rfl rfl (.s .z)) (ac_tr (ac_see (i := 0) (j := 3) rfl rfl .z) (ac_shut (i := 0) rfl))))) (EvW.t (evw_andP (pureT (m := M.bind (M.ok way2) fun y96 => M.bind (M.ok (7 : Int)) fun y97 => M.ok (decide (y96 = y97))) (evt_c ok.toOk (c_eq s_int) (ev_vsh ok.toOk (i := 1) (j := 1) rfl rfl rfl) (ev_int (md := .sh))) rfl) (pureW (m := M.bind (M.ok lists1.2.2.1) fun y98 => M.bind (M.ok []) fun y99 => M.ok (!decide (y98 = y99))) (evw_and1 (evt_c ok.toOk (c_neD ok.toOk (dList dInt) (by decide)) (ev_vsh ok.toOk (i := 5) (j := 5) rfl rfl rfl) (ev_ofL (evl_nil (md := .sh) (S := tInt))))) rfl)))) (evb_qSet ok (wkX hX rfl) (ev_look (.inl flInt) (ac_tr (ac_lend (i := 0) rfl) (ac_tr (ac_see (i := 0) (j := 5) rfl rfl (.s (.s .z))) (ac_tr (ac_see (i := 0) (j := 4) rfl rfl (.s .z)) (ac_tr (ac_see (i := 0) (j := 3) rfl rfl .z) (ac_shut (i := 0) rfl))))) (ev_ixQ ok.toOk sq_l (ev_ofL (evl_lstN (n := 4) (lnS (lnS (lnS (lnS ln0)))) (by decide) (evs_cons (ev_lenQ (md' := .sh) ok.toOk sq_l (j := 2) rfl X.g_len (ev_vsh ok.toOk (i := 4) (j := 4) rfl rfl rfl)) (evs_cons (ev_neg (md' := .sh) ok.toOk (ev_int (md := .sh))) (evs_cons (ev_neg (md' := .sh) ok.toOk (ev_lenQ (md' := .sh) ok.toOk sq_l (j := 2) rfl X.g_len (ev_vsh ok.toOk (i := 4) (j := 4) rfl rfl rfl))) (evs_cons (ev_call (md' := .sh) ok.toOk (fn__law_odd X) (by decide) (j := 1) rfl .sh (eva_cons (md := .sh) (ev_vsh ok.toOk (i := 2) (j := 2) rfl rfl rfl) eva_nil)) evs_nil)))))) (ev_modC (md' := .sh) ok.toOk (by decide) (ev_divC (md' := .sh) ok.toOk (by decide) (by decide) (ev_vsh ok.toOk (i := 2) (j := 2) rfl rfl rfl) (ev_int (md := .sh))) (ev_int (md := .sh))))) (evp_ali ok.toOk (ia := 5) (ja := 5) rfl rfl (i := 0) rfl rfl (.s (.s .z))) (ev_look (.inl flInt) (ac_tr (ac_lend (i := 0) rfl) (ac_tr (ac_see (i := 0) (j := 5) rfl rfl (.s (.s .z))) (ac_tr (ac_see (i := 0) (j := 4) rfl rfl (.s .z)) (ac_tr (ac_see (i := 0) (j := 3) rfl rfl .z) (ac_shut (i := 0) rfl))))) (ev_mod (md' := .sh) ok.toOk (ev_divC (md' := .sh) ok.toOk (by decide) (by decide) (ev_vsh ok.toOk (i := 2) (j := 2) rfl rfl rfl) (ev_int (md := .sh))) (ev_lenQ (md' := .sh) ok.toOk sq_l (j := 2) rfl X.g_len (ev_vsh ok.toOk (i := 5) (j := 5) rfl rfl rfl)))) fun lists131 => (evb_unpinL (i := 0) rfl (evb_nx (by rfl) (Wk.s (Wk.a (Wk.a (Wk.a (Wk.a (Wk.a (Wk.s (Wk.s Wk.n))))))))))) (evb_unpinL (i := 0) rfl (evb_nx (by rfl) (Wk.s (Wk.a (Wk.a (Wk.a (Wk.a (Wk.a (Wk.s (Wk.s Wk.n))))))))))))))))))
theorem fn__law_changed {p : Pr} (X : Facts p) : Fn p 3 "_law_changed" ["lists", "way", "number"] (spX p (waCons (wHl (waCons (wL (wV tInt)) (waCons (wL (wV (tList tInt))) (waCons (wL (wV tInt)) waNil)))) (waCons (wV tInt) (waCons (wV tInt) waNil))) (fun (d : (((List Int) × (List (List Int)) × (List Int) × Unit) × (Int × (Int × Unit)))) (w : (((List Int) × (List (List Int)) × (List Int) × Unit) × Unit)) => (w.1, (fun (d : (Int × (Int × Unit))) (w : Unit) => (d.1, (fun (d : (Int × Unit)) (w : Unit) => (d.1, (fun (d : Unit) (_ : Unit) => d) d.2 w)) d.2 w)) d.2 w.2)) (wV tNone) false c__law_changed) := by
  obtain ⟨f, fd, hF, hm⟩ := X.d__law_changed
  exact ⟨f, fd, eq__law_changed ▸ fn_X (D' := fun vs (r : (Unit × (((List Int) × (List (List Int)) × (List Int) × Unit) × Unit))) => .nx [(sA (vs.headD .non) (wHl (waCons (wL (wV tInt)) (waCons (wL (wV (tList tInt))) (waCons (wL (wV tInt)) waNil)))) r.2.1), sAny, sAny, sAny, sAny, sAny, sAny, sAny]) (kx := false) (m := 5) hF sc__law_changed (.ow (.sh (.sh .nil))) rfl rfl (fun r vs fm Q h => x_nx h) (fun vs g ok d hX => bb__law_changed X ok vs d.1 d.2.1 d.2.2.1 hX), hm, hF.kp, hF.bindsN fun _ _ _ _ _ _ us hl => match us, hl with | [_, _, _], _ => rfl⟩
abbrev s_tie_rises : Stmt := (topS 6)
abbrev N_tie_rises : List Str := ["tie", "last", "shaft"]
abbrev V_tie_rises : List Str := ["tie", "last", "shaft"]
abbrev G_tie_rises : List Str := ["MOST_IN_DRAFT"]
theorem sc_tie_rises : Sc s_tie_rises N_tie_rises V_tie_rises ["tie"] G_tie_rises := ⟨⟨rfl, rfl, rfl, by decide +kernel, rfl, by decide +kernel, by decide +kernel⟩, by decide +kernel, by decide +kernel, by decide +kernel⟩
def r_f_tie_rises_l1  : (Int) → Int → M (Fl (Int) Bool) := fun s4 shaft5 => M.bind (M.ok ((decide (shaft5 ≤ s4)) || (decide ((40 : Int) ≤ shaft5)))) fun c11 => if c11 = true then M.bind (M.ok false) fun r12 => M.ok (Fl.rt r12) else M.bind (M.ok shaft5) fun last13 => M.ok (Fl.nx last13)
def f_tie_rises_l1  : (Int) → Int → M (Fl (Int) Bool) := fun s4 shaft5 => if ((decide (shaft5 ≤ s4)) || (decide ((40 : Int) ≤ shaft5))) = true then M.ok (Fl.rt false) else let last13 : Int := shaft5; M.ok (Fl.nx last13)
theorem eq_f_tie_rises_l1  : r_f_tie_rises_l1  = f_tie_rises_l1  := by funext s4 shaft5; first | (simp only [r_f_tie_rises_l1, f_tie_rises_l1, M.bind_assoc, M.bok]; done) | (simp only [r_f_tie_rises_l1, f_tie_rises_l1, M.bind_assoc, M.bok]; rfl)
def q_tie_rises (tie1 : (List Int)) : M Bool := M.bind (M.bind (M.ok (1 : Int)) fun y3 => M.ok (-y3)) fun last2 => M.bind (M.ok tie1) fun xs15 => M.bind (forF r_f_tie_rises_l1 last2 xs15) (Fl.el (fun (s16 : (Int)) => M.ok true) fun r18 => M.ok r18)
def f_tie_rises (tie1 : (List Int)) : M Bool := let last2 : Int := (-(1 : Int)); M.bind (forF f_tie_rises_l1 last2 tie1) (Fl.el (fun (s16 : (Int)) => M.ok true) fun r18 => M.ok r18)
def r_tie_rises (d : ((List Int) × Unit)) : M Bool := q_tie_rises d.1
def c_tie_rises (d : ((List Int) × Unit)) : M Bool := f_tie_rises d.1
theorem eq_tie_rises : r_tie_rises = c_tie_rises := by funext d; first | (simp only [r_tie_rises, c_tie_rises, q_tie_rises, f_tie_rises, M.bind_assoc, M.bok, eq_f_tie_rises_l1]; done) | (simp only [r_tie_rises, c_tie_rises, q_tie_rises, f_tie_rises, M.bind_assoc, M.bok, eq_f_tie_rises_l1]; rfl)
theorem bb_tie_rises {p : Pr} (X : Facts p) {g : G} (ok : OkS p (defScope s_tie_rises) N_tie_rises V_tie_rises G_tie_rises 0 g) (hX : g.LX = List.replicate N_tie_rises.length sAny) (tie1 : (List Int)) : EvB g [(sV false (tList tInt) tie1), sAny, sAny] (defBody s_tie_rises) (fun r => .rt false tBool r) (q_tie_rises tie1) := (evb_set ok (i := 1) (j := 1) rfl rfl (wkX hX rfl) .sh (ev_neg (md' := .sh) ok.toOk (ev_int (md := .sh))) fun last2 => (evb_forF (LF := (fun (s4 : (Int)) => [(sV false (tList tInt) tie1), (sV false tInt s4), sAny])) (s0 := last2) (dr := fun r18 => r18) ok (wkX hX rfl) (evi_seq ok.toOk sq_l (ev_vsh ok.toOk (i := 0) (j := 0) rfl rfl rfl)) (Wk.s (Wk.s (Wk.s Wk.n))) (fun _ => evg_name ok (i := 2) (j := 2) rfl rfl) (fun s4 shaft5 => (evb_ifx (wkX hX rfl) (EvW.t (evw_orP (pureT (m := M.bind (M.ok shaft5) fun y6 => M.bind (M.ok s4) fun y7 => M.ok (decide (y6 ≤ y7))) (evt_c ok.toOk c_le (ev_vsh ok.toOk (i := 2) (j := 2) rfl rfl rfl) (ev_vsh ok.toOk (i := 1) (j := 1) rfl rfl rfl)) rfl) (pureW (m := M.bind (M.ok shaft5) fun y8 => M.bind (M.ok (40 : Int)) fun y9 => M.ok (decide (y9 ≤ y8))) (evw_or1 (evt_c ok.toOk c_ge (ev_vsh ok.toOk (i := 2) (j := 2) rfl rfl rfl) (ev_gint (md := .sh) ok.toOk (j := 0) rfl X.c_MOST_IN_DRAFT))) rfl))) (evb_retF (mk := fun r12 => Fl.rt r12) (wkX hX rfl) .sh (by intro _; rfl) (ev_bool (md := .sh))) (evb_set ok (i := 1) (j := 1) rfl rfl (wkX hX rfl) .sh (ev_vsh ok.toOk (i := 2) (j := 2) rfl rfl rfl) fun last13 => (evb_go (by rfl) (Wk.s (Wk.s (Wk.a Wk.n))))))) fun s16 => (evb_ret (wkX hX rfl) .sh (by intro _; rfl) (ev_bool (md := .sh)))))
theorem b_tie_rises {p : Pr} (X : Facts p) : Body p s_tie_rises N_tie_rises V_tie_rises G_tie_rises 0 (fun (d : ((List Int) × Unit)) => [(sV false (tList tInt) d.1), sAny, sAny]) (fun r => .rt false tBool r) r_tie_rises := fun g ok hX d => bb_tie_rises X ok hX d.1
theorem fn_tie_rises {p : Pr} (X : Facts p) : Fn p 1 "tie_rises" ["tie"] (spM p (aCons (tList tInt) aNil) (fun r => .rt false tBool r) c_tie_rises) := by
  obtain ⟨f, fd, hF, hm⟩ := X.d_tie_rises
  exact ⟨f, fd, eq_tie_rises ▸ fn_rt (m := 2) hF sc_tie_rises (.cons .nil) rfl rfl (b_tie_rises X), hm, hF.kp, hF.bindsN fun _ _ _ _ _ _ us hl => match us, hl with | [_], _ => rfl⟩
abbrev s_lists_fit : Stmt := (topS 7)
abbrev N_lists_fit : List Str := ["threading", "ties", "treading", "part", "shaft", "tie", "treadle"]
abbrev V_lists_fit : List Str := ["threading", "ties", "treading", "part", "shaft", "tie", "treadle"]
abbrev G_lists_fit : List Str := ["len", "MOST_IN_DRAFT", "tie_rises"]
theorem sc_lists_fit : Sc s_lists_fit N_lists_fit V_lists_fit ["threading", "ties", "treading"] G_lists_fit := ⟨⟨rfl, rfl, rfl, by decide +kernel, rfl, by decide +kernel, by decide +kernel⟩, by decide +kernel, by decide +kernel, by decide +kernel⟩
def r_f_lists_fit_l1  : Unit → Int → M (Fl Unit Bool) := fun s14 part15 => M.bind (M.ok ((decide (part15 < (1 : Int))) || (decide ((40 : Int) < part15)))) fun c23 => if c23 = true then M.bind (M.ok false) fun r24 => M.ok (Fl.rt r24) else M.ok (Fl.nx ())
def f_lists_fit_l1  : Unit → Int → M (Fl Unit Bool) := fun s14 part15 => if ((decide (part15 < (1 : Int))) || (decide ((40 : Int) < part15))) = true then M.ok (Fl.rt false) else M.ok (Fl.nx ())
theorem eq_f_lists_fit_l1  : r_f_lists_fit_l1  = f_lists_fit_l1  := by funext s14 part15; first | (simp only [r_f_lists_fit_l1, f_lists_fit_l1, M.bind_assoc, M.bok, c_tie_rises]; done) | (simp only [r_f_lists_fit_l1, f_lists_fit_l1, M.bind_assoc, M.bok, c_tie_rises]; rfl)
def r_f_lists_fit_l2  : Unit → Int → M (Fl Unit Bool) := fun s28 shaft29 => M.bind (M.ok ((decide (shaft29 < (0 : Int))) || (decide ((40 : Int) ≤ shaft29)))) fun c35 => if c35 = true then M.bind (M.ok false) fun r36 => M.ok (Fl.rt r36) else M.ok (Fl.nx ())
def f_lists_fit_l2  : Unit → Int → M (Fl Unit Bool) := fun s28 shaft29 => if ((decide (shaft29 < (0 : Int))) || (decide ((40 : Int) ≤ shaft29))) = true then M.ok (Fl.rt false) else M.ok (Fl.nx ())
theorem eq_f_lists_fit_l2  : r_f_lists_fit_l2  = f_lists_fit_l2  := by funext s28 shaft29; first | (simp only [r_f_lists_fit_l2, f_lists_fit_l2, M.bind_assoc, M.bok, eq_f_lists_fit_l1, c_tie_rises]; done) | (simp only [r_f_lists_fit_l2, f_lists_fit_l2, M.bind_assoc, M.bok, eq_f_lists_fit_l1, c_tie_rises]; rfl)
def r_f_lists_fit_l3  : Unit → (List Int) → M (Fl Unit Bool) := fun s40 tie41 => M.bind (M.bind (M.bind (M.bind (M.ok tie41) fun y42 => M.bind (M.ok ()) fun y43 => M.ok (y42, y43)) c_tie_rises) fun y45 => M.ok (!y45)) fun c46 => if c46 = true then M.bind (M.ok false) fun r47 => M.ok (Fl.rt r47) else M.ok (Fl.nx ())
def f_lists_fit_l3  : Unit → (List Int) → M (Fl Unit Bool) := fun s40 tie41 => M.bind (M.bind (f_tie_rises tie41) fun y45 => M.ok (!y45)) fun c48 => if c48 = true then M.ok (Fl.rt false) else M.ok (Fl.nx ())
theorem eq_f_lists_fit_l3  : r_f_lists_fit_l3  = f_lists_fit_l3  := by funext s40 tie41; first | (simp only [r_f_lists_fit_l3, f_lists_fit_l3, M.bind_assoc, M.bok, eq_f_lists_fit_l1, eq_f_lists_fit_l2, c_tie_rises]; done) | (simp only [r_f_lists_fit_l3, f_lists_fit_l3, M.bind_assoc, M.bok, eq_f_lists_fit_l1, eq_f_lists_fit_l2, c_tie_rises]; rfl)
def r_f_lists_fit_l4 (ties2 : (List (List Int))) : Unit → Int → M (Fl Unit Bool) := fun s51 treadle52 => M.bind (M.ok ((decide (treadle52 < (0 : Int))) || (decide ((ties2.length : Int) ≤ treadle52)))) fun c59 => if c59 = true then M.bind (M.ok false) fun r60 => M.ok (Fl.rt r60) else M.ok (Fl.nx ())
def f_lists_fit_l4 (ties2 : (List (List Int))) : Unit → Int → M (Fl Unit Bool) := fun s51 treadle52 => if ((decide (treadle52 < (0 : Int))) || (decide ((ties2.length : Int) ≤ treadle52))) = true then M.ok (Fl.rt false) else M.ok (Fl.nx ())
theorem eq_f_lists_fit_l4 (ties2 : (List (List Int))) : r_f_lists_fit_l4 ties2 = f_lists_fit_l4 ties2 := by funext s51 treadle52; first | (simp only [r_f_lists_fit_l4, f_lists_fit_l4, M.bind_assoc, M.bok, eq_f_lists_fit_l1, eq_f_lists_fit_l2, eq_f_lists_fit_l3, c_tie_rises]; done) | (simp only [r_f_lists_fit_l4, f_lists_fit_l4, M.bind_assoc, M.bok, eq_f_lists_fit_l1, eq_f_lists_fit_l2, eq_f_lists_fit_l3, c_tie_rises]; rfl)
def q_lists_fit (threading1 : (List Int)) (ties2 : (List (List Int))) (treading3 : (List Int)) : M Bool := M.bind (M.bind (M.bind (M.ok threading1) fun y8 => M.bind (M.bind (M.ok ties2) fun y6 => M.bind (M.bind (M.ok treading3) fun y4 => M.bind (M.ok ()) fun y5 => M.ok (y4, y5)) fun y7 => M.ok (y6, y7)) fun y9 => M.ok (y8, y9)) fun y13 => M.ok ([(y13.1.length : Int), (y13.2.1.length : Int), (y13.2.2.1.length : Int)])) fun xs26 => M.bind (forF r_f_lists_fit_l1 () xs26) (Fl.el (fun (s27 : Unit) => M.bind (M.ok threading1) fun xs38 => M.bind (forF r_f_lists_fit_l2 () xs38) (Fl.el (fun (s39 : Unit) => M.bind (M.ok ties2) fun xs49 => M.bind (forF r_f_lists_fit_l3 () xs49) (Fl.el (fun (s50 : Unit) => M.bind (M.ok treading3) fun xs62 => M.bind (forF (r_f_lists_fit_l4 ties2) () xs62) (Fl.el (fun (s63 : Unit) => M.ok true) fun r65 => M.ok r65)) fun r66 => M.ok r66)) fun r67 => M.ok r67)) fun r68 => M.ok r68)
def f_lists_fit (threading1 : (List Int)) (ties2 : (List (List Int))) (treading3 : (List Int)) : M Bool := M.bind (forF f_lists_fit_l1 () ([((threading1, ties2, treading3, ()).1.length : Int), ((threading1, ties2, treading3, ()).2.1.length : Int), ((threading1, ties2, treading3, ()).2.2.1.length : Int)])) (Fl.el (fun (s27 : Unit) => M.bind (forF f_lists_fit_l2 () threading1) (Fl.el (fun (s39 : Unit) => M.bind (forF f_lists_fit_l3 () ties2) (Fl.el (fun (s50 : Unit) => M.bind (forF (f_lists_fit_l4 ties2) () treading3) (Fl.el (fun (s63 : Unit) => M.ok true) fun r65 => M.ok r65)) fun r66 => M.ok r66)) fun r67 => M.ok r67)) fun r68 => M.ok r68)
def r_lists_fit (d : ((List Int) × (List (List Int)) × (List Int) × Unit)) : M Bool := q_lists_fit d.1 d.2.1 d.2.2.1
def c_lists_fit (d : ((List Int) × (List (List Int)) × (List Int) × Unit)) : M Bool := f_lists_fit d.1 d.2.1 d.2.2.1
theorem eq_lists_fit : r_lists_fit = c_lists_fit := by funext d; first | (simp only [r_lists_fit, c_lists_fit, q_lists_fit, f_lists_fit, M.bind_assoc, M.bok, eq_f_lists_fit_l1, eq_f_lists_fit_l2, eq_f_lists_fit_l3, eq_f_lists_fit_l4, c_tie_rises]; done) | (simp only [r_lists_fit, c_lists_fit, q_lists_fit, f_lists_fit, M.bind_assoc, M.bok, eq_f_lists_fit_l1, eq_f_lists_fit_l2, eq_f_lists_fit_l3, eq_f_lists_fit_l4, c_tie_rises]; rfl)
theorem bb_lists_fit {p : Pr} (X : Facts p) {g : G} (ok : OkS p (defScope s_lists_fit) N_lists_fit V_lists_fit G_lists_fit 1 g) (hX : g.LX = List.replicate N_lists_fit.length sAny) (threading1 : (List Int)) (ties2 : (List (List Int))) (treading3 : (List Int)) : EvB g [(sV false (tList tInt) threading1), (sV false (tList (tList tInt)) ties2), (sV false (tList tInt) treading3), sAny, sAny, sAny, sAny] (defBody s_lists_fit) (fun r => .rt false tBool r) (q_lists_fit threading1 ties2 treading3) := (evb_forF (LF := (fun (s14 : Unit) => [(sV false (tList tInt) threading1), (sV false (tList (tList tInt)) ties2), (sV false (tList tInt) treading3), sAny, sAny, sAny, sAny])) (s0 := ()) (dr := fun r68 => r68) ok (wkX hX rfl) (evi_hlH ok.toOk (homN (homN (homN hom0))) (ev_hl (fun d vs R h => by rw [(lenS (lenS (lenS len0))) h]; decide) (eva_cons (ev_vsh ok.toOk (i := 0) (j := 0) rfl rfl rfl) (eva_cons (ev_vsh ok.toOk (i := 1) (j := 1) rfl rfl rfl) (eva_cons (ev_vsh ok.toOk (i := 2) (j := 2) rfl rfl rfl) eva_nil))))) (Wk.s (Wk.s (Wk.s (Wk.s (Wk.s (Wk.s (Wk.s Wk.n))))))) (fun _ => evg_name ok (i := 3) (j := 3) rfl rfl) (fun s14 part15 => (evb_ifl (wkX hX rfl) (EvW.t (evw_orP (pureT (m := M.bind (M.bind (M.ok part15) fun y16 => M.ok y16) fun y17 => M.bind (M.ok (1 : Int)) fun y18 => M.ok (decide (y17 < y18))) (evt_c ok.toOk c_lt (ev_lenN (md' := .sh) ok.toOk (j := 0) rfl X.g_len (ev_vsh ok.toOk (i := 3) (j := 3) rfl rfl rfl)) (ev_int (md := .sh))) rfl) (pureW (m := M.bind (M.bind (M.ok part15) fun y19 => M.ok y19) fun y20 => M.bind (M.ok (40 : Int)) fun y21 => M.ok (decide (y21 < y20))) (evw_or1 (evt_c ok.toOk c_gt (ev_lenN (md' := .sh) ok.toOk (j := 0) rfl X.g_len (ev_vsh ok.toOk (i := 3) (j := 3) rfl rfl rfl)) (ev_gint (md := .sh) ok.toOk (j := 1) rfl X.c_MOST_IN_DRAFT))) rfl))) (evb_retF (mk := fun r24 => Fl.rt r24) (wkX hX rfl) .sh (by intro _; rfl) (ev_bool (md := .sh))) (evb_go (by rfl) (Wk.s (Wk.s (Wk.s (Wk.a (Wk.s (Wk.s (Wk.s Wk.n)))))))))) fun s27 => (evb_forF (LF := (fun (s28 : Unit) => [(sV false (tList tInt) threading1), (sV false (tList (tList tInt)) ties2), (sV false (tList tInt) treading3), sAny, sAny, sAny, sAny])) (s0 := ()) (dr := fun r67 => r67) ok (wkX hX rfl) (evi_seq ok.toOk sq_l (ev_vsh ok.toOk (i := 0) (j := 0) rfl rfl rfl)) (Wk.s (Wk.s (Wk.s (Wk.s (Wk.s (Wk.s (Wk.s Wk.n))))))) (fun _ => evg_name ok (i := 4) (j := 4) rfl rfl) (fun s28 shaft29 => (evb_ifl (wkX hX rfl) (EvW.t (evw_orP (pureT (m := M.bind (M.ok shaft29) fun y30 => M.bind (M.ok (0 : Int)) fun y31 => M.ok (decide (y30 < y31))) (evt_c ok.toOk c_lt (ev_vsh ok.toOk (i := 4) (j := 4) rfl rfl rfl) (ev_int (md := .sh))) rfl) (pureW (m := M.bind (M.ok shaft29) fun y32 => M.bind (M.ok (40 : Int)) fun y33 => M.ok (decide (y33 ≤ y32))) (evw_or1 (evt_c ok.toOk c_ge (ev_vsh ok.toOk (i := 4) (j := 4) rfl rfl rfl) (ev_gint (md := .sh) ok.toOk (j := 1) rfl X.c_MOST_IN_DRAFT))) rfl))) (evb_retF (mk := fun r36 => Fl.rt r36) (wkX hX rfl) .sh (by intro _; rfl) (ev_bool (md := .sh))) (evb_go (by rfl) (Wk.s (Wk.s (Wk.s (Wk.s (Wk.a (Wk.s (Wk.s Wk.n)))))))))) fun s39 => (evb_forF (LF := (fun (s40 : Unit) => [(sV false (tList tInt) threading1), (sV false (tList (tList tInt)) ties2), (sV false (tList tInt) treading3), sAny, sAny, sAny, sAny])) (s0 := ()) (dr := fun r66 => r66) ok (wkX hX rfl) (evi_seq ok.toOk sq_l (ev_vsh ok.toOk (i := 1) (j := 1) rfl rfl rfl)) (Wk.s (Wk.s (Wk.s (Wk.s (Wk.s (Wk.s (Wk.s Wk.n))))))) (fun _ => evg_name ok (i := 5) (j := 5) rfl rfl) (fun s40 tie41 => (evb_ifl (wkX hX rfl) (evt_not (evt_of (ev_call (md' := .sh) ok.toOk (fn_tie_rises X) (by decide) (j := 2) rfl .sh (eva_cons (md := .sh) (ev_vsh ok.toOk (i := 5) (j := 5) rfl rfl rfl) eva_nil)))) (evb_retF (mk := fun r47 => Fl.rt r47) (wkX hX rfl) .sh (by intro _; rfl) (ev_bool (md := .sh))) (evb_go (by rfl) (Wk.s (Wk.s (Wk.s (Wk.s (Wk.s (Wk.a (Wk.s Wk.n)))))))))) fun s50 => (evb_forF (LF := (fun (s51 : Unit) => [(sV false (tList tInt) threading1), (sV false (tList (tList tInt)) ties2), (sV false (tList tInt) treading3), sAny, sAny, sAny, sAny])) (s0 := ()) (dr := fun r65 => r65) ok (wkX hX rfl) (evi_seq ok.toOk sq_l (ev_vsh ok.toOk (i := 2) (j := 2) rfl rfl rfl)) (Wk.s (Wk.s (Wk.s (Wk.s (Wk.s (Wk.s (Wk.s Wk.n))))))) (fun _ => evg_name ok (i := 6) (j := 6) rfl rfl) (fun s51 treadle52 => (evb_ifl (wkX hX rfl) (EvW.t (evw_orP (pureT (m := M.bind (M.ok treadle52) fun y53 => M.bind (M.ok (0 : Int)) fun y54 => M.ok (decide (y53 < y54))) (evt_c ok.toOk c_lt (ev_vsh ok.toOk (i := 6) (j := 6) rfl rfl rfl) (ev_int (md := .sh))) rfl) (pureW (m := M.bind (M.ok treadle52) fun y56 => M.bind (M.bind (M.ok ties2) fun y55 => M.ok (y55.length : Int)) fun y57 => M.ok (decide (y57 ≤ y56))) (evw_or1 (evt_c ok.toOk c_ge (ev_vsh ok.toOk (i := 6) (j := 6) rfl rfl rfl) (ev_lenQ (md' := .sh) ok.toOk sq_l (j := 0) rfl X.g_len (ev_vsh ok.toOk (i := 1) (j := 1) rfl rfl rfl)))) rfl))) (evb_retF (mk := fun r60 => Fl.rt r60) (wkX hX rfl) .sh (by intro _; rfl) (ev_bool (md := .sh))) (evb_go (by rfl) (Wk.s (Wk.s (Wk.s (Wk.s (Wk.s (Wk.s (Wk.a Wk.n)))))))))) fun s63 => (evb_ret (wkX hX rfl) .sh (by intro _; rfl) (ev_bool (md := .sh)))))))
theorem b_lists_fit {p : Pr} (X : Facts p) : Body p s_lists_fit N_lists_fit V_lists_fit G_lists_fit 1 (fun (d : ((List Int) × (List (List Int)) × (List Int) × Unit)) => [(sV false (tList tInt) d.1), (sV false (tList (tList tInt)) d.2.1), (sV false (tList tInt) d.2.2.1), sAny, sAny, sAny, sAny]) (fun r => .rt false tBool r) r_lists_fit := fun g ok hX d => bb_lists_fit X ok hX d.1 d.2.1 d.2.2.1
theorem fn_lists_fit {p : Pr} (X : Facts p) : Fn p 2 "lists_fit" ["threading", "ties", "treading"] (spM p (aCons (tList tInt) (aCons (tList (tList tInt)) (aCons (tList tInt) aNil))) (fun r => .rt false tBool r) c_lists_fit) := by
  obtain ⟨f, fd, hF, hm⟩ := X.d_lists_fit
  exact ⟨f, fd, eq_lists_fit ▸ fn_rt (m := 4) hF sc_lists_fit (.cons (.cons (.cons .nil))) rfl rfl (b_lists_fit X), hm, hF.kp, hF.bindsN fun _ _ _ _ _ _ us hl => match us, hl with | [_, _, _], _ => rfl⟩
abbrev s_Draft_init : Stmt := ((clsBody (topS 8)).getD 0 (.Pass ⟨0, 0, 0, 0⟩))
abbrev N_Draft_init : List Str := ["self", "threading", "ties", "treading", "tie"]
abbrev V_Draft_init : List Str := ["self", "threading", "ties", "treading"]
abbrev G_Draft_init : List Str := ["lists_fit", "list", "NoDraft"]
theorem sc_Draft_init : Sc s_Draft_init N_Draft_init V_Draft_init ["self", "threading", "ties", "treading"] G_Draft_init := ⟨⟨rfl, rfl, rfl, by decide +kernel, rfl, by decide +kernel, by decide +kernel⟩, by decide +kernel, by decide +kernel, by decide +kernel⟩
def q_Draft_init (threading1 : (List Int)) (ties2 : (List (List Int))) (treading3 : (List Int)) : M O_Draft := M.bind (M.bind (M.bind (M.bind (M.ok threading1) fun y8 => M.bind (M.bind (M.ok ties2) fun y6 => M.bind (M.bind (M.ok treading3) fun y4 => M.bind (M.ok ()) fun y5 => M.ok (y4, y5)) fun y7 => M.ok (y6, y7)) fun y9 => M.ok (y8, y9)) c_lists_fit) fun y13 => M.ok (!y13)) fun c21 => if c21 = true then M.ex .noDraft else M.bind (M.ok threading1) fun fthreading14 => M.bind (M.bind (M.ok ties2) fun xs18 => compM (fun tie15 => M.bind (M.ok true) fun c16 => if c16 = true then M.bind (M.ok tie15) fun y17 => M.ok (some y17) else M.ok none) xs18) fun fties19 => M.bind (M.ok treading3) fun ftreading20 => M.ok (fthreading14, fties19, ftreading20, ())
def f_Draft_init (threading1 : (List Int)) (ties2 : (List (List Int))) (treading3 : (List Int)) : M O_Draft := M.bind (M.bind (f_lists_fit threading1 ties2 treading3) fun y13 => M.ok (!y13)) fun c22 => if c22 = true then M.ex .noDraft else let fthreading14 : (List Int) := threading1; M.bind (compM (fun tie15 => M.ok (some tie15)) ties2) fun fties19 => let ftreading20 : (List Int) := treading3; M.ok (fthreading14, fties19, ftreading20, ())
def r_Draft_init (d : ((List Int) × (List (List Int)) × (List Int) × Unit)) : M O_Draft := q_Draft_init d.1 d.2.1 d.2.2.1
def c_Draft_init (d : ((List Int) × (List (List Int)) × (List Int) × Unit)) : M O_Draft := f_Draft_init d.1 d.2.1 d.2.2.1
theorem eq_Draft_init : r_Draft_init = c_Draft_init := by funext d; first | (simp only [r_Draft_init, c_Draft_init, q_Draft_init, f_Draft_init, M.bind_assoc, M.bok, c_lists_fit]; done) | (simp only [r_Draft_init, c_Draft_init, q_Draft_init, f_Draft_init, M.bind_assoc, M.bok, c_lists_fit]; rfl)
theorem bb_Draft_init {p : Pr} (X : Facts p) {g : G} (ok : OkS p (defScope s_Draft_init) N_Draft_init V_Draft_init G_Draft_init 2 g) (hX : g.LX = List.replicate N_Draft_init.length sAny) (x0 : Addr) (threading1 : (List Int)) (ties2 : (List (List Int))) (treading3 : (List Int)) : EvB g (sSelf x0 (cA p "Draft") [] :: ([(sV false (tList tInt) threading1), (sV false (tList (tList tInt)) ties2), (sV false (tList tInt) treading3)] ++ List.replicate 1 sAny)) (defBody s_Draft_init) (fun r => .nx (sSelf x0 (cA p "Draft") (fl_Draft p r) :: List.replicate 4 sAny)) (q_Draft_init threading1 ties2 treading3) := (evb_ifr ok (wkX hX rfl) X.x_NoDraft (jj := 0) (j := 2) rfl (evt_not (evt_of (ev_call (md' := .sh) ok.toOk (fn_lists_fit X) (by decide) (j := 0) rfl .sh (eva_cons (md := .sh) (ev_vsh ok.toOk (i := 1) (j := 1) rfl rfl rfl) (eva_cons (md := .sh) (ev_vsh ok.toOk (i := 2) (j := 2) rfl rfl rfl) (eva_cons (md := .sh) (ev_vsh ok.toOk (i := 3) (j := 3) rfl rfl rfl) eva_nil)))))) (evb_fld ok (wkX hX rfl) (i := 0) (j := 0) rfl rfl rfl X.a_Draft X.n_Draft_threading (nm := []) rfl (by decide +kernel) (by decide) (ev_ofL (evl_copyQ (md := .sh) ok.toOk sq_l (j := 1) rfl X.g_list (ev_vsh ok.toOk (i := 1) (j := 1) rfl rfl rfl))) fun fthreading14 => (evb_fld ok (wkX hX rfl) (i := 0) (j := 0) rfl rfl rfl X.a_Draft X.n_Draft_ties (nm := ["threading"]) rfl (by decide +kernel) (by decide) (ev_ofL (evl_lc (md := .sh) (VV' := ["tie"]) (GG' := ["list"]) (i := 4) ok.toOk (evi_seq ok.toOk sq_l (ev_vsh ok.toOk (i := 2) (j := 2) rfl rfl rfl)) rfl rfl no_any (by decide +kernel) (by decide +kernel) (by decide +kernel) (by decide +kernel) (fun g' okc tie15 => evpts_nil) (fun g' okc tie15 => (ev_ofL (evl_copyQ (md := .sh) okc sq_l (j := 0) rfl X.g_list (ev_vsh okc (i := 4) (j := 0) rfl rfl rfl)))))) fun fties19 => (evb_fld ok (wkX hX rfl) (i := 0) (j := 0) rfl rfl rfl X.a_Draft X.n_Draft_treading (nm := ["threading", "ties"]) rfl (by decide +kernel) (by decide) (ev_ofL (evl_copyQ (md := .sh) ok.toOk sq_l (j := 1) rfl X.g_list (ev_vsh ok.toOk (i := 3) (j := 3) rfl rfl rfl))) fun ftreading20 => (evb_nx (by rfl) (Wk.s (Wk.a (Wk.a (Wk.a (Wk.s Wk.n))))))))))
theorem mk_Draft_init {p : Pr} (X : Facts p) : MkF p 3 "Draft" ["threading", "ties", "treading"] (spI p (cA p "Draft") (aCons (tList tInt) (aCons (tList (tList tInt)) (aCons (tList tInt) aNil))) (fl_Draft p) c_Draft_init) := by
  obtain ⟨f, fd, hF, hmk, hm⟩ := X.k_Draft_init
  exact ⟨f, fd, eq_Draft_init ▸ fn_init (m := 1) hF sc_Draft_init (.cons (.cons (.cons .nil))) rfl rfl (fun x g ok hX d => bb_Draft_init X ok hX x d.1 d.2.1 d.2.2.1), hmk, hm, hF.bindsN fun _ _ _ _ _ _ us hl => match us, hl with | [_, _, _, _], _ => rfl⟩
abbrev s__law_caught : Stmt := (topS 20)
abbrev N__law_caught : List Str := ["lists", "caught", "draft", "e"]
abbrev V__law_caught : List Str := ["lists", "caught", "draft", "e"]
abbrev G__law_caught : List Str := ["Draft", "NoDraft"]
theorem sc__law_caught : Sc s__law_caught N__law_caught V__law_caught ["lists"] G__law_caught := ⟨⟨rfl, rfl, rfl, by decide +kernel, rfl, by decide +kernel, by decide +kernel⟩, by decide +kernel, by decide +kernel, by decide +kernel⟩
def q__law_caught (lists1 : ((List Int) × (List (List Int)) × (List Int) × Unit)) : M (Option Ec) := M.bind (M.ok none) fun caught2 => M.bind (tryM kn_ .noDraft (M.bind (M.bind (M.bind (M.bind (M.ok lists1) fun y4 => M.ok y4.1) fun y11 => M.bind (M.bind (M.bind (M.ok lists1) fun y5 => M.ok y5.2.1) fun y9 => M.bind (M.bind (M.bind (M.ok lists1) fun y6 => M.ok y6.2.2.1) fun y7 => M.bind (M.ok ()) fun y8 => M.ok (y7, y8)) fun y10 => M.ok (y9, y10)) fun y12 => M.ok (y11, y12)) c_Draft_init) fun draft3 => M.ok caught2) fun e17 => (some e17)) fun (s16 : ((Option Ec))) => M.ok s16
def f_law_caught (lists1 : ((List Int) × (List (List Int)) × (List Int) × Unit)) : M (Option Ec) := let caught2 : (Option Ec) := none; M.bind (tryM kn_ .noDraft (M.bind (f_Draft_init lists1.1 lists1.2.1 lists1.2.2.1) fun draft3 => M.ok caught2) fun e17 => (some e17)) fun (s16 : ((Option Ec))) => M.ok s16
def r__law_caught (d : (((List Int) × (List (List Int)) × (List Int) × Unit) × Unit)) : M (Option Ec) := q__law_caught d.1
def c__law_caught (d : (((List Int) × (List (List Int)) × (List Int) × Unit) × Unit)) : M (Option Ec) := f_law_caught d.1
theorem eq__law_caught : r__law_caught = c__law_caught := by funext d; first | (simp only [r__law_caught, c__law_caught, q__law_caught, f_law_caught, M.bind_assoc, M.bok, c_Draft_init]; done) | (simp only [r__law_caught, c__law_caught, q__law_caught, f_law_caught, M.bind_assoc, M.bok, c_Draft_init]; rfl)
theorem bb__law_caught {p : Pr} (X : Facts p) {g : G} (ok : OkS p (defScope s__law_caught) N__law_caught V__law_caught G__law_caught 4 g) (hX : g.LX = List.replicate N__law_caught.length sAny) (lists1 : ((List Int) × (List (List Int)) × (List Int) × Unit)) : EvB g [(sV false (tHl (aCons (tList tInt) (aCons (tList (tList tInt)) (aCons (tList tInt) aNil)))) lists1), sAny, sAny, sAny] (defBody s__law_caught) (fun r => .rt false (tOpt (tExc p)) r) (q__law_caught lists1) := (evb_set ok (i := 1) (j := 1) rfl rfl (wkX hX rfl) .sh (ev_optN (md := .sh)) fun caught2 => (evb_tryA (LJ := (fun (s16 : ((Option Ec))) => [(sV false (tHl (aCons (tList tInt) (aCons (tList (tList tInt)) (aCons (tList tInt) aNil)))) lists1), (sV false (tOpt (tExc p)) s16), sAny, sAny])) (h := fun e17 => (some e17)) ok (wkX hX rfl) X.kn (by decide) X.x_NoDraft.gP (j := 1) rfl (iE := 3) (iC := 1) (jE := 3) (jC := 1) rfl rfl (by decide +kernel) rfl rfl rfl (fun g' ok hX => (evb_set ok (i := 2) (j := 2) rfl rfl (wkL hX (Wk.s (Wk.s (Wk.s (Wk.s Wk.n))))) .sh (ev_make ok.toOk (mk_Draft_init X) (by decide) (j := 0) rfl (eva_cons (md := .sh) (ev_hlIx (n := 0) ok.toOk .z (ev_vsh ok.toOk (i := 0) (j := 0) rfl rfl rfl) (ev_int (md := .sh))) (eva_cons (md := .sh) (ev_hlIx (n := 1) ok.toOk (.s .z) (ev_vsh ok.toOk (i := 0) (j := 0) rfl rfl rfl) (ev_int (md := .sh))) (eva_cons (md := .sh) (ev_hlIx (n := 2) ok.toOk (.s (.s .z)) (ev_vsh ok.toOk (i := 0) (j := 0) rfl rfl rfl) (ev_int (md := .sh))) eva_nil)))) fun draft3 => (evb_nx (by rfl) (Wk.s (Wk.s (Wk.a (Wk.s Wk.n))))))) (fun e17 => (Wk.s (Wk.s (Wk.s (Wk.s Wk.n))))) fun s16 => (evb_ret (wkX hX rfl) .sh (by intro _; rfl) (ev_vsh ok.toOk (i := 1) (j := 1) rfl rfl rfl))))
theorem b__law_caught {p : Pr} (X : Facts p) : Body p s__law_caught N__law_caught V__law_caught G__law_caught 4 (fun (d : (((List Int) × (List (List Int)) × (List Int) × Unit) × Unit)) => [(sV false (tHl (aCons (tList tInt) (aCons (tList (tList tInt)) (aCons (tList tInt) aNil)))) d.1), sAny, sAny, sAny]) (fun r => .rt false (tOpt (tExc p)) r) r__law_caught := fun g ok hX d => bb__law_caught X ok hX d.1
theorem fn__law_caught {p : Pr} (X : Facts p) : Fn p 5 "_law_caught" ["lists"] (spM p (aCons (tHl (aCons (tList tInt) (aCons (tList (tList tInt)) (aCons (tList tInt) aNil)))) aNil) (fun r => .rt false (tOpt (tExc p)) r) c__law_caught) := by
  obtain ⟨f, fd, hF, hm⟩ := X.d__law_caught
  exact ⟨f, fd, eq__law_caught ▸ fn_rt (m := 3) hF sc__law_caught (.cons .nil) rfl rfl (b__law_caught X), hm, hF.kp, hF.bindsN fun _ _ _ _ _ _ us hl => match us, hl with | [_], _ => rfl⟩
abbrev s__law_fits : Stmt := (topS 19)
abbrev N__law_fits : List Str := ["lists", "part", "shaft", "tie", "k", "treadle"]
abbrev V__law_fits : List Str := ["lists", "part", "shaft", "tie", "k", "treadle"]
abbrev G__law_fits : List Str := ["len", "range"]
theorem sc__law_fits : Sc s__law_fits N__law_fits V__law_fits ["lists"] G__law_fits := ⟨⟨rfl, rfl, rfl, by decide +kernel, rfl, by decide +kernel, by decide +kernel⟩, by decide +kernel, by decide +kernel, by decide +kernel⟩
def r_f_law_fits_l1  : Unit → Int → M (Fl Unit Bool) := fun s3 part4 => M.bind (M.ok ((decide (part4 = (0 : Int))) || (decide ((40 : Int) < part4)))) fun c12 => if c12 = true then M.bind (M.ok false) fun r13 => M.ok (Fl.rt r13) else M.ok (Fl.nx ())
def f_law_fits_l1  : Unit → Int → M (Fl Unit Bool) := fun s3 part4 => if ((decide (part4 = (0 : Int))) || (decide ((40 : Int) < part4))) = true then M.ok (Fl.rt false) else M.ok (Fl.nx ())
theorem eq_f_law_fits_l1  : r_f_law_fits_l1  = f_law_fits_l1  := by funext s3 part4; first | (simp only [r_f_law_fits_l1, f_law_fits_l1, M.bind_assoc, M.bok]; done) | (simp only [r_f_law_fits_l1, f_law_fits_l1, M.bind_assoc, M.bok]; rfl)
def r_f_law_fits_l2  : Unit → Int → M (Fl Unit Bool) := fun s18 shaft19 => M.bind (M.ok ((decide (shaft19 < (0 : Int))) || (decide ((39 : Int) < shaft19)))) fun c25 => if c25 = true then M.bind (M.ok false) fun r26 => M.ok (Fl.rt r26) else M.ok (Fl.nx ())
def f_law_fits_l2  : Unit → Int → M (Fl Unit Bool) := fun s18 shaft19 => if ((decide (shaft19 < (0 : Int))) || (decide ((39 : Int) < shaft19))) = true then M.ok (Fl.rt false) else M.ok (Fl.nx ())
theorem eq_f_law_fits_l2  : r_f_law_fits_l2  = f_law_fits_l2  := by funext s18 shaft19; first | (simp only [r_f_law_fits_l2, f_law_fits_l2, M.bind_assoc, M.bok, eq_f_law_fits_l1]; done) | (simp only [r_f_law_fits_l2, f_law_fits_l2, M.bind_assoc, M.bok, eq_f_law_fits_l1]; rfl)
def r_f_law_fits_l3 (tie32 : (List Int)) : Unit → Int → M (Fl Unit Bool) := fun s35 k36 => M.bind (M.bind (M.bind (M.bind (M.ok tie32) fun y37 => M.bind (M.ok k36) fun y38 => getM y37 y38) fun y39 => M.bind (M.ok (0 : Int)) fun y40 => M.ok (decide (y39 < y40))) fun c45 => if c45 = true then M.ok true else M.bind (M.bind (M.ok tie32) fun y41 => M.bind (M.ok k36) fun y42 => getM y41 y42) fun y43 => M.bind (M.ok (39 : Int)) fun y44 => M.ok (decide (y44 < y43))) fun c47 => if c47 = true then M.bind (M.ok false) fun r48 => M.ok (Fl.rt r48) else M.bind (M.bind (M.bind (M.ok k36) fun y49 => M.bind (M.ok (0 : Int)) fun y50 => M.ok (decide (y50 < y49))) fun c59 => if c59 = true then M.bind (M.bind (M.ok tie32) fun y53 => M.bind (M.bind (M.ok k36) fun y51 => M.bind (M.ok (1 : Int)) fun y52 => M.ok (y51 - y52)) fun y54 => getM y53 y54) fun y57 => M.bind (M.bind (M.ok tie32) fun y55 => M.bind (M.ok k36) fun y56 => getM y55 y56) fun y58 => M.ok (decide (y58 ≤ y57)) else M.ok false) fun c61 => if c61 = true then M.bind (M.ok false) fun r62 => M.ok (Fl.rt r62) else M.ok (Fl.nx ())
def f_law_fits_l3 (tie32 : (List Int)) : Unit → Int → M (Fl Unit Bool) := fun s35 k36 => M.bind (M.bind (M.bind (getM tie32 k36) fun y39 => M.ok (decide (y39 < (0 : Int)))) fun c46 => if c46 = true then M.ok true else M.bind (getM tie32 k36) fun y43 => M.ok (decide ((39 : Int) < y43))) fun c64 => if c64 = true then M.ok (Fl.rt false) else M.bind (if (decide ((0 : Int) < k36)) = true then M.bind (getM tie32 (k36 - (1 : Int))) fun y57 => M.bind (getM tie32 k36) fun y58 => M.ok (decide (y58 ≤ y57)) else M.ok false) fun c63 => if c63 = true then M.ok (Fl.rt false) else M.ok (Fl.nx ())
theorem eq_f_law_fits_l3 (tie32 : (List Int)) : r_f_law_fits_l3 tie32 = f_law_fits_l3 tie32 := by funext s35 k36; first | (simp only [r_f_law_fits_l3, f_law_fits_l3, M.bind_assoc, M.bok, eq_f_law_fits_l1, eq_f_law_fits_l2]; done) | (simp only [r_f_law_fits_l3, f_law_fits_l3, M.bind_assoc, M.bok, eq_f_law_fits_l1, eq_f_law_fits_l2]; rfl)
def r_f_law_fits_l4  : Unit → (List Int) → M (Fl Unit Bool) := fun s31 tie32 => M.bind (M.bind (M.bind (M.ok tie32) fun y33 => M.ok (y33.length : Int)) fun y34 => rangeM 0 y34) fun xs65 => M.bind (forF (r_f_law_fits_l3 tie32) () xs65) (Fl.el (fun (s66 : Unit) => M.ok (Fl.nx ())) fun r67 => M.ok (Fl.rt r67))
def f_law_fits_l4  : Unit → (List Int) → M (Fl Unit Bool) := fun s31 tie32 => M.bind (rangeM 0 (tie32.length : Int)) fun xs65 => M.bind (forF (f_law_fits_l3 tie32) () xs65) (Fl.el (fun (s66 : Unit) => M.ok (Fl.nx ())) fun r67 => M.ok (Fl.rt r67))
theorem eq_f_law_fits_l4  : r_f_law_fits_l4  = f_law_fits_l4  := by funext s31 tie32; first | (simp only [r_f_law_fits_l4, f_law_fits_l4, M.bind_assoc, M.bok, eq_f_law_fits_l1, eq_f_law_fits_l2, eq_f_law_fits_l3]; done) | (simp only [r_f_law_fits_l4, f_law_fits_l4, M.bind_assoc, M.bok, eq_f_law_fits_l1, eq_f_law_fits_l2, eq_f_law_fits_l3]; rfl)
def r_f_law_fits_l5 (lists1 : ((List Int) × (List (List Int)) × (List Int) × Unit)) : Unit → Int → M (Fl Unit Bool) := fun s71 treadle72 => M.bind (M.ok ((decide (treadle72 < (0 : Int))) || (decide ((lists1.2.1.length : Int) ≤ treadle72)))) fun c80 => if c80 = true then M.bind (M.ok false) fun r81 => M.ok (Fl.rt r81) else M.ok (Fl.nx ())
def f_law_fits_l5 (lists1 : ((List Int) × (List (List Int)) × (List Int) × Unit)) : Unit → Int → M (Fl Unit Bool) := fun s71 treadle72 => if ((decide (treadle72 < (0 : Int))) || (decide ((lists1.2.1.length : Int) ≤ treadle72))) = true then M.ok (Fl.rt false) else M.ok (Fl.nx ())
theorem eq_f_law_fits_l5 (lists1 : ((List Int) × (List (List Int)) × (List Int) × Unit)) : r_f_law_fits_l5 lists1 = f_law_fits_l5 lists1 := by funext s71 treadle72; first | (simp only [r_f_law_fits_l5, f_law_fits_l5, M.bind_assoc, M.bok, eq_f_law_fits_l1, eq_f_law_fits_l2, eq_f_law_fits_l3, eq_f_law_fits_l4]; done) | (simp only [r_f_law_fits_l5, f_law_fits_l5, M.bind_assoc, M.bok, eq_f_law_fits_l1, eq_f_law_fits_l2, eq_f_law_fits_l3, eq_f_law_fits_l4]; rfl)
def q__law_fits (lists1 : ((List Int) × (List (List Int)) × (List Int) × Unit)) : M Bool := M.bind (M.bind (M.ok lists1) fun y2 => M.ok ([(y2.1.length : Int), (y2.2.1.length : Int), (y2.2.2.1.length : Int)])) fun xs15 => M.bind (forF r_f_law_fits_l1 () xs15) (Fl.el (fun (s16 : Unit) => M.bind (M.bind (M.ok lists1) fun y17 => M.ok y17.1) fun xs28 => M.bind (forF r_f_law_fits_l2 () xs28) (Fl.el (fun (s29 : Unit) => M.bind (M.bind (M.ok lists1) fun y30 => M.ok y30.2.1) fun xs68 => M.bind (forF r_f_law_fits_l4 () xs68) (Fl.el (fun (s69 : Unit) => M.bind (M.bind (M.ok lists1) fun y70 => M.ok y70.2.2.1) fun xs83 => M.bind (forF (r_f_law_fits_l5 lists1) () xs83) (Fl.el (fun (s84 : Unit) => M.ok true) fun r86 => M.ok r86)) fun r87 => M.ok r87)) fun r88 => M.ok r88)) fun r89 => M.ok r89)
def f_law_fits (lists1 : ((List Int) × (List (List Int)) × (List Int) × Unit)) : M Bool := M.bind (forF f_law_fits_l1 () ([(lists1.1.length : Int), (lists1.2.1.length : Int), (lists1.2.2.1.length : Int)])) (Fl.el (fun (s16 : Unit) => M.bind (forF f_law_fits_l2 () lists1.1) (Fl.el (fun (s29 : Unit) => M.bind (forF f_law_fits_l4 () lists1.2.1) (Fl.el (fun (s69 : Unit) => M.bind (forF (f_law_fits_l5 lists1) () lists1.2.2.1) (Fl.el (fun (s84 : Unit) => M.ok true) fun r86 => M.ok r86)) fun r87 => M.ok r87)) fun r88 => M.ok r88)) fun r89 => M.ok r89)
def r__law_fits (d : (((List Int) × (List (List Int)) × (List Int) × Unit) × Unit)) : M Bool := q__law_fits d.1
def c__law_fits (d : (((List Int) × (List (List Int)) × (List Int) × Unit) × Unit)) : M Bool := f_law_fits d.1
theorem eq__law_fits : r__law_fits = c__law_fits := by funext d; first | (simp only [r__law_fits, c__law_fits, q__law_fits, f_law_fits, M.bind_assoc, M.bok, eq_f_law_fits_l1, eq_f_law_fits_l2, eq_f_law_fits_l3, eq_f_law_fits_l4, eq_f_law_fits_l5]; done) | (simp only [r__law_fits, c__law_fits, q__law_fits, f_law_fits, M.bind_assoc, M.bok, eq_f_law_fits_l1, eq_f_law_fits_l2, eq_f_law_fits_l3, eq_f_law_fits_l4, eq_f_law_fits_l5]; rfl)
theorem bb__law_fits {p : Pr} (X : Facts p) {g : G} (ok : OkS p (defScope s__law_fits) N__law_fits V__law_fits G__law_fits 0 g) (hX : g.LX = List.replicate N__law_fits.length sAny) (lists1 : ((List Int) × (List (List Int)) × (List Int) × Unit)) : EvB g [(sV false (tHl (aCons (tList tInt) (aCons (tList (tList tInt)) (aCons (tList tInt) aNil)))) lists1), sAny, sAny, sAny, sAny, sAny] (defBody s__law_fits) (fun r => .rt false tBool r) (q__law_fits lists1) := (evb_forF (LF := (fun (s3 : Unit) => [(sV false (tHl (aCons (tList tInt) (aCons (tList (tList tInt)) (aCons (tList tInt) aNil)))) lists1), sAny, sAny, sAny, sAny, sAny])) (s0 := ()) (dr := fun r89 => r89) ok (wkX hX rfl) (evi_hlH ok.toOk (homN (homN (homN hom0))) (ev_vsh ok.toOk (i := 0) (j := 0) rfl rfl rfl)) (Wk.s (Wk.s (Wk.s (Wk.s (Wk.s (Wk.s Wk.n)))))) (fun _ => evg_name ok (i := 1) (j := 1) rfl rfl) (fun s3 part4 => (evb_ifl (wkX hX rfl) (EvW.t (evw_orP (pureT (m := M.bind (M.bind (M.ok part4) fun y5 => M.ok y5) fun y6 => M.bind (M.ok (0 : Int)) fun y7 => M.ok (decide (y6 = y7))) (evt_c ok.toOk (c_eq s_int) (ev_lenN (md' := .sh) ok.toOk (j := 0) rfl X.g_len (ev_vsh ok.toOk (i := 1) (j := 1) rfl rfl rfl)) (ev_int (md := .sh))) rfl) (pureW (m := M.bind (M.bind (M.ok part4) fun y8 => M.ok y8) fun y9 => M.bind (M.ok (40 : Int)) fun y10 => M.ok (decide (y10 < y9))) (evw_or1 (evt_c ok.toOk c_gt (ev_lenN (md' := .sh) ok.toOk (j := 0) rfl X.g_len (ev_vsh ok.toOk (i := 1) (j := 1) rfl rfl rfl)) (ev_int (md := .sh)))) rfl))) (evb_retF (mk := fun r13 => Fl.rt r13) (wkX hX rfl) .sh (by intro _; rfl) (ev_bool (md := .sh))) (evb_go (by rfl) (Wk.s (Wk.a (Wk.s (Wk.s (Wk.s (Wk.s Wk.n))))))))) fun s16 => (evb_forF (LF := (fun (s18 : Unit) => [(sV false (tHl (aCons (tList tInt) (aCons (tList (tList tInt)) (aCons (tList tInt) aNil)))) lists1), sAny, sAny, sAny, sAny, sAny])) (s0 := ()) (dr := fun r88 => r88) ok (wkX hX rfl) (evi_seq ok.toOk sq_l (ev_hlIx (n := 0) ok.toOk .z (ev_vsh ok.toOk (i := 0) (j := 0) rfl rfl rfl) (ev_int (md := .sh)))) (Wk.s (Wk.s (Wk.s (Wk.s (Wk.s (Wk.s Wk.n)))))) (fun _ => evg_name ok (i := 2) (j := 2) rfl rfl) (fun s18 shaft19 => (evb_ifl (wkX hX rfl) (EvW.t (evw_orP (pureT (m := M.bind (M.ok shaft19) fun y20 => M.bind (M.ok (0 : Int)) fun y21 => M.ok (decide (y20 < y21))) (evt_c ok.toOk c_lt (ev_vsh ok.toOk (i := 2) (j := 2) rfl rfl rfl) (ev_int (md := .sh))) rfl) (pureW (m := M.bind (M.ok shaft19) fun y22 => M.bind (M.ok (39 : Int)) fun y23 => M.ok (decide (y23 < y22))) (evw_or1 (evt_c ok.toOk c_gt (ev_vsh ok.toOk (i := 2) (j := 2) rfl rfl rfl) (ev_int (md := .sh)))) rfl))) (evb_retF (mk := fun r26 => Fl.rt r26) (wkX hX rfl) .sh (by intro _; rfl) (ev_bool (md := .sh))) (evb_go (by rfl) (Wk.s (Wk.s (Wk.a (Wk.s (Wk.s (Wk.s Wk.n))))))))) fun s29 => (evb_forF (LF := (fun (s31 : Unit) => [(sV false (tHl (aCons (tList tInt) (aCons (tList (tList tInt)) (aCons (tList tInt) aNil)))) lists1), sAny, sAny, sAny, sAny, sAny])) (s0 := ()) (dr := fun r87 => r87) ok (wkX hX rfl) (evi_seq ok.toOk sq_l (ev_hlIx (n := 1) ok.toOk (.s .z) (ev_vsh ok.toOk (i := 0) (j := 0) rfl rfl rfl) (ev_int (md := .sh)))) (Wk.s (Wk.s (Wk.s (Wk.s (Wk.s (Wk.s Wk.n)))))) (fun _ => evg_name ok (i := 3) (j := 3) rfl rfl) (fun s31 tie32 => (evb_forF (LF := (fun (s35 : Unit) => [(sV false (tHl (aCons (tList tInt) (aCons (tList (tList tInt)) (aCons (tList tInt) aNil)))) lists1), sAny, sAny, (sV false (tList tInt) tie32), sAny, sAny])) (s0 := ()) (dr := fun r67 => Fl.rt r67) ok (wkX hX rfl) (evi_range1 ok.toOk (j := 1) rfl X.g_range (ev_lenQ (md' := .sh) ok.toOk sq_l (j := 0) rfl X.g_len (ev_vsh ok.toOk (i := 3) (j := 3) rfl rfl rfl))) (Wk.s (Wk.s (Wk.s (Wk.s (Wk.s (Wk.s Wk.n)))))) (fun _ => evg_name ok (i := 4) (j := 4) rfl rfl) (fun s35 k36 => (evb_ifx (wkX hX rfl) (EvW.t (evw_or (evt_c ok.toOk c_lt (ev_ixQ ok.toOk sq_l (ev_vsh ok.toOk (i := 3) (j := 3) rfl rfl rfl) (ev_vsh ok.toOk (i := 4) (j := 4) rfl rfl rfl)) (ev_int (md := .sh))) (evw_or1 (evt_c ok.toOk c_gt (ev_ixQ ok.toOk sq_l (ev_vsh ok.toOk (i := 3) (j := 3) rfl rfl rfl) (ev_vsh ok.toOk (i := 4) (j := 4) rfl rfl rfl)) (ev_int (md := .sh)))))) (evb_retF (mk := fun r48 => Fl.rt r48) (wkX hX rfl) .sh (by intro _; rfl) (ev_bool (md := .sh))) (evb_ifl (wkX hX rfl) (EvW.t (evw_and (evt_c ok.toOk c_gt (ev_vsh ok.toOk (i := 4) (j := 4) rfl rfl rfl) (ev_int (md := .sh))) (evw_and1 (evt_c ok.toOk c_ge (ev_ixQ ok.toOk sq_l (ev_vsh ok.toOk (i := 3) (j := 3) rfl rfl rfl) (ev_subt (md' := .sh) ok.toOk (ev_vsh ok.toOk (i := 4) (j := 4) rfl rfl rfl) (ev_int (md := .sh)))) (ev_ixQ ok.toOk sq_l (ev_vsh ok.toOk (i := 3) (j := 3) rfl rfl rfl) (ev_vsh ok.toOk (i := 4) (j := 4) rfl rfl rfl)))))) (evb_retF (mk := fun r62 => Fl.rt r62) (wkX hX rfl) .sh (by intro _; rfl) (ev_bool (md := .sh))) (evb_go (by rfl) (Wk.s (Wk.s (Wk.s (Wk.s (Wk.a (Wk.s Wk.n)))))))))) fun s66 => (evb_go (by rfl) (Wk.s (Wk.s (Wk.s (Wk.a (Wk.s (Wk.s Wk.n))))))))) fun s69 => (evb_forF (LF := (fun (s71 : Unit) => [(sV false (tHl (aCons (tList tInt) (aCons (tList (tList tInt)) (aCons (tList tInt) aNil)))) lists1), sAny, sAny, sAny, sAny, sAny])) (s0 := ()) (dr := fun r86 => r86) ok (wkX hX rfl) (evi_seq ok.toOk sq_l (ev_hlIx (n := 2) ok.toOk (.s (.s .z)) (ev_vsh ok.toOk (i := 0) (j := 0) rfl rfl rfl) (ev_int (md := .sh)))) (Wk.s (Wk.s (Wk.s (Wk.s (Wk.s (Wk.s Wk.n)))))) (fun _ => evg_name ok (i := 5) (j := 5) rfl rfl) (fun s71 treadle72 => (evb_ifl (wkX hX rfl) (EvW.t (evw_orP (pureT (m := M.bind (M.ok treadle72) fun y73 => M.bind (M.ok (0 : Int)) fun y74 => M.ok (decide (y73 < y74))) (evt_c ok.toOk c_lt (ev_vsh ok.toOk (i := 5) (j := 5) rfl rfl rfl) (ev_int (md := .sh))) rfl) (pureW (m := M.bind (M.ok treadle72) fun y77 => M.bind (M.bind (M.bind (M.ok lists1) fun y75 => M.ok y75.2.1) fun y76 => M.ok (y76.length : Int)) fun y78 => M.ok (decide (y78 ≤ y77))) (evw_or1 (evt_c ok.toOk c_ge (ev_vsh ok.toOk (i := 5) (j := 5) rfl rfl rfl) (ev_lenQ (md' := .sh) ok.toOk sq_l (j := 0) rfl X.g_len (ev_hlIx (n := 1) ok.toOk (.s .z) (ev_vsh ok.toOk (i := 0) (j := 0) rfl rfl rfl) (ev_int (md := .sh)))))) rfl))) (evb_retF (mk := fun r81 => Fl.rt r81) (wkX hX rfl) .sh (by intro _; rfl) (ev_bool (md := .sh))) (evb_go (by rfl) (Wk.s (Wk.s (Wk.s (Wk.s (Wk.s (Wk.a Wk.n))))))))) fun s84 => (evb_ret (wkX hX rfl) .sh (by intro _; rfl) (ev_bool (md := .sh)))))))
theorem b__law_fits {p : Pr} (X : Facts p) : Body p s__law_fits N__law_fits V__law_fits G__law_fits 0 (fun (d : (((List Int) × (List (List Int)) × (List Int) × Unit) × Unit)) => [(sV false (tHl (aCons (tList tInt) (aCons (tList (tList tInt)) (aCons (tList tInt) aNil)))) d.1), sAny, sAny, sAny, sAny, sAny]) (fun r => .rt false tBool r) r__law_fits := fun g ok hX d => bb__law_fits X ok hX d.1
theorem fn__law_fits {p : Pr} (X : Facts p) : Fn p 1 "_law_fits" ["lists"] (spM p (aCons (tHl (aCons (tList tInt) (aCons (tList (tList tInt)) (aCons (tList tInt) aNil)))) aNil) (fun r => .rt false tBool r) c__law_fits) := by
  obtain ⟨f, fd, hF, hm⟩ := X.d__law_fits
  exact ⟨f, fd, eq__law_fits ▸ fn_rt (m := 5) hF sc__law_fits (.cons .nil) rfl rfl (b__law_fits X), hm, hF.kp, hF.bindsN fun _ _ _ _ _ _ us hl => match us, hl with | [_], _ => rfl⟩
abbrev s__law_numbers_same : Stmt := (topS 13)
abbrev N__law_numbers_same : List Str := ["found", "due", "k"]
abbrev V__law_numbers_same : List Str := ["found", "due", "k"]
abbrev G__law_numbers_same : List Str := ["list", "isinstance", "len", "range", "int", "bool"]
theorem sc__law_numbers_same : Sc s__law_numbers_same N__law_numbers_same V__law_numbers_same ["found", "due"] G__law_numbers_same := ⟨⟨rfl, rfl, rfl, by decide +kernel, rfl, by decide +kernel, by decide +kernel⟩, by decide +kernel, by decide +kernel, by decide +kernel⟩
def r_f_law_numbers_same_l1 (found1 : (List Int)) (due2 : (List Int)) : Unit → Int → M (Fl Unit Bool) := fun s14 k15 => M.bind (M.bind (M.bind (M.bind (M.bind (M.ok found1) fun y16 => M.bind (M.ok k15) fun y17 => getM y16 y17) fun y18 => M.ok true) fun y19 => M.ok (!y19)) fun c31 => if c31 = true then M.ok true else M.bind (M.bind (M.bind (M.ok found1) fun y20 => M.bind (M.ok k15) fun y21 => getM y20 y21) fun y22 => M.ok false) fun c29 => if c29 = true then M.ok true else M.bind (M.bind (M.ok found1) fun y23 => M.bind (M.ok k15) fun y24 => getM y23 y24) fun y27 => M.bind (M.bind (M.ok due2) fun y25 => M.bind (M.ok k15) fun y26 => getM y25 y26) fun y28 => M.ok (!decide (y27 = y28))) fun c33 => if c33 = true then M.bind (M.ok false) fun r34 => M.ok (Fl.rt r34) else M.ok (Fl.nx ())
def f_law_numbers_same_l1 (found1 : (List Int)) (due2 : (List Int)) : Unit → Int → M (Fl Unit Bool) := fun s14 k15 => M.bind (M.bind (M.bind (M.bind (getM found1 k15) fun y18 => M.ok true) fun y19 => M.ok (!y19)) fun c32 => if c32 = true then M.ok true else M.bind (M.bind (getM found1 k15) fun y22 => M.ok false) fun c30 => if c30 = true then M.ok true else M.bind (getM found1 k15) fun y27 => M.bind (getM due2 k15) fun y28 => M.ok (!decide (y27 = y28))) fun c35 => if c35 = true then M.ok (Fl.rt false) else M.ok (Fl.nx ())
theorem eq_f_law_numbers_same_l1 (found1 : (List Int)) (due2 : (List Int)) : r_f_law_numbers_same_l1 found1 due2 = f_law_numbers_same_l1 found1 due2 := by funext s14 k15; first | (simp only [r_f_law_numbers_same_l1, f_law_numbers_same_l1, M.bind_assoc, M.bok]; done) | (simp only [r_f_law_numbers_same_l1, f_law_numbers_same_l1, M.bind_assoc, M.bok]; rfl)
def q__law_numbers_same (found1 : (List Int)) (due2 : (List Int)) : M Bool := M.bind (M.ok ((!true) || (!decide ((found1.length : Int) = (due2.length : Int))))) fun c10 => if c10 = true then M.ok false else M.bind (M.bind (M.bind (M.ok due2) fun y12 => M.ok (y12.length : Int)) fun y13 => rangeM 0 y13) fun xs36 => M.bind (forF (r_f_law_numbers_same_l1 found1 due2) () xs36) (Fl.el (fun (s37 : Unit) => M.ok true) fun r39 => M.ok r39)
def f_law_numbers_same (found1 : (List Int)) (due2 : (List Int)) : M Bool := if ((!true) || (!decide ((found1.length : Int) = (due2.length : Int)))) = true then M.ok false else M.bind (rangeM 0 (due2.length : Int)) fun xs36 => M.bind (forF (f_law_numbers_same_l1 found1 due2) () xs36) (Fl.el (fun (s37 : Unit) => M.ok true) fun r39 => M.ok r39)
def r__law_numbers_same (d : ((List Int) × (List Int) × Unit)) : M Bool := q__law_numbers_same d.1 d.2.1
def c__law_numbers_same (d : ((List Int) × (List Int) × Unit)) : M Bool := f_law_numbers_same d.1 d.2.1
theorem eq__law_numbers_same : r__law_numbers_same = c__law_numbers_same := by funext d; first | (simp only [r__law_numbers_same, c__law_numbers_same, q__law_numbers_same, f_law_numbers_same, M.bind_assoc, M.bok, eq_f_law_numbers_same_l1]; done) | (simp only [r__law_numbers_same, c__law_numbers_same, q__law_numbers_same, f_law_numbers_same, M.bind_assoc, M.bok, eq_f_law_numbers_same_l1]; rfl)
theorem bb__law_numbers_same {p : Pr} (X : Facts p) {g : G} (ok : OkS p (defScope s__law_numbers_same) N__law_numbers_same V__law_numbers_same G__law_numbers_same 0 g) (hX : g.LX = List.replicate N__law_numbers_same.length sAny) (found1 : (List Int)) (due2 : (List Int)) : EvB g [(sV false (tList tInt) found1), (sV false (tList tInt) due2), sAny] (defBody s__law_numbers_same) (fun r => .rt false tBool r) (q__law_numbers_same found1 due2) := (evb_ifx (wkX hX rfl) (EvW.t (evw_orP (pureT (m := M.bind (M.bind (M.ok found1) fun y3 => M.ok true) fun y4 => M.ok (!y4)) (evt_not (evt_of (ev_isi (md' := .sh) (r := true) ok.toOk (j := 1) rfl X.g_isinstance i_list (by decide +kernel) (ev_vsh ok.toOk (i := 0) (j := 0) rfl rfl rfl) (ev_ty (n := "list") (md := .sh) ok.toOk (j := 0) rfl X.g_list (by decide +kernel))))) rfl) (pureW (m := M.bind (M.bind (M.ok found1) fun y5 => M.ok (y5.length : Int)) fun y7 => M.bind (M.bind (M.ok due2) fun y6 => M.ok (y6.length : Int)) fun y8 => M.ok (!decide (y7 = y8))) (evw_or1 (evt_c ok.toOk (c_ne s_int) (ev_lenQ (md' := .sh) ok.toOk sq_l (j := 2) rfl X.g_len (ev_vsh ok.toOk (i := 0) (j := 0) rfl rfl rfl)) (ev_lenQ (md' := .sh) ok.toOk sq_l (j := 2) rfl X.g_len (ev_vsh ok.toOk (i := 1) (j := 1) rfl rfl rfl)))) rfl))) (evb_ret (wkX hX rfl) .sh (by intro _; rfl) (ev_bool (md := .sh))) (evb_forF (LF := (fun (s14 : Unit) => [(sV false (tList tInt) found1), (sV false (tList tInt) due2), sAny])) (s0 := ()) (dr := fun r39 => r39) ok (wkX hX rfl) (evi_range1 ok.toOk (j := 3) rfl X.g_range (ev_lenQ (md' := .sh) ok.toOk sq_l (j := 2) rfl X.g_len (ev_vsh ok.toOk (i := 1) (j := 1) rfl rfl rfl))) (Wk.s (Wk.s (Wk.s Wk.n))) (fun _ => evg_name ok (i := 2) (j := 2) rfl rfl) (fun s14 k15 => (evb_ifl (wkX hX rfl) (EvW.t (evw_or (evt_not (evt_of (ev_isi (md' := .sh) (r := true) ok.toOk (j := 1) rfl X.g_isinstance i_int (by decide +kernel) (ev_ixQ ok.toOk sq_l (ev_vsh ok.toOk (i := 0) (j := 0) rfl rfl rfl) (ev_vsh ok.toOk (i := 2) (j := 2) rfl rfl rfl)) (ev_ty (n := "int") (md := .sh) ok.toOk (j := 4) rfl X.g_int (by decide +kernel))))) (evw_or (evt_of (ev_isi (md' := .sh) (r := false) ok.toOk (j := 1) rfl X.g_isinstance i_int (by decide +kernel) (ev_ixQ ok.toOk sq_l (ev_vsh ok.toOk (i := 0) (j := 0) rfl rfl rfl) (ev_vsh ok.toOk (i := 2) (j := 2) rfl rfl rfl)) (ev_ty (n := "bool") (md := .sh) ok.toOk (j := 5) rfl X.g_bool (by decide +kernel)))) (evw_or1 (evt_c ok.toOk (c_ne s_int) (ev_ixQ ok.toOk sq_l (ev_vsh ok.toOk (i := 0) (j := 0) rfl rfl rfl) (ev_vsh ok.toOk (i := 2) (j := 2) rfl rfl rfl)) (ev_ixQ ok.toOk sq_l (ev_vsh ok.toOk (i := 1) (j := 1) rfl rfl rfl) (ev_vsh ok.toOk (i := 2) (j := 2) rfl rfl rfl))))))) (evb_retF (mk := fun r34 => Fl.rt r34) (wkX hX rfl) .sh (by intro _; rfl) (ev_bool (md := .sh))) (evb_go (by rfl) (Wk.s (Wk.s (Wk.a Wk.n)))))) fun s37 => (evb_ret (wkX hX rfl) .sh (by intro _; rfl) (ev_bool (md := .sh)))))
theorem b__law_numbers_same {p : Pr} (X : Facts p) : Body p s__law_numbers_same N__law_numbers_same V__law_numbers_same G__law_numbers_same 0 (fun (d : ((List Int) × (List Int) × Unit)) => [(sV false (tList tInt) d.1), (sV false (tList tInt) d.2.1), sAny]) (fun r => .rt false tBool r) r__law_numbers_same := fun g ok hX d => bb__law_numbers_same X ok hX d.1 d.2.1
theorem fn__law_numbers_same {p : Pr} (X : Facts p) : Fn p 1 "_law_numbers_same" ["found", "due"] (spM p (aCons (tList tInt) (aCons (tList tInt) aNil)) (fun r => .rt false tBool r) c__law_numbers_same) := by
  obtain ⟨f, fd, hF, hm⟩ := X.d__law_numbers_same
  exact ⟨f, fd, eq__law_numbers_same ▸ fn_rt (m := 1) hF sc__law_numbers_same (.cons (.cons .nil)) rfl rfl (b__law_numbers_same X), hm, hF.kp, hF.bindsN fun _ _ _ _ _ _ us hl => match us, hl with | [_, _], _ => rfl⟩
abbrev s__law_draft_same : Stmt := (topS 14)
abbrev N__law_draft_same : List Str := ["draft", "threading", "ties", "treading", "k"]
abbrev V__law_draft_same : List Str := ["draft", "threading", "ties", "treading", "k"]
abbrev G__law_draft_same : List Str := ["_law_numbers_same", "list", "isinstance", "len", "range"]
theorem sc__law_draft_same : Sc s__law_draft_same N__law_draft_same V__law_draft_same ["draft", "threading", "ties", "treading"] G__law_draft_same := ⟨⟨rfl, rfl, rfl, by decide +kernel, rfl, by decide +kernel, by decide +kernel⟩, by decide +kernel, by decide +kernel, by decide +kernel⟩
def r_f_law_draft_same_l1 (draft1 : O_Draft) (ties3 : (List (List Int))) : Unit → Int → M (Fl Unit Bool) := fun s38 k39 => M.bind (M.bind (M.bind (M.bind (M.bind (M.bind (M.ok draft1) fun y40 => M.ok y40.2.1) fun y41 => M.bind (M.ok k39) fun y42 => getM y41 y42) fun y47 => M.bind (M.bind (M.bind (M.ok ties3) fun y43 => M.bind (M.ok k39) fun y44 => getM y43 y44) fun y45 => M.bind (M.ok ()) fun y46 => M.ok (y45, y46)) fun y48 => M.ok (y47, y48)) c__law_numbers_same) fun y51 => M.ok (!y51)) fun c52 => if c52 = true then M.bind (M.ok false) fun r53 => M.ok (Fl.rt r53) else M.ok (Fl.nx ())
def f_law_draft_same_l1 (draft1 : O_Draft) (ties3 : (List (List Int))) : Unit → Int → M (Fl Unit Bool) := fun s38 k39 => M.bind (M.bind (M.bind (getM draft1.2.1 k39) fun y49 => M.bind (getM ties3 k39) fun y50 => f_law_numbers_same y49 y50) fun y51 => M.ok (!y51)) fun c54 => if c54 = true then M.ok (Fl.rt false) else M.ok (Fl.nx ())
theorem eq_f_law_draft_same_l1 (draft1 : O_Draft) (ties3 : (List (List Int))) : r_f_law_draft_same_l1 draft1 ties3 = f_law_draft_same_l1 draft1 ties3 := by funext s38 k39; first | (simp only [r_f_law_draft_same_l1, f_law_draft_same_l1, M.bind_assoc, M.bok, c__law_numbers_same]; done) | (simp only [r_f_law_draft_same_l1, f_law_draft_same_l1, M.bind_assoc, M.bok, c__law_numbers_same]; rfl)
def q__law_draft_same (draft1 : O_Draft) (threading2 : (List Int)) (ties3 : (List (List Int))) (treading4 : (List Int)) : M Bool := M.bind (M.bind (M.bind (M.bind (M.bind (M.bind (M.ok draft1) fun y5 => M.ok y5.1) fun y8 => M.bind (M.bind (M.ok threading2) fun y6 => M.bind (M.ok ()) fun y7 => M.ok (y6, y7)) fun y9 => M.ok (y8, y9)) c__law_numbers_same) fun y12 => M.ok (!y12)) fun c21 => if c21 = true then M.ok true else M.bind (M.bind (M.bind (M.bind (M.ok draft1) fun y13 => M.ok y13.2.2.1) fun y16 => M.bind (M.bind (M.ok treading4) fun y14 => M.bind (M.ok ()) fun y15 => M.ok (y14, y15)) fun y17 => M.ok (y16, y17)) c__law_numbers_same) fun y20 => M.ok (!y20)) fun c23 => if c23 = true then M.ok false else M.bind (M.ok ((!true) || (!decide ((draft1.2.1.length : Int) = (ties3.length : Int))))) fun c34 => if c34 = true then M.ok false else M.bind (M.bind (M.bind (M.ok ties3) fun y36 => M.ok (y36.length : Int)) fun y37 => rangeM 0 y37) fun xs55 => M.bind (forF (r_f_law_draft_same_l1 draft1 ties3) () xs55) (Fl.el (fun (s56 : Unit) => M.ok true) fun r58 => M.ok r58)
def f_law_draft_same (draft1 : O_Draft) (threading2 : (List Int)) (ties3 : (List (List Int))) (treading4 : (List Int)) : M Bool := M.bind (M.bind (M.bind (f_law_numbers_same draft1.1 threading2) fun y12 => M.ok (!y12)) fun c22 => if c22 = true then M.ok true else M.bind (f_law_numbers_same draft1.2.2.1 treading4) fun y20 => M.ok (!y20)) fun c60 => if c60 = true then M.ok false else if ((!true) || (!decide ((draft1.2.1.length : Int) = (ties3.length : Int)))) = true then M.ok false else M.bind (rangeM 0 (ties3.length : Int)) fun xs55 => M.bind (forF (f_law_draft_same_l1 draft1 ties3) () xs55) (Fl.el (fun (s56 : Unit) => M.ok true) fun r58 => M.ok r58)
def r__law_draft_same (d : (O_Draft × (List Int) × (List (List Int)) × (List Int) × Unit)) : M Bool := q__law_draft_same d.1 d.2.1 d.2.2.1 d.2.2.2.1
def c__law_draft_same (d : (O_Draft × (List Int) × (List (List Int)) × (List Int) × Unit)) : M Bool := f_law_draft_same d.1 d.2.1 d.2.2.1 d.2.2.2.1
theorem eq__law_draft_same : r__law_draft_same = c__law_draft_same := by funext d; first | (simp only [r__law_draft_same, c__law_draft_same, q__law_draft_same, f_law_draft_same, M.bind_assoc, M.bok, eq_f_law_draft_same_l1, c__law_numbers_same]; done) | (simp only [r__law_draft_same, c__law_draft_same, q__law_draft_same, f_law_draft_same, M.bind_assoc, M.bok, eq_f_law_draft_same_l1, c__law_numbers_same]; rfl)
theorem bb__law_draft_same {p : Pr} (X : Facts p) {g : G} (ok : OkS p (defScope s__law_draft_same) N__law_draft_same V__law_draft_same G__law_draft_same 1 g) (hX : g.LX = List.replicate N__law_draft_same.length sAny) (draft1 : O_Draft) (threading2 : (List Int)) (ties3 : (List (List Int))) (treading4 : (List Int)) : EvB g [(sV false (tIns (cA p "Draft") (fl_Draft p)) draft1), (sV false (tList tInt) threading2), (sV false (tList (tList tInt)) ties3), (sV false (tList tInt) treading4), sAny] (defBody s__law_draft_same) (fun r => .rt false tBool r) (q__law_draft_same draft1 threading2 ties3 treading4) := (evb_ifx (wkX hX rfl) (EvW.t (evw_or (evt_not (evt_of (ev_call (md' := .sh) ok.toOk (fn__law_numbers_same X) (by decide) (j := 0) rfl .sh (eva_cons (md := .sh) (ev_fld (T := (tList tInt)) (pr := fun (d : O_Draft) => d.1) ok.toOk X.a_Draft X.n_Draft_threading (fun d => .here) (ev_vsh ok.toOk (i := 0) (j := 0) rfl rfl rfl)) (eva_cons (md := .sh) (ev_vsh ok.toOk (i := 1) (j := 1) rfl rfl rfl) eva_nil))))) (evw_or1 (evt_not (evt_of (ev_call (md' := .sh) ok.toOk (fn__law_numbers_same X) (by decide) (j := 0) rfl .sh (eva_cons (md := .sh) (ev_fld (T := (tList tInt)) (pr := fun (d : O_Draft) => d.2.2.1) ok.toOk X.a_Draft X.n_Draft_treading (fun d => (.there (n := "threading") rfl (by decide +kernel) (.there (n := "ties") rfl (by decide +kernel) .here))) (ev_vsh ok.toOk (i := 0) (j := 0) rfl rfl rfl)) (eva_cons (md := .sh) (ev_vsh ok.toOk (i := 3) (j := 3) rfl rfl rfl) eva_nil)))))))) (evb_ret (wkX hX rfl) .sh (by intro _; rfl) (ev_bool (md := .sh))) (evb_ifx (wkX hX rfl) (EvW.t (evw_orP (pureT (m := M.bind (M.bind (M.bind (M.ok draft1) fun y25 => M.ok y25.2.1) fun y26 => M.ok true) fun y27 => M.ok (!y27)) (evt_not (evt_of (ev_isi (md' := .sh) (r := true) ok.toOk (j := 2) rfl X.g_isinstance i_list (by decide +kernel) (ev_fld (T := (tList (tList tInt))) (pr := fun (d : O_Draft) => d.2.1) ok.toOk X.a_Draft X.n_Draft_ties (fun d => (.there (n := "threading") rfl (by decide +kernel) .here)) (ev_vsh ok.toOk (i := 0) (j := 0) rfl rfl rfl)) (ev_ty (n := "list") (md := .sh) ok.toOk (j := 1) rfl X.g_list (by decide +kernel))))) rfl) (pureW (m := M.bind (M.bind (M.bind (M.ok draft1) fun y28 => M.ok y28.2.1) fun y29 => M.ok (y29.length : Int)) fun y31 => M.bind (M.bind (M.ok ties3) fun y30 => M.ok (y30.length : Int)) fun y32 => M.ok (!decide (y31 = y32))) (evw_or1 (evt_c ok.toOk (c_ne s_int) (ev_lenQ (md' := .sh) ok.toOk sq_l (j := 3) rfl X.g_len (ev_fld (T := (tList (tList tInt))) (pr := fun (d : O_Draft) => d.2.1) ok.toOk X.a_Draft X.n_Draft_ties (fun d => (.there (n := "threading") rfl (by decide +kernel) .here)) (ev_vsh ok.toOk (i := 0) (j := 0) rfl rfl rfl))) (ev_lenQ (md' := .sh) ok.toOk sq_l (j := 3) rfl X.g_len (ev_vsh ok.toOk (i := 2) (j := 2) rfl rfl rfl)))) rfl))) (evb_ret (wkX hX rfl) .sh (by intro _; rfl) (ev_bool (md := .sh))) (evb_forF (LF := (fun (s38 : Unit) => [(sV false (tIns (cA p "Draft") (fl_Draft p)) draft1), (sV false (tList tInt) threading2), (sV false (tList (tList tInt)) ties3), (sV false (tList tInt) treading4), sAny])) (s0 := ()) (dr := fun r58 => r58) ok (wkX hX rfl) (evi_range1 ok.toOk (j := 4) rfl X.g_range (ev_lenQ (md' := .sh) ok.toOk sq_l (j := 3) rfl X.g_len (ev_vsh ok.toOk (i := 2) (j := 2) rfl rfl rfl))) (Wk.s (Wk.s (Wk.s (Wk.s (Wk.s Wk.n))))) (fun _ => evg_name ok (i := 4) (j := 4) rfl rfl) (fun s38 k39 => (evb_ifl (wkX hX rfl) (evt_not (evt_of (ev_call (md' := .sh) ok.toOk (fn__law_numbers_same X) (by decide) (j := 0) rfl .sh (eva_cons (md := .sh) (ev_ixQ ok.toOk sq_l (ev_fld (T := (tList (tList tInt))) (pr := fun (d : O_Draft) => d.2.1) ok.toOk X.a_Draft X.n_Draft_ties (fun d => (.there (n := "threading") rfl (by decide +kernel) .here)) (ev_vsh ok.toOk (i := 0) (j := 0) rfl rfl rfl)) (ev_vsh ok.toOk (i := 4) (j := 4) rfl rfl rfl)) (eva_cons (md := .sh) (ev_ixQ ok.toOk sq_l (ev_vsh ok.toOk (i := 2) (j := 2) rfl rfl rfl) (ev_vsh ok.toOk (i := 4) (j := 4) rfl rfl rfl)) eva_nil))))) (evb_retF (mk := fun r53 => Fl.rt r53) (wkX hX rfl) .sh (by intro _; rfl) (ev_bool (md := .sh))) (evb_go (by rfl) (Wk.s (Wk.s (Wk.s (Wk.s (Wk.a Wk.n)))))))) fun s56 => (evb_ret (wkX hX rfl) .sh (by intro _; rfl) (ev_bool (md := .sh))))))
theorem b__law_draft_same {p : Pr} (X : Facts p) : Body p s__law_draft_same N__law_draft_same V__law_draft_same G__law_draft_same 1 (fun (d : (O_Draft × (List Int) × (List (List Int)) × (List Int) × Unit)) => [(sV false (tIns (cA p "Draft") (fl_Draft p)) d.1), (sV false (tList tInt) d.2.1), (sV false (tList (tList tInt)) d.2.2.1), (sV false (tList tInt) d.2.2.2.1), sAny]) (fun r => .rt false tBool r) r__law_draft_same := fun g ok hX d => bb__law_draft_same X ok hX d.1 d.2.1 d.2.2.1 d.2.2.2.1
theorem fn__law_draft_same {p : Pr} (X : Facts p) : Fn p 2 "_law_draft_same" ["draft", "threading", "ties", "treading"] (spM p (aCons (tIns (cA p "Draft") (fl_Draft p)) (aCons (tList tInt) (aCons (tList (tList tInt)) (aCons (tList tInt) aNil)))) (fun r => .rt false tBool r) c__law_draft_same) := by
  obtain ⟨f, fd, hF, hm⟩ := X.d__law_draft_same
  exact ⟨f, fd, eq__law_draft_same ▸ fn_rt (m := 1) hF sc__law_draft_same (.cons (.cons (.cons (.cons .nil)))) rfl rfl (b__law_draft_same X), hm, hF.kp, hF.bindsN fun _ _ _ _ _ _ us hl => match us, hl with | [_, _, _, _], _ => rfl⟩
abbrev s__law_no_draft : Stmt := (topS 21)
abbrev N__law_no_draft : List Str := ["caught"]
abbrev V__law_no_draft : List Str := ["caught"]
abbrev G__law_no_draft : List Str := ["isinstance", "WeaveError", "ValueError", "NoCloth"]
theorem sc__law_no_draft : Sc s__law_no_draft N__law_no_draft V__law_no_draft ["caught"] G__law_no_draft := ⟨⟨rfl, rfl, rfl, by decide +kernel, rfl, by decide +kernel, by decide +kernel⟩, by decide +kernel, by decide +kernel, by decide +kernel⟩
def q__law_no_draft (caught1 : (Option Ec)) : M Bool := M.bind (M.bind (M.bind (M.bind (M.ok caught1) fun y2 => isEM kn_ y2 .weave) fun y3 => M.ok (!y3)) fun c6 => if c6 = true then M.ok true else M.bind (M.bind (M.ok caught1) fun y4 => isVM kn_ y4) fun y5 => M.ok (!y5)) fun c8 => if c8 = true then M.ok false else M.bind (M.bind (M.bind (M.bind (M.ok caught1) fun y10 => unM y10) fun y11 => calledM kc_ y11) fun y12 => M.bind (M.ok (tx "NoDraft")) fun y13 => M.ok (decide (y12 = y13))) fun c16 => if c16 = true then M.bind (M.bind (M.ok caught1) fun y14 => isEM kn_ y14 .noCloth) fun y15 => M.ok (!y15) else M.ok false
def f_law_no_draft (caught1 : (Option Ec)) : M Bool := M.bind (M.bind (M.bind (isEM kn_ caught1 .weave) fun y3 => M.ok (!y3)) fun c7 => if c7 = true then M.ok true else M.bind (isVM kn_ caught1) fun y5 => M.ok (!y5)) fun c19 => if c19 = true then M.ok false else M.bind (M.bind (M.bind (unM caught1) fun y11 => calledM kc_ y11) fun y12 => M.ok (decide (y12 = (tx "NoDraft")))) fun c17 => if c17 = true then M.bind (isEM kn_ caught1 .noCloth) fun y15 => M.ok (!y15) else M.ok false
def r__law_no_draft (d : ((Option Ec) × Unit)) : M Bool := q__law_no_draft d.1
def c__law_no_draft (d : ((Option Ec) × Unit)) : M Bool := f_law_no_draft d.1
theorem eq__law_no_draft : r__law_no_draft = c__law_no_draft := by funext d; first | (simp only [r__law_no_draft, c__law_no_draft, q__law_no_draft, f_law_no_draft, M.bind_assoc, M.bok]; done) | (simp only [r__law_no_draft, c__law_no_draft, q__law_no_draft, f_law_no_draft, M.bind_assoc, M.bok]; rfl)
theorem bb__law_no_draft {p : Pr} (X : Facts p) {g : G} (ok : OkS p (defScope s__law_no_draft) N__law_no_draft V__law_no_draft G__law_no_draft 1 g) (hX : g.LX = List.replicate N__law_no_draft.length sAny) (caught1 : (Option Ec)) : EvB g [(sV false (tOpt (tExc p)) caught1)] (defBody s__law_no_draft) (fun r => .rt false tBool r) (q__law_no_draft caught1) := (evb_ifx (wkX hX rfl) (EvW.t (evw_or (evt_not (evt_of (ev_isE (md' := .sh) ok.toOk X.kn (by decide) (j := 0) rfl X.g_isinstance (ev_vsh ok.toOk (i := 0) (j := 0) rfl rfl rfl) (ev_cls (md := .sh) ok.toOk (j := 1) rfl X.x_WeaveError.gP)))) (evw_or1 (evt_not (evt_of (ev_isV (md' := .sh) ok.toOk X.kn (j := 0) rfl X.g_isinstance (ev_vsh ok.toOk (i := 0) (j := 0) rfl rfl rfl) (ev_ty (n := "ValueError") (md := .sh) ok.toOk (j := 2) rfl X.g_ValueError (by decide +kernel)))))))) (evb_ret (wkX hX rfl) .sh (by intro _; rfl) (ev_bool (md := .sh))) (evb_ret (wkX hX rfl) .sh (by intro _; rfl) (ev_and (ev_c (md' := .sh) ok.toOk (c_eq s_str) (ev_called (md' := .sh) ok.toOk (by decide) X.kn (hkc X) (ev_un1 (ev_vsh ok.toOk (i := 0) (j := 0) rfl rfl rfl))) (ev_str (md := .sh) (by decide +kernel))) (ev_one (ev_not (md' := .sh) (ev_isE (md' := .sh) ok.toOk X.kn (by decide) (j := 0) rfl X.g_isinstance (ev_vsh ok.toOk (i := 0) (j := 0) rfl rfl rfl) (ev_cls (md := .sh) ok.toOk (j := 3) rfl X.x_NoCloth.gP)))))))
theorem b__law_no_draft {p : Pr} (X : Facts p) : Body p s__law_no_draft N__law_no_draft V__law_no_draft G__law_no_draft 1 (fun (d : ((Option Ec) × Unit)) => [(sV false (tOpt (tExc p)) d.1)]) (fun r => .rt false tBool r) r__law_no_draft := fun g ok hX d => bb__law_no_draft X ok hX d.1
theorem fn__law_no_draft {p : Pr} (X : Facts p) : Fn p 2 "_law_no_draft" ["caught"] (spM p (aCons (tOpt (tExc p)) aNil) (fun r => .rt false tBool r) c__law_no_draft) := by
  obtain ⟨f, fd, hF, hm⟩ := X.d__law_no_draft
  exact ⟨f, fd, eq__law_no_draft ▸ fn_rt (m := 0) hF sc__law_no_draft (.cons .nil) rfl rfl (b__law_no_draft X), hm, hF.kp, hF.bindsN fun _ _ _ _ _ _ us hl => match us, hl with | [_], _ => rfl⟩
abbrev s_law : Stmt := (topS 22)
abbrev N_law : List Str := ["script", "numbers", "built", "lists", "handed", "caught", "draft", "tie"]
abbrev V_law : List Str := ["script", "numbers", "built", "lists", "handed", "caught", "draft"]
abbrev G_law : List Str := ["_law_numbers", "_law_draft_by", "list", "_law_changed", "_law_caught", "_law_fits", "Draft", "_law_draft_same", "_law_no_draft"]
theorem sc_law : Sc s_law N_law V_law ["script"] G_law := ⟨⟨rfl, rfl, rfl, by decide +kernel, rfl, by decide +kernel, by decide +kernel⟩, by decide +kernel, by decide +kernel, by decide +kernel⟩
def q_law (script1 : (List Int)) : M Bool := M.bind (M.bind (M.bind (M.ok script1) fun y5 => M.bind (M.bind (M.ok (127 : Int)) fun y3 => M.bind (M.ok ()) fun y4 => M.ok (y3, y4)) fun y6 => M.ok (y5, y6)) c__law_numbers) fun numbers2 => M.bind (M.bind (M.bind (M.bind (M.ok numbers2) fun y11 => M.bind (M.bind (M.ok (4 : Int)) fun y10 => M.ok (some y10)) fun y12 => M.bind (M.ok (none : Option Int)) fun y13 => M.ok (cutL y11 y12 y13)) fun y14 => M.bind (M.ok ()) fun y15 => M.ok (y14, y15)) c__law_draft_by) fun built9 => M.bind (M.bind (M.bind (M.ok built9) fun y18 => M.ok y18.1) fun y29 => M.bind (M.bind (M.bind (M.bind (M.ok built9) fun y19 => M.ok y19.2.1) fun xs23 => compM (fun tie20 => M.bind (M.ok true) fun c21 => if c21 = true then M.bind (M.ok tie20) fun y22 => M.ok (some y22) else M.ok none) xs23) fun y27 => M.bind (M.bind (M.bind (M.ok built9) fun y24 => M.ok y24.2.2.1) fun y25 => M.bind (M.ok ()) fun y26 => M.ok (y25, y26)) fun y28 => M.ok (y27, y28)) fun y30 => M.ok (y29, y30)) fun lists17 => M.bind (M.bind (M.bind (M.ok (lists17, fun (y : ((List Int) × (List (List Int)) × (List Int) × Unit)) => y)) fun q45 => M.bind (M.bind (M.bind (M.bind (M.ok numbers2) fun y34 => M.bind (M.ok (0 : Int)) fun y35 => getM y34 y35) fun y36 => M.ok (y36 % (9 : Int))) fun y43 => M.bind (M.bind (M.bind (M.bind (M.bind (M.ok numbers2) fun y37 => M.bind (M.ok (1 : Int)) fun y38 => getM y37 y38) fun y39 => M.ok (y39 * (7919 : Int))) fun y40 => M.ok (y40 % ((10 : Int) ^ 60))) fun y41 => M.bind (M.ok ((), fun (_ : Unit) => ())) fun r42 => M.ok ((y41, r42.1), r42.2)) fun r44 => M.ok ((y43, r44.1), r44.2)) fun r46 => M.ok ((q45.1, r46.1), fun (w47 : ((List Int) × (List (List Int)) × (List Int) × Unit) × Unit) => (q45.2 w47.1, r46.2 w47.2))) fun q48 => M.bind (c__law_changed q48.1) fun r49 => M.ok (r49.1, q48.2 r49.2)) fun x50 => M.bind (M.bind (M.bind (M.bind (M.ok numbers2) fun y53 => M.bind (M.ok (2 : Int)) fun y54 => getM y53 y54) fun y55 => M.ok (y55 % (3 : Int))) fun y56 => M.bind (M.ok (1 : Int)) fun y57 => M.ok (decide (y56 = y57))) fun c58 => M.bind (if c58 = true then M.bind (M.bind (M.bind (M.ok (x50.2.1, fun (y : ((List Int) × (List (List Int)) × (List Int) × Unit)) => y)) fun q71 => M.bind (M.bind (M.bind (M.bind (M.bind (M.ok numbers2) fun y59 => M.bind (M.ok (2 : Int)) fun y60 => getM y59 y60) fun y61 => M.ok (y61 / (3 : Int))) fun y62 => M.ok (y62 % (9 : Int))) fun y69 => M.bind (M.bind (M.bind (M.bind (M.bind (M.ok numbers2) fun y63 => M.bind (M.ok (3 : Int)) fun y64 => getM y63 y64) fun y65 => M.ok (y65 * (7919 : Int))) fun y66 => M.ok (y66 % ((10 : Int) ^ 60))) fun y67 => M.bind (M.ok ((), fun (_ : Unit) => ())) fun r68 => M.ok ((y67, r68.1), r68.2)) fun r70 => M.ok ((y69, r70.1), r70.2)) fun r72 => M.ok ((q71.1, r72.1), fun (w73 : ((List Int) × (List (List Int)) × (List Int) × Unit) × Unit) => (q71.2 w73.1, r72.2 w73.2))) fun q74 => M.bind (c__law_changed q74.1) fun r75 => M.ok (r75.1, q74.2 r75.2)) fun x76 => M.ok x76.2.1 else M.ok x50.2.1) fun (s79 : (((List Int) × (List (List Int)) × (List Int) × Unit))) => M.bind (M.bind (M.bind (M.ok s79) fun y84 => M.ok y84.1) fun y95 => M.bind (M.bind (M.bind (M.bind (M.ok s79) fun y85 => M.ok y85.2.1) fun xs89 => compM (fun tie86 => M.bind (M.ok true) fun c87 => if c87 = true then M.bind (M.ok tie86) fun y88 => M.ok (some y88) else M.ok none) xs89) fun y93 => M.bind (M.bind (M.bind (M.ok s79) fun y90 => M.ok y90.2.2.1) fun y91 => M.bind (M.ok ()) fun y92 => M.ok (y91, y92)) fun y94 => M.ok (y93, y94)) fun y96 => M.ok (y95, y96)) fun handed83 => M.bind (M.bind (M.bind (M.ok handed83) fun y101 => M.bind (M.ok ()) fun y102 => M.ok (y101, y102)) c__law_caught) fun caught100 => M.bind (M.bind (M.ok handed83) fun y104 => M.bind (M.ok s79) fun y105 => M.ok (!decide (y104 = y105))) fun c106 => if c106 = true then M.ok false else M.bind (M.bind (M.bind (M.ok s79) fun y108 => M.bind (M.ok ()) fun y109 => M.ok (y108, y109)) c__law_fits) fun c111 => if c111 = true then M.bind (M.bind (M.ok caught100) fun y112 => M.ok y112.isSome) fun c113 => if c113 = true then M.ok false else M.bind (M.bind (M.bind (M.bind (M.ok s79) fun y116 => M.ok y116.1) fun y123 => M.bind (M.bind (M.bind (M.ok s79) fun y117 => M.ok y117.2.1) fun y121 => M.bind (M.bind (M.bind (M.ok s79) fun y118 => M.ok y118.2.2.1) fun y119 => M.bind (M.ok ()) fun y120 => M.ok (y119, y120)) fun y122 => M.ok (y121, y122)) fun y124 => M.ok (y123, y124)) c_Draft_init) fun draft115 => M.bind (M.bind (M.ok draft115) fun y137 => M.bind (M.bind (M.bind (M.ok handed83) fun y128 => M.ok y128.1) fun y135 => M.bind (M.bind (M.bind (M.ok handed83) fun y129 => M.ok y129.2.1) fun y133 => M.bind (M.bind (M.bind (M.ok handed83) fun y130 => M.ok y130.2.2.1) fun y131 => M.bind (M.ok ()) fun y132 => M.ok (y131, y132)) fun y134 => M.ok (y133, y134)) fun y136 => M.ok (y135, y136)) fun y138 => M.ok (y137, y138)) c__law_draft_same else M.bind (M.bind (M.bind (M.bind (M.ok caught100) fun y145 => M.bind (M.ok ()) fun y146 => M.ok (y145, y146)) c__law_no_draft) fun y148 => M.ok (!y148)) fun c149 => if c149 = true then M.ok false else M.bind (M.bind (M.bind (M.bind (M.ok built9) fun y152 => M.ok y152.1) fun y159 => M.bind (M.bind (M.bind (M.ok built9) fun y153 => M.ok y153.2.1) fun y157 => M.bind (M.bind (M.bind (M.ok built9) fun y154 => M.ok y154.2.2.1) fun y155 => M.bind (M.ok ()) fun y156 => M.ok (y155, y156)) fun y158 => M.ok (y157, y158)) fun y160 => M.ok (y159, y160)) c_Draft_init) fun draft151 => M.bind (M.bind (M.ok draft151) fun y173 => M.bind (M.bind (M.bind (M.ok built9) fun y164 => M.ok y164.1) fun y171 => M.bind (M.bind (M.bind (M.ok built9) fun y165 => M.ok y165.2.1) fun y169 => M.bind (M.bind (M.bind (M.ok built9) fun y166 => M.ok y166.2.2.1) fun y167 => M.bind (M.ok ()) fun y168 => M.ok (y167, y168)) fun y170 => M.ok (y169, y170)) fun y172 => M.ok (y171, y172)) fun y174 => M.ok (y173, y174)) c__law_draft_same
def f_law (script1 : (List Int)) : M Bool := M.bind (f_law_numbers script1 (127 : Int)) fun numbers2 => M.bind (f_law_draft_by (cutL numbers2 (some (4 : Int)) none)) fun built9 => M.bind (M.bind (compM (fun tie20 => M.ok (some tie20)) built9.2.1) fun y32 => M.ok (built9.1, y32, built9.2.2.1, ())) fun lists17 => M.bind (M.bind (getM numbers2 (0 : Int)) fun y36 => M.ok (y36 % (9 : Int))) fun y51 => M.bind (M.bind (M.bind (getM numbers2 (1 : Int)) fun y39 => M.ok (y39 * (7919 : Int))) fun y40 => M.ok (y40 % ((10 : Int) ^ 60))) fun y52 => M.bind (f_law_changed lists17 y51 y52) fun x50 => M.bind (M.bind (M.bind (getM numbers2 (2 : Int)) fun y55 => M.ok (y55 % (3 : Int))) fun y56 => M.ok (decide (y56 = (1 : Int)))) fun c58 => M.bind (if c58 = true then M.bind (M.bind (M.bind (getM numbers2 (2 : Int)) fun y61 => M.ok (y61 / (3 : Int))) fun y62 => M.ok (y62 % (9 : Int))) fun y77 => M.bind (M.bind (M.bind (getM numbers2 (3 : Int)) fun y65 => M.ok (y65 * (7919 : Int))) fun y66 => M.ok (y66 % ((10 : Int) ^ 60))) fun y78 => M.bind (f_law_changed x50.2.1 y77 y78) fun x76 => M.ok x76.2.1 else M.ok x50.2.1) fun (s79 : (((List Int) × (List (List Int)) × (List Int) × Unit))) => M.bind (M.bind (compM (fun tie86 => M.ok (some tie86)) s79.2.1) fun y98 => M.ok (s79.1, y98, s79.2.2.1, ())) fun handed83 => M.bind (f_law_caught handed83) fun caught100 => if (!decide (handed83 = s79)) = true then M.ok false else M.bind (f_law_fits s79) fun c181 => if c181 = true then if caught100.isSome = true then M.ok false else M.bind (f_Draft_init s79.1 s79.2.1 s79.2.2.1) fun draft115 => f_law_draft_same draft115 handed83.1 handed83.2.1 handed83.2.2.1 else M.bind (M.bind (f_law_no_draft caught100) fun y148 => M.ok (!y148)) fun c180 => if c180 = true then M.ok false else M.bind (f_Draft_init built9.1 built9.2.1 built9.2.2.1) fun draft151 => f_law_draft_same draft151 built9.1 built9.2.1 built9.2.2.1
def r_law (d : ((List Int) × Unit)) : M Bool := q_law d.1
def c_law (d : ((List Int) × Unit)) : M Bool := f_law d.1
theorem eq_law : r_law = c_law := by funext d; first | (simp only [r_law, c_law, q_law, f_law, M.bind_assoc, M.bok, c_Draft_init, c__law_caught, c__law_changed, c__law_draft_by, c__law_draft_same, c__law_fits, c__law_no_draft, c__law_numbers]; done) | (simp only [r_law, c_law, q_law, f_law, M.bind_assoc, M.bok, c_Draft_init, c__law_caught, c__law_changed, c__law_draft_by, c__law_draft_same, c__law_fits, c__law_no_draft, c__law_numbers]; rfl)
theorem bb_law {p : Pr} (X : Facts p) {g : G} (ok : OkS p (defScope s_law) N_law V_law G_law 5 g) (hX : g.LX = List.replicate N_law.length sAny) (script1 : (List Int)) : EvB g [(sV false (tListK p.K tInt) script1), sAny, sAny, sAny, sAny, sAny, sAny, sAny] (defBody s_law) (fun r => .rt false tBool r) (q_law script1) := (evb_set ok (i := 1) (j := 1) rfl rfl (wkX hX rfl) .sh (ev_ofL (evl_call (md' := .sh) ok.toOk (fn__law_numbers X) (by decide) (j := 0) rfl .sh (eva_cons (md := .sh) (ev_vsh ok.toOk (i := 0) (j := 0) rfl rfl rfl) (eva_cons (md := .sh) (ev_int (md := .sh)) eva_nil)))) fun numbers2 => (evb_set ok (i := 2) (j := 2) rfl rfl (wkX hX rfl) .sh (ev_call (md' := .sh) ok.toOk (fn__law_draft_by X) (by decide) (j := 1) rfl .sh (eva_cons (md := .sh) (ev_ofL (evl_slQ (md := .sh) ok.toOk sq_l (ev_vsh ok.toOk (i := 1) (j := 1) rfl rfl rfl) (evo_some (ev_int (md := .sh))) evo_none)) eva_nil)) fun built9 => (evb_setN ok (i := 3) (j := 3) rfl rfl (.inl (wkX hX rfl)) (evn_r (evr_hl (lenWl (n := 3) (by decide) (lenWS (lenWS (lenWS @lenW0)))) (evra_cons ok.toOk (evr_n (evn_l (evl_copyQ (md := .sh) ok.toOk sq_l (j := 2) rfl X.g_list (ev_ixA (n := 0) ok.toOk .z (ev_vsh ok.toOk (i := 2) (j := 2) rfl rfl rfl) (ev_int (md := .sh)))))) (fun g okr => (evra_cons okr (evr_n (evn_l (evl_lc (md := .sh) (VV' := ["tie"]) (GG' := ["list"]) (i := 7) okr (evi_seq okr sq_l (ev_ixA (n := 1) okr (.s .z) (ev_vsh okr (i := 2) (j := 2) rfl rfl rfl) (ev_int (md := .sh)))) rfl rfl no_any (by decide +kernel) (by decide +kernel) (by decide +kernel) (by decide +kernel) (fun g' okc tie20 => evpts_nil) (fun g' okc tie20 => (ev_ofL (evl_copyQ (md := .sh) okc sq_l (j := 0) rfl X.g_list (ev_vsh okc (i := 7) (j := 0) rfl rfl rfl))))))) (fun g okr => (evra_cons okr (evr_n (evn_l (evl_copyQ (md := .sh) okr sq_l (j := 2) rfl X.g_list (ev_ixA (n := 2) okr (.s (.s .z)) (ev_vsh okr (i := 2) (j := 2) rfl rfl rfl) (ev_int (md := .sh)))))) (fun g okr => evra_nil) (by decide))) (by decide))) (by decide)))) fun lists17 => (evb_exprX (ex_call ok.toOk (fn__law_changed X) (by decide) (j := 3) rfl (.any hX) (evxa_ow (up := (fun (d : (Int × (Int × Unit))) (w : Unit) => (d.1, (fun (d : (Int × Unit)) (w : Unit) => (d.1, (fun (d : Unit) (_ : Unit) => d) d.2 w)) d.2 w))) (evp_name ok.toOk (i := 3) (j := 3) rfl rfl rfl) (evxa_sh (up := (fun (d : (Int × Unit)) (w : Unit) => (d.1, (fun (d : Unit) (_ : Unit) => d) d.2 w))) (md := .sh) (ev_modC (md' := .sh) ok.toOk (by decide) (ev_ixQ ok.toOk sq_l (ev_vsh ok.toOk (i := 1) (j := 1) rfl rfl rfl) (ev_int (md := .sh))) (ev_int (md := .sh))) (evxa_sh (up := (fun (d : Unit) (_ : Unit) => d)) (md := .sh) (ev_modC (md' := .sh) ok.toOk (by decide) (ev_mulC (md' := .sh) ok.toOk (by decide) (ev_ixQ ok.toOk sq_l (ev_vsh ok.toOk (i := 1) (j := 1) rfl rfl rfl) (ev_int (md := .sh))) (ev_int (md := .sh))) (ev_powC (md' := .sh) (n := 60) ok.toOk (by decide) (by decide) (ev_int (md := .sh)) (ev_int (md := .sh)))) evxa_nil)) (by decide))) fun x50 => (evb_if (LJ := (fun (s79 : (((List Int) × (List (List Int)) × (List Int) × Unit))) => [(sV false (tListK p.K tInt) script1), (sV false (tList tInt) numbers2), (sV false (tTup (aCons (tList tInt) (aCons (tList (tList tInt)) (aCons (tList tInt) aNil)))) built9), (sO (wHl (waCons (wL (wV tInt)) (waCons (wL (wV (tList tInt))) (waCons (wL (wV tInt)) waNil)))) s79), sAny, sAny, sAny, sAny])) (wkX hX rfl) (evt_c ok.toOk (c_eq s_int) (ev_modC (md' := .sh) ok.toOk (by decide) (ev_ixQ ok.toOk sq_l (ev_vsh ok.toOk (i := 1) (j := 1) rfl rfl rfl) (ev_int (md := .sh))) (ev_int (md := .sh))) (ev_int (md := .sh))) (evb_exprX (ex_call ok.toOk (fn__law_changed X) (by decide) (j := 3) rfl (.any hX) (evxa_ow (up := (fun (d : (Int × (Int × Unit))) (w : Unit) => (d.1, (fun (d : (Int × Unit)) (w : Unit) => (d.1, (fun (d : Unit) (_ : Unit) => d) d.2 w)) d.2 w))) (evp_name ok.toOk (i := 3) (j := 3) rfl rfl rfl) (evxa_sh (up := (fun (d : (Int × Unit)) (w : Unit) => (d.1, (fun (d : Unit) (_ : Unit) => d) d.2 w))) (md := .sh) (ev_modC (md' := .sh) ok.toOk (by decide) (ev_divC (md' := .sh) ok.toOk (by decide) (by decide) (ev_ixQ ok.toOk sq_l (ev_vsh ok.toOk (i := 1) (j := 1) rfl rfl rfl) (ev_int (md := .sh))) (ev_int (md := .sh))) (ev_int (md := .sh))) (evxa_sh (up := (fun (d : Unit) (_ : Unit) => d)) (md := .sh) (ev_modC (md' := .sh) ok.toOk (by decide) (ev_mulC (md' := .sh) ok.toOk (by decide) (ev_ixQ ok.toOk sq_l (ev_vsh ok.toOk (i := 1) (j := 1) rfl rfl rfl) (ev_int (md := .sh))) (ev_int (md := .sh))) (ev_powC (md' := .sh) (n := 60) ok.toOk (by decide) (by decide) (ev_int (md := .sh)) (ev_int (md := .sh)))) evxa_nil)) (by decide))) fun x76 => (evb_nx (by rfl) (Wk.s (Wk.s (Wk.s (Wk.s (Wk.s (Wk.s (Wk.s (Wk.s Wk.n)))))))))) (evb_nx (by rfl) (Wk.s (Wk.s (Wk.s (Wk.s (Wk.s (Wk.s (Wk.s (Wk.s Wk.n))))))))) fun s79 => (evb_freezeP (i := 3) rfl (evb_set ok (i := 4) (j := 4) rfl rfl (wkX hX rfl) .sh (ev_hl (fun d vs R h => by rw [(lenS (lenS (lenS len0))) h]; decide) (eva_cons (ev_ofL (evl_copyQ (md := .sh) ok.toOk sq_l (j := 2) rfl X.g_list (ev_hlIx (n := 0) ok.toOk .z (ev_vsh ok.toOk (i := 3) (j := 3) rfl rfl rfl) (ev_int (md := .sh))))) (eva_cons (ev_ofL (evl_lc (md := .sh) (VV' := ["tie"]) (GG' := ["list"]) (i := 7) ok.toOk (evi_seq ok.toOk sq_l (ev_hlIx (n := 1) ok.toOk (.s .z) (ev_vsh ok.toOk (i := 3) (j := 3) rfl rfl rfl) (ev_int (md := .sh)))) rfl rfl no_any (by decide +kernel) (by decide +kernel) (by decide +kernel) (by decide +kernel) (fun g' okc tie86 => evpts_nil) (fun g' okc tie86 => (ev_ofL (evl_copyQ (md := .sh) okc sq_l (j := 0) rfl X.g_list (ev_vsh okc (i := 7) (j := 0) rfl rfl rfl)))))) (eva_cons (ev_ofL (evl_copyQ (md := .sh) ok.toOk sq_l (j := 2) rfl X.g_list (ev_hlIx (n := 2) ok.toOk (.s (.s .z)) (ev_vsh ok.toOk (i := 3) (j := 3) rfl rfl rfl) (ev_int (md := .sh))))) eva_nil)))) fun handed83 => (evb_set ok (i := 5) (j := 5) rfl rfl (wkX hX rfl) .sh (ev_call (md' := .sh) ok.toOk (fn__law_caught X) (by decide) (j := 4) rfl .sh (eva_cons (md := .sh) (ev_vsh ok.toOk (i := 4) (j := 4) rfl rfl rfl) eva_nil)) fun caught100 => (evb_ifx (wkX hX rfl) (evt_c ok.toOk (c_neD ok.toOk (dHl (dCons (dList dInt) (dCons (dList (dList dInt)) (dCons (dList dInt) dNil)))) (by decide)) (ev_vsh ok.toOk (i := 4) (j := 4) rfl rfl rfl) (ev_vsh ok.toOk (i := 3) (j := 3) rfl rfl rfl)) (evb_ret (wkX hX rfl) .sh (by intro _; rfl) (ev_bool (md := .sh))) (evb_ifx (wkX hX rfl) (evt_of (ev_call (md' := .sh) ok.toOk (fn__law_fits X) (by decide) (j := 5) rfl .sh (eva_cons (md := .sh) (ev_vsh ok.toOk (i := 3) (j := 3) rfl rfl rfl) eva_nil))) (evb_ifx (wkX hX rfl) (evt_notN ok.toOk (ev_vsh ok.toOk (i := 5) (j := 5) rfl rfl rfl)) (evb_ret (wkX hX rfl) .sh (by intro _; rfl) (ev_bool (md := .sh))) (evb_set ok (i := 6) (j := 6) rfl rfl (wkX hX rfl) .sh (ev_make ok.toOk (mk_Draft_init X) (by decide) (j := 6) rfl (eva_cons (md := .sh) (ev_hlIx (n := 0) ok.toOk .z (ev_vsh ok.toOk (i := 3) (j := 3) rfl rfl rfl) (ev_int (md := .sh))) (eva_cons (md := .sh) (ev_hlIx (n := 1) ok.toOk (.s .z) (ev_vsh ok.toOk (i := 3) (j := 3) rfl rfl rfl) (ev_int (md := .sh))) (eva_cons (md := .sh) (ev_hlIx (n := 2) ok.toOk (.s (.s .z)) (ev_vsh ok.toOk (i := 3) (j := 3) rfl rfl rfl) (ev_int (md := .sh))) eva_nil)))) fun draft115 => (evb_ret (wkX hX rfl) .sh (by intro _; rfl) (ev_call (md' := .sh) ok.toOk (fn__law_draft_same X) (by decide) (j := 7) rfl .sh (eva_cons (md := .sh) (ev_vsh ok.toOk (i := 6) (j := 6) rfl rfl rfl) (eva_cons (md := .sh) (ev_hlIx (n := 0) ok.toOk .z (ev_vsh ok.toOk (i := 4) (j := 4) rfl rfl rfl) (ev_int (md := .sh))) (eva_cons (md := .sh) (ev_hlIx (n := 1) ok.toOk (.s .z) (ev_vsh ok.toOk (i := 4) (j := 4) rfl rfl rfl) (ev_int (md := .sh))) (eva_cons (md := .sh) (ev_hlIx (n := 2) ok.toOk (.s (.s .z)) (ev_vsh ok.toOk (i := 4) (j := 4) rfl rfl rfl) (ev_int (md := .sh))) eva_nil)))))))) (evb_ifx (wkX hX rfl) (evt_not (evt_of (ev_call (md' := .sh) ok.toOk (fn__law_no_draft X) (by decide) (j := 8) rfl .sh (eva_cons (md := .sh) (ev_vsh ok.toOk (i := 5) (j := 5) rfl rfl rfl) eva_nil)))) (evb_ret (wkX hX rfl) .sh (by intro _; rfl) (ev_bool (md := .sh))) (evb_set ok (i := 6) (j := 6) rfl rfl (wkX hX rfl) .sh (ev_make ok.toOk (mk_Draft_init X) (by decide) (j := 6) rfl (eva_cons (md := .sh) (ev_ixA (n := 0) ok.toOk .z (ev_vsh ok.toOk (i := 2) (j := 2) rfl rfl rfl) (ev_int (md := .sh))) (eva_cons (md := .sh) (ev_ixA (n := 1) ok.toOk (.s .z) (ev_vsh ok.toOk (i := 2) (j := 2) rfl rfl rfl) (ev_int (md := .sh))) (eva_cons (md := .sh) (ev_ixA (n := 2) ok.toOk (.s (.s .z)) (ev_vsh ok.toOk (i := 2) (j := 2) rfl rfl rfl) (ev_int (md := .sh))) eva_nil)))) fun draft151 => (evb_ret (wkX hX rfl) .sh (by intro _; rfl) (ev_call (md' := .sh) ok.toOk (fn__law_draft_same X) (by decide) (j := 7) rfl .sh (eva_cons (md := .sh) (ev_vsh ok.toOk (i := 6) (j := 6) rfl rfl rfl) (eva_cons (md := .sh) (ev_ixA (n := 0) ok.toOk .z (ev_vsh ok.toOk (i := 2) (j := 2) rfl rfl rfl) (ev_int (md := .sh))) (eva_cons (md := .sh) (ev_ixA (n := 1) ok.toOk (.s .z) (ev_vsh ok.toOk (i := 2) (j := 2) rfl rfl rfl) (ev_int (md := .sh))) (eva_cons (md := .sh) (ev_ixA (n := 2) ok.toOk (.s (.s .z)) (ev_vsh ok.toOk (i := 2) (j := 2) rfl rfl rfl) (ev_int (md := .sh))) eva_nil))))))))))))))))))
theorem b_law {p : Pr} (X : Facts p) : Body p s_law N_law V_law G_law 5 (fun (d : ((List Int) × Unit)) => [(sV false (tListK p.K tInt) d.1), sAny, sAny, sAny, sAny, sAny, sAny, sAny]) (fun r => .rt false tBool r) r_law := fun g ok hX d => bb_law X ok hX d.1
theorem fnok_law {p : Pr} (X : Facts p) {f : Addr} {fd : FuncData} (hF : FunD p.K "law" "law" (defArgs s_law) (defBody s_law) (defScope s_law) [] [] f fd) : FnOk p.P p.w p.K p.mg p.base (L2.CX p.P p.w) 6 f fd ["script"] (spM p (aCons (tListK p.K tInt) aNil) (fun r => .rt false tBool r) c_law) := eq_law ▸ fn_rt (m := 7) hF sc_law (.cons .nil) rfl rfl (b_law X)
theorem numbers_ok {script : List Int} {many : Int} (hl : script.length ≤ 63) (h1 : 63 ≤ many) (h2 : many ≤ 1000) : Okm (f_law_numbers script many) (fun ns => ns.length = many.toNat ∧ ∀ x ∈ ns, 0 ≤ x ∧ x < (10 : Int) ^ 60) := by
  unfold f_law_numbers
  refine okb (m := repM _ _) (ok_rep1 (by omega) (by omega)) fun s0 e => ?_
  subst e
  refine okb ok_range fun xs e => ?_
  subst e
  refine okb (ok_forR (fun i (s : Int × List Int) => 0 ≤ s.1 ∧ s.1 < 2147483647 ∧ s.2.length = many.toNat ∧ ∀ x ∈ s.2, 0 ≤ x ∧ x < (10 : Int) ^ 60) ⟨by show (0 : Int) ≤ 7; omega, by show (7 : Int) < 2147483647; omega, by simp, fun x hx => ?_⟩ fun i s hi ⟨b1, b2, a1, a2⟩ => ?_) fun s ⟨b1, b2, a1, a2⟩ => ?_
  · rw [(List.mem_replicate.mp hx).2]; exact ⟨by decide, by decide⟩
  · unfold f_law_numbers_l1
    have m0 := Int.emod_nonneg (0 + (i : Int)) (show many ≠ 0 by omega)
    have m1 := Int.emod_lt_of_pos (0 + (i : Int)) (show 0 < many by omega)
    rw [oke (ok_mod (by omega : 0 < many)), M.bind_ok]
    refine okb (P := fun v => 0 ≤ v ∧ v < (10 : Int) ^ 60) ?_ fun v hv => ?_
    · refine okb (P := fun _ => True) ?_ fun v _ => okv ⟨Int.emod_nonneg _ (by decide), Int.emod_lt_of_pos _ (by decide)⟩
      refine okb (P := fun _ => True) (okb (ok_get m0 (by omega)) fun a ha => okv trivial) fun a _ => okb (ok_get (by omega) (by omega)) fun a _ => okv trivial
    rw [M.bind_ok]
    refine okb (ok_set m0 (by omega)) fun s' e => ?_
    subst e
    refine okb (P := fun v => 0 ≤ v ∧ v < (2147483647 : Int)) ?_ fun m hm => okv ⟨hm.1, hm.2, by rw [List.length_set]; exact a1, fun x hx => ?_⟩
    · refine okb (P := fun _ => True) (okb (ok_get (by omega) (by omega)) fun a _ => okv trivial) fun a _ => okv ⟨by omega, by omega⟩
    · rcases List.mem_or_eq_of_mem_set hx with hx | hx
      · exact a2 x hx
      · subst hx; exact hv
  · refine okb (ok_range (by omega) (by omega) (by omega) (by omega)) fun xs e => ?_
    subst e
    refine okb (ok_forR (fun i (s : Int × List Int) => 0 ≤ s.1 ∧ s.1 < 2147483647 ∧ s.2.length = many.toNat ∧ ∀ x ∈ s.2, 0 ≤ x ∧ x < (10 : Int) ^ 60) ⟨b1, b2, a1, a2⟩ fun i s hi ⟨b1, b2, a1, a2⟩ => ?_) fun s ⟨b1, b2, a1, a2⟩ => okv ⟨a1, a2⟩
    unfold f_law_numbers_l2
    refine okb (ok_set (by omega) (by omega)) fun s' e => ?_
    subst e
    have hp : (2147483647 : Int) < (10 : Int) ^ 60 := by decide
    refine okv ⟨by show 0 ≤ _ % _; omega, by show _ % _ < _; omega, by rw [List.length_set]; exact a1, fun x hx => ?_⟩
    rcases List.mem_or_eq_of_mem_set hx with hx | hx
    · exact a2 x hx
    · subst hx; exact ⟨by omega, by omega⟩
def riB : Int → List Int → Bool
  | _, [] => true
  | last, x :: r => decide (last < x) && (decide (x < 40) && riB x r)
theorem riB_iff : ∀ (l : List Int) (last : Int), riB last l = true ↔ (∀ x ∈ l, last < x ∧ x < 40) ∧ l.Pairwise (· < ·)
  | [], _ => ⟨fun _ => ⟨(fun x hx => nomatch hx), List.Pairwise.nil⟩, fun _ => rfl⟩
  | x :: r, last => by
    unfold riB
    rw [Bool.and_eq_true, Bool.and_eq_true, decide_eq_true_eq, decide_eq_true_eq, riB_iff r x, List.pairwise_cons]
    constructor
    · rintro ⟨h1, h2, h3, h4⟩
      refine ⟨fun y hy => ?_, fun y hy => (h3 y hy).1, h4⟩
      rcases List.mem_cons.mp hy with e | hy
      · subst e; exact ⟨h1, h2⟩
      · have := h3 y hy; omega
    · rintro ⟨h1, h2, h3⟩
      have hx := h1 x List.mem_cons_self
      exact ⟨hx.1, hx.2, fun y hy => ⟨h2 y hy, (h1 y (List.mem_cons_of_mem _ hy)).2⟩, h3⟩
theorem tie_loop : ∀ (l : List Int) (last : Int), if riB last l = true then ∃ z, forF f_tie_rises_l1 last l = .ok (Fl.nx z) else forF f_tie_rises_l1 last l = .ok (Fl.rt false)
  | [], last => by unfold riB; rw [if_pos rfl]; exact ⟨last, rfl⟩
  | x :: r, last => by
    have ih := tie_loop r x
    have st : forF f_tie_rises_l1 last (x :: r) = (f_tie_rises_l1 last x).bind (Fl.el (fun s' => forF f_tie_rises_l1 s' r) fun q => .ok (.rt q)) := rfl
    have e : f_tie_rises_l1 last x = if x ≤ last ∨ 40 ≤ x then .ok (.rt false) else .ok (.nx x) := by
      unfold f_tie_rises_l1
      by_cases c : x ≤ last ∨ 40 ≤ x
      · rw [if_pos c, if_pos (by simpa using c)]
      · rw [if_neg c, if_neg (by simpa using c)]
    rw [st, e]
    unfold riB
    by_cases c : x ≤ last ∨ 40 ≤ x
    · rw [if_pos c, if_neg (by simp only [Bool.and_eq_true, decide_eq_true_eq]; omega)]
      rfl
    · rw [if_neg c, decide_eq_true (show last < x by omega), decide_eq_true (show x < 40 by omega), Bool.true_and, Bool.true_and]
      exact ih
theorem tie_ok (l : List Int) : f_tie_rises l = .ok (riB (-1) l) := by
  have h := tie_loop l (-1)
  unfold f_tie_rises
  show M.bind (forF f_tie_rises_l1 (-(1 : Int)) l) _ = _
  cases c : riB (-1) l with
  | true =>
    rw [c, if_pos rfl] at h
    obtain ⟨z, e⟩ := h
    rw [show (-(1 : Int)) = -1 from rfl, e]; rfl
  | false =>
    rw [c, if_neg Bool.false_ne_true] at h
    rw [show (-(1 : Int)) = -1 from rfl, h]; rfl
theorem forF_all {α ρ : Type} {f : Unit → α → M (Fl Unit ρ)} {b : α → Bool} {r : ρ} : ∀ {xs : List α}, (∀ x ∈ xs, f () x = .ok (if b x = true then .nx () else .rt r)) → forF f () xs = .ok (if xs.all b = true then .nx () else .rt r)
  | [], _ => rfl
  | x :: xs, h => by
    show (f () x).bind (Fl.el (fun s' => forF f s' xs) fun q => .ok (.rt q)) = _
    rw [h x List.mem_cons_self, List.all_cons]
    cases hb : b x with
    | true =>
      show forF f () xs = _
      rw [forF_all fun y hy => h y (List.mem_cons_of_mem _ hy)]; rfl
    | false => rfl
def lenB (n : Int) : Bool := decide (1 ≤ n) && decide (n ≤ 40)
def fitB (th : List Int) (ties : List (List Int)) (tr : List Int) : Bool :=
  [(th.length : Int), (ties.length : Int), (tr.length : Int)].all lenB && (th.all (fun s => decide (0 ≤ s) && decide (s < 40)) && (ties.all (riB (-1)) && tr.all fun t => decide (0 ≤ t) && decide (t < (ties.length : Int))))
theorem fit_ok (th : List Int) (ties : List (List Int)) (tr : List Int) : f_lists_fit th ties tr = .ok (fitB th ties tr) := by
  unfold f_lists_fit fitB
  show M.bind (forF f_lists_fit_l1 () [(th.length : Int), (ties.length : Int), (tr.length : Int)]) _ = _
  rw [forF_all (b := lenB) (r := false) fun x _ => ?_, forF_all (b := fun s => decide (0 ≤ s) && decide (s < 40)) (r := false) fun x _ => ?_, forF_all (b := riB (-1)) (r := false) fun x _ => ?_, forF_all (b := fun t => decide (0 ≤ t) && decide (t < (ties.length : Int))) (r := false) fun x _ => ?_]
  · cases h1 : [(th.length : Int), (ties.length : Int), (tr.length : Int)].all lenB
    · rfl
    cases h2 : th.all (fun s => decide (0 ≤ s) && decide (s < 40))
    · rfl
    cases h3 : ties.all (riB (-1))
    · rfl
    cases h4 : tr.all fun t => decide (0 ≤ t) && decide (t < (ties.length : Int)) <;> rfl
  · unfold f_lists_fit_l4
    by_cases c : x < 0 ∨ (ties.length : Int) ≤ x
    · rw [if_pos (by simpa using c), if_neg (by simp only [Bool.and_eq_true, decide_eq_true_eq]; omega)]
    · rw [if_neg (by simpa using c), if_pos (by simp only [Bool.and_eq_true, decide_eq_true_eq]; omega)]
  · unfold f_lists_fit_l3
    rw [tie_ok, M.bind_ok, M.bind_ok]
    cases riB (-1) x <;> rfl
  · unfold f_lists_fit_l2
    by_cases c : x < 0 ∨ 40 ≤ x
    · rw [if_pos (by simpa using c), if_neg (by simp only [Bool.and_eq_true, decide_eq_true_eq]; omega)]
    · rw [if_neg (by simpa using c), if_pos (by simp only [Bool.and_eq_true, decide_eq_true_eq]; omega)]
  · unfold f_lists_fit_l1 lenB
    by_cases c : x < 1 ∨ 40 < x
    · rw [if_pos (by simpa using c), if_neg (by simp only [Bool.and_eq_true, decide_eq_true_eq]; omega)]
    · rw [if_neg (by simpa using c), if_pos (by simp only [Bool.and_eq_true, decide_eq_true_eq]; omega)]
theorem id_comp {α : Type} {xs : List α} (h : xs.length ≤ 1000000) : compM (fun x : α => M.ok (some x)) xs = .ok xs := by
  have := comp_map (h := fun x : α => M.ok (some x)) (g := fun x => x) (xs := xs) h fun x _ => rfl
  rw [this]; simp
theorem lens_le {th : List Int} {ties : List (List Int)} {tr : List Int} (h : fitB th ties tr = true) : 1 ≤ th.length ∧ th.length ≤ 40 ∧ 1 ≤ ties.length ∧ ties.length ≤ 40 ∧ 1 ≤ tr.length ∧ tr.length ≤ 40 := by
  unfold fitB at h
  rw [Bool.and_eq_true] at h
  have h1 := h.1
  simp only [List.all_cons, List.all_nil, Bool.and_eq_true, lenB, decide_eq_true_eq] at h1
  omega
theorem draft_ok (th : List Int) (ties : List (List Int)) (tr : List Int) : f_Draft_init th ties tr = if fitB th ties tr = true then .ok (th, ties, tr, ()) else .ex .noDraft := by
  unfold f_Draft_init
  rw [fit_ok, M.bind_ok, M.bind_ok]
  cases h : fitB th ties tr with
  | true =>
    have := lens_le h
    rw [if_neg (by simp)]
    show M.bind (compM (fun tie => M.ok (some tie)) ties) _ = _
    rw [id_comp (by omega), M.bind_ok, if_pos rfl]
  | false => rfl
/-- it fits -/
theorem fit_true {th : List Int} {ties : List (List Int)} {tr : List Int} (h1 : 1 ≤ th.length) (h2 : th.length ≤ 40) (h3 : 1 ≤ ties.length) (h4 : ties.length ≤ 40) (h5 : 1 ≤ tr.length) (h6 : tr.length ≤ 40) (h7 : ∀ s ∈ th, 0 ≤ s ∧ s < 40) (h8 : ∀ t ∈ ties, riB (-1) t = true) (h9 : ∀ t ∈ tr, 0 ≤ t ∧ t < (ties.length : Int)) : fitB th ties tr = true := by
  unfold fitB
  rw [Bool.and_eq_true, Bool.and_eq_true, Bool.and_eq_true]
  refine ⟨?_, List.all_eq_true.mpr fun s hs => ?_, List.all_eq_true.mpr h8, List.all_eq_true.mpr fun t ht => ?_⟩
  · simp [lenB]; omega
  · have := h7 s hs; simp only [Bool.and_eq_true, decide_eq_true_eq]; exact this
  · have := h9 t ht; simp only [Bool.and_eq_true, decide_eq_true_eq]; exact this
theorem subset_ok {number : Int} (h0 : 0 ≤ number) : Okm (f_law_subset number) (fun s => s.length ≤ 40 ∧ riB (-1) s = true) := by
  unfold f_law_subset
  refine okif (fun _ => okv ⟨by decide, rfl⟩) fun _ => ?_
  refine okb (P := fun _ => True) (okif (fun c => ?_) fun _ => okv trivial) fun n _ => ?_
  · rw [decide_eq_true_eq] at c
    have hp : (10 : Int) ^ 6 < 2 ^ 64 := by decide
    refine okb (P := fun _ => True) (okb (P := fun _ => True) ?_ fun _ _ => okv trivial) fun _ _ => okv trivial
    exact okb (ok_mul 64 64 (by omega) (by omega)) fun _ _ => okv trivial
  show Okm (M.bind (rangeM 0 40) _) _
  refine okb ok_range fun xs e => ?_
  subst e
  refine okb (ok_forR (fun i (s : Int × List Int) => s.2.length ≤ i ∧ (∀ x ∈ s.2, 0 ≤ x ∧ x < i) ∧ s.2.Pairwise (· < ·)) ⟨Nat.le_refl _, (fun x hx => nomatch hx), List.Pairwise.nil⟩ fun i s hi ⟨a1, a2, a3⟩ => ?_) fun s ⟨a1, a2, a3⟩ => okv ⟨a1, (riB_iff _ _).mpr ⟨fun x hx => by have := a2 x hx; omega, a3⟩⟩
  unfold f_law_subset_l1
  refine okb (P := fun l => l.length ≤ i + 1 ∧ (∀ x ∈ l, 0 ≤ x ∧ x < ((i + 1 : Nat) : Int)) ∧ l.Pairwise (· < ·)) (okif (fun _ => ?_) fun _ => okv ⟨by omega, (fun x hx => by have := a2 x hx; omega), a3⟩) fun l hl => okv hl
  have hi' : i < 40 := hi
  refine okb (ok_push (by omega)) fun l e => okv ?_
  subst e
  refine ⟨by simp; omega, fun x hx => ?_, List.pairwise_append.mpr ⟨a3, by simp, fun a ha b hb => ?_⟩⟩
  · rcases List.mem_append.mp hx with h | h
    · have := a2 x h; omega
    · rw [List.mem_singleton.mp h]; omega
  · rw [List.mem_singleton.mp hb]; have := a2 a ha; omega
structure DraftBy (th : List Int) (ti : List (List Int)) (tr : List Int) : Prop where
  e1 : 1 ≤ th.length
  e2 : th.length ≤ 40
  t1 : 1 ≤ ti.length
  t2 : ti.length ≤ 40
  p1 : 1 ≤ tr.length
  p2 : tr.length ≤ 40
  ths : ∀ x ∈ th, 0 ≤ x ∧ x < 40
  tis : ∀ s ∈ ti, s.length ≤ 40 ∧ riB (-1) s = true
  trs : ∀ x ∈ tr, 0 ≤ x ∧ x < ti.length
theorem comp_len {α β : Type} {h : α → M (Option β)} {xs : List α} (R : β → Prop) (hl : xs.length ≤ 1000000) (hs : ∀ x ∈ xs, Okm (h x) (fun o => ∃ y, o = some y ∧ R y)) : Okm (compM h xs) (fun ys => ys.length = xs.length ∧ ∀ y ∈ ys, R y) := by
  refine okmono (ok_comp (fun _ y => R y) hl hs) fun ys ⟨h1, h2⟩ => ⟨h1, fun y hy => ?_⟩
  obtain ⟨i, hi⟩ := List.mem_iff_getElem?.mp hy
  have hlt := (List.getElem?_eq_some_iff.mp hi).1
  exact h2 i (xs[i]'(by omega)) y (by simp) hi
theorem draft_by_ok {ns : List Int} (hl : 123 ≤ ns.length) (hl2 : ns.length ≤ 1000) (hn : ∀ x ∈ ns, 0 ≤ x ∧ x < (10 : Int) ^ 60) : Okm (f_law_draft_by ns) (fun d => DraftBy d.1 d.2.1 d.2.2.1) := by
  unfold f_law_draft_by
  have g : ∀ k : Int, 0 ≤ k → k < 123 → Okm (getM ns k) (fun v => 0 ≤ v) := fun k h0 h1 => okmono (ok_get h0 (by omega)) fun v hv => (hn v (List.mem_of_getElem? hv)).1
  refine okb (P := fun e => 1 ≤ e ∧ e ≤ 40) (okb (okb (g 0 (by omega) (by omega)) fun v hv => okv (P := fun v => 0 ≤ v ∧ v < 40) ⟨by omega, by omega⟩) fun v hv => okv ⟨by omega, by omega⟩) fun ends ⟨e1, e2⟩ => ?_
  refine okb (P := fun e => 1 ≤ e ∧ e ≤ 40) (okb (okb (g 1 (by omega) (by omega)) fun v hv => okv (P := fun v => 0 ≤ v ∧ v < 40) ⟨by omega, by omega⟩) fun v hv => okv ⟨by omega, by omega⟩) fun treadles ⟨t1, t2⟩ => ?_
  refine okb (P := fun e => 1 ≤ e ∧ e ≤ 40) (okb (okb (g 2 (by omega) (by omega)) fun v hv => okv (P := fun v => 0 ≤ v ∧ v < 40) ⟨by omega, by omega⟩) fun v hv => okv ⟨by omega, by omega⟩) fun picks ⟨p1, p2⟩ => ?_
  refine okb (P := fun e => 1 ≤ e ∧ e ≤ 40) (okb (P := fun v => 0 ≤ v ∧ v < 40) (okb (P := fun _ => True) (okb (g 0 (by omega) (by omega)) fun v hv => okv trivial) fun v hv => okv ⟨by omega, by omega⟩) fun v hv => okv ⟨by omega, by omega⟩) fun high ⟨h1, h2⟩ => ?_
  refine okb (P := fun _ => True) (okb (P := fun _ => True) (okb (P := fun _ => True) (okb (g 1 (by omega) (by omega)) fun v hv => okv trivial) fun v hv => okv trivial) fun v hv => okv trivial) fun c _ => ?_
  refine okb (P := fun e => 1 ≤ e ∧ e ≤ 40) (okif (fun _ => okv ⟨by omega, by omega⟩) fun _ => okv ⟨h1, h2⟩) fun high ⟨h1, h2⟩ => ?_
  have c1 := cut_mid (xs := ns) (a := 3) (b := 3 + ends) (by omega) (by omega) (by omega)
  have c2 := cut_mid (xs := ns) (a := 3 + ends) (b := 3 + ends + treadles) (by omega) (by omega) (by omega)
  have c3 := cut_mid (xs := ns) (a := 3 + ends + treadles) (b := 3 + ends + treadles + picks) (by omega) (by omega) (by omega)
  have l1 : (cutL ns (some 3) (some (3 + ends))).length = ends.toNat := by rw [c1, List.length_take, List.length_drop]; omega
  have l2 : (cutL ns (some (3 + ends)) (some (3 + ends + treadles))).length = treadles.toNat := by rw [c2, List.length_take, List.length_drop]; omega
  have l3 : (cutL ns (some (3 + ends + treadles)) (some (3 + ends + treadles + picks))).length = picks.toNat := by rw [c3, List.length_take, List.length_drop]; omega
  refine okb (comp_len (fun x => 0 ≤ x ∧ x < 40) (by omega) fun x hx => ?_) fun th ⟨th1, th2⟩ => ?_
  · have q0 := Int.emod_nonneg x (show high ≠ 0 by omega)
    have q1 := Int.emod_lt_of_pos x (show 0 < high by omega)
    exact okb (ok_mod (by omega)) fun y e => okv ⟨y, rfl, by omega, by omega⟩
  refine okb (comp_len (fun (s : List Int) => s.length ≤ 40 ∧ riB (-1) s = true) (by omega) fun x hx => ?_) fun ti ⟨ti1, ti2⟩ => ?_
  · exact okb (subset_ok (hn x (cut_mem hx)).1) fun y e => okv ⟨y, rfl, e⟩
  show Okm (M.bind (compM _ (cutL ns (some (3 + ends + treadles)) (some (3 + ends + treadles + picks)))) _) _
  refine okb (comp_len (fun x => 0 ≤ x ∧ x < treadles) (by omega) fun x hx => ?_) fun tr ⟨tr1, tr2⟩ => ?_
  · have q0 := Int.emod_nonneg x (show treadles ≠ 0 by omega)
    have q1 := Int.emod_lt_of_pos x (show 0 < treadles by omega)
    exact okb (ok_mod (by omega)) fun y e => okv ⟨y, rfl, by omega, by omega⟩
  refine okv ?_
  exact ⟨by show 1 ≤ th.length; omega, by show th.length ≤ 40; omega, by show 1 ≤ ti.length; omega, by show ti.length ≤ 40; omega, by show 1 ≤ tr.length; omega, by show tr.length ≤ 40; omega, th2, ti2, fun x hx => ⟨(tr2 x hx).1, by have := (tr2 x hx).2; show x < (ti.length : Int); omega⟩⟩
theorem nums_same {t : List Int} (h : t.length ≤ 1000) : f_law_numbers_same t t = .ok true := by
  refine oke ?_
  unfold f_law_numbers_same
  refine okif (fun c => by simp at c) fun _ => ?_
  refine okb ok_range fun xs e => ?_
  subst e
  refine okel (N := fun _ => True) (R := fun _ => False) (ok_forFR (fun _ _ => True) (fun _ => False) trivial fun i s hi _ => ?_) (fun s _ => okv rfl) fun r h => h.elim
  unfold f_law_numbers_same_l1
  obtain ⟨v, e, _⟩ := ok_get (xs := t) (i := 0 + (i : Int)) (by omega) (by omega)
  rw [e]
  simp only [M.bok]
  refine okb (P := (· = false)) (okif (fun c => by simp at c) fun _ => okv (by simp)) fun c e => ?_
  subst e
  exact okv trivial
theorem draft_same_ok {th : List Int} {ti : List (List Int)} {tr : List Int} (h1 : th.length ≤ 1000) (h2 : ti.length ≤ 1000) (h3 : tr.length ≤ 1000) (h4 : ∀ t ∈ ti, t.length ≤ 1000) : f_law_draft_same (th, ti, tr, ()) th ti tr = .ok true := by
  refine oke ?_
  unfold f_law_draft_same
  show Okm (M.bind (M.bind (M.bind (f_law_numbers_same th th) _) fun c22 => if c22 = true then _ else M.bind (f_law_numbers_same tr tr) _) _) _
  rw [nums_same (by omega), M.bind_ok, M.bind_ok, if_neg (by simp), nums_same (by omega), M.bind_ok, M.bind_ok, if_neg (by simp)]
  refine okif (fun c => by simp at c) fun _ => ?_
  refine okb ok_range fun xs e => ?_
  subst e
  refine okel (N := fun _ => True) (R := fun _ => False) (ok_forFR (fun _ _ => True) (fun _ => False) trivial fun i s hi _ => ?_) (fun s _ => okv rfl) fun r h => h.elim
  unfold f_law_draft_same_l1
  obtain ⟨v, e, hv⟩ := ok_get (xs := ti) (i := 0 + (i : Int)) (by omega) (by omega)
  show Okm (M.bind (M.bind (M.bind (getM ti _) _) _) _) _
  have := h4 v (List.mem_of_getElem? hv)
  rw [e, M.bind_ok, M.bind_ok, nums_same (by omega), M.bind_ok, M.bind_ok, if_neg (by simp)]
  exact okv trivial
theorem riB_idx : ∀ (l : List Int) (last : Int), riB last l = true ↔ ∀ (i : Nat) (x : Int), (last :: l)[i + 1]? = some x → x < 40 ∧ ∀ y, (last :: l)[i]? = some y → y < x
  | [], last => ⟨fun _ i x h => by simp at h, fun _ => rfl⟩
  | z :: r, last => by
    unfold riB
    rw [Bool.and_eq_true, Bool.and_eq_true, decide_eq_true_eq, decide_eq_true_eq, riB_idx r z]
    constructor
    · rintro ⟨h1, h2, h3⟩ i x hx
      cases i with
      | zero =>
        simp at hx; subst hx
        exact ⟨h2, fun y hy => by simp at hy; omega⟩
      | succ i => exact h3 i x (by simpa using hx)
    · intro h
      have h0 := h 0 z rfl
      exact ⟨h0.2 last rfl, h0.1, fun i x hx => h (i + 1) x (by simpa using hx)⟩
def tkB (t : List Int) (k : Int) : Bool := (decide (0 ≤ t.getD k.toNat 0) && decide (t.getD k.toNat 0 ≤ 39)) && (decide (k ≤ 0) || decide (t.getD (k - 1).toNat 0 < t.getD k.toNat 0))
theorem getD_at {t : List Int} {i : Int} (h0 : 0 ≤ i) (h1 : i < t.length) : getM t i = .ok (t.getD i.toNat 0) := by
  have hlt : i.toNat < t.length := by omega
  refine getM_at h0 ?_
  rw [List.getD_eq_getElem?_getD, List.getElem?_eq_getElem hlt]; rfl
theorem tk_all (t : List Int) : (upFrom 0 t.length).all (tkB t) = riB (-1) t := by
  rw [Bool.eq_iff_iff, List.all_eq_true, riB_idx]
  constructor
  · intro h i x hx
    have hx' : t[i]? = some x := by simpa using hx
    have hlt := (List.getElem?_eq_some_iff.mp hx').1
    have hi := h (i : Int) (upFrom_mem.mpr (by omega))
    unfold tkB at hi
    rw [Int.toNat_natCast, List.getD_eq_getElem?_getD, hx', Option.getD_some] at hi
    rw [Bool.and_eq_true, Bool.and_eq_true, Bool.or_eq_true, decide_eq_true_eq, decide_eq_true_eq, decide_eq_true_eq, decide_eq_true_eq] at hi
    refine ⟨by omega, fun y hy => ?_⟩
    cases i with
    | zero => simp at hy; omega
    | succ i =>
      have hy' : t[i]? = some y := by simpa using hy
      rw [show (((i + 1 : Nat) : Int) - 1).toNat = i by omega, List.getD_eq_getElem?_getD, hy', Option.getD_some] at hi
      rcases hi.2 with h | h
      · omega
      · exact h
  · intro h k hk
    rw [upFrom_mem] at hk
    obtain ⟨i, rfl⟩ : ∃ i : Nat, k = i := ⟨k.toNat, by omega⟩
    have hlt : i < t.length := by omega
    have hx' : t[i]? = some t[i] := List.getElem?_eq_getElem hlt
    have all : ∀ (i : Nat) (x : Int), t[i]? = some x → 0 ≤ x := fun i => by
      induction i with
      | zero => intro x hx; have := (h 0 x (by simpa using hx)).2 (-1) rfl; omega
      | succ i ih =>
        intro x hx
        have hl := (List.getElem?_eq_some_iff.mp hx).1
        have hy : t[i]? = some t[i] := List.getElem?_eq_getElem (by omega)
        have := (h (i + 1) x (by simpa using hx)).2 t[i] (by simpa using hy)
        have := ih _ hy
        omega
    have hh := h i t[i] (by simpa using hx')
    have h0 := all i _ hx'
    unfold tkB
    rw [Int.toNat_natCast, List.getD_eq_getElem?_getD, hx', Option.getD_some]
    rw [Bool.and_eq_true, Bool.and_eq_true, Bool.or_eq_true, decide_eq_true_eq, decide_eq_true_eq, decide_eq_true_eq, decide_eq_true_eq]
    refine ⟨⟨h0, by omega⟩, ?_⟩
    cases i with
    | zero => exact .inl (by omega)
    | succ i =>
      have hy : t[i]? = some t[i] := List.getElem?_eq_getElem (by omega)
      rw [show (((i + 1 : Nat) : Int) - 1).toNat = i by omega, List.getD_eq_getElem?_getD, hy, Option.getD_some]
      exact .inr (hh.2 _ (by simpa using hy))
theorem law_fits_ok {th : List Int} {ti : List (List Int)} {tr : List Int} (ht : ∀ t ∈ ti, t.length ≤ 1000) : f_law_fits (th, ti, tr, ()) = .ok (fitB th ti tr) := by
  unfold f_law_fits fitB
  show M.bind (forF f_law_fits_l1 () [(th.length : Int), (ti.length : Int), (tr.length : Int)]) (Fl.el (fun _ => M.bind (forF f_law_fits_l2 () th) (Fl.el (fun _ => M.bind (forF f_law_fits_l4 () ti) (Fl.el (fun _ => M.bind (forF (f_law_fits_l5 (th, ti, tr, ())) () tr) _) _)) _)) _) = _
  rw [forF_all (b := lenB) (r := false) fun x hx => ?_, forF_all (b := fun s => decide (0 ≤ s) && decide (s < 40)) (r := false) fun x _ => ?_, forF_all (b := riB (-1)) (r := false) fun x hx => ?_, forF_all (b := fun t => decide (0 ≤ t) && decide (t < (ti.length : Int))) (r := false) fun x _ => ?_]
  · cases h1 : [(th.length : Int), (ti.length : Int), (tr.length : Int)].all lenB
    · rfl
    cases h2 : th.all (fun s => decide (0 ≤ s) && decide (s < 40))
    · rfl
    cases h3 : ti.all (riB (-1))
    · rfl
    cases h4 : tr.all fun t => decide (0 ≤ t) && decide (t < (ti.length : Int)) <;> rfl
  · unfold f_law_fits_l5
    show (if (decide (x < 0) || decide ((ti.length : Int) ≤ x)) = true then _ else _) = _
    by_cases c : x < 0 ∨ (ti.length : Int) ≤ x
    · rw [if_pos (by simpa using c), if_neg (by simp only [Bool.and_eq_true, decide_eq_true_eq]; omega)]
    · rw [if_neg (by simpa using c), if_pos (by simp only [Bool.and_eq_true, decide_eq_true_eq]; omega)]
  · have hl := ht x hx
    unfold f_law_fits_l4
    rw [range_eq, M.bok, show ((x.length : Int) - 0).toNat = x.length by omega, forF_all (b := tkB x) (r := false) fun k hk => ?_, tk_all, M.bok]
    · cases riB (-1) x <;> rfl
    · rw [upFrom_mem] at hk
      unfold f_law_fits_l3
      rw [getD_at (by omega) (by omega), M.bok, M.bok]
      unfold tkB
      by_cases c1 : x.getD k.toNat 0 < 0
      · rw [if_pos (decide_eq_true c1), M.bok, if_pos rfl, if_neg (by simp only [Bool.and_eq_true, decide_eq_true_eq]; omega)]
      rw [if_neg (by simpa using c1), M.bok, M.bok]
      by_cases c2 : 39 < x.getD k.toNat 0
      · rw [if_pos (decide_eq_true c2), if_neg (by simp only [Bool.and_eq_true, decide_eq_true_eq]; omega)]
      rw [if_neg (by simpa using c2)]
      by_cases c3 : 0 < k
      · rw [if_pos (decide_eq_true c3), getD_at (i := k - 1) (by omega) (by omega), M.bok, M.bok, M.bok]
        by_cases c4 : x.getD k.toNat 0 ≤ x.getD (k - 1).toNat 0
        · rw [if_pos (decide_eq_true c4), if_neg (by simp only [Bool.and_eq_true, Bool.or_eq_true, decide_eq_true_eq]; omega)]
        · rw [if_neg (by simpa using c4), if_pos (by simp only [Bool.and_eq_true, Bool.or_eq_true, decide_eq_true_eq]; omega)]
      · rw [if_neg (by simpa using c3), M.bok, if_neg Bool.false_ne_true, if_pos (by simp only [Bool.and_eq_true, Bool.or_eq_true, decide_eq_true_eq]; omega)]
  · unfold f_law_fits_l2
    by_cases c : x < 0 ∨ 39 < x
    · rw [if_pos (by simpa using c), if_neg (by simp only [Bool.and_eq_true, decide_eq_true_eq]; omega)]
    · rw [if_neg (by simpa using c), if_pos (by simp only [Bool.and_eq_true, decide_eq_true_eq]; omega)]
  · have hx0 : 0 ≤ x := by
      simp only [List.mem_cons, List.not_mem_nil, or_false] at hx
      omega
    unfold f_law_fits_l1 lenB
    by_cases c : x = 0 ∨ 40 < x
    · rw [if_pos (by simpa using c), if_neg (by simp only [Bool.and_eq_true, decide_eq_true_eq]; omega)]
    · rw [if_neg (by simpa using c), if_pos (by simp only [Bool.and_eq_true, decide_eq_true_eq]; omega)]
theorem of_length_ok {part : List Int} (hl : part.length ≤ 100) {n : Int} (n0 : 0 ≤ n) (n1 : n ≤ 41) : Okm (f_law_of_length part n) (fun l => l.length ≤ 100 ∧ ∀ x ∈ l, x ∈ part) := by
  unfold f_law_of_length
  refine okb (ok_while (fun s => part.length ≤ s.length ∧ s.length ≤ 100 ∧ ∀ x ∈ s, x ∈ part) (fun s => 100 - s.length) ⟨Nat.le_refl _, hl, fun x hx => hx⟩ (by omega) fun s ⟨a1, a2, a3⟩ => ?_) fun s ⟨⟨a1, a2, a3⟩, _⟩ => okv ?_
  · unfold f_law_of_length_t1
    refine okv fun c => ?_
    rw [Bool.and_eq_true, Bool.not_eq_true', decide_eq_false_iff_not, decide_eq_true_eq] at c
    have hp : 0 < part.length := by
      obtain ⟨x, hx⟩ := List.exists_mem_of_ne_nil s c.1
      exact List.length_pos_of_mem (a3 x hx)
    unfold f_law_of_length_w2
    have q0 := Int.emod_nonneg (s.length : Int) (show (part.length : Int) ≠ 0 by omega)
    have q1 := Int.emod_lt_of_pos (s.length : Int) (show 0 < (part.length : Int) by omega)
    refine okb (P := fun v => v ∈ s) (okb (ok_mod (by omega)) fun y e => ?_) fun v hv => ?_
    · subst e
      exact okmono (ok_get q0 (by omega)) fun v h => List.mem_of_getElem? h
    · refine okb (ok_push (by omega)) fun l e => okv ?_
      subst e
      refine ⟨⟨by simp; omega, by simp; omega, fun x hx => ?_⟩, by simp; omega⟩
      rcases List.mem_append.mp hx with h | h
      · exact a3 x h
      · rw [List.mem_singleton.mp h]; exact a3 v hv
  · refine ⟨?_, fun x hx => a3 x (cut_mem hx)⟩
    refine Nat.le_trans (List.Sublist.length_le ?_) a2
    unfold cutL
    exact (List.take_sublist _ _).trans (List.drop_sublist _ _)
theorem of_length2_ok {part : List (List Int)} (hl : part.length ≤ 100) {n : Int} (n0 : 0 ≤ n) (n1 : n ≤ 41) : Okm (f_law_of_length__k2 part n) (fun l => l.length ≤ 100 ∧ ∀ x ∈ l, x ∈ part) := by
  unfold f_law_of_length__k2
  refine okb (ok_while (fun s => part.length ≤ s.length ∧ s.length ≤ 100 ∧ ∀ x ∈ s, x ∈ part) (fun s => 100 - s.length) ⟨Nat.le_refl _, hl, fun x hx => hx⟩ (by omega) fun s ⟨a1, a2, a3⟩ => ?_) fun s ⟨⟨a1, a2, a3⟩, _⟩ => okv ?_
  · unfold f_law_of_length__k2_t1
    refine okv fun c => ?_
    rw [Bool.and_eq_true, Bool.not_eq_true', decide_eq_false_iff_not, decide_eq_true_eq] at c
    have hp : 0 < part.length := by
      obtain ⟨x, hx⟩ := List.exists_mem_of_ne_nil s c.1
      exact List.length_pos_of_mem (a3 x hx)
    unfold f_law_of_length__k2_w2
    have q0 := Int.emod_nonneg (s.length : Int) (show (part.length : Int) ≠ 0 by omega)
    have q1 := Int.emod_lt_of_pos (s.length : Int) (show 0 < (part.length : Int) by omega)
    refine okb (P := fun v => v ∈ s) (okb (ok_mod (by omega)) fun y e => ?_) fun v hv => ?_
    · subst e
      exact okmono (ok_get q0 (by omega)) fun v h => List.mem_of_getElem? h
    · refine okb (ok_push (by omega)) fun l e => okv ?_
      subst e
      refine ⟨⟨by simp; omega, by simp; omega, fun x hx => ?_⟩, by simp; omega⟩
      rcases List.mem_append.mp hx with h | h
      · exact a3 x h
      · rw [List.mem_singleton.mp h]; exact a3 v hv
  · refine ⟨?_, fun x hx => a3 x (cut_mem hx)⟩
    refine Nat.le_trans (List.Sublist.length_le ?_) a2
    unfold cutL
    exact (List.take_sublist _ _).trans (List.drop_sublist _ _)
theorem odd_ok (n : Int) : Okm (f_law_odd n) (fun _ => True) := by
  unfold f_law_odd
  exact okmono (ok_get (by omega) (by simp only [List.length_cons, List.length_nil]; omega)) fun _ _ => trivial
theorem tie_changed_ok {tie : List Int} {m : Nat} (hl : tie.length ≤ m) (m0 : 2 ≤ m) (m1 : m ≤ 100) (way n : Int) : Okm (f_law_tie_changed tie way n) (fun t => t.length ≤ m + 1) := by
  unfold f_law_tie_changed
  have q0 := Int.emod_nonneg n (show (tie.length : Int) + 1 ≠ 0 by omega)
  have q1 := Int.emod_lt_of_pos n (show 0 < (tie.length : Int) + 1 by omega)
  rw [oke (ok_mod (by omega)), M.bok]
  generalize n % ((tie.length : Int) + 1) = at_ at q0 q1
  refine okif (fun _ => ?_) fun _ => okif (fun _ => okv (by simp; omega)) fun c0 => ?_
  · refine okb (P := fun l : List Int => (l.length : Int) = at_ + 1) ?_ fun l e => ?_
    · refine okb (P := fun l : List Int => l.length = 1) (okb (odd_ok _) fun _ _ => okv rfl) fun l e => ?_
      rw [cut_to q0 (by omega)]
      refine okmono (ok_catL (by simp; omega)) fun z ez => ?_
      subst ez
      simp; omega
    · rw [cut_from q0 (by omega)]
      refine okmono (ok_catL (by simp; omega)) fun z ez => ?_
      subst ez
      simp; omega
  have hp : 0 < tie.length := by
    rw [decide_eq_false_iff_not] at c0
    exact List.length_pos_iff.mpr c0
  have r0 := Int.emod_nonneg n (show (tie.length : Int) ≠ 0 by omega)
  have r1 := Int.emod_lt_of_pos n (show 0 < (tie.length : Int) by omega)
  rw [oke (ok_mod (by omega)), M.bok]
  generalize n % (tie.length : Int) = at2 at r0 r1
  refine okif (fun _ => ?_) fun c1 => ?_
  · refine okb (P := fun l : List Int => (l.length : Int) = at2 + 1) ?_ fun l e => ?_
    · refine okb (P := fun l : List Int => l.length = 1) (okb (ok_get r0 r1) fun _ _ => okv rfl) fun l e => ?_
      rw [cut_to r0 (by omega)]
      refine okmono (ok_catL (by simp; omega)) fun z ez => ?_
      subst ez
      simp; omega
    · rw [cut_from r0 (by omega)]
      refine okmono (ok_catL (by simp; omega)) fun z ez => ?_
      subst ez
      simp; omega
  rw [Bool.or_eq_false_iff, decide_eq_false_iff_not, decide_eq_false_iff_not] at c1
  refine okb (P := fun v : Int => 1 ≤ v ∧ v < tie.length) (okif (fun _ => okv ⟨by omega, by omega⟩) fun c => okv ⟨by rw [decide_eq_false_iff_not] at c; omega, r1⟩) fun v ⟨v0, v1⟩ => ?_
  refine okb (P := fun l : List Int => (l.length : Int) = v + 1) ?_ fun l e => ?_
  · refine okb (P := fun l : List Int => l.length = 2) (okb (ok_get (by omega) v1) fun _ _ => okb (ok_get (by omega) (by omega)) fun _ _ => okv rfl) fun l e => ?_
    rw [cut_to (by omega) (by omega)]
    refine okmono (ok_catL (by simp; omega)) fun z ez => ?_
    subst ez
    simp; omega
  · rw [cut_from (by omega) (by omega)]
    refine okmono (ok_catL (by simp; omega)) fun z ez => ?_
    subst ez
    simp; omega
structure Bd (m : Nat) (d : List Int × List (List Int) × List Int × Unit) : Prop where
  a : d.1.length ≤ 100
  b : d.2.1.length ≤ 100
  c : ∀ t ∈ d.2.1, t.length ≤ m
  d : d.2.2.1.length ≤ 100
theorem changed_ok {d : List Int × List (List Int) × List Int × Unit} {m : Nat} (B : Bd m d) (m0 : 2 ≤ m) (m1 : m ≤ 99) {way : Int} (w0 : 0 ≤ way) (n : Int) : Okm (f_law_changed d way n) (fun r => Bd (m + 1) r.2.1) := by
  obtain ⟨th, ti, tr, u⟩ := d
  obtain ⟨a, b, c, e⟩ := B
  have a : th.length ≤ 100 := a
  have b : ti.length ≤ 100 := b
  have c : ∀ t ∈ ti, t.length ≤ m := c
  have e : tr.length ≤ 100 := e
  have c' : ∀ t ∈ ti, t.length ≤ m + 1 := fun t ht => Nat.le_succ_of_le (c t ht)
  unfold f_law_changed
  refine okif (fun cw => ?_) fun _ => ?_
  · rw [decide_eq_true_eq] at cw
    refine okb (P := fun v : Int => 0 ≤ v ∧ v ≤ 41) (okmono (ok_get (by omega) (by simp only [List.length_cons, List.length_nil]; omega)) fun v hv => ?_) fun v ⟨v0, v1⟩ => ?_
    · have := List.mem_of_getElem? hv
      simp only [List.mem_cons, List.not_mem_nil, or_false] at this
      omega
    refine okif (fun _ => ?_) fun c0 => okif (fun _ => ?_) fun c1 => okif (fun _ => ?_) fun c2 => ?_
    · exact okb (of_length_ok a v0 v1) fun l hl => okv ⟨hl.1, b, c', e⟩
    · exact okb (of_length2_ok (part := ti) b v0 v1) fun l hl => okv ⟨a, hl.1, fun t ht => c' t (hl.2 t ht), e⟩
    · exact okb (of_length_ok e v0 v1) fun l hl => okv ⟨a, b, c', hl.1⟩
    · rw [decide_eq_false_iff_not] at c0 c1 c2
      omega
  refine okif (fun cw => ?_) fun _ => okif (fun cw => ?_) fun _ => okif (fun cw => ?_) fun _ => okv ⟨a, b, c', e⟩
  · rw [Bool.and_eq_true, Bool.not_eq_true', decide_eq_false_iff_not] at cw
    have hp : 0 < th.length := List.length_pos_iff.mpr cw.2
    have r0 := Int.emod_nonneg (n / 41) (show (th.length : Int) ≠ 0 by omega)
    have r1 := Int.emod_lt_of_pos (n / 41) (show 0 < (th.length : Int) by omega)
    refine okb (odd_ok _) fun y _ => ?_
    show Okm (M.bind (modM (n / 41) (th.length : Int)) _) _
    rw [oke (ok_mod (by omega)), M.bok]
    show Okm (M.bind (setM th _ y) _) _
    refine okb (ok_set r0 r1) fun l el => okv ?_
    subst el
    exact ⟨by show (th.set _ _).length ≤ _; rw [List.length_set]; exact a, b, c', e⟩
  · rw [Bool.and_eq_true, Bool.not_eq_true', decide_eq_false_iff_not] at cw
    have hp : 0 < ti.length := List.length_pos_iff.mpr cw.2
    have r0 := Int.emod_nonneg (n / 41) (show (ti.length : Int) ≠ 0 by omega)
    have r1 := Int.emod_lt_of_pos (n / 41) (show 0 < (ti.length : Int) by omega)
    show Okm (M.bind (modM (n / 41) (ti.length : Int)) _) _
    rw [oke (ok_mod (by omega)), M.bok]
    refine okb (P := fun t : List Int => t.length ≤ m + 1) (okb (P := fun t : List Int => t.length ≤ m) (okmono (ok_get r0 r1) fun v hv => c v (List.mem_of_getElem? hv)) fun t ht => tie_changed_ok ht m0 (by omega) _ _) fun t ht => ?_
    show Okm (M.bind (setM ti _ t) _) _
    refine okb (ok_set r0 r1) fun l el => okv ?_
    subst el
    refine ⟨a, by show (ti.set _ _).length ≤ _; rw [List.length_set]; exact b, fun x hx => ?_, e⟩
    rcases List.mem_or_eq_of_mem_set hx with hx | hx
    · exact c' x hx
    · rw [hx]; exact ht
  · rw [Bool.and_eq_true, Bool.not_eq_true', decide_eq_false_iff_not] at cw
    have hp : 0 < tr.length := List.length_pos_iff.mpr cw.2
    have r0 := Int.emod_nonneg (n / 41) (show (tr.length : Int) ≠ 0 by omega)
    have r1 := Int.emod_lt_of_pos (n / 41) (show 0 < (tr.length : Int) by omega)
    refine okb (P := fun _ => True) (okb (P := fun l : List Int => l.length = 4) (okb (odd_ok _) fun _ _ => okv rfl) fun l hl => okmono (ok_get (by omega) (by omega)) fun _ _ => trivial) fun y _ => ?_
    show Okm (M.bind (modM (n / 41) (tr.length : Int)) _) _
    rw [oke (ok_mod (by omega)), M.bok]
    show Okm (M.bind (setM tr _ y) _) _
    refine okb (ok_set r0 r1) fun l el => okv ?_
    subst el
    exact ⟨a, b, c', by show (tr.set _ _).length ≤ _; rw [List.length_set]; exact e⟩
theorem caught_ok (d : List Int × List (List Int) × List Int × Unit) : f_law_caught d = .ok (if fitB d.1 d.2.1 d.2.2.1 = true then none else some .noDraft) := by
  unfold f_law_caught
  show M.bind (tryM kn_ .noDraft (M.bind (f_Draft_init d.1 d.2.1 d.2.2.1) fun u => M.ok (none : Option Ec)) fun e => some e) _ = _
  rw [draft_ok]
  cases fitB d.1 d.2.1 d.2.2.1 with
  | true => rfl
  | false =>
    have t : tryM kn_ .noDraft (M.bind (M.ex .noDraft : M O_Draft) fun u => M.ok (none : Option Ec)) (fun e => some e) = M.ok (some .noDraft) := by
      show tryM kn_ .noDraft (M.ex .noDraft) _ = _
      unfold tryM
      simp only
      rw [if_pos (by decide), if_pos (by decide)]
    rw [if_neg Bool.false_ne_true, t]
    rfl
theorem no_draft_ok : f_law_no_draft (some .noDraft) = .ok true := by
  unfold f_law_no_draft
  have e1 : isEM kn_ (some .noDraft) .weave = .ok true := by unfold isEM; simp only; rw [if_pos (by decide)]; rfl
  have e2 : isEM kn_ (some .noDraft) .noCloth = .ok false := by unfold isEM; simp only; rw [if_pos (by decide)]; rfl
  have e3 : isVM kn_ (some .noDraft) = .ok true := by unfold isVM; simp only; rw [if_pos (by decide)]
  have e4 : M.bind (unM (some Ec.noDraft)) (fun y11 => calledM kc_ y11) = .ok (tx "NoDraft") := by
    show calledM kc_ .noDraft = _
    unfold calledM
    first | rfl | (rw [if_pos (by decide)]; decide +kernel) | decide +kernel
  rw [e1, M.bok, M.bok, if_neg (by simp), e3, M.bok, M.bok, if_neg (by simp), e4, M.bok, M.bok, if_pos (by simp), e2, M.bok]
  rfl
theorem law_math : ∀ ns : List Int, ns.length ≤ 63 → c_law (ns, ()) = .ok true := by
  intro script hl
  show f_law script = _
  refine oke ?_
  unfold f_law
  refine okb (numbers_ok hl (by omega) (by omega)) fun ns ⟨n1, n2⟩ => ?_
  have hns : ns.length = 127 := by rw [n1]; rfl
  have hc : cutL ns (some (4 : Int)) none = ns.drop 4 := by rw [cut_from (by omega) (by omega)]; rfl
  rw [hc]
  refine okb (draft_by_ok (by rw [List.length_drop]; omega) (by rw [List.length_drop]; omega) fun x hx => n2 x (List.mem_of_mem_drop hx)) fun bu D => ?_
  obtain ⟨th, ti, tr, u⟩ := bu
  cases u
  have D : DraftBy th ti tr := D
  obtain ⟨d1, d2, d3, d4, d5, d6, d7, d8, d9⟩ := D
  show Okm (M.bind (M.bind (compM (fun tie20 => M.ok (some tie20)) ti) _) _) _
  rw [id_comp (by omega), M.bok, M.bok]
  have g : ∀ k : Int, 0 ≤ k → k < 127 → Okm (getM ns k) (fun v => 0 ≤ v) := fun k h0 h1 => okmono (ok_get h0 (by omega)) fun v hv => (n2 v (List.mem_of_getElem? hv)).1
  refine okb (P := fun v : Int => 0 ≤ v) (okb (g 0 (by omega) (by omega)) fun v _ => okv (by omega)) fun way w0 => ?_
  refine okb (P := fun _ => True) (okb (P := fun _ => True) (okb (g 1 (by omega) (by omega)) fun v _ => okv trivial) fun v _ => okv trivial) fun n _ => ?_
  refine okb (changed_ok (m := 40) ⟨by show th.length ≤ 100; omega, by show ti.length ≤ 100; omega, fun t ht => (d8 t ht).1, by show tr.length ≤ 100; omega⟩ (by omega) (by omega) w0 n) fun r1 B1 => ?_
  refine okb (P := fun _ => True) (okb (P := fun _ => True) (okb (g 2 (by omega) (by omega)) fun v _ => okv trivial) fun v _ => okv trivial) fun c _ => ?_
  refine okb (P := Bd 42) (okif (fun _ => ?_) fun _ => okv ⟨B1.a, B1.b, fun t ht => Nat.le_succ_of_le (B1.c t ht), B1.d⟩) fun s B => ?_
  · refine okb (P := fun v : Int => 0 ≤ v) (okb (P := fun _ => True) (okb (g 2 (by omega) (by omega)) fun v _ => okv trivial) fun v _ => okv (by omega)) fun way w0 => ?_
    refine okb (P := fun _ => True) (okb (P := fun _ => True) (okb (g 3 (by omega) (by omega)) fun v _ => okv trivial) fun v _ => okv trivial) fun n _ => ?_
    exact okb (changed_ok B1 (by omega) (by omega) w0 n) fun r2 B2 => okv B2
  obtain ⟨sa, sb, sc, u⟩ := s
  cases u
  obtain ⟨b1, b2, b3, b4⟩ := B
  have b1 : sa.length ≤ 100 := b1
  have b2 : sb.length ≤ 100 := b2
  have b3 : ∀ t ∈ sb, t.length ≤ 42 := b3
  have b4 : sc.length ≤ 100 := b4
  show Okm (M.bind (M.bind (compM (fun tie86 => M.ok (some tie86)) sb) _) _) _
  rw [id_comp (by omega), M.bok, M.bok, caught_ok, M.bok, if_neg (by simp), law_fits_ok fun t ht => by have := b3 t ht; omega, M.bok]
  show Okm (if fitB sa sb sc = true then if (if fitB sa sb sc = true then (none : Option Ec) else some .noDraft).isSome = true then M.ok false else M.bind (f_Draft_init sa sb sc) fun d => f_law_draft_same d sa sb sc else M.bind (M.bind (f_law_no_draft (if fitB sa sb sc = true then (none : Option Ec) else some .noDraft)) fun y => M.ok (!y)) fun c => if c = true then M.ok false else M.bind (f_Draft_init th ti tr) fun d => f_law_draft_same d th ti tr) _
  cases hf : fitB sa sb sc with
  | true =>
    rw [if_pos rfl, if_pos rfl, if_neg (by simp), draft_ok, hf, if_pos rfl, M.bok, draft_same_ok (by omega) (by omega) (by omega) fun t ht => by have := b3 t ht; omega]
    exact okv rfl
  | false =>
    rw [if_neg Bool.false_ne_true, if_neg Bool.false_ne_true, no_draft_ok, M.bok, M.bok, if_neg (by simp), draft_ok, fit_true d1 d2 d3 d4 d5 d6 d7 (fun t ht => (d8 t ht).2) d9, if_pos rfl, M.bok, draft_same_ok (by omega) (by omega) (by omega) fun t ht => by have := (d8 t ht).1; omega]
    exact okv rfl
theorem facts_of {K : PySem.W.Frag} {h : Heap} {mg : Str → Option Value} {P : Program} {w : World} {base : Heap} (X : K.In h) (G : h.Ns mainGlobals mg) (kx : (knB kn_) K = true) (c : He.SaysD fas dds K) : Facts ⟨P, w, K, mg, base, fun c => He.ga K (ecName c), none⟩ where
  g_ValueError := He.free_ok X G (c.fact 21 (f := .free "ValueError") rfl)
  g_bool := He.free_ok X G (c.fact 22 (f := .free "bool") rfl)
  g_int := He.free_ok X G (c.fact 23 (f := .free "int") rfl)
  g_isinstance := He.free_ok X G (c.fact 24 (f := .free "isinstance") rfl)
  g_len := He.free_ok X G (c.fact 25 (f := .free "len") rfl)
  g_list := He.free_ok X G (c.fact 26 (f := .free "list") rfl)
  g_range := He.free_ok X G (c.fact 27 (f := .free "range") rfl)
  c_MOST_IN_DRAFT := He.int_ok X G (c.fact 28 (f := .int "MOST_IN_DRAFT" 40) rfl)
  x_NoCloth := exF X G rfl (c.fact 29 (f := .glo "NoCloth") rfl) (c.fact 30 (f := .exc "NoCloth") rfl)
  x_NoDraft := exF X G rfl (c.fact 31 (f := .glo "NoDraft") rfl) (c.fact 32 (f := .exc "NoDraft") rfl)
  x_WeaveError := exF X G rfl (c.fact 33 (f := .glo "WeaveError") rfl) (c.fact 34 (f := .exc "WeaveError") rfl)
  kn := kn_ok kx
  cl_WeaveError := by
    obtain ⟨fd, F⟩ := c.def_ 17 (d := ⟨("WeaveError", some "called"), "called", "WeaveError.called", defArgs s_clWeaveError, defBody s_clWeaveError, defScope s_clWeaveError, [], []⟩) rfl
    exact cl_WeaveError F (He.meth_ok (c.fact 35 (f := .meth "WeaveError" "called") rfl))
  cl_NoCloth := by
    obtain ⟨fd, F⟩ := c.def_ 18 (d := ⟨("NoCloth", some "called"), "called", "NoCloth.called", defArgs s_clNoCloth, defBody s_clNoCloth, defScope s_clNoCloth, [], []⟩) rfl
    exact cl_NoCloth F (He.meth_ok (c.fact 36 (f := .meth "NoCloth" "called") rfl))
  cl_NoDraft := by
    obtain ⟨fd, F⟩ := c.def_ 19 (d := ⟨("NoDraft", some "called"), "called", "NoDraft.called", defArgs s_clNoDraft, defBody s_clNoDraft, defScope s_clNoDraft, [], []⟩) rfl
    exact cl_NoDraft F (He.meth_ok (c.fact 37 (f := .meth "NoDraft" "called") rfl))
  a_Draft := He.cls_ok (c.fact 16 (f := .cls "Draft") rfl)
  n_Draft_threading := He.noat_ok (c.fact 18 (f := .noat "Draft" "threading") rfl)
  n_Draft_ties := He.noat_ok (c.fact 19 (f := .noat "Draft" "ties") rfl)
  n_Draft_treading := He.noat_ok (c.fact 20 (f := .noat "Draft" "treading") rfl)
  d__law_numbers := by
    obtain ⟨fd, F⟩ := c.def_ 0 (d := ⟨("_law_numbers", none), "_law_numbers", "_law_numbers", defArgs (topS 10), defBody (topS 10), defScope (topS 10), [], []⟩) rfl
    exact ⟨_, fd, F, He.glo_ok X G (c.fact 0 (f := .glo "_law_numbers") rfl)⟩
  d__law_subset := by
    obtain ⟨fd, F⟩ := c.def_ 1 (d := ⟨("_law_subset", none), "_law_subset", "_law_subset", defArgs (topS 11), defBody (topS 11), defScope (topS 11), [], []⟩) rfl
    exact ⟨_, fd, F, He.glo_ok X G (c.fact 1 (f := .glo "_law_subset") rfl)⟩
  d__law_draft_by := by
    obtain ⟨fd, F⟩ := c.def_ 2 (d := ⟨("_law_draft_by", none), "_law_draft_by", "_law_draft_by", defArgs (topS 12), defBody (topS 12), defScope (topS 12), [], []⟩) rfl
    exact ⟨_, fd, F, He.glo_ok X G (c.fact 2 (f := .glo "_law_draft_by") rfl)⟩
  d__law_of_length := by
    obtain ⟨fd, F⟩ := c.def_ 3 (d := ⟨("_law_of_length", none), "_law_of_length", "_law_of_length", defArgs (topS 16), defBody (topS 16), defScope (topS 16), [], []⟩) rfl
    exact ⟨_, fd, F, He.glo_ok X G (c.fact 3 (f := .glo "_law_of_length") rfl)⟩
  d__law_of_length__k2 := by
    obtain ⟨fd, F⟩ := c.def_ 4 (d := ⟨("_law_of_length", none), "_law_of_length", "_law_of_length", defArgs (topS 16), defBody (topS 16), defScope (topS 16), [], []⟩) rfl
    exact ⟨_, fd, F, He.glo_ok X G (c.fact 3 (f := .glo "_law_of_length") rfl)⟩
  d__law_odd := by
    obtain ⟨fd, F⟩ := c.def_ 5 (d := ⟨("_law_odd", none), "_law_odd", "_law_odd", defArgs (topS 15), defBody (topS 15), defScope (topS 15), [], []⟩) rfl
    exact ⟨_, fd, F, He.glo_ok X G (c.fact 4 (f := .glo "_law_odd") rfl)⟩
  d__law_tie_changed := by
    obtain ⟨fd, F⟩ := c.def_ 6 (d := ⟨("_law_tie_changed", none), "_law_tie_changed", "_law_tie_changed", defArgs (topS 17), defBody (topS 17), defScope (topS 17), [], []⟩) rfl
    exact ⟨_, fd, F, He.glo_ok X G (c.fact 5 (f := .glo "_law_tie_changed") rfl)⟩
  d__law_changed := by
    obtain ⟨fd, F⟩ := c.def_ 7 (d := ⟨("_law_changed", none), "_law_changed", "_law_changed", defArgs (topS 18), defBody (topS 18), defScope (topS 18), [], []⟩) rfl
    exact ⟨_, fd, F, He.glo_ok X G (c.fact 6 (f := .glo "_law_changed") rfl)⟩
  d_tie_rises := by
    obtain ⟨fd, F⟩ := c.def_ 8 (d := ⟨("tie_rises", none), "tie_rises", "tie_rises", defArgs (topS 6), defBody (topS 6), defScope (topS 6), [], []⟩) rfl
    exact ⟨_, fd, F, He.glo_ok X G (c.fact 7 (f := .glo "tie_rises") rfl)⟩
  d_lists_fit := by
    obtain ⟨fd, F⟩ := c.def_ 9 (d := ⟨("lists_fit", none), "lists_fit", "lists_fit", defArgs (topS 7), defBody (topS 7), defScope (topS 7), [], []⟩) rfl
    exact ⟨_, fd, F, He.glo_ok X G (c.fact 8 (f := .glo "lists_fit") rfl)⟩
  k_Draft_init := by
    obtain ⟨fd, F⟩ := c.def_ 10 (d := ⟨("Draft", some "__init__"), "__init__", "Draft.__init__", defArgs ((clsBody (topS 8)).getD 0 (.Pass ⟨0, 0, 0, 0⟩)), defBody ((clsBody (topS 8)).getD 0 (.Pass ⟨0, 0, 0, 0⟩)), defScope ((clsBody (topS 8)).getD 0 (.Pass ⟨0, 0, 0, 0⟩)), [], []⟩) rfl
    exact ⟨_, fd, F, He.mkr_ok (c.fact 17 (f := .mkr "Draft") rfl), He.glo_ok X G (c.fact 15 (f := .glo "Draft") rfl)⟩
  d__law_caught := by
    obtain ⟨fd, F⟩ := c.def_ 11 (d := ⟨("_law_caught", none), "_law_caught", "_law_caught", defArgs (topS 20), defBody (topS 20), defScope (topS 20), [], []⟩) rfl
    exact ⟨_, fd, F, He.glo_ok X G (c.fact 9 (f := .glo "_law_caught") rfl)⟩
  d__law_fits := by
    obtain ⟨fd, F⟩ := c.def_ 12 (d := ⟨("_law_fits", none), "_law_fits", "_law_fits", defArgs (topS 19), defBody (topS 19), defScope (topS 19), [], []⟩) rfl
    exact ⟨_, fd, F, He.glo_ok X G (c.fact 10 (f := .glo "_law_fits") rfl)⟩
  d__law_numbers_same := by
    obtain ⟨fd, F⟩ := c.def_ 13 (d := ⟨("_law_numbers_same", none), "_law_numbers_same", "_law_numbers_same", defArgs (topS 13), defBody (topS 13), defScope (topS 13), [], []⟩) rfl
    exact ⟨_, fd, F, He.glo_ok X G (c.fact 11 (f := .glo "_law_numbers_same") rfl)⟩
  d__law_draft_same := by
    obtain ⟨fd, F⟩ := c.def_ 14 (d := ⟨("_law_draft_same", none), "_law_draft_same", "_law_draft_same", defArgs (topS 14), defBody (topS 14), defScope (topS 14), [], []⟩) rfl
    exact ⟨_, fd, F, He.glo_ok X G (c.fact 12 (f := .glo "_law_draft_same") rfl)⟩
  d__law_no_draft := by
    obtain ⟨fd, F⟩ := c.def_ 15 (d := ⟨("_law_no_draft", none), "_law_no_draft", "_law_no_draft", defArgs (topS 21), defBody (topS 21), defScope (topS 21), [], []⟩) rfl
    exact ⟨_, fd, F, He.glo_ok X G (c.fact 13 (f := .glo "_law_no_draft") rfl)⟩
  d_law := by
    obtain ⟨fd, F⟩ := c.def_ 16 (d := ⟨("law", none), "law", "law", defArgs (topS 22), defBody (topS 22), defScope (topS 22), [], []⟩) rfl
    exact ⟨_, fd, F, He.glo_ok X G (c.fact 14 (f := .glo "law") rfl)⟩
end Hd
open PySem PySem.W PySem.Calls PyProof.Rows
set_option maxHeartbeats 0
theorem PySem.Challenge.cw_heddle_k07_drafts_refused_holds : PySem.Challenge.rw_heddle_k07_drafts_refused.Holds := by
  w_on; o_law
  refine HandSHeadRun.head_any (r := OpenLaw.row PySem.Challenge.rw_heddle_k07_drafts_refused) (q := view (OpenLaw.row PySem.Challenge.rw_heddle_k07_drafts_refused).prog [22]) (H := Hd.hk) (ob := Hd.ob) (M := 9000) (loose := Hd.loose) (d := HandSHeadRun.topDef (OpenLaw.row PySem.Challenge.rw_heddle_k07_drafts_refused).prog 22) (kwd := []) Hd.ob_eq
    (by kernel_rfl) (fun s => by kernel_rfl) Hd.run (by kernel_rfl) (by kernel_rfl) (by kernel_rfl) (by rfl) (by first | assumption | decide +kernel) (by decide +kernel) ⟨rfl, rfl, rfl, rfl, rfl, by decide +kernel⟩ ?hw ?hc
  case hw => w_witness2
  case hc =>
    refine Hd.law_end (l := PySem.Challenge.rw_heddle_k07_drafts_refused) (k := 6) (cl := Hd.c_law) rfl (by kernel_rfl) ⟨rfl, by decide, by decide⟩ ?F Hd.law_math
    intro w mg fa h Y G hmg0
    obtain ⟨K, KX, kx, c⟩ := Y
    have hmg : mg ("law" : PySem.Str) = some (.ref fa) := by
      have e : (HandSHeadRun.topDef (OpenLaw.row PySem.Challenge.rw_heddle_k07_drafts_refused).prog 22).name = ("law" : PySem.Str) := by kernel_rfl
      rw [← e]
      exact hmg0
    obtain ⟨f, fd, hF, hm⟩ := (Hd.facts_of (P := (PySem.Challenge.rw_heddle_k07_drafts_refused).prog) (w := w) (base := h) KX G kx c ).d_law
    have e := hm.symm.trans hmg
    cases e
    exact ⟨K, fd, fun c => He.ga K (Hd.ecName c), KX, fun s v => Hd.L2_bindsA hF s v, fun base => Hd.fnok_law (Hd.facts_of KX G kx c ) hF⟩
