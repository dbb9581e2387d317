import PyProof.Rows.All
import Wide.All
import OpenK.AllK
import Wide.FinOn
import HandS.Base
import HandS.Call
import HandS.List
import HandS.Comp
import HandS.Ends
import HandS.Dict
import HandS.Iter
import HandS.Text
import HandS.Words
import HandS.WordsList
import HandS.Exc
import HandS.TryOnly
import HandS.ExcOwn
import HandS.Defaults
import HandS.Lambda
import HandS.Flow
import HandS.RaiseOp
import HandS.TryElse
import HandS.Wide
import HandS.StrMore
import HandS.StrSplit
import HandS.WordsExc
import HandS.Strs
import HandS.IsInst
import HandS.SetFor
import KE.KStateDown
import HandS.Head0
import HandS.Head1
import HandS.Head2
import HandS.HeadEnd
import HandS.HeadHook1
import HandS.HeadHook2
import PyProof.Rows.RegReprOcc
import PyProof.StrOps2
import HandS.ExcIs
import HandS.TryMany
import KE.KExcMore
import HandS.Deep
import PyProof.Draws
import PyProof.EnumMake
import PyProof.LongRange
import KE.GoesZip
import KE.GoesMore
import HandS.RevTup
import HandS.Small
import HandS.Conv
import HandS.Rev
import KE.SortKeyHeap
import HandS.Nested
import HandS.Sort
import HandS.HeadWalk
import HandS.HeadHook4
import HandS.More
import HandS.WideBits
import PyProof.ListIndexNeg
import KE.DataCmp
import KE.SortData
import HandS.Codes
import KE.KDictDisplayH
import HandS.ClsMeth
import HandS.NoneIn
import KE.KWords
import HandS.HotCalls
import PySem.Challenge.RW_heddle_k48_whole_colours_or_chains
set_option Elab.async false
set_option linter.all false
set_option maxRecDepth 100000
set_option maxHeartbeats 0
set_option exponentiation.threshold 20000
set_option synthInstance.maxSize 100000
set_option synthInstance.maxHeartbeats 0
noncomputable section
namespace Hd
open PySem PySem.Spec L2
/-- the classes of refusals -/
inductive Ec where
  | weave | noRow | tooLarge | noCloth | noDraft | noStrand | noDeed | noLaying | noShuttle | noColour | noBlock | noPattern | unknown | twice
  deriving DecidableEq, Repr
/-- what a piece of the program comes to: a value, a refusal, or nothing that is promised here -/
inductive M (α : Type) where
  | ok (a : α)
  | ex (c : Ec)
  | no
def M.bind {α β : Type} : M α → (α → M β) → M β
  | .ok a, f => f a
  | .ex c, _ => .ex c
  | .no, _ => .no
/-- where nothing can be let out -/
def M.nox {α : Type} : M α → M α
  | .ok a => .ok a
  | _ => .no
@[simp] theorem M.bind_ok {α β : Type} (a : α) (f : α → M β) : M.bind (.ok a) f = f a := rfl
@[simp] theorem M.bind_ex {α β : Type} (c : Ec) (f : α → M β) : M.bind (.ex c) f = .ex c := rfl
@[simp] theorem M.bind_no {α β : Type} (f : α → M β) : M.bind .no f = .no := rfl
@[simp] theorem M.nox_ok {α : Type} (a : α) : M.nox (.ok a) = .ok a := rfl
/-- all but the tables of code objects -/
def nt : HO → Bool
  | .tbl _ => false
  | _ => true
def cl (H : Hp) : Hp := fun a => match H a with
  | some (.tbl _) => none
  | x => x
theorem cl_of {H : Hp} {a : Addr} {o : HO} (h : H a = some o) (n : nt o = true := by rfl) : cl H a = some o := by
  unfold cl; rw [h]; cases o <;> first | rfl | cases n
theorem cl_raw {H : Hp} {a : Addr} {o : HO} (h : cl H a = some o) : H a = some o := by
  unfold cl at h; split at h <;> first | exact h | cases h
theorem cl_nt {H : Hp} {a : Addr} {o : HO} (h : cl H a = some o) : nt o = true := by
  unfold cl at h
  split at h
  · cases h
  · rename_i x hx
    cases o <;> first | rfl | exact absurd h (hx _)
theorem cl_none {H : Hp} {a : Addr} (h : H a = none) : cl H a = none := by unfold cl; rw [h]
theorem cl_upd_ne {H : Hp} {a q : Addr} {o : HO} (h : a ≠ q) : cl (upd H q o) a = cl H a := by unfold cl; rw [upd_ne h]
/-- the one lambda of the program: its name -/
def lamQ : Str := "by_count.<locals>.<lambda>"
/-- a later heap: tables may have grown -/
structure Same (H H' : Hp) : Prop where
  keep : ∀ a o, H a = some o → nt o = true → H' a = some o
  fr : ∀ a, H' a = none → H a = none
  tab : ∀ P, LamX.TabS H P lamQ → LamX.TabS H' P lamQ
theorem Same.of {H H' : Hp} (h : L2.Same H H') : Same H H' := ⟨fun a o e _ => h a o e, fun a e => h.free e, fun P t => t.ext h⟩
theorem Same.refl (H : Hp) : Same H H := .of (L2.Same.refl H)
theorem Same.trans {H H1 H2 : Hp} (a : Same H H1) (b : Same H1 H2) : Same H H2 := ⟨fun x o e n => b.keep x o (a.keep x o e n) n, fun x e => a.fr x (b.fr x e), fun P t => b.tab P (a.tab P t)⟩
theorem Same.free {H H' : Hp} (s : Same H H') {l : Addr} (h : H' l = none) : H l = none := s.fr l h
theorem Same.cl {H H' : Hp} (s : Same H H') : L2.Same (cl H) (cl H') := fun a o e => cl_of (s.keep a o (cl_raw e) (cl_nt e)) (cl_nt e)
/-- a thing of one's own is written -/
theorem Same.wr {H0 H : Hp} {q : Addr} {o u : HO} (s : Same H0 H) (n0 : H0 q = none) (hq : H q = some u) (hu : ∀ φ, u ≠ .ext φ) (hn : nt u = true) : Same H0 (upd H q o) := by
  refine ⟨fun a o' e n => ?_, fun a e => ?_, fun P t => ?_⟩
  · rw [upd_ne (ne_of_none e n0)]; exact s.keep a o' e n
  · by_cases z : a = q
    · rw [z, upd_same] at e; cases e
    · rw [upd_ne z] at e; exact s.fr a e
  · obtain ⟨ps, h1, h2, h3⟩ := s.tab P t
    have np : P ≠ q := fun z => by rw [z, hq] at h1; cases h1; cases hn
    refine ⟨ps, by rw [upd_ne np]; exact h1, h2, fun pos cv hc => ?_⟩
    obtain ⟨c, e1, e2⟩ := h3 pos cv hc
    have nc : c ≠ q := fun z => by rw [z, hq] at e2; exact hu _ (Option.some.inj e2)
    exact ⟨c, e1, by rw [upd_ne nc]; exact e2⟩
/-- what may be read -/
abbrev RdR := Addr → HO → Prop
/-- data of a kind, and how a value of the program stands for it -/
structure Ty (α : Type) where
  rep : α → V → RdR → Prop
  mono : ∀ {d v} {R R' : RdR}, rep d v R → (∀ a o, R a o → R' a o) → rep d v R'
inductive Reps {α : Type} (T : Ty α) (R : RdR) : List α → List V → Prop where
  | nil : Reps T R [] []
  | cons {d ds v vs} : T.rep d v R → Reps T R ds vs → Reps T R (d :: ds) (v :: vs)
section
variable {α : Type} {T : Ty α} {R R' : RdR} {ds es : List α} {vs ws : List V}
theorem Reps.mono (h : Reps T R ds vs) (s : ∀ a o, R a o → R' a o) : Reps T R' ds vs := by
  induction h with
  | nil => exact .nil
  | cons r _ ih => exact .cons (T.mono r s) ih
theorem Reps.length (h : Reps T R ds vs) : ds.length = vs.length := by
  induction h with
  | nil => rfl
  | cons _ _ ih => simp [ih]
theorem Reps.append (h : Reps T R ds vs) (k : Reps T R es ws) : Reps T R (ds ++ es) (vs ++ ws) := by
  induction h with
  | nil => exact k
  | cons r _ ih => exact .cons r ih
theorem Reps.get (h : Reps T R ds vs) : ∀ {i : Nat} {d : α}, ds[i]? = some d → ∃ v, vs[i]? = some v ∧ T.rep d v R := by
  induction h with
  | nil => intro i d e; simp at e
  | cons r _ ih =>
    intro i d e
    cases i with
    | zero => simp at e; subst e; exact ⟨_, rfl, r⟩
    | succ i => obtain ⟨v, e1, r1⟩ := ih (i := i) (d := d) (by simpa using e); exact ⟨v, by simpa using e1, r1⟩
theorem Reps.set {d : α} {v : V} (h : Reps T R ds vs) (r : T.rep d v R) : ∀ (i : Nat), Reps T R (ds.set i d) (vs.set i v) := by
  induction h with
  | nil => intro i; exact .nil
  | cons q t ih =>
    intro i
    cases i with
    | zero => exact .cons r t
    | succ i => exact .cons q (ih i)
theorem Reps.take (h : Reps T R ds vs) : ∀ n, Reps T R (ds.take n) (vs.take n) := by
  induction h with
  | nil => intro n; simp; exact .nil
  | cons r _ ih => intro n; cases n with
    | zero => exact .nil
    | succ n => exact .cons r (ih n)
theorem Reps.drop (h : Reps T R ds vs) : ∀ n, Reps T R (ds.drop n) (vs.drop n) := by
  induction h with
  | nil => intro n; simp; exact .nil
  | cons r t ih => intro n; cases n with
    | zero => exact .cons r t
    | succ n => exact ih n
theorem Reps.reverse (h : Reps T R ds vs) : Reps T R ds.reverse vs.reverse := by
  induction h with
  | nil => exact .nil
  | cons r _ ih => rw [List.reverse_cons, List.reverse_cons]; exact ih.append (.cons r .nil)
end
def tInt : Ty Int := ⟨fun n v _ => v = .int n, fun h _ => h⟩
def tBool : Ty Bool := ⟨fun b v _ => v = .bl b, fun h _ => h⟩
/-- a text, as its signs -/
abbrev Tx := List Nat
def toS (x : Tx) : Str := ⟨x.toArray⟩
/-- short enough, of signs -/
def OkTx (x : Tx) : Prop := x.length ≤ sizeLine ∧ ∀ c ∈ x, c < 0x110000
def tStr : Ty Tx := ⟨fun x v _ => v = .str (toS x) ∧ OkTx x, fun h _ => h⟩
def tNone : Ty Unit := ⟨fun _ v _ => v = .non, fun h _ => h⟩
def tOpt {α : Type} (T : Ty α) : Ty (Option α) := ⟨fun d v R => match d with | none => v = .non | some d => T.rep d v R ∧ v ≠ .non, fun {d v R R'} h s => by
  cases d with
  | none => exact h
  | some d => exact ⟨T.mono h.1 s, h.2⟩⟩
def tList {α : Type} (T : Ty α) : Ty (List α) := ⟨fun ds v R => ∃ a vs, v = .ref a ∧ R a (.lst vs) ∧ Reps T R ds vs, fun ⟨a, vs, e, r, h⟩ s => ⟨a, vs, e, s _ _ r, h.mono s⟩⟩
/-- the written items of a list, an argument list, a tuple -/
structure Ar (δ : Type) where
  rep : δ → List V → RdR → Prop
  mono : ∀ {d vs} {R R' : RdR}, rep d vs R → (∀ a o, R a o → R' a o) → rep d vs R'
def aNil : Ar Unit := ⟨fun _ vs _ => vs = [], fun h _ => h⟩
def aCons {α β : Type} (T : Ty α) (A : Ar β) : Ar (α × β) := ⟨fun d vs R => ∃ v r, vs = v :: r ∧ T.rep d.1 v R ∧ A.rep d.2 r R, fun ⟨v, r, e, h1, h2⟩ s => ⟨v, r, e, T.mono h1 s, A.mono h2 s⟩⟩
/-- a tuple of written items -/
def tTup {δ : Type} (A : Ar δ) : Ty δ := ⟨fun d v R => ∃ a vs, v = .ref a ∧ R a (.tup vs) ∧ A.rep d vs R, fun ⟨a, vs, e, r, h⟩ s => ⟨a, vs, e, s _ _ r, A.mono h s⟩⟩
/-- all items of one kind -/
def aAll {α : Type} (T : Ty α) : Ar (List α) := ⟨fun ds vs R => Reps T R ds vs, fun h s => h.mono s⟩
/-- a tuple of the written part -/
def KObj (K : PySem.W.Frag) (a : Addr) : HO → Prop
  | .tup xs => ∃ (o : Obj) (its : Array Value) (n : Nat), K.lookup a = some o ∧ o.cls = .type "tuple" ∧ o.data = .seq its n ∧ its.size ≤ sizeLine ∧ Vals xs its.toList
  | _ => False
/-- a def's frame: the heap it began with; the callers' own things, which its arguments don't reach -/
structure Fm where
  K : PySem.W.Frag
  H0 : Hp
  z : Addr → Prop
/-- how new a thing is: sh: it may be shared; f0: made since the def began; fx: made since the expression began -/
inductive Md where | sh | f0 | fx
/-- a value of the table of a code object, as a value of the program (used for marks only) -/
def decV : Value → V
  | .int i _ => .int i
  | .str x _ => .str x
  | _ => .non
/-- how else a thing may be there that is read as o: frozen; a tuple of ints and texts that is no written one is read by a mark too -/
def Alt (o u : HO) : Prop := (nt o = true ∧ ∃ f, u = .frz f o) ∨ ∃ ps : Array Value, o = .tbl ps ∧ u = .tup (ps.toList.map decV)
def Rd (H : Hp) (a : Addr) (o : HO) : Prop := H a = some o ∨ ∃ f : {u : HO // Alt o u}, H a = some f.1
def RD (fm : Fm) (own : List Addr) (H : Hp) : RdR := fun a o => (Rd (cl H) a o ∧ a ∉ own ∧ ¬ fm.z a) ∨ KObj fm.K a o
/-- .. at H' behind an expression that began at H -/
def RX (fm : Fm) (own : List Addr) (H H' : Hp) : Md → RdR
  | .sh => RD fm own H'
  | .f0 => fun a o => cl H' a = some o ∧ a ∉ own ∧ ¬ fm.z a ∧ fm.H0 a = none
  | .fx => fun a o => cl H' a = some o ∧ a ∉ own ∧ ¬ fm.z a ∧ fm.H0 a = none ∧ H a = none
theorem Rd.clo {H : Hp} {a : Addr} {o : HO} (r : L2.Rd H a o) (n : nt o = true := by rfl) : Rd (cl H) a o := r.imp (fun h => cl_of h n) fun ⟨f, h⟩ => ⟨⟨.frz f o, .inl ⟨n, f, rfl⟩⟩, cl_of h⟩
theorem Rd.raw {H : Hp} {a : Addr} {o : HO} (r : Rd (cl H) a o) (n : nt o = true := by rfl) : L2.Rd H a o := by
  rcases r with r | ⟨⟨u, x⟩, r⟩
  · exact .inl (cl_raw r)
  · rcases x with ⟨_, f, e⟩ | ⟨ps, e, _⟩
    · exact .inr ⟨f, by rw [← e]; exact cl_raw r⟩
    · rw [e] at n; cases n
/-- the mark of a tuple of ints and texts -/
theorem Rd.mark {H : Hp} {a : Addr} {ps : Array Value} (r : Rd (cl H) a (.tbl ps)) : H a = some (.tup (ps.toList.map decV)) := by
  rcases r with r | ⟨⟨u, x⟩, r⟩
  · cases cl_nt r
  · rcases x with ⟨n, f, e⟩ | ⟨ps', e, e'⟩
    · cases n
    · cases e; rw [← e']; exact cl_raw r
theorem Rd.same {H H' : Hp} {a : Addr} {o : HO} (s : Same H H') (r : Rd (cl H) a o) : Rd (cl H') a o := by
  rcases r with r | ⟨f, r⟩
  · exact .inl (s.cl _ _ r)
  · exact .inr ⟨f, s.cl _ _ r⟩
theorem Rd.some {H : Hp} {a : Addr} {o : HO} (r : Rd H a o) : H a ≠ none := by
  rcases r with r | ⟨f, r⟩ <;> rw [r] <;> exact fun e => by cases e
theorem Rd.there {H : Hp} {a : Addr} {o : HO} (r : Rd (cl H) a o) : H a ≠ none := fun e => Rd.some r (cl_none e)
theorem RD.same {fm : Fm} {own : List Addr} {H H' : Hp} (s : Same H H') : ∀ a o, RD fm own H a o → RD fm own H' a o := fun _ _ r => r.imp (fun ⟨r, h⟩ => ⟨Rd.same s r, h⟩) id
theorem RX.same {fm : Fm} {own : List Addr} {H H1 H2 : Hp} {md : Md} (s : Same H1 H2) : ∀ a o, RX fm own H H1 md a o → RX fm own H H2 md a o := fun a o r => by
  cases md with
  | sh => exact RD.same s a o r
  | f0 => exact ⟨s.cl _ _ r.1, r.2⟩
  | fx => exact ⟨s.cl _ _ r.1, r.2⟩
/-- from a later beginning -/
theorem RX.later {fm : Fm} {own : List Addr} {H H1 H2 : Hp} {md : Md} (s : Same H H1) : ∀ a o, RX fm own H1 H2 md a o → RX fm own H H2 md a o := fun a o r => by
  cases md with
  | sh => exact r
  | f0 => exact r
  | fx => exact ⟨r.1, r.2.1, r.2.2.1, r.2.2.2.1, s.free r.2.2.2.2⟩
theorem RX.sh {fm : Fm} {own : List Addr} {H H' : Hp} {md : Md} : ∀ a o, RX fm own H H' md a o → RX fm own H H' .sh a o := fun a o r => by
  cases md with
  | sh => exact r
  | f0 => exact .inl ⟨.inl r.1, r.2.1, r.2.2.1⟩
  | fx => exact .inl ⟨.inl r.1, r.2.1, r.2.2.1⟩
theorem RX.f0 {fm : Fm} {own : List Addr} {H H' : Hp} : ∀ a o, RX fm own H H' .fx a o → RX fm own H H' .f0 a o := fun a o r => ⟨r.1, r.2.1, r.2.2.1, r.2.2.2.1⟩
theorem RX.fx {fm : Fm} {own : List Addr} {H H' : Hp} (md : Md) : ∀ a o, RX fm own H H' .fx a o → RX fm own H H' md a o := fun a o r => by
  cases md with
  | sh => exact RX.sh a o r
  | f0 => exact RX.f0 a o r
  | fx => exact r
/-- what can be read is there -/
theorem RX.list {fm : Fm} {own : List Addr} {H H' : Hp} {md : Md} {a : Addr} {vs : List V} (r : RX fm own H H' md a (.lst vs)) : SqL fm.K H' a vs := by
  rcases RX.sh a _ r with r | r
  · exact .inl (Rd.raw r.1)
  · exact r.elim
theorem RX.tup {fm : Fm} {own : List Addr} {H H' : Hp} {md : Md} {a : Addr} {vs : List V} (r : RX fm own H H' md a (.tup vs)) : SqT fm.K H' a vs := by
  rcases RX.sh a _ r with r | r
  · exact .inl (Rd.raw r.1)
  · exact .inr r
structure Slot where
  ok : Option V → Hp → (Bool → RdR) → List Addr → Prop
  st : ∀ {v H H' F} {R R' : Bool → RdR}, ok v H R F → (∀ b a o, R b a o → R' b a o) → (∀ p ∈ F, H' p = H p) → ok v H' R' F
  tb : ∀ {v H F} {R : Bool → RdR}, ok v H R F → ∀ p ∈ F, cl H p ≠ none
/-- nothing is known of it -/
def sAny : Slot := ⟨fun _ _ _ F => F = [], fun h _ _ => h, fun h p hp => by subst h; exact nomatch hp⟩
/-- a value (b: made since the def began) -/
def sV {α : Type} (b : Bool) (T : Ty α) (d : α) : Slot := ⟨fun v _ R F => F = [] ∧ ∃ x, v = some x ∧ T.rep d x (R b), fun ⟨e, x, h, r⟩ s _ => ⟨e, x, h, T.mono r (s b)⟩, fun ⟨e, _⟩ p hp => by subst e; exact nomatch hp⟩
/-- a list of one's own, which may be changed -/
def sOwn {α : Type} (b : Bool) (T : Ty α) (ds : List α) : Slot := ⟨fun v H R F => ∃ p xs, v = some (.ref p) ∧ F = [p] ∧ H p = some (.lst xs) ∧ Reps T (R b) ds xs,
  fun ⟨p, xs, e, f, h, r⟩ s k => ⟨p, xs, e, f, by rw [k p (by simp [f])]; exact h, r.mono (s b)⟩, fun ⟨p, xs, e, f, h, r⟩ q hq => by subst f; rw [List.mem_singleton.mp hq, cl_of h]; exact fun z => nomatch z⟩
inductive AllS (H : Hp) (R : Bool → RdR) : List Slot → L2.St → List (List Addr) → Prop where
  | nil : AllS H R [] [] []
  | cons {s L v σ F Fs} : s.ok v H R F → AllS H R L σ Fs → AllS H R (s :: L) (v :: σ) (F :: Fs)
def RB (fm : Fm) (own : List Addr) (H : Hp) (b : Bool) : RdR := RX fm own H H (if b then .f0 else .sh)
section
variable {H H' : Hp} {R R' : Bool → RdR} {L : List Slot} {σ : L2.St} {Fs : List (List Addr)}
theorem AllS.st (h : AllS H R L σ Fs) (s : ∀ b a o, R b a o → R' b a o) (k : ∀ p ∈ Fs.flatten, H' p = H p) : AllS H' R' L σ Fs := by
  induction h with
  | nil => exact .nil
  | @cons sl L v σ F Fs r t ih =>
    exact .cons (sl.st r s fun p hp => k p (by simp [hp])) (ih fun p hp => k p (by simp only [List.flatten_cons, List.mem_append]; exact .inr hp))
theorem AllS.tb (h : AllS H R L σ Fs) : ∀ p ∈ Fs.flatten, cl H p ≠ none := by
  induction h with
  | nil => intro p hp; simp at hp
  | @cons s L v σ F Fs r _ ih =>
    intro p hp
    rw [List.flatten_cons, List.mem_append] at hp
    exact hp.elim (s.tb r p) (ih p)
theorem AllS.len (h : AllS H R L σ Fs) : σ.length = L.length := by
  induction h with
  | nil => rfl
  | cons _ _ ih => simp [ih]
theorem AllS.get (h : AllS H R L σ Fs) : ∀ {i : Nat} {s : Slot}, L[i]? = some s → ∃ v F, σ[i]? = some v ∧ Fs[i]? = some F ∧ s.ok v H R F := by
  induction h with
  | nil => intro i s e; simp at e
  | cons r _ ih =>
    intro i s e
    cases i with
    | zero => simp at e; subst e; exact ⟨_, _, rfl, rfl, r⟩
    | succ i => obtain ⟨v, F, e1, e2, r1⟩ := ih (i := i) (s := s) (by simpa using e); exact ⟨v, F, by simpa using e1, by simpa using e2, r1⟩
theorem AllS.set (h : AllS H R L σ Fs) {s : Slot} {v : Option V} {F : List Addr} (r : s.ok v H R F) : ∀ (i : Nat), AllS H R (L.set i s) (σ.set i v) (Fs.set i F) := by
  induction h with
  | nil => intro i; exact .nil
  | cons q t ih =>
    intro i
    cases i with
    | zero => exact .cons r t
    | succ i => exact .cons q (ih i)
end
/-- where a def's body stands: its frame, its slots, what it owns, what is kept readable -/
structure At (fm : Fm) (kp : RdR) (L : List Slot) (σ : L2.St) (H : Hp) (own : List Addr) : Prop where
  same : Same fm.H0 H
  zin : ∀ a, fm.z a → H a ≠ none
  sl : ∃ Fs, AllS H (RB fm own H) L σ Fs ∧ own = Fs.flatten
  nd : own.Nodup
  new : ∀ p ∈ own, H p ≠ none ∧ fm.H0 p = none ∧ ¬ fm.z p
  kept : ∀ a o, kp a o → RD fm own H a o
theorem RB.same {fm : Fm} {own : List Addr} {H H' : Hp} (s : Same H H') : ∀ b a o, RB fm own H b a o → RB fm own H' b a o := fun b a o r => by
  unfold RB at r ⊢
  cases b <;> exact RX.same s a o r
section
variable {fm : Fm} {kp : RdR} {L : List Slot} {σ : L2.St} {H H' : Hp} {own : List Addr}
theorem At.ext (h : At fm kp L σ H own) (s : Same H H') : At fm kp L σ H' own := by
  obtain ⟨h1, h2, ⟨Fs, h3, e⟩, h4, h5, h6⟩ := h
  refine ⟨h1.trans s, fun a z n => h2 a z (s.free n), ⟨Fs, h3.st (RB.same s) fun p hp => ?_, e⟩, h4, fun p hp => ?_, fun a o k => RD.same s a o (h6 a o k)⟩
  · obtain ⟨q, _⟩ := h5 p (by rw [e]; exact hp)
    cases r : cl H p with
    | none => exact absurd r (h3.tb p hp)
    | some o => rw [cl_raw r]; exact s.keep _ _ (cl_raw r) (cl_nt r)
  · obtain ⟨q, q2⟩ := h5 p hp
    refine ⟨fun z => q (s.free z), q2⟩
end
/-- some slots forgotten -/
inductive Wk : List Slot → List Slot → Prop where
  | n : Wk [] []
  | s {s L L'} : Wk L L' → Wk (s :: L) (s :: L')
  | a {s L L'} : Wk L L' → Wk (s :: L) (sAny :: L')
theorem Wk.refl : ∀ L, Wk L L
  | [] => .n
  | _ :: L => .s (Wk.refl L)
theorem Wk.anys : ∀ {L : List Slot} {n : Nat}, L.length = n → Wk L (List.replicate n sAny)
  | [], _, e => by subst e; exact .n
  | _ :: L, _, e => by subst e; exact Wk.a (Wk.anys (L := L) rfl)
theorem RX.own {fm : Fm} {own own' : List Addr} {H H' : Hp} {md : Md} (k : ∀ p ∈ own', p ∈ own) : ∀ a o, RX fm own H H' md a o → RX fm own' H H' md a o := fun a o r => by
  cases md with
  | sh => exact r.imp (fun ⟨h1, h2, h3⟩ => ⟨h1, fun q => h2 (k a q), h3⟩) id
  | f0 => exact ⟨r.1, fun q => r.2.1 (k a q), r.2.2⟩
  | fx => exact ⟨r.1, fun q => r.2.1 (k a q), r.2.2⟩
theorem RB.own {fm : Fm} {own own' : List Addr} {H : Hp} (k : ∀ p ∈ own', p ∈ own) : ∀ b a o, RB fm own H b a o → RB fm own' H b a o := fun _ a o r => RX.own k a o r
theorem wk_fs {H : Hp} {R : Bool → RdR} {L L' : List Slot} (w : Wk L L') : ∀ {σ : L2.St} {Fs : List (List Addr)}, AllS H R L σ Fs → ∃ Fs', AllS H R L' σ Fs' ∧ List.Sublist Fs'.flatten Fs.flatten := by
  induction w with
  | n => intro σ Fs h; exact ⟨Fs, h, List.Sublist.refl _⟩
  | s _ ih =>
    intro σ Fs h
    cases h with
    | @cons _ _ _ _ F _ r t =>
      obtain ⟨Fs', h', k⟩ := ih t
      exact ⟨F :: Fs', .cons r h', by simpa using List.Sublist.append (List.Sublist.refl F) k⟩
  | a _ ih =>
    intro σ Fs h
    cases h with
    | @cons _ _ _ _ F _ r t =>
      obtain ⟨Fs', h', k⟩ := ih t
      exact ⟨[] :: Fs', .cons rfl h', by simpa using List.Sublist.trans k (List.sublist_append_right F _)⟩
section
variable {fm : Fm} {kp kp' : RdR} {L L' : List Slot} {σ : L2.St} {H H' : Hp} {own : List Addr}
theorem At.weak (h : At fm kp L σ H own) (w : Wk L L') : ∃ own', At fm kp L' σ H own' ∧ ∀ p ∈ own', p ∈ own := by
  obtain ⟨h1, h2, ⟨Fs, h3, rfl⟩, h4, h5, h6⟩ := h
  obtain ⟨Fs', h7, k⟩ := wk_fs w h3
  have kk : ∀ p ∈ Fs'.flatten, p ∈ Fs.flatten := fun p hp => k.subset hp
  exact ⟨_, ⟨h1, h2, ⟨Fs', h7.st (RB.own kk) fun _ _ => rfl, rfl⟩, h4.sublist k, fun p hp => h5 p (kk p hp), fun a o q => RX.own (md := .sh) (H := H) kk a o (h6 a o q)⟩, kk⟩
theorem At.keep (h : At fm kp L σ H own) (k : ∀ a o, kp' a o → kp a o) : At fm kp' L σ H own := ⟨h.same, h.zin, h.sl, h.nd, h.new, fun a o q => h.kept a o (k a o q)⟩
/-- the slots' count -/
theorem At.len (h : At fm kp L σ H own) : σ.length = L.length := by
  obtain ⟨_, h3, _⟩ := h.sl
  exact h3.len
/-- a slot that owns nothing is set to a thing that owns nothing -/
theorem set_same_nil {Fs : List (List Addr)} : ∀ {i : Nat}, Fs[i]? = some [] → (Fs.set i []).flatten = Fs.flatten := by
  induction Fs with
  | nil => intro i _; rfl
  | cons F Fs ih =>
    intro i e
    cases i with
    | zero => simp at e; subst e; rfl
    | succ i => simp only [List.set_cons_succ, List.flatten_cons]; rw [ih (by simpa using e)]
theorem set_sub {Fs : List (List Addr)} : ∀ {i : Nat}, List.Sublist (Fs.set i []).flatten Fs.flatten := by
  induction Fs with
  | nil => intro i; exact List.Sublist.refl _
  | cons F Fs ih =>
    intro i
    cases i with
    | zero => simpa using List.sublist_append_right F _
    | succ i => simpa using List.Sublist.append (List.Sublist.refl F) (ih (i := i))
theorem At.setV {i : Nat} {b : Bool} {α : Type} {T : Ty α} {d : α} {v : V} (h : At fm kp L σ H own) (r : T.rep d v (RB fm own H b)) : ∃ own', At fm kp (L.set i (sV b T d)) (σ.set i (some v)) H own' := by
  obtain ⟨h1, h2, ⟨Fs, h3, rfl⟩, h4, h5, h6⟩ := h
  have kk : ∀ p ∈ (Fs.set i []).flatten, p ∈ Fs.flatten := fun p hp => (set_sub (i := i)).subset hp
  refine ⟨_, h1, h2, ⟨Fs.set i [], (h3.st (RB.own kk) fun _ _ => rfl).set (s := sV b T d) ⟨rfl, v, rfl, T.mono r (RB.own kk b)⟩ i, rfl⟩, h4.sublist set_sub, fun p hp => h5 p (kk p hp), fun a o q => RX.own (md := .sh) (H := H) kk a o (h6 a o q)⟩
end
/-- what is wanted of a refusal -/
abbrev Wx := Ec → L2.St → Hp → Prop
structure G where
  X : Cx
  fm : Fm
  W : Wx
  LX : List Slot
/-- an expression that is worth m, told as T; md: how new it is -/
def tE (fm : Fm) (W : Wx) (L : List Slot) (md : Md) {α : Type} (T : Ty α) (m : M α) : TE := fun σ H Q => ∃ kp own, At fm kp L σ H own ∧
  match m with
  | .ok d => ∀ v H', Same H H' → T.rep d v (RX fm own H H' md) → Q v H'
  | .ex c => ∀ H', Same H H' → W c σ H'
  | .no => False
def tT (fm : Fm) (W : Wx) (L : List Slot) (m : M Bool) : TT := fun σ H Q => ∃ kp own, At fm kp L σ H own ∧
  match m with
  | .ok d => ∀ H', Same H H' → Q d H'
  | .ex c => ∀ H', Same H H' → W c σ H'
  | .no => False
def tA (fm : Fm) (W : Wx) (L : List Slot) (md : Md) {δ : Type} (A : Ar δ) (m : M δ) : TA := fun σ H Q => ∃ kp own, At fm kp L σ H own ∧
  match m with
  | .ok d => ∀ vs H', Same H H' → A.rep d vs (RX fm own H H' md) → Q vs H'
  | .ex c => ∀ H', Same H H' → W c σ H'
  | .no => False
/-- a list that the expression makes -/
def tL (fm : Fm) (W : Wx) (L : List Slot) (md : Md) {α : Type} (S : Ty α) (m : M (List α)) : TE := fun σ H Q => ∃ kp own, At fm kp L σ H own ∧
  match m with
  | .ok ds => ∀ p vs H', Same H H' → H p = none → H' p = some (.lst vs) → Reps S (RX fm (p :: own) H H' md) ds vs → Q (.ref p) H'
  | .ex c => ∀ H', Same H H' → W c σ H'
  | .no => False
def EvL (g : G) (L : List Slot) (e : Expr) (md : Md) {α : Type} (S : Ty α) (m : M (List α)) : Prop := PE g.X e (tL g.fm g.W L md S m)
def EvE (g : G) (L : List Slot) (e : Expr) (md : Md) {α : Type} (T : Ty α) (m : M α) : Prop := PE g.X e (tE g.fm g.W L md T m)
def EvT (g : G) (L : List Slot) (e : Expr) (m : M Bool) : Prop := PT g.X e (tT g.fm g.W L m)
def EvA (g : G) (L : List Slot) (es : List Expr) (md : Md) {δ : Type} (A : Ar δ) (m : M δ) : Prop := PA g.X es (tA g.fm g.W L md A m)
/-- how a block ends -/
inductive Out where
  | nx (L : List Slot)
  | ct (L : List Slot)
  | go (L : List Slot)
  | rt {ρ : Type} (md : Bool) (T : Ty ρ) (r : ρ)
  | rtL {ρ : Type} (md : Bool) (T : Ty ρ) (r : List ρ)
  /-- any other way of handing back -/
  | gen (f : Fm → VK → Prop)
  | bad
def Out.cut : Out → Out
  | .go L => .ct L
  | .nx _ => .bad
  | o => o
/-- .. of what is handed back; q: not by this one -/
def RT (fm : Fm) (H' : Hp) (b : Bool) (q : Option Addr := none) : RdR := RX fm q.toList H' H' (if b then .f0 else .sh)
def OutOk (fm : Fm) (kp : RdR) (E : Ends) : Out → Prop
  | .nx L => ∀ σ H own, At fm kp L σ H own → E.nx σ H
  | .ct L => ∀ σ H own, At fm kp L σ H own → E.ct σ H
  | .go L => ∀ σ H own, At fm kp L σ H own → E.nx σ H ∧ E.ct σ H
  | .rt md T r => ∀ v H', Same fm.H0 H' → T.rep r v (RT fm H' md) → E.rt v H'
  | .rtL md T r => ∀ p vs H', Same fm.H0 H' → ¬ fm.z p → fm.H0 p = none → H' p = some (.lst vs) → Reps T (RT fm H' md (some p)) r vs → E.rt (.ref p) H'
  | .gen f => f fm E.rt
  | .bad => False
def BOk (g : G) (kp : RdR) (E : Ends) {δ : Type} (D : δ → Out) : M δ → Prop
  | .ok d => OutOk g.fm kp E (D d)
  | .ex c => ∀ σ H own, At g.fm kp g.LX σ H own → g.W c σ H
  | .no => False
def tB (g : G) (L : List Slot) {δ : Type} (D : δ → Out) (m : M δ) : TS := fun E σ H => ∃ kp own, At g.fm kp L σ H own ∧ BOk g kp E D m
def EvB (g : G) (L : List Slot) (st : List Stmt) {δ : Type} (D : δ → Out) (m : M δ) : Prop := PSs g.X st (tB g L D m)
theorem PE.imp {X : Cx} {e : Expr} {t t' : TE} (h : PE X e t) (k : ∀ σ H Q, t' σ H Q → t σ H Q) : PE X e t' := ⟨fun pins s σ H Q I q => h.run pins s σ H Q I (k _ _ _ q)⟩
theorem PT.imp {X : Cx} {e : Expr} {t t' : TT} (h : PT X e t) (k : ∀ σ H Q, t' σ H Q → t σ H Q) : PT X e t' := ⟨fun pins s σ H Q I q => h.run pins s σ H Q I (k _ _ _ q)⟩
theorem PW.imp {X : Cx} {e : Expr} {t t' : TT} (h : PW X e t) (k : ∀ σ H Q, t' σ H Q → t σ H Q) : PW X e t' := ⟨fun wh pins s σ H Q I q => h.run wh pins s σ H Q I (k _ _ _ q)⟩
theorem PA.imp {X : Cx} {e : List Expr} {t t' : TA} (h : PA X e t) (k : ∀ σ H Q, t' σ H Q → t σ H Q) : PA X e t' := ⟨fun pos pins s σ H Q I q => h.run pos pins s σ H Q I (k _ _ _ q)⟩
theorem PSs.imp {X : Cx} {e : List Stmt} {t t' : TS} (h : PSs X e t) (k : ∀ E σ H, t' E σ H → t E σ H) : PSs X e t' := ⟨fun pins s σ H D I q => h.run pins s σ H D I (k _ _ _ q)⟩
section
variable {g : G} {L : List Slot} {e e' : Expr} {es : List Expr} {md : Md} {α β γ δ : Type} {S : Ty α} {T : Ty β} {U : Ty γ} {A : Ar δ}
/-- the end of an expression, as a wish about its worth -/
def FinE (fm : Fm) (W : Wx) (own : List Addr) (σ : L2.St) (H : Hp) (md : Md) (T : Ty β) (Q : VK) : M β → Prop
  | .ok d => ∀ v H', Same H H' → T.rep d v (RX fm own H H' md) → Q v H'
  | .ex c => ∀ H', Same H H' → W c σ H'
  | .no => False
def FinL (fm : Fm) (W : Wx) (own : List Addr) (σ : L2.St) (H : Hp) (md : Md) (T : Ty β) (Q : VK) : M (List β) → Prop
  | .ok ds => ∀ p vs H', Same H H' → H p = none → H' p = some (.lst vs) → Reps T (RX fm (p :: own) H H' md) ds vs → Q (.ref p) H'
  | .ex c => ∀ H', Same H H' → W c σ H'
  | .no => False
theorem tL_iff {fm : Fm} {W : Wx} {m : M (List β)} {σ : L2.St} {H : Hp} {Q : VK} : tL fm W L md T m σ H Q ↔ ∃ kp own, At fm kp L σ H own ∧ FinL fm W own σ H md T Q m := by
  cases m <;> exact Iff.rfl
def FinT (W : Wx) (σ : L2.St) (H : Hp) (Q : Bool → Hp → Prop) : M Bool → Prop
  | .ok d => ∀ H', Same H H' → Q d H'
  | .ex c => ∀ H', Same H H' → W c σ H'
  | .no => False
def FinA (fm : Fm) (W : Wx) (own : List Addr) (σ : L2.St) (H : Hp) (md : Md) (A : Ar δ) (Q : List V → Hp → Prop) : M δ → Prop
  | .ok d => ∀ vs H', Same H H' → A.rep d vs (RX fm own H H' md) → Q vs H'
  | .ex c => ∀ H', Same H H' → W c σ H'
  | .no => False
theorem tE_iff {fm : Fm} {W : Wx} {m : M β} {σ : L2.St} {H : Hp} {Q : VK} : tE fm W L md T m σ H Q ↔ ∃ kp own, At fm kp L σ H own ∧ FinE fm W own σ H md T Q m := by
  cases m <;> exact Iff.rfl
theorem tT_iff {fm : Fm} {W : Wx} {m : M Bool} {σ : L2.St} {H : Hp} {Q : Bool → Hp → Prop} : tT fm W L m σ H Q ↔ ∃ kp own, At fm kp L σ H own ∧ FinT W σ H Q m := by
  cases m <;> exact Iff.rfl
theorem tA_iff {fm : Fm} {W : Wx} {m : M δ} {σ : L2.St} {H : Hp} {Q : List V → Hp → Prop} : tA fm W L md A m σ H Q ↔ ∃ kp own, At fm kp L σ H own ∧ FinA fm W own σ H md A Q m := by
  cases m <;> exact Iff.rfl
/-- ends that let refusals pass -/
structure Fin (W : Wx) (σ : L2.St) (H0 : Hp) (F : M β → Prop) : Prop where
  ex : ∀ {c}, F (.ex c) → ∀ H', Same H0 H' → W c σ H'
  no : ¬ F .no
theorem finE {fm : Fm} {W : Wx} {own : List Addr} {σ : L2.St} {H : Hp} {Q : VK} : Fin W σ H (FinE fm W own σ H md T Q) := ⟨fun h => h, fun h => h⟩
theorem finL {fm : Fm} {W : Wx} {own : List Addr} {σ : L2.St} {H : Hp} {Q : VK} : Fin (β := List β) W σ H (FinL fm W own σ H md T Q) := ⟨fun h => h, fun h => h⟩
theorem finT {W : Wx} {σ : L2.St} {H : Hp} {Q : Bool → Hp → Prop} : Fin W σ H (FinT W σ H Q) := ⟨fun h => h, fun h => h⟩
theorem finA {fm : Fm} {W : Wx} {own : List Addr} {σ : L2.St} {H : Hp} {Q : List V → Hp → Prop} : Fin W σ H (FinA fm W own σ H md A Q) := ⟨fun h => h, fun h => h⟩
section
variable {fm : Fm} {W : Wx} {kp : RdR} {own : List Addr} {σ : L2.St} {H0 H : Hp} {F : M β → Prop}
/-- a sub-expression, then what follows -/
theorem sub {m : M α} {f : α → M β} {K : VK} (hF : Fin W σ H0 F) (s0 : Same H0 H) (at_ : At fm kp L σ H own) (q : F (m.bind f))
    (h : ∀ d v H1, Same H H1 → S.rep d v (RX fm own H0 H1 md) → At fm kp L σ H1 own → F (f d) → K v H1) : tE fm W L md S m σ H K := by
  refine tE_iff.mpr ⟨kp, own, at_, ?_⟩
  cases m with
  | ok d => exact fun v H1 s r => h d v H1 s (S.mono r (RX.later s0)) (at_.ext s) q
  | ex c => exact fun H' s => hF.ex q H' (s0.trans s)
  | no => exact hF.no q
theorem subT {m : M Bool} {f : Bool → M β} {K : Bool → Hp → Prop} (hF : Fin W σ H0 F) (s0 : Same H0 H) (at_ : At fm kp L σ H own) (q : F (m.bind f))
    (h : ∀ d H1, Same H H1 → At fm kp L σ H1 own → F (f d) → K d H1) : tT fm W L m σ H K := by
  refine tT_iff.mpr ⟨kp, own, at_, ?_⟩
  cases m with
  | ok d => exact fun H1 s => h d H1 s (at_.ext s) q
  | ex c => exact fun H' s => hF.ex q H' (s0.trans s)
  | no => exact hF.no q
theorem subA {m : M δ} {f : δ → M β} {K : List V → Hp → Prop} (hF : Fin W σ H0 F) (s0 : Same H0 H) (at_ : At fm kp L σ H own) (q : F (m.bind f))
    (h : ∀ d vs H1, Same H H1 → A.rep d vs (RX fm own H0 H1 md) → At fm kp L σ H1 own → F (f d) → K vs H1) : tA fm W L md A m σ H K := by
  refine tA_iff.mpr ⟨kp, own, at_, ?_⟩
  cases m with
  | ok d => exact fun vs H1 s r => h d vs H1 s (A.mono r (RX.later s0)) (at_.ext s) q
  | ex c => exact fun H' s => hF.ex q H' (s0.trans s)
  | no => exact hF.no q
end
structure Rdb (K : PySem.W.Frag) (R : RdR) (H : Hp) : Prop where
  rd : ∀ a o, R a o → nt o = true → L2.Rd H a o ∨ KObj K a o
instance {K : PySem.W.Frag} {R : RdR} {H : Hp} : CoeFun (Rdb K R H) (fun _ => ∀ a o, R a o → (n : nt o = true) → L2.Rd H a o ∨ KObj K a o) := ⟨fun rb a o h n => rb.rd a o h n⟩
/-- what an operation's answer may reach: its operands' things (unless fr), new things -/
def Nw (fr : Bool) (R : RdR) (H H' : Hp) : RdR := fun a o => (fr = false ∧ R a o) ∨ (cl H' a = some o ∧ H a = none)
def OpEnd (U : Ty γ) (fr : Bool) (R : RdR) (H : Hp) (Q : VK) : M γ → Prop
  | .ok u => ∀ v H', Same H H' → U.rep u v (Nw fr R H H') → Q v H'
  | _ => False
structure Op1 (K : PySem.W.Frag) (r : V → Hp → VK → Prop) (S : Ty α) (U : Ty γ) (f : α → M γ) (fr : Bool) : Prop where
  run : ∀ {d x R H Q}, Rdb K R H → S.rep d x R → OpEnd U fr R H Q (f d) → r x H Q
structure Op2 (K : PySem.W.Frag) (r : R2) (S : Ty α) (T : Ty β) (U : Ty γ) (f : α → β → M γ) (fr : Bool) : Prop where
  run : ∀ {d e x y R H Q}, Rdb K R H → S.rep d x R → T.rep e y R → OpEnd U fr R H Q (f d e) → r x y H Q
structure OpC (K : PySem.W.Frag) (r : List V → Hp → VK → Prop) (A : Ar δ) (U : Ty γ) (f : δ → M γ) (fr : Bool) : Prop where
  run : ∀ {d xs R H Q}, Rdb K R H → A.rep d xs R → OpEnd U fr R H Q (f d) → r xs H Q
/-- how new an answer is -/
inductive MdOk : Bool → Md → Md → Prop where
  | same {fr md} : MdOk fr md md
  | fresh {md md'} : MdOk true md md'
theorem RX.rdb {fm : Fm} {own : List Addr} {H H' : Hp} : Rdb fm.K (RX fm own H H' md) H' := ⟨fun a o r n => (RX.sh a o r).imp (fun h => Rd.raw h.1 n) id⟩
theorem Nw.rx {fm : Fm} {kp : RdR} {own : List Addr} {σ : L2.St} {H H1 H2 : Hp} {fr : Bool} {md' : Md} (hm : MdOk fr md md') (s : Same H H1) (at_ : At fm kp L σ H1 own) (s2 : Same H1 H2) :
    ∀ a o, Nw fr (RX fm own H H1 md) H1 H2 a o → RX fm own H H2 md' a o := fun a o r => by
  rcases r with ⟨e, r⟩ | ⟨r, n⟩
  · cases hm with
    | same => exact RX.same s2 a o r
    | fresh => cases e
  · refine RX.fx md' a o ⟨r, fun hp => (at_.new a hp).1 n, fun hz => at_.zin a hz n, at_.same.free n, s.free n⟩
theorem FinE.fin {fm : Fm} {W : Wx} {kp : RdR} {own : List Addr} {σ : L2.St} {H H1 : Hp} {fr : Bool} {md' : Md} {Q : VK} {m : M γ} (hm : MdOk fr md md') (s : Same H H1) (at_ : At fm kp L σ H1 own) (hne : ∀ c, m ≠ .ex c)
    (q : FinE fm W own σ H md' U Q m) : OpEnd U fr (RX fm own H H1 md) H1 Q m := by
  cases m with
  | ok u => exact fun v H' s' r => q v H' (s.trans s') (U.mono r (Nw.rx hm s at_ s'))
  | ex c => exact hne c rfl
  | no => exact q
end
end Hd
namespace Hd
open PySem PySem.Spec L2
/-- the program's fixed things -/
structure Pr where
  P : Program
  w : World
  K : PySem.W.Frag
  mg : Str → Option Value
  base : Heap
  C : Ec → Addr
  /-- where the table of the lambda's code object stands -/
  T : Option Addr
def okName (x : Str) : Bool := !(x == ("__debug__" : Str)) && !(x == ("__classdict__" : Str)) && !(x == ("__name__" : Str))
def seenB (sc : Scope) (x : Str) : Bool := okName x && (match sc.names.lookup x with | some .local => true | some .cell => true | some .free => true | _ => false)
def locB (sc : Scope) (x : Str) : Bool := match sc.names.lookup x with | some .local => true | some .cell => true | _ => false
def glB (sc : Scope) (x : Str) : Bool := okName x && (match sc.names.lookup x with | some .globalImplicit => true | _ => false)
theorem okName_d {x : Str} (h : okName x = true) : (x == ("__debug__" : Str)) = false ∧ (x == ("__classdict__" : Str)) = false ∧ x ≠ "__name__" := by
  simp only [okName, Bool.and_eq_true, Bool.not_eq_true'] at h
  refine ⟨h.1.1, h.1.2, fun e => ?_⟩
  have := h.2
  rw [e, beq_self_eq_true] at this
  cases this
theorem seenB_v {sc : Scope} {x : Str} (h : seenB sc x = true) : okName x = true ∧ Vis sc x := by
  simp only [seenB, Bool.and_eq_true] at h
  refine ⟨h.1, ?_⟩
  have q := h.2
  unfold Vis
  split at q <;> first | exact .inl (by assumption) | exact .inr (.inl (by assumption)) | exact .inr (.inr (by assumption)) | cases q
theorem locB_v {sc : Scope} {x : Str} (h : locB sc x = true) : L2.Loc sc x := by
  unfold locB at h
  unfold L2.Loc
  split at h <;> first | exact .inl (by assumption) | exact .inr (by assumption) | cases h
theorem glB_v {sc : Scope} {x : Str} (h : glB sc x = true) : okName x = true ∧ sc.names.lookup x = some .globalImplicit := by
  simp only [glB, Bool.and_eq_true] at h
  refine ⟨h.1, ?_⟩
  have q := h.2
  split at q <;> first | assumption | cases q
/-- where an expression stands: N the slots, V the names seen, Gs the global names used, k the room -/
structure Ok (p : Pr) (sc : Scope) (NN VV GG : List Str) (k : Nat) (g : G) : Prop where
  prog : g.X.prog = p.P
  w : g.X.w = p.w
  K : g.X.K = p.K
  mg : g.X.mg = p.mg
  base : g.X.base = p.base
  N : g.X.N = NN
  fmK : g.fm.K = p.K
  tab : ∀ P, p.T = some P → LamX.TabS g.fm.H0 P lamQ
  room : Room k g.X.A
  nd : NN.Nodup
  vis : ∀ {j : Nat} {x : Str}, VV[j]? = some x → Vis g.X.env.scope x ∧ okName x = true
  gl : ∀ {j : Nat} {x : Str}, GG[j]? = some x → Gl g.X x ∧ okName x = true
  tk : Takes g.X (fun cls d σ H => ∃ c, cls = .ref (p.C c) ∧ d = none ∧ g.W c σ H)
  calm : g.X.calm = true
  blk : ∀ {scope : Scope} {own : List (Str × Nat)}, blkC NN sc scope own = true → BlkOk NN g.X.env.scope scope own
section
variable {p : Pr} {sc : Scope} {NN VV GG : List Str} {k : Nat} {g : G} {L : List Slot} {a b c e e' : Expr} {es : List Expr} {md md' : Md} {α β γ δ : Type} {S : Ty α} {T : Ty β} {U : Ty γ} {A : Ar δ} {pos : Pos}
theorem RB.rx {fm : Fm} {own : List Addr} {H H' : Hp} {b : Bool} : ∀ a o, RB fm own H' b a o → RX fm own H H' (if b then .f0 else .sh) a o := fun a o r => by cases b <;> exact r
/-- a name whose slot holds d -/
theorem ev_var (ok : Ok p sc NN VV GG k g) {i j : Nat} {x : Str} {b : Bool} {d : α} (hN : NN[i]? = some x) (hV : VV[j]? = some x) (hL : L[i]? = some (sV b S d)) : EvE g L (.Name x pos) (if b then .f0 else .sh) S (.ok d) := by
  obtain ⟨hv, ho⟩ := ok.vis hV
  obtain ⟨h1, h2, _⟩ := okName_d ho
  refine PE.imp (pe_var (i := i) (by rw [ok.N]; exact hN) hv h1 h2) fun σ H Q ⟨kp, own, at_, q⟩ => ?_
  obtain ⟨Fs, hs, _⟩ := at_.sl
  obtain ⟨v, F, e1, _, _, y, rfl, r⟩ := hs.get hL
  exact ⟨y, e1, q y H (Same.refl H) (S.mono r RB.rx)⟩
theorem ev_vsh (ok : Ok p sc NN VV GG k g) {i j : Nat} {x : Str} {b : Bool} {d : α} (hN : NN[i]? = some x) (hV : VV[j]? = some x) (hL : L[i]? = some (sV b S d)) : EvE g L (.Name x pos) .sh S (.ok d) := by
  refine PE.imp (ev_var ok hN hV hL) fun σ H Q ⟨kp, own, at_, q⟩ => ⟨kp, own, at_, fun v H' s r => q v H' s (S.mono r RX.sh)⟩
/-- a kind of data without a heap -/
def Flat (S : Ty α) : Prop := ∀ {d v R R'}, S.rep d v R → S.rep d v R'
theorem Reps.flat {R R' : RdR} {ds : List α} {vs : List V} (hf : Flat S) (r : Reps S R ds vs) : Reps S R' ds vs := by
  induction r with
  | nil => exact .nil
  | cons r _ ih => exact .cons (hf r) ih
theorem flInt : Flat tInt := fun h => h
theorem flBool : Flat tBool := fun h => h
theorem flStr : Flat tStr := fun h => h
/-- the kind told otherwise -/
theorem ev_as {m : M α} {d2 : α → β} (hr : ∀ d v R, S.rep d v R → T.rep (d2 d) v R) (h : EvE g L e md S m) : EvE g L e md T (m.bind fun d => .ok (d2 d)) :=
  PE.imp h fun σ H Q q => by
    obtain ⟨kp, own, at_, q⟩ := tE_iff.mp q
    refine tE_iff.mpr ⟨kp, own, at_, ?_⟩
    cases m with
    | ok d => exact fun v H' s r => q v H' s (hr _ _ _ r)
    | ex c => exact q
    | no => exact q
theorem ev_asP {d : α} {d2 : β} (hr : ∀ v R, S.rep d v R → T.rep d2 v R) (h : EvE g L e md S (.ok d)) : EvE g L e md T (.ok d2) :=
  PE.imp h fun σ H Q ⟨kp, own, at_, q⟩ => ⟨kp, own, at_, fun v H' s r => q v H' s (hr _ _ r)⟩
theorem ev_int {i : Int} {j} : EvE g L (.Constant (.int i) j pos) md tInt (.ok i) := PE.imp pe_int fun σ H Q ⟨kp, own, at_, q⟩ => q _ H (Same.refl H) rfl
theorem ev_bool {i : Bool} {j} : EvE g L (.Constant (.bool i) j pos) md tBool (.ok i) := PE.imp pe_bl fun σ H Q ⟨kp, own, at_, q⟩ => q _ H (Same.refl H) rfl
theorem ev_none {j} : EvE g L (.Constant .none j pos) md tNone (.ok ()) := PE.imp pe_non fun σ H Q ⟨kp, own, at_, q⟩ => q _ H (Same.refl H) rfl
theorem ev_optN {j} : EvE g L (.Constant .none j pos) md (tOpt S) (.ok none) := PE.imp pe_non fun σ H Q ⟨kp, own, at_, q⟩ => q _ H (Same.refl H) rfl
/-- a written text's signs -/
def tx (s : String) : Tx := (Str.ofString s).cps.toList
theorem toS_tx (s : String) : toS (tx s) = Str.ofString s := by
  show (⟨((Str.ofString s).cps.toList).toArray⟩ : Str) = Str.ofString s
  rw [Array.toArray_toList]
theorem toS_inj {x y : Tx} (h : toS x = toS y) : x = y := by
  have := congrArg (fun z : Str => z.cps.toList) h
  simpa [toS] using this
theorem toS_len (x : Tx) : (toS x).length = x.length := by
  show x.toArray.size = x.length
  simp
def okTxB (x : Tx) : Bool := decide (x.length ≤ 1000) && x.all fun c => decide (c < 0x110000)
theorem okTx_of {x : Tx} (h : okTxB x = true) : OkTx x := by
  simp only [okTxB, Bool.and_eq_true, decide_eq_true_eq, List.all_eq_true] at h
  exact ⟨Nat.le_trans h.1 (by decide), h.2⟩
theorem ev_str {s : String} {j} (hl : okTxB (tx s) = true) : EvE g L (.Constant (.str (Str.ofString s)) j pos) md tStr (.ok (tx s)) := PE.imp pe_str fun σ H Q ⟨kp, own, at_, q⟩ => q _ H (Same.refl H) ⟨by show _ = V.str _; rw [toS_tx], okTx_of hl⟩
/-- a constant of the module: an int or a text -/
theorem ev_glob (ok : Ok p sc NN VV GG k g) {j : Nat} {x : Str} {v : V} {u : Value} {d : α} (hG : GG[j]? = some x) (hm : p.mg x = some u) (r : RelV v u) (hr : ∀ R, S.rep d v R) : EvE g L (.Name x pos) md S (.ok d) := by
  obtain ⟨hg, ho⟩ := ok.gl hG
  exact PE.imp (pe_glob hg (by rw [ok.mg]; exact hm) r (okName_d ho).1) fun σ H Q ⟨kp, own, at_, q⟩ => q _ H (Same.refl H) (hr _)
/-- .. -/
theorem ev_op2 {op : Operator} {r : R2} {f : α → β → M γ} {fr : Bool} {m1 : M α} {m2 : M β} (ok : Ok p sc NN VV GG k g) (ho : ∀ {X : Cx}, OpR X (binaryOp op) r) (F : Op2 p.K r S T U f fr) (hne : ∀ d e c, f d e ≠ .ex c) (hm : MdOk fr md md')
    (ha : EvE g L a md S m1) (hb : EvE g L b md T m2) : EvE g L (.BinOp a op b pos) md' U (m1.bind fun d => m2.bind fun e => f d e) := by
  refine PE.imp (pe_op ho ha hb) fun σ H Q q => ?_
  obtain ⟨kp, own, at_, q⟩ := tE_iff.mp q
  refine sub finE (Same.refl H) at_ q fun d x H1 s1 r1 at1 q1 => sub finE s1 at1 q1 fun e y H2 s2 r2 at2 q2 => ?_
  rw [← ok.fmK] at F
  exact F.run (R := RX g.fm own H H2 md) RX.rdb (S.mono r1 (RX.same s2)) r2 (q2.fin hm (s1.trans s2) at2 (hne d e))
theorem ev_un {op : UnaryOp} {r : V → Hp → VK → Prop} {f : α → M γ} {fr : Bool} {m1 : M α} (ok : Ok p sc NN VV GG k g) (ho : ∀ {X : Cx}, UnR X (unaryOp op) r) (F : Op1 p.K r S U f fr) (hne : ∀ d c, f d ≠ .ex c) (hm : MdOk fr md md')
    (ha : EvE g L a md S m1) : EvE g L (.UnaryOp op a pos) md' U (m1.bind f) := by
  refine PE.imp (pe_un ho ha) fun σ H Q q => ?_
  obtain ⟨kp, own, at_, q⟩ := tE_iff.mp q
  refine sub finE (Same.refl H) at_ q fun d x H1 s1 r1 at1 q1 => ?_
  rw [← ok.fmK] at F
  exact F.run (R := RX g.fm own H H1 md) RX.rdb r1 (q1.fin hm s1 at1 (hne d))
/-- a comparison's value -/
theorem ev_cmp {op : CmpOp} {r : R2} {f : α → β → M γ} {fr : Bool} {m1 : M α} {m2 : M β} (ok : Ok p sc NN VV GG k g) (ho : OpR g.X (compareOp op) r) (F : Op2 p.K r S T U f fr) (hne : ∀ d e c, f d e ≠ .ex c) (hm : MdOk fr md md')
    (ha : EvE g L a md S m1) (hb : EvE g L b md T m2) (hk : behindInMarks op b = false := by first | exact nomark _ (by decide) (by decide) | rfl) : EvE g L (.Compare a [op] [b] pos) md' U (m1.bind fun d => m2.bind fun e => f d e) := by
  refine PE.imp (pe_cmpR ho ha hb hk) fun σ H Q q => ?_
  obtain ⟨kp, own, at_, q⟩ := tE_iff.mp q
  refine sub finE (Same.refl H) at_ q fun d x H1 s1 r1 at1 q1 => sub finE s1 at1 q1 fun e y H2 s2 r2 at2 q2 => ?_
  rw [← ok.fmK] at F
  exact F.run (R := RX g.fm own H H2 md) RX.rdb (S.mono r1 (RX.same s2)) r2 (q2.fin hm (s1.trans s2) at2 (hne d e))
/-- a comparison as a test -/
theorem evt_cmp {op : CmpOp} {r : R2} {f : α → β → M Bool} {fr : Bool} {m1 : M α} {m2 : M β} (ok : Ok p sc NN VV GG k g) (ho : OpR g.X (compareOp op) r) (F : Op2 p.K r S T tBool f fr) (hne : ∀ d e c, f d e ≠ .ex c)
    (ha : EvE g L a md S m1) (hb : EvE g L b md T m2) (hk : behindInMarks op b = false := by first | exact nomark _ (by decide) (by decide) | rfl) : EvT g L (.Compare a [op] [b] pos) (m1.bind fun d => m2.bind fun e => f d e) := by
  refine PT.imp (pt_cmpR ho ha hb hk) fun σ H Q q => ?_
  obtain ⟨kp, own, at_, q⟩ := tT_iff.mp q
  refine sub finT (Same.refl H) at_ q fun d x H1 s1 r1 at1 q1 => sub finT s1 at1 q1 fun e y H2 s2 r2 at2 q2 => ?_
  rw [← ok.fmK] at F
  refine F.run (R := RX g.fm own H H2 md) RX.rdb (S.mono r1 (RX.same s2)) r2 ?_
  cases hf : f d e with
  | ok c => rw [hf] at q2; exact fun v H' s r => ⟨c, r, q2 H' ((s1.trans s2).trans s)⟩
  | ex c => exact absurd hf (hne d e c)
  | no => rw [hf] at q2; exact q2
/-- a < b < c, as a test -/
theorem evt_chain {op op' : CmpOp} {r r' : R2} {f : α → β → Bool} {f' : β → γ → Bool} {d1 : α} {d2 : β} {d3 : γ} (ok : Ok p sc NN VV GG k g) (ho : OpR g.X (compareOp op) r) (ho' : OpR g.X (compareOp op') r')
    (F : Op2 p.K r S T tBool (fun x y => .ok (f x y)) false) (F' : Op2 p.K r' T U tBool (fun x y => .ok (f' x y)) false)
    (ha : EvE g L a md S (.ok d1)) (hb : EvE g L b md T (.ok d2)) (hc : EvE g L c md U (.ok d3)) (hm : lastMarks [op, op'] [b, c] = false := by with_unfolding_all rfl) : EvT g L (.Compare a [op, op'] [b, c] pos) (.ok (f d1 d2 && f' d2 d3)) := by
  refine PT.imp (pt_chain ho ho' ha hb hc hm) fun σ H Q ⟨kp, own, at_, q⟩ => ?_
  refine ⟨kp, own, at_, fun x H1 s1 r1 => ⟨kp, own, at_.ext s1, fun y H2 s2 r2 => ?_⟩⟩
  rw [← ok.fmK] at F F'
  have at2 := (at_.ext s1).ext s2
  have r2' : T.rep d2 y (RX g.fm own H H2 md) := T.mono r2 (RX.later s1)
  refine F.run (R := RX g.fm own H H2 md) RX.rdb (S.mono r1 (RX.same s2)) r2' fun v H3 s3 r3 => ⟨f d1 d2, r3, ?_⟩
  cases hf : f d1 d2 with
  | true =>
    refine ⟨kp, own, at2.ext s3, fun z H4 s4 r4 => F'.run (R := RX g.fm own H H4 md) RX.rdb (T.mono r2' (RX.same (s3.trans s4))) (U.mono r4 (RX.later ((s1.trans s2).trans s3))) fun v' H5 s5 r5 => ⟨f' d2 d3, r5, ?_⟩⟩
    rw [hf, Bool.true_and] at q
    exact q H5 ((((s1.trans s2).trans s3).trans s4).trans s5)
  | false =>
    rw [hf, Bool.false_and] at q
    exact ⟨false, rfl, q H3 ((s1.trans s2).trans s3)⟩
/-- an expression that is a bool, as a test -/
theorem evt_of {m : M Bool} (h : EvE g L e md tBool m) (he : ∀ whole, isTrue e g.X.env whole = (do let v ← whole; standAt e.pos; holding [v] (truthy v)) := by intro _; rfl) : EvT g L e m := by
  refine PT.imp (pt_val h he) fun σ H Q q => ?_
  obtain ⟨kp, own, at_, q⟩ := tT_iff.mp q
  refine tE_iff.mpr ⟨kp, own, at_, ?_⟩
  cases m with
  | ok d => exact fun v H' s r => ⟨d, r, q H' s⟩
  | ex c => exact q
  | no => exact q
theorem evt_not {m : M Bool} (h : EvT g L a m) : EvT g L (.UnaryOp .Not a pos) (m.bind fun c => .ok (!c)) := by
  refine PT.imp (pt_not h) fun σ H Q q => ?_
  obtain ⟨kp, own, at_, q⟩ := tT_iff.mp q
  exact subT finT (Same.refl H) at_ q fun d H1 s at1 q1 => q1 H1 s
/-- and, or: chains of tests -/
def EvW (g : G) (L : List Slot) (e : Expr) (m : M Bool) : Prop := PW g.X e (tT g.fm g.W L m)
theorem EvW.t {m : M Bool} (h : EvW g L e m) : EvT g L e m := PW.pt h
theorem evw_and1 {m : M Bool} (h : EvT g L a m) : EvW g L (.BoolOp .And [a] pos) m := pw_and1 h
theorem evw_or1 {m : M Bool} (h : EvT g L a m) : EvW g L (.BoolOp .Or [a] pos) m := pw_or1 h
theorem evw_and {m1 m2 : M Bool} (h : EvT g L a m1) (h2 : EvW g L (.BoolOp .And (b :: es) pos) m2) : EvW g L (.BoolOp .And (a :: b :: es) pos) (m1.bind fun c => if c = true then m2 else .ok false) := by
  refine PW.imp (pw_and h h2) fun σ H Q q => ?_
  obtain ⟨kp, own, at_, q⟩ := tT_iff.mp q
  refine subT finT (Same.refl H) at_ q fun d H1 s at1 q1 => ?_
  cases d with
  | true =>
    show tT g.fm g.W L m2 σ H1 Q
    refine tT_iff.mpr ⟨kp, own, at1, ?_⟩
    have q1 : FinT g.W σ H Q m2 := q1
    cases m2 with
    | ok d => exact fun H' s' => q1 H' (s.trans s')
    | ex c => exact fun H' s' => q1 H' (s.trans s')
    | no => exact q1
  | false => exact q1 H1 s
theorem evw_or {m1 m2 : M Bool} (h : EvT g L a m1) (h2 : EvW g L (.BoolOp .Or (b :: es) pos) m2) : EvW g L (.BoolOp .Or (a :: b :: es) pos) (m1.bind fun c => if c = true then .ok true else m2) := by
  refine PW.imp (pw_or h h2) fun σ H Q q => ?_
  obtain ⟨kp, own, at_, q⟩ := tT_iff.mp q
  refine subT finT (Same.refl H) at_ q fun d H1 s at1 q1 => ?_
  cases d with
  | false =>
    show tT g.fm g.W L m2 σ H1 Q
    refine tT_iff.mpr ⟨kp, own, at1, ?_⟩
    have q1 : FinT g.W σ H Q m2 := q1
    cases m2 with
    | ok d => exact fun H' s' => q1 H' (s.trans s')
    | ex c => exact fun H' s' => q1 H' (s.trans s')
    | no => exact q1
  | true => exact q1 H1 s
theorem if_tf {c d : Bool} : (if c = true then (.ok d : M Bool) else .ok false) = .ok (c && d) := by cases c <;> rfl
theorem if_ft {c d : Bool} : (if c = true then (.ok true : M Bool) else .ok d) = .ok (c || d) := by cases c <;> rfl
theorem evw_andP {c d : Bool} (h : EvT g L a (.ok c)) (h2 : EvW g L (.BoolOp .And (b :: es) pos) (.ok d)) : EvW g L (.BoolOp .And (a :: b :: es) pos) (.ok (c && d)) := by
  have q := evw_and h h2
  rwa [M.bind_ok, if_tf] at q
theorem evw_orP {c d : Bool} (h : EvT g L a (.ok c)) (h2 : EvW g L (.BoolOp .Or (b :: es) pos) (.ok d)) : EvW g L (.BoolOp .Or (a :: b :: es) pos) (.ok (c || d)) := by
  have q := evw_or h h2
  rwa [M.bind_ok, if_ft] at q
/-- .. as values -/
theorem ev_one {op} {m : M Bool} (h : EvE g L a md tBool m) : EvE g L (.BoolOp op [a] pos) md tBool m := pe_one h
theorem ev_and {m1 m2 : M Bool} (h : EvE g L a md tBool m1) (h2 : EvE g L (.BoolOp .And (b :: es) pos) md tBool m2) : EvE g L (.BoolOp .And (a :: b :: es) pos) md tBool (m1.bind fun c => if c = true then m2 else .ok false) := by
  refine PE.imp (pe_and h h2) fun σ H Q q => ?_
  obtain ⟨kp, own, at_, q⟩ := tE_iff.mp q
  refine sub finE (Same.refl H) at_ q fun d x H1 s r at1 q1 => ⟨d, r, ?_⟩
  cases d with
  | true =>
    refine tE_iff.mpr ⟨kp, own, at1, ?_⟩
    have q1 : FinE g.fm g.W own σ H md tBool Q m2 := q1
    cases m2 with
    | ok d => exact fun v H' s' r' => q1 v H' (s.trans s') r'
    | ex c => exact fun H' s' => q1 H' (s.trans s')
    | no => exact q1
  | false => exact q1 _ H1 s rfl
theorem ev_andP {c d : Bool} (h : EvE g L a md tBool (.ok c)) (h2 : EvE g L (.BoolOp .And (b :: es) pos) md tBool (.ok d)) : EvE g L (.BoolOp .And (a :: b :: es) pos) md tBool (.ok (c && d)) := by
  have q := ev_and h h2
  rwa [M.bind_ok, if_tf] at q
theorem ev_not {m : M Bool} (h : EvE g L a md tBool m) : EvE g L (.UnaryOp .Not a pos) md' tBool (m.bind fun c => .ok (!c)) := by
  refine PE.imp (pe_not h) fun σ H Q q => ?_
  obtain ⟨kp, own, at_, q⟩ := tE_iff.mp q
  exact sub finE (Same.refl H) at_ q fun d x H1 s r at1 q1 => ⟨d, r, q1 _ H1 s rfl⟩
theorem eva_nil : EvA g L [] md aNil (.ok ()) := PA.imp pa_nil fun σ H Q ⟨kp, own, at_, q⟩ => q [] H (Same.refl H) rfl
theorem eva_cons {m1 : M α} {m2 : M δ} (ha : EvE g L a md S m1) (hb : EvA g L es md A m2) (hs : starEach (a :: es) g.X.env = (false, eval a g.X.env) :: starEach es g.X.env := by rfl) : EvA g L (a :: es) md (aCons S A) (m1.bind fun d => m2.bind fun e => .ok (d, e)) := by
  refine PA.imp (pa_cons ha hb hs) fun σ H Q q => ?_
  obtain ⟨kp, own, at_, q⟩ := tA_iff.mp q
  exact sub finA (Same.refl H) at_ q fun d x H1 s1 r1 at1 q1 => subA finA s1 at1 q1 fun e xs H2 s2 r2 at2 q2 => q2 _ H2 (s1.trans s2) ⟨x, xs, rfl, S.mono r1 (RX.same s2), r2⟩
/-- items of one kind -/
theorem evs_nil : EvA g L [] md (aAll S) (.ok []) := PA.imp pa_nil fun σ H Q ⟨kp, own, at_, q⟩ => q [] H (Same.refl H) .nil
theorem evs_cons {m1 : M α} {m2 : M (List α)} (ha : EvE g L a md S m1) (hb : EvA g L es md (aAll S) m2) (hs : starEach (a :: es) g.X.env = (false, eval a g.X.env) :: starEach es g.X.env := by rfl) : EvA g L (a :: es) md (aAll S) (m1.bind fun d => m2.bind fun e => .ok (d :: e)) := by
  refine PA.imp (pa_cons ha hb hs) fun σ H Q q => ?_
  obtain ⟨kp, own, at_, q⟩ := tA_iff.mp q
  exact sub finA (Same.refl H) at_ q fun d x H1 s1 r1 at1 q1 => subA finA s1 at1 q1 fun e xs H2 s2 r2 at2 q2 => q2 _ H2 (s1.trans s2) (.cons (S.mono r1 (RX.same s2)) r2)
theorem newSame {H : Hp} {p : Addr} {o : HO} (h : H p = none) : Same H (upd H p o) := .of fun b u e => by rw [upd_ne (ne_of_none e h)]; exact e
theorem newRX {fm : Fm} {kp : RdR} {own : List Addr} {σ : L2.St} {H H1 : Hp} {p : Addr} {o : HO} (at_ : At fm kp L σ H1 own) (s : Same H H1) (h : H1 p = none) (n : nt o = true := by rfl) : RX fm own H (upd H1 p o) md p o :=
  RX.fx md _ _ ⟨cl_of upd_same n, fun hp => (at_.new p hp).1 h, fun hz => at_.zin p hz h, at_.same.free h, s.free h⟩
/-- a tuple of written items (few enough: by rfl) -/
theorem ev_tup {m : M δ} {x1} (hl : ∀ d vs R, A.rep d vs R → vs.length ≤ 1000) (ha : EvA g L es md A m) : EvE g L (.Tuple es x1 pos) md (tTup A) m := by
  refine PE.imp (pe_tup ha) fun σ H Q q => ?_
  obtain ⟨kp, own, at_, q⟩ := tE_iff.mp q
  refine tA_iff.mpr ⟨kp, own, at_, ?_⟩
  cases m with
  | ok d => exact fun vs H1 s1 r1 => ⟨Nat.le_trans (hl _ _ _ r1) (by decide), fun p hp => q _ _ (s1.trans (newSame hp)) ⟨p, vs, rfl, newRX (at_.ext s1) s1 hp, A.mono r1 (RX.same (newSame hp))⟩⟩
  | ex c => exact q
  | no => exact q
theorem tupL_le {ds : List α} {vs : List V} {R : RdR} (h : (aAll S).rep ds vs R) : ds.length = vs.length := Reps.length h
theorem ev_ix {r : R2} {f : α → β → M γ} {fr : Bool} {m1 : M α} {m2 : M β} (ok : Ok p sc NN VV GG k g) (ho : IxR g.X r) (F : Op2 p.K r S T U f fr) (hne : ∀ d e c, f d e ≠ .ex c) (hm : MdOk fr md md')
    (ha : EvE g L a md S m1) (hb : EvE g L b md T m2) (hs : PlainIx b := by exact fun _ _ => rfl) : EvE g L (.Subscript a b pos) md' U (m1.bind fun d => m2.bind fun e => f d e) := by
  refine PE.imp (pe_ix ho ha hb hs) fun σ H Q q => ?_
  obtain ⟨kp, own, at_, q⟩ := tE_iff.mp q
  refine sub finE (Same.refl H) at_ q fun d x H1 s1 r1 at1 q1 => sub finE s1 at1 q1 fun e y H2 s2 r2 at2 q2 => ?_
  rw [← ok.fmK] at F
  exact F.run (R := RX g.fm own H H2 md) RX.rdb (S.mono r1 (RX.same s2)) r2 (q2.fin hm (s1.trans s2) at2 (hne d e))
theorem ev_callB {x : Str} {j : Nat} {id : String} {r : List V → Hp → VK → Prop} {f : δ → M γ} {fr : Bool} {m : M δ} {pp : Pos} (ok : Ok p sc NN VV GG k g) (hc : CallR g.X (.builtin id) r) (F : OpC p.K r A U f fr) (hne : ∀ d c, f d ≠ .ex c) (hm : MdOk fr md md')
    (hG : GG[j]? = some x) (hmg : p.mg x = none) (hv : bootBuiltins x = some (.builtin id)) (ha : EvA g L (e :: es) md A m)
    (he : starEach (e :: es) g.X.env = (false, eval e g.X.env) :: starEach es g.X.env := by rfl) (hpl : (backTo pos (starEach es g.X.env)).any (·.1) = false := by rfl) : EvE g L (.Call (.Name x pp) (e :: es) [] pos) md' U (m.bind f) := by
  obtain ⟨hg, ho⟩ := ok.gl hG
  obtain ⟨h1, _, h3⟩ := okName_d ho
  refine PE.imp (pe_callB hc hg (by rw [ok.mg]; exact hmg) hv ha h3 h1 he hpl) fun σ H Q q => ?_
  obtain ⟨kp, own, at_, q⟩ := tE_iff.mp q
  refine subA finE (Same.refl H) at_ q fun d xs H1 s1 r1 at1 q1 => ?_
  rw [← ok.fmK] at F
  exact F.run (R := RX g.fm own H H1 md) RX.rdb r1 (q1.fin hm s1 at1 (hne d))
end
end Hd
namespace Hd
open PySem PySem.Spec L2
section
variable {p : Pr} {sc : Scope} {NN VV GG : List Str} {k : Nat} {g : G} {L L' : List Slot} {a b c e e' : Expr} {es : List Expr} {md md' : Md} {α β γ δ : Type} {S : Ty α} {T : Ty β} {U : Ty γ} {A : Ar δ} {pos : Pos}
theorem RX.add {fm : Fm} {own : List Addr} {H H1 : Hp} {q : Addr} {o' : HO} (hn : H1 q = none) : ∀ a o, RX fm own H H1 md a o → RX fm (q :: own) H (upd H1 q o') md a o := fun a o r => by
  have ne : H1 a ≠ none → a ≠ q := fun h e => h (by rw [e]; exact hn)
  cases md with
  | sh =>
    rcases r with ⟨r, h1, h2⟩ | r
    · have n := ne (Rd.there r)
      refine .inl ⟨?_, fun z => ?_, h2⟩
      · unfold Rd
        rw [cl_upd_ne n]
        exact r
      · rcases List.mem_cons.mp z with z | z
        · exact n z
        · exact h1 z
    · exact .inr r
  | f0 =>
    have n := ne (by rw [cl_raw r.1]; exact fun z => by cases z)
    exact ⟨by rw [cl_upd_ne n]; exact r.1, fun z => (List.mem_cons.mp z).elim n r.2.1, r.2.2⟩
  | fx =>
    have n := ne (by rw [cl_raw r.1]; exact fun z => by cases z)
    exact ⟨by rw [cl_upd_ne n]; exact r.1, fun z => (List.mem_cons.mp z).elim n r.2.1, r.2.2⟩
theorem RX.drop1 {fm : Fm} {own : List Addr} {H H1 : Hp} {q : Addr} : ∀ a o, RX fm (q :: own) H H1 md a o → RX fm own H H1 md a o := RX.own fun p hp => List.mem_cons_of_mem _ hp
theorem newRX' {fm : Fm} {kp : RdR} {own : List Addr} {σ : L2.St} {H H' : Hp} {q : Addr} {o : HO} (at_ : At fm kp L σ H own) (h : H q = none) (h' : H' q = some o) (n : nt o = true := by rfl) : RX fm own H H' md q o :=
  RX.fx md _ _ ⟨cl_of h' n, fun hp => (at_.new q hp).1 h, fun hz => at_.zin q hz h, at_.same.free h, h⟩
/-- as a value -/
theorem ev_ofL {m : M (List α)} (h : EvL g L e md S m) : EvE g L e md (tList S) m :=
  PE.imp h fun σ H Q q => by
    obtain ⟨kp, own, at_, q⟩ := tE_iff.mp q
    refine tL_iff.mpr ⟨kp, own, at_, ?_⟩
    cases m with
    | ok d => exact fun p vs H' s n h' r => q _ H' s ⟨p, vs, rfl, newRX' at_ n h', r.mono RX.drop1⟩
    | ex c => exact q
    | no => exact q
theorem evl_lst {m : M (List α)} (hl : ∀ ds, m = .ok ds → ds.length ≤ 1000) (ha : EvA g L es md (aAll S) m) : EvL g L (.List es pos) md S m := by
  refine PE.imp (pe_lst ha) fun σ H Q q => ?_
  obtain ⟨kp, own, at_, q⟩ := tL_iff.mp q
  refine tA_iff.mpr ⟨kp, own, at_, ?_⟩
  cases m with
  | ok d => exact fun vs H1 s1 r1 => ⟨Nat.le_trans (by rw [← tupL_le r1]; exact hl _ rfl) (by decide), fun p hp => q p vs _ (s1.trans (newSame hp)) (s1.free hp) upd_same (Reps.mono r1 (RX.add hp))⟩
  | ex c => exact q
  | no => exact q
theorem evl_nil : EvL g L (.List [] pos) md S (.ok []) := evl_lst (fun ds h => by cases h; exact Nat.zero_le _) evs_nil
structure OkS (p : Pr) (sc : Scope) (NN VV GG : List Str) (k : Nat) (g : G) : Prop extends Ok p sc NN VV GG k g where
  loc : ∀ {i : Nat} {x : Str}, VV[i]? = some x → L2.Loc g.X.env.scope x
  fnT : ∀ x, g.X.fn x = true
  psO : PassesOwn (model g.X.prog g.X.w) g.X.A g.X.env g.X.xe
  scp : g.X.env.scope = sc
  stk : g.X.stack = g.X.env :: g.X.outer
  frm : g.X.env.frame = some g.X.env.locals
  exn : g.X.ex = []
theorem PSs.ex {X : Cx} {ι : Type} {st : List Stmt} {t : ι → TS} (h : ∀ d, PSs X st (t d)) : PSs X st (fun E σ H => ∃ d, t d E σ H) := ⟨fun pins s σ H D I ⟨d, q⟩ => (h d).run pins s σ H D I q⟩
variable {st : List Stmt} {s0 : Stmt} {D : δ → Out} {d : δ}
theorem evb_nx (h : D d = .nx L') (w : Wk L L') : EvB g L [] D (.ok d) := by
  refine PSs.imp pss_nil fun E σ H ⟨kp, own, at_, q⟩ => ?_
  have q : OutOk g.fm kp E (D d) := q
  rw [h] at q
  obtain ⟨own', a', _⟩ := at_.weak w
  exact q σ H own' a'
theorem evb_go (h : D d = .go L') (w : Wk L L') : EvB g L [] D (.ok d) := by
  refine PSs.imp pss_nil fun E σ H ⟨kp, own, at_, q⟩ => ?_
  have q : OutOk g.fm kp E (D d) := q
  rw [h] at q
  obtain ⟨own', a', _⟩ := at_.weak w
  exact (q σ H own' a').1
theorem PSs.head {X : Cx} {t : TS} (h : PS X s0 t) : PSs X (s0 :: st) (fun E σ H => t { E with nx := fun _ _ => False } σ H) := by
  refine PSs.imp (pss_cons h (pss_never (sts := st))) fun E σ H q => q
theorem evb_cont (h : D d = .go L' ∨ D d = .ct L') (w : Wk L L') : EvB g L (.Continue pos :: st) D (.ok d) := by
  refine PSs.imp (PSs.head ps_continue) fun E σ H ⟨kp, own, at_, q⟩ => ?_
  have q : OutOk g.fm kp E (D d) := q
  obtain ⟨own', a', _⟩ := at_.weak w
  rcases h with h | h <;> rw [h] at q
  · exact (q σ H own' a').2
  · exact q σ H own' a'
theorem BOk.exx {kp : RdR} {E : Ends} {c : Ec} {σ : L2.St} {H : Hp} {own : List Addr} (wk : Wk L g.LX) (at_ : At g.fm kp L σ H own) (q : BOk g kp E D (.ex c)) : ∀ H', Same H H' → g.W c σ H' := fun H' s => by
  obtain ⟨own', a', _⟩ := (at_.ext s).weak wk
  exact q σ H' own' a'
/-- return e -/
inductive RtMd : Md → Bool → Prop where
  | sh {x : Md} : RtMd x false
  | f0 : RtMd .f0 true
  | fx : RtMd .fx true
theorem RtMd.rt {fm : Fm} {own : List Addr} {H H' : Hp} {bm : Bool} (h : RtMd md bm) : ∀ a o, RX fm own H H' md a o → RT fm H' bm none a o := fun a o r => by
  have r' := RX.own (own' := []) (fun _ z => nomatch z) a o r
  cases h with
  | sh =>
    have q := RX.sh a o r'
    exact q
  | f0 => exact r'
  | fx => exact RX.f0 (H := H) a o r'
theorem evb_retF {bm : Bool} {m : M α} {mk : α → δ} (wk : Wk L g.LX) (hm : RtMd md bm) (hD : ∀ d, D (mk d) = .rt bm S d) (he : EvE g L e md S m) : EvB g L (.Return (some e) pos :: st) D (m.bind fun d => .ok (mk d)) := by
  refine PSs.imp (PSs.head (ps_ret he)) fun E σ H ⟨kp, own, at_, q⟩ => ?_
  refine tE_iff.mpr ⟨kp, own, at_, ?_⟩
  cases m with
  | ok d =>
    have q : OutOk g.fm kp E (D (mk d)) := q
    rw [hD] at q
    exact fun v H' s r => q v H' (at_.same.trans s) (S.mono r hm.rt)
  | ex c => exact BOk.exx wk at_ q
  | no => exact q
theorem M.bind_id {α : Type} (m : M α) : m.bind (fun d => .ok d) = m := by cases m <;> rfl
theorem evb_ret {bm : Bool} {m : M α} {D : α → Out} (wk : Wk L g.LX) (hm : RtMd md bm) (hD : ∀ d, D d = .rt bm S d) (he : EvE g L e md S m) : EvB g L (.Return (some e) pos :: st) D m := by
  have h := evb_retF (mk := id) (st := st) (pos := pos) wk hm hD he
  rwa [show (m.bind fun d => .ok (id d)) = m from M.bind_id m] at h
theorem RX.rtL {fm : Fm} {own : List Addr} {H H' : Hp} {bm : Bool} {p : Addr} (h : RtMd md bm) : ∀ a o, RX fm (p :: own) H H' md a o → RT fm H' bm (some p) a o := fun a o r => by
  have r' := RX.own (own' := [p]) (fun x z => by rw [List.mem_singleton.mp z]; exact List.mem_cons_self) a o r
  cases h with
  | sh =>
    have q := RX.sh a o r'
    exact q
  | f0 => exact r'
  | fx => exact RX.f0 (H := H) a o r'
/-- return of a list just made -/
theorem evb_retLF {bm : Bool} {m : M (List α)} {mk : List α → δ} (wk : Wk L g.LX) (hm : RtMd md bm) (hD : ∀ d, D (mk d) = .rtL bm S d) (he : EvL g L e md S m) : EvB g L (.Return (some e) pos :: st) D (m.bind fun d => .ok (mk d)) := by
  refine PSs.imp (PSs.head (ps_ret he)) fun E σ H ⟨kp, own, at_, q⟩ => ?_
  refine tL_iff.mpr ⟨kp, own, at_, ?_⟩
  cases m with
  | ok d =>
    have q : OutOk g.fm kp E (D (mk d)) := q
    rw [hD] at q
    exact fun p vs H' s n h' r => q p vs H' (at_.same.trans s) (fun hz => at_.zin p hz n) (at_.same.free n) h' (r.mono (RX.rtL hm))
  | ex c => exact BOk.exx wk at_ q
  | no => exact q
theorem evb_retL {bm : Bool} {m : M (List α)} {D : List α → Out} (wk : Wk L g.LX) (hm : RtMd md bm) (hD : ∀ d, D d = .rtL bm S d) (he : EvL g L e md S m) : EvB g L (.Return (some e) pos :: st) D m := by
  have h := evb_retLF (mk := id) (st := st) (pos := pos) wk hm hD he
  rwa [show (m.bind fun d => .ok (id d)) = m from M.bind_id m] at h
/-- return of a list that a slot owns -/
theorem evb_retOwn {bm b : Bool} {ds : List α} {i j : Nat} {x : Str} {D : δ → Out} {d' : δ} {npos : Pos} (ok : Ok p sc NN VV GG k g) (hN : NN[i]? = some x) (hV : VV[j]? = some x) (hL : L[i]? = some (sOwn b S ds)) (hb : b = bm ∨ Flat S ∨ bm = false) (hD : D d' = .rtL bm S ds) :
    EvB g L (.Return (some (.Name x npos)) pos :: st) D (.ok d') := by
  obtain ⟨hv, ho⟩ := ok.vis hV
  obtain ⟨h1, h2, _⟩ := okName_d ho
  refine PSs.imp (PSs.head (ps_ret (pe_var (i := i) (by rw [ok.N]; exact hN) hv h1 h2))) fun E σ H ⟨kp, own, at_, q⟩ => ?_
  obtain ⟨Fs, hs, rfl⟩ := at_.sl
  obtain ⟨v, F, e1, e2, p, vs, rfl, rfl, hp, r⟩ := hs.get hL
  have q : OutOk g.fm kp E (D d') := q
  rw [hD] at q
  have pin : p ∈ Fs.flatten := List.mem_flatten.mpr ⟨[p], List.mem_of_getElem? e2, by simp⟩
  obtain ⟨n1, n2, n3⟩ := at_.new p pin
  have rr : Reps S (RX g.fm [p] H H (if b then .f0 else .sh)) ds vs := r.mono (RX.own (own' := [p]) (fun x z => by rw [List.mem_singleton.mp z]; exact pin))
  refine ⟨_, e1, q p vs H at_.same n3 n2 hp ?_⟩
  unfold RT
  rcases hb with rfl | hf | rfl
  · exact rr
  · exact rr.flat hf
  · exact rr.mono RX.sh
inductive SlB : Md → Bool → Prop where
  | sh {x : Md} : SlB x false
  | f0 : SlB .f0 true
  | fx : SlB .fx true
theorem SlB.rb {fm : Fm} {own : List Addr} {H H' : Hp} {b : Bool} (h : SlB md b) : ∀ a o, RX fm own H H' md a o → RB fm own H' b a o := fun a o r => by
  cases h with
  | sh =>
    have q := RX.sh a o r
    exact q
  | f0 => exact r
  | fx => exact RX.f0 (H := H) a o r
variable {i j : Nat} {x : Str} {pos' : Pos}
theorem okS_fn (ok : OkS p sc NN VV GG k g) : g.X.fn x = true ∨ g.X.env.scope.names.lookup x = some .local := .inl (ok.fnT x)
theorem evb_set {b : Bool} {m : M α} {f : α → M δ} (ok : OkS p sc NN VV GG k g) (hN : NN[i]? = some x) (hV : VV[j]? = some x) (wk : Wk L g.LX) (hb : SlB md b) (he : EvE g L e md S m) (hr : ∀ d, EvB g (L.set i (sV b S d)) st D (f d))
    (hs : swapsWith e (some (.Name x pos')) pos.line g.X.env = pure false := by rfl) : EvB g L (.Assign [.Name x pos'] e pos :: st) D (m.bind f) := by
  refine PSs.imp (pss_cons (ps_set (i := i) (by rw [ok.N]; exact ok.nd) (by rw [ok.N]; exact hN) (ok.loc hV) he hs (okS_fn ok)) (PSs.ex hr)) fun E σ H ⟨kp, own, at_, q⟩ => ?_
  refine tE_iff.mpr ⟨kp, own, at_, ?_⟩
  cases m with
  | ok d =>
    intro v H' s r
    obtain ⟨own', a'⟩ := (at_.ext s).setV (i := i) (b := b) (S.mono r hb.rb)
    exact ⟨d, kp, own', a', q⟩
  | ex c => exact BOk.exx wk at_ q
  | no => exact q
theorem set_own {Fs : List (List Addr)} {q : Addr} : ∀ {i : Nat}, ∀ x ∈ (Fs.set i [q]).flatten, x = q ∨ x ∈ Fs.flatten := by
  induction Fs with
  | nil => intro i x h; exact .inr h
  | cons F Fs ih =>
    intro i x h
    cases i with
    | zero =>
      simp only [List.set_cons_zero, List.flatten_cons, List.mem_append, List.mem_singleton] at h
      rcases h with h | h
      · exact .inl h
      · exact .inr (by simp only [List.flatten_cons, List.mem_append]; exact .inr h)
    | succ i =>
      simp only [List.set_cons_succ, List.flatten_cons, List.mem_append] at h
      rcases h with h | h
      · exact .inr (by simp only [List.flatten_cons, List.mem_append]; exact .inl h)
      · rcases ih x h with h | h
        · exact .inl h
        · exact .inr (by simp only [List.flatten_cons, List.mem_append]; exact .inr h)
theorem set_own_nd {Fs : List (List Addr)} {q : Addr} (hq : q ∉ Fs.flatten) (hn : Fs.flatten.Nodup) : ∀ {i : Nat}, (Fs.set i [q]).flatten.Nodup := by
  induction Fs with
  | nil => intro i; exact hn
  | cons F Fs ih =>
    intro i
    simp only [List.flatten_cons, List.mem_append, not_or] at hq
    rw [List.flatten_cons, List.nodup_append] at hn
    cases i with
    | zero =>
      simp only [List.set_cons_zero, List.flatten_cons]
      rw [List.nodup_append]
      refine ⟨by simp, hn.2.1, fun a ha b hb => ?_⟩
      rw [List.mem_singleton.mp ha]
      rintro rfl
      exact hq.2 hb
    | succ i =>
      simp only [List.set_cons_succ, List.flatten_cons]
      rw [List.nodup_append]
      refine ⟨hn.1, ih hq.2 hn.2.1, fun a ha b hb => ?_⟩
      rcases set_own b hb with rfl | hb
      · rintro rfl; exact hq.1 ha
      · exact hn.2.2 a ha b hb
/-- a new list becomes a slot's own -/
theorem At.setOwn {fm : Fm} {kp : RdR} {σ : L2.St} {H H' : Hp} {own : List Addr} {b : Bool} {ds : List α} {vs : List V} {q : Addr} (h : At fm kp L σ H own) (s : Same H H') (hn : H q = none) (h' : H' q = some (.lst vs))
    (r : Reps S (RB fm (q :: own) H' b) ds vs) : ∃ own', At fm kp (L.set i (sOwn b S ds)) (σ.set i (some (.ref q))) H' own' := by
  obtain ⟨h1, h2, ⟨Fs, h3, rfl⟩, h4, h5, h6⟩ := h
  have hq : q ∉ Fs.flatten := fun z => (h5 q z).1 hn
  have sub : ∀ x ∈ (Fs.set i [q]).flatten, x ∈ q :: Fs.flatten := fun x hx => (set_own x hx).elim (fun e => by rw [e]; exact List.mem_cons_self) (List.mem_cons_of_mem _)
  have key : ∀ (md : Md) a o, RX fm Fs.flatten H H md a o → RX fm (Fs.set i [q]).flatten H H' md a o := fun md a o z => by
    refine RX.own sub a o ?_
    have z1 := RX.add (o' := .lst []) hn a o z
    have na : a ≠ q ∨ KObj fm.K a o := by
      rcases RX.sh a o z with z | z
      · exact .inl fun e => Rd.some z.1 (by rw [e]; exact cl_none hn)
      · exact .inr z
    cases md with
    | sh =>
      rcases z1 with z1 | z1
      · rcases z with z | z
        · exact .inl ⟨Rd.same s z.1, z1.2⟩
        · exact .inr z
      · exact .inr z1
    | f0 => exact ⟨s.cl _ _ z.1, z1.2⟩
    | fx => exact ⟨s.cl _ _ z.1, z1.2⟩
  have keyB : ∀ (b : Bool) a o, RB fm Fs.flatten H b a o → RB fm (Fs.set i [q]).flatten H' b a o := fun b a o z => by
    cases b with
    | false => exact key .sh a o z
    | true => exact key .f0 a o z
  refine ⟨_, h1.trans s, fun a z n => h2 a z (s.free n), ⟨Fs.set i [q], (h3.st (H' := H') keyB fun p hp => ?_).set (s := sOwn b S ds) ⟨q, vs, rfl, rfl, h', r.mono fun a o z => ?_⟩ i, rfl⟩, set_own_nd hq h4, fun p hp => ?_, fun a o z => key .sh a o (h6 a o z)⟩
  · cases e : cl H p with
    | none => exact absurd e (h3.tb p hp)
    | some u => rw [cl_raw e]; exact s.keep _ _ (cl_raw e) (cl_nt e)
  · cases b <;> exact RX.own sub a o z
  · rcases set_own p hp with rfl | hp
    · exact ⟨by rw [h']; exact (fun z => by cases z), h1.free hn, fun z => h2 _ z hn⟩
    · exact ⟨fun e => (h5 p hp).1 (s.free e), (h5 p hp).2⟩
theorem evb_own {b : Bool} {m : M (List α)} {f : List α → M δ} (ok : OkS p sc NN VV GG k g) (hN : NN[i]? = some x) (hV : VV[j]? = some x) (wk : Wk L g.LX) (hb : SlB md b) (he : EvL g L e md S m) (hr : ∀ d, EvB g (L.set i (sOwn b S d)) st D (f d))
    (hs : swapsWith e (some (.Name x pos')) pos.line g.X.env = pure false := by rfl) : EvB g L (.Assign [.Name x pos'] e pos :: st) D (m.bind f) := by
  refine PSs.imp (pss_cons (ps_set (i := i) (by rw [ok.N]; exact ok.nd) (by rw [ok.N]; exact hN) (ok.loc hV) he hs (okS_fn ok)) (PSs.ex hr)) fun E σ H ⟨kp, own, at_, q⟩ => ?_
  cases m with
  | ok d =>
    refine ⟨kp, own, at_, fun v vs H' s n h' r => ?_⟩
    obtain ⟨own', a'⟩ := at_.setOwn (i := i) (b := b) s n h' (r.mono hb.rb)
    exact ⟨d, kp, own', a', q⟩
  | ex c => exact ⟨kp, own, at_, BOk.exx wk at_ q⟩
  | no => exact q.elim
/-- an expression whose worth is dropped -/
theorem evb_expr {m : M α} {f : α → M δ} (wk : Wk L g.LX) (he : EvE g L e md S m) (hr : ∀ d, EvB g L st D (f d)) (hs : swapsWith e none pos.line g.X.env = pure false := by rfl) : EvB g L (.Expr e pos :: st) D (m.bind f) := by
  refine PSs.imp (pss_cons (ps_expr he hs) (PSs.ex hr)) fun E σ H ⟨kp, own, at_, q⟩ => ?_
  cases m with
  | ok d => exact ⟨kp, own, at_, fun v H' s r => ⟨d, kp, own, at_.ext s, q⟩⟩
  | ex c => exact ⟨kp, own, at_, BOk.exx wk at_ q⟩
  | no => exact q.elim
/-- a slot's own list may be shared from here on -/
theorem At.freeze {fm : Fm} {kp : RdR} {σ : L2.St} {H : Hp} {own : List Addr} {b : Bool} {ds : List α} (h : At fm kp L σ H own) (hL : L[i]? = some (sOwn b S ds)) : ∃ own', At fm kp (L.set i (sV false (tList S) ds)) σ H own' ∧ ∀ p ∈ own', p ∈ own := by
  obtain ⟨h1, h2, ⟨Fs, h3, rfl⟩, h4, h5, h6⟩ := h
  obtain ⟨v, F, e1, e2, q, vs, rfl, rfl, hp, r⟩ := h3.get hL
  have qin : q ∈ Fs.flatten := List.mem_flatten.mpr ⟨[q], List.mem_of_getElem? e2, by simp⟩
  have kk : ∀ p ∈ (Fs.set i []).flatten, p ∈ Fs.flatten := fun p hp => (set_sub (i := i)).subset hp
  have qn : q ∉ (Fs.set i []).flatten := by
    have nd := h4
    clear h3 h5 h6 qin kk r hp
    induction Fs generalizing i L σ with
    | nil => simp at e2
    | cons F Fs ih =>
      rw [List.flatten_cons, List.nodup_append] at nd
      cases i with
      | zero =>
        simp at e2
        subst e2
        simp only [List.set_cons_zero, List.flatten_cons, List.nil_append]
        exact fun z => nd.2.2 q (by simp) q z rfl
      | succ i =>
        simp only [List.set_cons_succ, List.flatten_cons, List.mem_append, not_or]
        have e2' : Fs[i]? = some [q] := by simpa using e2
        refine ⟨fun z => nd.2.2 q z q (List.mem_flatten.mpr ⟨[q], List.mem_of_getElem? e2', by simp⟩) rfl, ?_⟩
        cases σ with
        | nil => simp at e1
        | cons s σ =>
          cases L with
          | nil => simp at hL
          | cons l L => exact ih (i := i) (L := L) (σ := σ) (hL := by simpa using hL) (e1 := by simpa using e1) (e2 := e2') (h4 := nd.2.1) (nd := nd.2.1)
  have σe : σ.set i (some (V.ref q)) = σ := by
    apply List.ext_getElem?
    intro n
    by_cases hn : n = i
    · subst hn
      rw [e1]
      have := (List.getElem?_eq_some_iff.mp e1).1
      rw [List.getElem?_set_self this]
    · rw [List.getElem?_set_ne (Ne.symm hn)]
  refine ⟨_, ⟨h1, h2, ⟨Fs.set i [], ?_, rfl⟩, h4.sublist set_sub, fun p hp => h5 p (kk p hp), fun a o z => RX.own (md := .sh) (H := H) kk a o (h6 a o z)⟩, kk⟩
  rw [← σe]
  refine (h3.st (RB.own kk) fun _ _ => rfl).set (s := sV false (tList S) ds) ⟨rfl, .ref q, rfl, q, vs, rfl, ?_, ?_⟩ i
  · exact .inl ⟨.inl (cl_of hp), qn, (h5 q qin).2.2⟩
  · exact r.mono fun a o z => RX.sh (H := H) a o (RB.own kk b a o z)
theorem evb_freeze {b : Bool} {ds : List α} {m : M δ} (hL : L[i]? = some (sOwn b S ds)) (hr : EvB g (L.set i (sV false (tList S) ds)) st D m) : EvB g L st D m := PSs.imp hr fun E σ H ⟨kp, own, at_, q⟩ => by
  obtain ⟨own', a', _⟩ := at_.freeze hL
  exact ⟨kp, own', a', q⟩
/-- an expression may read a slot's own list -/
theorem ev_borrow {b : Bool} {ds : List α} {m : M β} (hf : Flat T ∨ md = .fx) (hL : L[i]? = some (sOwn b S ds)) (h : EvE g (L.set i (sV false (tList S) ds)) e md T m) : EvE g L e md T m := PE.imp h fun σ H Q q => by
  obtain ⟨kp, own, at_, q⟩ := tE_iff.mp q
  obtain ⟨own', a', sub⟩ := at_.freeze hL
  refine tE_iff.mpr ⟨kp, own', a', ?_⟩
  cases m with
  | ok d =>
    refine fun v H' s r => q v H' s ?_
    rcases hf with hf | rfl
    · exact hf r
    · exact T.mono r fun a o z => ⟨z.1, fun y => (at_.new a y).1 z.2.2.2.2, z.2.2⟩
  | ex c => exact q
  | no => exact q
theorem evt_borrow {b : Bool} {ds : List α} {m : M Bool} (hL : L[i]? = some (sOwn b S ds)) (h : EvT g (L.set i (sV false (tList S) ds)) e m) : EvT g L e m := PT.imp h fun σ H Q q => by
  obtain ⟨kp, own, at_, q⟩ := tT_iff.mp q
  obtain ⟨own', a', sub⟩ := at_.freeze hL
  refine tT_iff.mpr ⟨kp, own', a', ?_⟩
  cases m <;> exact q
theorem evl_borrow {b : Bool} {ds : List α} {m : M (List β)} (hf : Flat T ∨ md = .fx) (hL : L[i]? = some (sOwn b S ds)) (h : EvL g (L.set i (sV false (tList S) ds)) e md T m) : EvL g L e md T m := PE.imp h fun σ H Q q => by
  obtain ⟨kp, own, at_, q⟩ := tL_iff.mp q
  obtain ⟨own', a', sub⟩ := at_.freeze hL
  refine tL_iff.mpr ⟨kp, own', a', ?_⟩
  cases m with
  | ok d =>
    refine fun p v H' s n h' r => q p v H' s n h' ?_
    rcases hf with hf | rfl
    · exact r.flat hf
    · exact r.mono fun a o z => ⟨z.1, fun y => (List.mem_cons.mp y).elim (fun e => z.2.1 (by rw [e]; exact List.mem_cons_self)) fun y => (at_.new a y).1 z.2.2.2.2, z.2.2⟩
  | ex c => exact q
  | no => exact q
/-- both ways go on to one state -/
theorem evb_if {mc : M Bool} {m1 m2 : M β} {f : β → M δ} {LJ : β → List Slot} {sa sb : List Stmt} (wk : Wk L g.LX) (hc : EvT g L c mc) (ha : EvB g L sa (fun s => .nx (LJ s)) m1) (hb : EvB g L sb (fun s => .nx (LJ s)) m2) (hr : ∀ s, EvB g (LJ s) st D (f s)) :
    EvB g L (.If c sa sb pos :: st) D (mc.bind fun c => (if c = true then m1 else m2).bind f) := by
  refine PSs.imp (pss_cons (ps_if hc ha hb) (PSs.ex hr)) fun E σ H ⟨kp, own, at_, q⟩ => ?_
  have key : ∀ {m : M β} {H1 : Hp}, Same H H1 → BOk g kp E D (m.bind f) → tB g L (fun s => .nx (LJ s)) m { E with nx := fun σ H => ∃ d, tB g (LJ d) D (f d) E σ H } σ H1 := fun {m H1} s q => by
    cases m with
    | ok d => exact ⟨kp, own, at_.ext s, fun σ' H' own' a' => ⟨d, kp, own', a', q⟩⟩
    | ex c => exact ⟨kp, own, at_.ext s, q⟩
    | no => exact q.elim
  cases mc with
  | ok c =>
    refine ⟨kp, own, at_, fun H1 s => ?_⟩
    cases c with
    | true => exact key s q
    | false => exact key s q
  | ex c => exact ⟨kp, own, at_, BOk.exx wk at_ q⟩
  | no => exact q.elim
def Out.isNx : Out → Bool
  | .nx _ => true
  | _ => false
theorem OutOk.cut {fm : Fm} {kp : RdR} {E E' : Ends} (hc : E'.ct = E.ct) (hr : E'.rt = E.rt) : ∀ {o : Out}, o.isNx = false → OutOk fm kp E o → OutOk fm kp E' o.cut := fun {o} hn q => by
  cases o with
  | nx L => cases hn
  | ct L => exact fun σ H own a => by rw [hc]; exact q σ H own a
  | go L => exact fun σ H own a => by rw [hc]; exact (q σ H own a).2
  | rt b T r => exact fun v H' s r => by rw [hr]; exact q v H' s r
  | rtL b T r => exact fun p vs H' s n1 n2 h r => by rw [hr]; exact q p vs H' s n1 n2 h r
  | gen f => show f fm E'.rt; rw [hr]; exact q
  | bad => exact q
/-- one way leaves (return, raise, continue), the other goes on -/
theorem evb_ifx {mc : M Bool} {m1 m2 : M δ} {sa : List Stmt} (wk : Wk L g.LX) (hc : EvT g L c mc) (ha : EvB g L sa (fun d => (D d).cut) m1) (hr : EvB g L st D m2) (hn : ∀ d, (D d).isNx = false := by intro d; first | rfl | (cases d <;> first | rfl | (rename_i z; cases z <;> rfl))) :
    EvB g L (.If c sa [] pos :: st) D (mc.bind fun c => if c = true then m1 else m2) := by
  refine PSs.imp (pss_cons (ps_if hc ha pss_nil) hr) fun E σ H ⟨kp, own, at_, q⟩ => ?_
  cases mc with
  | ok c =>
    refine ⟨kp, own, at_, fun H1 s => ?_⟩
    cases c with
    | true =>
      have q : BOk g kp E D m1 := q
      refine ⟨kp, own, at_.ext s, ?_⟩
      cases m1 with
      | ok d => exact OutOk.cut (E := E) (E' := { E with nx := tB g L D m2 E }) rfl rfl (hn d) q
      | ex c => exact q
      | no => exact q
    | false => exact ⟨kp, own, at_.ext s, q⟩
  | ex c => exact ⟨kp, own, at_, BOk.exx wk at_ q⟩
  | no => exact q.elim
/-- the last statement of a block: both ways end as the block does -/
theorem evb_ifl {mc : M Bool} {m1 m2 : M δ} {sa sb : List Stmt} (wk : Wk L g.LX) (hc : EvT g L c mc) (ha : EvB g L sa D m1) (hb : EvB g L sb D m2) : EvB g L [.If c sa sb pos] D (mc.bind fun c => if c = true then m1 else m2) := by
  refine PSs.imp (pss_one (ps_if hc ha hb)) fun E σ H ⟨kp, own, at_, q⟩ => ?_
  cases mc with
  | ok c =>
    refine ⟨kp, own, at_, fun H1 s => ?_⟩
    cases c with
    | true => exact ⟨kp, own, at_.ext s, q⟩
    | false => exact ⟨kp, own, at_.ext s, q⟩
  | ex c => exact ⟨kp, own, at_, BOk.exx wk at_ q⟩
  | no => exact q.elim
def forM {α β : Type} (f : β → α → M β) : β → List α → M β
  | s, [] => .ok s
  | s, x :: r => (f s x).bind fun s' => forM f s' r
/-- a turn's end: on, or out of the def -/
inductive Fl (β ρ : Type) where
  | nx (s : β)
  | rt (r : ρ)
universe u in
def Fl.el {β ρ : Type} {γ : Type u} (f : β → γ) (h : ρ → γ) : Fl β ρ → γ
  | .nx s => f s
  | .rt r => h r
def forF {α β ρ : Type} (f : β → α → M (Fl β ρ)) : β → List α → M (Fl β ρ)
  | s, [] => .ok (.nx s)
  | s, x :: r => (f s x).bind (Fl.el (fun s' => forF f s' r) fun r => .ok (.rt r))
def ItOk (K : PySem.W.Frag) (kp : RdR) (J : It) (T : Ty α) (xs : List α) : Prop :=
  ∀ H, Rdb K kp H → ∀ i, (∀ d, xs[i]? = some d → J.go i H ∧ ∀ x H', J.yld i H x H' → Same H H' ∧ T.rep d x (Nw false kp H H')) ∧ (xs[i]? = none → J.stop i H)
/-- what a for walks -/
def tI (fm : Fm) (W : Wx) (L : List Slot) (T : Ty α) (m : M (List α)) : TI := fun σ H R => ∃ kp own, At fm kp L σ H own ∧
  match m with
  | .ok xs => ∀ J H', Same H H' → ItOk fm.K (RD fm own H') J T xs → R J H'
  | .ex c => ∀ H', Same H H' → W c σ H'
  | .no => False
def EvI (g : G) (L : List Slot) (tg e : Expr) (T : Ty α) (m : M (List α)) : Prop := PI g.X tg e (tI g.fm g.W L T m)
theorem PI.imp {X : Cx} {tg e : Expr} {t t' : TI} (h : PI X tg e t) (k : ∀ σ H Q, t' σ H Q → t σ H Q) : PI X tg e t' := ⟨fun pins s σ H Q I q => h.run pins s σ H Q I (k _ _ _ q)⟩
/-- a target that is one name: its slot afterwards -/
def tG (fm : Fm) (T : Ty α) (L : List Slot) (Lt : α → List Slot) : TG := fun v σ H Q => ∃ kp own d, At fm kp L σ H own ∧ T.rep d v (RD fm own H) ∧ ∀ σ' own', At fm kp (Lt d) σ' H own' → (∀ p ∈ own', p ∈ own) → Q σ' H
def EvG (g : G) (tg : Expr) (T : Ty α) (L : List Slot) (Lt : α → List Slot) : Prop := PG g.X tg (tG g.fm T L Lt)
theorem PG.imp {X : Cx} {e : Expr} {t t' : TG} (h : PG X e t) (k : ∀ v σ H Q, t' v σ H Q → t v σ H Q) : PG X e t' := ⟨fun pins s σ H v u Q I r q => h.run pins s σ H v u Q I r (k _ _ _ _ q)⟩
theorem PG.ex {X : Cx} {ι : Type} {e : Expr} {t : ι → TG} (h : ∀ d, PG X e (t d)) : PG X e (fun v σ H Q => ∃ d, t d v σ H Q) := ⟨fun pins s σ H v u Q I r ⟨d, q⟩ => (h d).run pins s σ H v u Q I r q⟩
theorem evg_name (ok : OkS p sc NN VV GG k g) (hN : NN[i]? = some x) (hV : VV[j]? = some x) : EvG g (.Name x pos) T L (fun d => L.set i (sV false T d)) := by
  refine PG.imp (pg_name (i := i) (by rw [ok.N]; exact ok.nd) (by rw [ok.N]; exact hN) (ok.loc hV) (okS_fn ok)) fun v σ H Q ⟨kp, own, d, at_, r, q⟩ => ?_
  obtain ⟨h1, h2, ⟨Fs, h3, rfl⟩, h4, h5, h6⟩ := at_
  have kk : ∀ p ∈ (Fs.set i []).flatten, p ∈ Fs.flatten := fun p hp => (set_sub (i := i)).subset hp
  exact q _ _ ⟨h1, h2, ⟨Fs.set i [], (h3.st (RB.own kk) fun _ _ => rfl).set (s := sV false T d) ⟨rfl, v, rfl, T.mono r (RX.own (md := .sh) (H := H) kk)⟩ i, rfl⟩, h4.sublist set_sub, fun p hp => h5 p (kk p hp), fun a o q => RX.own (md := .sh) (H := H) kk a o (h6 a o q)⟩ kk
theorem Nw.rd {fm : Fm} {kp kp' : RdR} {own : List Addr} {σ : L2.St} {H H' : Hp} (at_ : At fm kp L σ H own) (k : ∀ a o, kp' a o → RD fm own H a o) (s : Same H H') : ∀ a o, Nw false kp' H H' a o → RD fm own H' a o := fun a o r => by
  rcases r with ⟨_, r⟩ | ⟨r, n⟩
  · exact RD.same s a o (k a o r)
  · exact .inl ⟨.inl r, fun hp => (at_.new a hp).1 n, fun hz => at_.zin a hz n⟩
theorem RD.rdb {fm : Fm} {own : List Addr} {H : Hp} : Rdb fm.K (RD fm own H) H := ⟨fun a o r n => r.imp (fun h => Rd.raw h.1 n) id⟩
theorem evb_for {m : M (List α)} {f : β → α → M β} {h : β → M δ} {LF : β → List Slot} {Lt : β → α → List Slot} {s0 : β} {tg it : Expr} {body : List Stmt} (ok : OkS p sc NN VV GG k g) (wk : Wk L g.LX) (hI : EvI g L tg it S m) (w0 : Wk L (LF s0))
    (hG : ∀ s, EvG g tg S (LF s) (Lt s)) (hb : ∀ s d, EvB g (Lt s d) body (fun s' => .go (LF s')) (f s d)) (hr : ∀ s, EvB g (LF s) st D (h s)) (hs : ∀ x, foldedSetIterable it g.X.env x = pure x := by intro _; rfl) :
    EvB g L (.For tg it body [] pos :: st) D (m.bind fun xs => (forM f s0 xs).bind h) := by
  refine PSs.imp (pss_cons (ps_for ok.psO ok.calm hI (PG.ex hG) (PSs.ex fun s => PSs.ex (hb s)) hs) (PSs.ex hr)) fun E σ H ⟨kp, own, at_, q⟩ => ?_
  cases m with
  | ex c => exact ⟨kp, own, at_, BOk.exx wk at_ q⟩
  | no => exact q.elim
  | ok xs =>
  refine ⟨kp, own, at_, fun J H1 s1 hJ => ?_⟩
  have at1 := at_.ext s1
  obtain ⟨own0, a0, sub0⟩ := at1.weak w0
  have q : BOk g kp E D ((forM f s0 xs).bind h) := q
  have kk : ∀ a o, kp a o → RD g.fm own H1 a o := at1.kept
  have a0' : At g.fm (RD g.fm own H1) (LF s0) σ H1 own0 := ⟨a0.same, a0.zin, a0.sl, a0.nd, a0.new, fun a o z => RX.own (md := .sh) (H := H1) sub0 a o z⟩
  refine ⟨fun i m σ H => m = xs.length - i ∧ i ≤ xs.length ∧ ∃ s own', At g.fm (RD g.fm own H1) (LF s) σ H own' ∧ BOk g kp E D ((forM f s (xs.drop i)).bind h), ⟨_, rfl, Nat.zero_le _, s0, own0, a0', q⟩, ?_⟩
  rintro i m σ H ⟨rfl, hi, s, own', a', q'⟩
  have rb : Rdb g.fm.K (RD g.fm own H1) H := ⟨fun a o z n => (a'.kept a o z).imp (fun h => Rd.raw h.1 n) id⟩
  obtain ⟨hgo, hst⟩ := hJ H rb i
  by_cases hlt : i < xs.length
  · have he : xs[i]? = some xs[i] := by simp [hlt]
    obtain ⟨go, yl⟩ := hgo _ he
    rw [List.drop_eq_getElem_cons hlt] at q'
    refine .inr ⟨go, fun σ' H' => ∃ s own', At g.fm (RD g.fm own H1) (LF s) σ' H' own' ∧ BOk g kp E D ((forM f s (xs.drop (i + 1))).bind h), fun σ' H' ⟨s', own'', a'', q''⟩ => ⟨xs.length - (i + 1), by omega, rfl, hlt, s', own'', a'', q''⟩, fun x H' y => ?_⟩
    obtain ⟨s2, r2⟩ := yl x H' y
    refine ⟨s, _, own', xs[i], a'.ext s2, S.mono r2 (Nw.rd a' a'.kept s2), fun σ' own'' a'' _ => ⟨s, xs[i], _, own'', a'', ?_⟩⟩
    have q2 : BOk g kp E D (((f s xs[i]).bind fun s' => forM f s' (xs.drop (i + 1))).bind h) := q'
    cases hf : f s xs[i] with
    | ok s' =>
      rw [hf] at q2
      exact fun σ3 H3 own3 a3 => ⟨⟨s', own3, a3, q2⟩, ⟨s', own3, a3, q2⟩⟩
    | ex c =>
      rw [hf] at q2
      exact fun σ3 H3 own3 a3 => q2 σ3 H3 own3 (a3.keep kk)
    | no => rw [hf] at q2; exact q2
  · have e : i = xs.length := by omega
    subst e
    rw [List.drop_length] at q'
    exact .inl ⟨hst (by simp), s, kp, own', a'.keep kk, q'⟩
def Out.isRt : Out → Bool
  | .rt _ _ _ => true
  | .rtL _ _ _ => true
  | .gen _ => true
  | _ => false
theorem OutOk.rt {fm : Fm} {kp kp' : RdR} {E E' : Ends} (hr : E'.rt = E.rt) : ∀ {o : Out}, o.isRt = true → OutOk fm kp E o → OutOk fm kp' E' o := fun {o} hn q => by
  cases o with
  | nx L => cases hn
  | ct L => cases hn
  | go L => cases hn
  | rt b T r => exact fun v H' s r => by rw [hr]; exact q v H' s r
  | rtL b T r => exact fun p vs H' s n1 n2 h r => by rw [hr]; exact q p vs H' s n1 n2 h r
  | gen f => show f fm E'.rt; rw [hr]; exact q
  | bad => cases hn
/-- .. that may leave the def -/
theorem evb_forF {ρ : Type} {m : M (List α)} {f : β → α → M (Fl β ρ)} {h : β → M δ} {dr : ρ → δ} {LF : β → List Slot} {Lt : β → α → List Slot} {s0 : β} {tg it : Expr} {body : List Stmt} (ok : OkS p sc NN VV GG k g) (wk : Wk L g.LX) (hI : EvI g L tg it S m) (w0 : Wk L (LF s0))
    (hG : ∀ s, EvG g tg S (LF s) (Lt s)) (hb : ∀ s d, EvB g (Lt s d) body (Fl.el (fun s' => Out.go (LF s')) fun r => D (dr r)) (f s d)) (hr : ∀ s, EvB g (LF s) st D (h s)) (hD : ∀ r, (D (dr r)).isRt = true := by intro d; first | rfl | (cases d <;> rfl)) (hs : ∀ x, foldedSetIterable it g.X.env x = pure x := by intro _; rfl) :
    EvB g L (.For tg it body [] pos :: st) D (m.bind fun xs => (forF f s0 xs).bind (Fl.el h fun r => .ok (dr r))) := by
  refine PSs.imp (pss_cons (ps_for ok.psO ok.calm hI (PG.ex hG) (PSs.ex fun s => PSs.ex (hb s)) hs) (PSs.ex hr)) fun E σ H ⟨kp, own, at_, q⟩ => ?_
  cases m with
  | ex c => exact ⟨kp, own, at_, BOk.exx wk at_ q⟩
  | no => exact q.elim
  | ok xs =>
  refine ⟨kp, own, at_, fun J H1 s1 hJ => ?_⟩
  have at1 := at_.ext s1
  obtain ⟨own0, a0, sub0⟩ := at1.weak w0
  have q : BOk g kp E D ((forF f s0 xs).bind (Fl.el h fun r => .ok (dr r))) := q
  have kk : ∀ a o, kp a o → RD g.fm own H1 a o := at1.kept
  have a0' : At g.fm (RD g.fm own H1) (LF s0) σ H1 own0 := ⟨a0.same, a0.zin, a0.sl, a0.nd, a0.new, fun a o z => RX.own (md := .sh) (H := H1) sub0 a o z⟩
  refine ⟨fun i m σ H => m = xs.length - i ∧ i ≤ xs.length ∧ ∃ s own', At g.fm (RD g.fm own H1) (LF s) σ H own' ∧ BOk g kp E D ((forF f s (xs.drop i)).bind (Fl.el h fun r => .ok (dr r))), ⟨_, rfl, Nat.zero_le _, s0, own0, a0', q⟩, ?_⟩
  rintro i m σ H ⟨rfl, hi, s, own', a', q'⟩
  have rb : Rdb g.fm.K (RD g.fm own H1) H := ⟨fun a o z n => (a'.kept a o z).imp (fun h => Rd.raw h.1 n) id⟩
  obtain ⟨hgo, hst⟩ := hJ H rb i
  by_cases hlt : i < xs.length
  · have he : xs[i]? = some xs[i] := by simp [hlt]
    obtain ⟨go, yl⟩ := hgo _ he
    rw [List.drop_eq_getElem_cons hlt] at q'
    refine .inr ⟨go, fun σ' H' => ∃ s own', At g.fm (RD g.fm own H1) (LF s) σ' H' own' ∧ BOk g kp E D ((forF f s (xs.drop (i + 1))).bind (Fl.el h fun r => .ok (dr r))), fun σ' H' ⟨s', own'', a'', q''⟩ => ⟨xs.length - (i + 1), by omega, rfl, hlt, s', own'', a'', q''⟩, fun x H' y => ?_⟩
    obtain ⟨s2, r2⟩ := yl x H' y
    refine ⟨s, _, own', xs[i], a'.ext s2, S.mono r2 (Nw.rd a' a'.kept s2), fun σ' own'' a'' _ => ⟨s, xs[i], _, own'', a'', ?_⟩⟩
    have q2 : BOk g kp E D (((f s xs[i]).bind (Fl.el (fun s' => forF f s' (xs.drop (i + 1))) fun r => .ok (.rt r))).bind (Fl.el h fun r => .ok (dr r))) := q'
    cases hf : f s xs[i] with
    | ok s' =>
      rw [hf] at q2
      cases s' with
      | nx s' => exact fun σ3 H3 own3 a3 => ⟨⟨s', own3, a3, q2⟩, ⟨s', own3, a3, q2⟩⟩
      | rt r =>
        have q2 : OutOk g.fm kp E (D (dr r)) := q2
        show OutOk g.fm _ _ (D (dr r))
        refine OutOk.rt (E := E) ?_ (hD r) q2
        rfl
    | ex c =>
      rw [hf] at q2
      exact fun σ3 H3 own3 a3 => q2 σ3 H3 own3 (a3.keep kk)
    | no => rw [hf] at q2; exact q2
  · have e : i = xs.length := by omega
    subst e
    rw [List.drop_length] at q'
    exact .inl ⟨hst (by simp), s, kp, own', a'.keep kk, q'⟩
/-- while: fuel says how many turns at most -/
def whileM {β : Type} (t : β → M Bool) (f : β → M β) : Nat → β → M β
  | 0, _ => .no
  | n + 1, s => (t s).bind fun c => if c = true then (f s).bind (whileM t f n) else .ok s
def whileF {β ρ : Type} (t : β → M Bool) (f : β → M (Fl β ρ)) : Nat → β → M (Fl β ρ)
  | 0, _ => .no
  | n + 1, s => (t s).bind fun c => if c = true then (f s).bind (Fl.el (whileF t f n) fun r => .ok (.rt r)) else .ok (.nx s)
theorem PT.ex {X : Cx} {ι : Type} {e : Expr} {t : ι → TT} (h : ∀ d, PT X e (t d)) : PT X e (fun σ H Q => ∃ d, t d σ H Q) := ⟨fun pins s σ H Q I ⟨d, q⟩ => (h d).run pins s σ H Q I q⟩
theorem evb_while {n : Nat} {t : β → M Bool} {f : β → M β} {h : β → M δ} {LF : β → List Slot} {s0 : β} {body : List Stmt} (ok : OkS p sc NN VV GG k g) (wk : ∀ s, Wk (LF s) g.LX) (w0 : Wk L (LF s0))
    (hc : ∀ s, EvT g (LF s) c (t s)) (hb : ∀ s, EvB g (LF s) body (fun s' => .go (LF s')) (f s)) (hr : ∀ s, EvB g (LF s) st D (h s)) :
    EvB g L (.While c body [] pos :: st) D ((whileM t f n s0).bind h) := by
  refine PSs.imp (pss_cons (ps_while ok.psO (PT.ex hc) (PSs.ex hb)) (PSs.ex hr)) fun E σ H ⟨kp, own, at_, q⟩ => ?_
  obtain ⟨own0, a0, _⟩ := at_.weak w0
  refine ⟨fun m σ H => ∃ s own', At g.fm kp (LF s) σ H own' ∧ BOk g kp E D ((whileM t f m s).bind h), ⟨n, s0, own0, a0, q⟩, ?_⟩
  rintro m σ H ⟨s, own', a', q'⟩
  cases m with
  | zero => exact q'.elim
  | succ m =>
  refine ⟨s, tT_iff.mpr ⟨kp, own', a', ?_⟩⟩
  have q2 : BOk g kp E D (((t s).bind fun c => if c = true then (f s).bind (whileM t f m) else .ok s).bind h) := q'
  cases ht : t s with
  | ok c =>
    rw [ht] at q2
    intro H1 s1
    cases c with
    | true =>
      rw [if_pos rfl]
      refine ⟨fun σ' H' => ∃ s own', At g.fm kp (LF s) σ' H' own' ∧ BOk g kp E D ((whileM t f m s).bind h), fun σ' H' z => ⟨m, Nat.lt_succ_self m, z⟩, s, kp, own', a'.ext s1, ?_⟩
      have q3 : BOk g kp E D (((f s).bind (whileM t f m)).bind h) := q2
      cases hf : f s with
      | ok s' => rw [hf] at q3; exact fun σ3 H3 own3 a3 => ⟨⟨s', own3, a3, q3⟩, ⟨s', own3, a3, q3⟩⟩
      | ex c => rw [hf] at q3; exact q3
      | no => rw [hf] at q3; exact q3
    | false => exact ⟨s, kp, own', a'.ext s1, q2⟩
  | ex c => rw [ht] at q2; exact BOk.exx (wk s) a' q2
  | no => rw [ht] at q2; exact q2
theorem evb_whileF {ρ : Type} {n : Nat} {t : β → M Bool} {f : β → M (Fl β ρ)} {h : β → M δ} {dr : ρ → δ} {LF : β → List Slot} {s0 : β} {body : List Stmt} (ok : OkS p sc NN VV GG k g) (wk : ∀ s, Wk (LF s) g.LX) (w0 : Wk L (LF s0))
    (hc : ∀ s, EvT g (LF s) c (t s)) (hb : ∀ s, EvB g (LF s) body (Fl.el (fun s' => Out.go (LF s')) fun r => D (dr r)) (f s)) (hr : ∀ s, EvB g (LF s) st D (h s)) (hD : ∀ r, (D (dr r)).isRt = true := by intro d; first | rfl | (cases d <;> rfl)) :
    EvB g L (.While c body [] pos :: st) D ((whileF t f n s0).bind (Fl.el h fun r => .ok (dr r))) := by
  refine PSs.imp (pss_cons (ps_while ok.psO (PT.ex hc) (PSs.ex hb)) (PSs.ex hr)) fun E σ H ⟨kp, own, at_, q⟩ => ?_
  obtain ⟨own0, a0, _⟩ := at_.weak w0
  refine ⟨fun m σ H => ∃ s own', At g.fm kp (LF s) σ H own' ∧ BOk g kp E D ((whileF t f m s).bind (Fl.el h fun r => .ok (dr r))), ⟨n, s0, own0, a0, q⟩, ?_⟩
  rintro m σ H ⟨s, own', a', q'⟩
  cases m with
  | zero => exact q'.elim
  | succ m =>
  refine ⟨s, tT_iff.mpr ⟨kp, own', a', ?_⟩⟩
  have q2 : BOk g kp E D (((t s).bind fun c => if c = true then (f s).bind (Fl.el (whileF t f m) fun r => .ok (.rt r)) else .ok (.nx s)).bind (Fl.el h fun r => .ok (dr r))) := q'
  cases ht : t s with
  | ok c =>
    rw [ht] at q2
    intro H1 s1
    cases c with
    | true =>
      rw [if_pos rfl]
      refine ⟨fun σ' H' => ∃ s own', At g.fm kp (LF s) σ' H' own' ∧ BOk g kp E D ((whileF t f m s).bind (Fl.el h fun r => .ok (dr r))), fun σ' H' z => ⟨m, Nat.lt_succ_self m, z⟩, s, kp, own', a'.ext s1, ?_⟩
      have q3 : BOk g kp E D (((f s).bind (Fl.el (whileF t f m) fun r => .ok (.rt r))).bind (Fl.el h fun r => .ok (dr r))) := q2
      cases hf : f s with
      | ok s' =>
        rw [hf] at q3
        cases s' with
        | nx s' => exact fun σ3 H3 own3 a3 => ⟨⟨s', own3, a3, q3⟩, ⟨s', own3, a3, q3⟩⟩
        | rt r =>
          have q3 : OutOk g.fm kp E (D (dr r)) := q3
          show OutOk g.fm _ _ (D (dr r))
          refine OutOk.rt (E := E) ?_ (hD r) q3
          rfl
      | ex c => rw [hf] at q3; exact q3
      | no => rw [hf] at q3; exact q3
    | false => exact ⟨s, kp, own', a'.ext s1, q2⟩
  | ex c => rw [ht] at q2; exact BOk.exx (wk s) a' q2
  | no => rw [ht] at q2; exact q2
end
end Hd
namespace Hd
open PySem PySem.Spec L2
def RetOk (fm : Fm) (Q : VK) : Out → Prop
  | .rt md T r => ∀ v H', Same fm.H0 H' → T.rep r v (RT fm H' md) → Q v H'
  | .rtL md T r => ∀ p vs H', Same fm.H0 H' → ¬ fm.z p → fm.H0 p = none → H' p = some (.lst vs) → Reps T (RT fm H' md (some p)) r vs → Q (.ref p) H'
  | .gen f => f fm Q
  | _ => False
/-- what a def promises: it comes to F -/
def spM (p : Pr) {δ ρ : Type} (A : Ar δ) (D : ρ → Out) (F : δ → M ρ) : Sp := fun vs H Q E => ∃ d z, ((∀ a, z a → H a ≠ none) ∧ ∀ P, p.T = some P → LamX.TabS H P lamQ) ∧ A.rep d vs (RD ⟨p.K, H, z⟩ [] H) ∧
  match F d with
  | .ok r => RetOk ⟨p.K, H, z⟩ Q (D r)
  | .ex c => ∀ H', Same H H' → E (.ref (p.C c)) none H'
  | .no => False
/-- the slots of the arguments -/
inductive ArS : {δ : Type} → Ar δ → Nat → (δ → List Slot) → Prop where
  | nil : ArS aNil 0 (fun _ => [])
  | cons {α δ : Type} {T : Ty α} {A : Ar δ} {n : Nat} {f : δ → List Slot} : ArS A n f → ArS (aCons T A) (n + 1) (fun d => sV false T d.1 :: f d.2)
theorem ArS.all {H : Hp} {R : Bool → RdR} {δ : Type} {A : Ar δ} {n : Nat} {f : δ → List Slot} (s : ArS A n f) : ∀ {d : δ} {vs : List V}, A.rep d vs (R false) → vs.length = n ∧ AllS H R (f d) (vs.map some) (List.replicate n []) := by
  induction s with
  | nil => intro d vs h; cases (show vs = [] from h); exact ⟨rfl, .nil⟩
  | cons _ ih =>
    intro d vs h
    obtain ⟨v, r, rfl, h1, h2⟩ := h
    obtain ⟨e, h3⟩ := ih h2
    exact ⟨by simp [e], .cons ⟨rfl, v, rfl, h1⟩ h3⟩
theorem AllS.append {H : Hp} {R : Bool → RdR} {L L' : List Slot} {σ σ' : L2.St} {Fs Fs' : List (List Addr)} (h : AllS H R L σ Fs) (h' : AllS H R L' σ' Fs') : AllS H R (L ++ L') (σ ++ σ') (Fs ++ Fs') := by
  induction h with
  | nil => exact h'
  | cons r _ ih => exact .cons r ih
theorem AllS.anys {H : Hp} {R : Bool → RdR} : ∀ n, AllS H R (List.replicate n sAny) (List.replicate n none) (List.replicate n [])
  | 0 => .nil
  | n + 1 => .cons rfl (AllS.anys n)
theorem flat_rep (n : Nat) : (List.replicate n ([] : List Addr)).flatten = [] := by induction n with
  | zero => rfl
  | succ n ih => simp
structure Sc (st : Stmt) (NN VV ps GG : List Str) : Prop where
  S : FnScope NN ps (defScope st)
  vis : VV.all (seenB (defScope st)) = true
  loc : VV.all (locB (defScope st)) = true
  gl : GG.all (glB (defScope st)) = true
section
variable {p : Pr} {sc : Scope} {NN VV GG : List Str} {k : Nat} {g : G} {L L' : List Slot} {a b c e e' : Expr} {es : List Expr} {md md' : Md} {α β γ δ ρ : Type} {S : Ty α} {T : Ty β} {U : Ty γ} {A : Ar δ} {pos : Pos}
/-- a def's body, as a judgement for all its arguments -/
def Body (p : Pr) (st : Stmt) (NN VV GG : List Str) (k : Nat) (L0 : δ → List Slot) (D : ρ → Out) (F : δ → M ρ) : Prop :=
  ∀ g, OkS p (defScope st) NN VV GG k g → g.LX = List.replicate NN.length sAny → ∀ d, EvB g (L0 d) (defBody st) D (F d)
/-- how Ends take a block's end that the promise tells as D -/
theorem fn_gen {x qual : Str} {st : Stmt} {f : Addr} {fd : FuncData} {ps : List Str} {L0 : δ → List Slot} {n m : Nat} {D D' : ρ → Out} {F : δ → M ρ} (hF : FunD p.K x qual (defArgs st) (defBody st) (defScope st) [] [] f fd) (hS : Sc st NN VV ps GG) (ha : ArS A n L0) (hn : ps.length = n) (hm : n + m = NN.length)
    (hD : ∀ (r : ρ) (fm : Fm) (Q : VK), RetOk fm Q (D r) → OutOk fm (fun _ _ => False) { nx := fun _ H' => Q .non H', rt := Q } (D' r))
    (hb : Body p st NN VV GG k (fun d => L0 d ++ List.replicate m sAny) D' F) :
    FnOk p.P p.w p.K p.mg p.base (L2.CX p.P p.w) (k + 1) f fd ps (spM p A D F) := by
  refine hF.ok hS.S (fun vs H Q E h => ?_) (fun cdv A' outer s H vs Q E hr h => ?_)
  · obtain ⟨d, z, hz, hrep, _⟩ := h
    exact (ha.all (H := H) (R := fun _ => RD ⟨p.K, H, z⟩ [] H) hrep).1.trans hn.symm
  · obtain ⟨d, z, ⟨hz, htab⟩, hrep, q⟩ := h
    have hlen : vs.length = n := (ha.all (H := H) (R := fun _ => RD ⟨p.K, H, z⟩ [] H) hrep).1
    let X : Cx := cxOf (L2.CX p.P p.w) p.P p.w p.K p.mg p.base NN qual (defScope st) f cdv A' outer s H E
    let g : G := ⟨X, ⟨p.K, H, z⟩, fun c _ H' => E (.ref (p.C c)) none H', List.replicate NN.length sAny⟩
    have hN : ∀ {j : Nat} {y : Str}, VV[j]? = some y → y ∈ VV := fun e => List.mem_of_getElem? e
    have ok : OkS p (defScope st) NN VV GG k g :=
      { prog := rfl, w := rfl, K := rfl, mg := rfl, base := rfl, N := rfl, fmK := rfl, tab := htab, room := hr, nd := hS.S.nd
        vis := fun e => let h := seenB_v (List.all_eq_true.mp hS.vis _ (hN e)); ⟨h.2, h.1⟩
        gl := fun e => let h := glB_v (List.all_eq_true.mp hS.gl _ (List.mem_of_getElem? e)); ⟨h.2, h.1⟩
        tk := Takes.imp (takes_of (X := X) rfl rfl rfl (E := E) rfl) (fun cls d σ H ⟨c, e1, e2, h⟩ => by subst e1; subst e2; exact h)
        calm := rfl
        blk := fun h => blkOk_by h
        loc := fun e => locB_v (List.all_eq_true.mp hS.loc _ (hN e))
        fnT := fun _ => rfl
        psO := passes_of (X := X) rfl
        scp := rfl
        stk := rfl
        frm := rfl
        exn := rfl }
    refine ⟨_, hb g ok rfl d, (fun _ _ => False), [], ?_, ?_⟩
    · refine ⟨Same.refl H, hz, ⟨List.replicate n [] ++ List.replicate m [], ?_, by simp [flat_rep]⟩, List.nodup_nil, (fun _ h => nomatch h), fun _ _ h => h.elim⟩
      have h1 := (ha.all (H := H) (R := RB ⟨p.K, H, z⟩ [] H) hrep).2
      have e : L2.start NN vs = vs.map some ++ List.replicate m none := by
        unfold L2.start
        rw [show NN.length - vs.length = m by omega]
      rw [e]
      exact h1.append (AllS.anys m)
    · cases hF' : F d with
      | ok r =>
        rw [hF'] at q
        exact hD r _ _ q
      | ex c =>
        rw [hF'] at q
        exact fun σ' H' own a' => q H' a'.same
      | no => rw [hF'] at q; exact q
theorem fn_rt {x qual : Str} {st : Stmt} {f : Addr} {fd : FuncData} {ps : List Str} {L0 : δ → List Slot} {n m : Nat} {bm : Bool} {T : Ty ρ} {F : δ → M ρ} (hF : FunD p.K x qual (defArgs st) (defBody st) (defScope st) [] [] f fd) (hS : Sc st NN VV ps GG) (ha : ArS A n L0) (hn : ps.length = n) (hm : n + m = NN.length)
    (hb : Body p st NN VV GG k (fun d => L0 d ++ List.replicate m sAny) (fun r => .rt bm T r) F) : FnOk p.P p.w p.K p.mg p.base (L2.CX p.P p.w) (k + 1) f fd ps (spM p A (fun r => .rt bm T r) F) :=
  fn_gen (D' := fun r => .rt bm T r) hF hS ha hn hm (fun r fm Q h => h) hb
theorem fn_rtL {x qual : Str} {st : Stmt} {f : Addr} {fd : FuncData} {ps : List Str} {L0 : δ → List Slot} {n m : Nat} {bm : Bool} {F : δ → M (List α)} (hF : FunD p.K x qual (defArgs st) (defBody st) (defScope st) [] [] f fd) (hS : Sc st NN VV ps GG) (ha : ArS A n L0) (hn : ps.length = n) (hm : n + m = NN.length)
    (hb : Body p st NN VV GG k (fun d => L0 d ++ List.replicate m sAny) (fun r => .rtL bm S r) F) : FnOk p.P p.w p.K p.mg p.base (L2.CX p.P p.w) (k + 1) f fd ps (spM p A (fun r => .rtL bm S r) F) :=
  fn_gen (D' := fun r => .rtL bm S r) hF hS ha hn hm (fun r fm Q h => h) hb
/-- a def that hands back None by coming to its end -/
theorem fn_nx {x qual : Str} {st : Stmt} {f : Addr} {fd : FuncData} {ps : List Str} {L0 : δ → List Slot} {n m : Nat} {LE : List Slot} {F : δ → M Unit} (hF : FunD p.K x qual (defArgs st) (defBody st) (defScope st) [] [] f fd) (hS : Sc st NN VV ps GG) (ha : ArS A n L0) (hn : ps.length = n) (hm : n + m = NN.length)
    (hb : Body p st NN VV GG k (fun d => L0 d ++ List.replicate m sAny) (fun _ => .nx LE) F) : FnOk p.P p.w p.K p.mg p.base (L2.CX p.P p.w) (k + 1) f fd ps (spM p A (fun r => .rt false tNone r) F) :=
  fn_gen (D' := fun _ => .nx LE) hF hS ha hn hm (fun r fm Q h => fun σ H' own at_ => h .non H' at_.same rfl) hb
/-- a def, as its callers know it -/
structure Fn (p : Pr) (k : Nat) (x : Str) (ps : List Str) (sp : Sp) : Prop where
  ex : ∃ (f : Addr) (fd : FuncData), FnOk p.P p.w p.K p.mg p.base (L2.CX p.P p.w) k f fd ps sp ∧ p.mg x = some (.ref f) ∧ PySem.W.keepIn p.K (.ref f) = true ∧ Binds p.K fd ps []
theorem tk_at (ok : Ok p sc NN VV GG k g) (σ : L2.St) : PassesAt (L2.CX g.X.prog g.X.w) g.X σ (fun cls d H => ∃ c, cls = .ref (p.C c) ∧ d = none ∧ g.W c σ H) := passAt ok.tk σ
theorem args_in {own : List Addr} {H H1 : Hp} {d : δ} {vs : List V} {fm : Fm} (r : A.rep d vs (RX fm own H H1 md)) : A.rep d vs (RD ⟨fm.K, H1, fun a => a ∈ own ∨ fm.z a⟩ [] H1) :=
  A.mono r fun a o z => by
    rcases RX.sh a o z with z | z
    · exact .inl ⟨z.1, (fun y => nomatch y), fun y => y.elim z.2.1 z.2.2⟩
    · exact .inr z
/-- how new a call's answer is -/
inductive CaMd : Bool → Md → Prop where
  | sh : CaMd false .sh
  | fx {x : Md} : CaMd true x
theorem CaMd.rx {fm : Fm} {own : List Addr} {H H1 H' : Hp} {bm : Bool} {q : Option Addr} (h : CaMd bm md) (s : Same H H1) (s0 : Same fm.H0 H) : ∀ a o, RT ⟨fm.K, H1, fun a => a ∈ own ∨ fm.z a⟩ H' bm q a o → RX fm (q.toList ++ own) H H' md a o := fun a o r => by
  cases h with
  | sh =>
    have r : RX ⟨fm.K, H1, fun a => a ∈ own ∨ fm.z a⟩ q.toList H' H' .sh a o := r
    rcases r with ⟨r1, r2, r3⟩ | r
    · exact .inl ⟨r1, fun y => (List.mem_append.mp y).elim r2 fun y => r3 (.inl y), fun y => r3 (.inr y)⟩
    · exact .inr r
  | fx =>
    have r : RX ⟨fm.K, H1, fun a => a ∈ own ∨ fm.z a⟩ q.toList H' H' .f0 a o := r
    obtain ⟨r1, r2, r3, r4⟩ := r
    exact RX.fx md a o ⟨r1, fun y => (List.mem_append.mp y).elim r2 fun y => r3 (.inl y), fun y => r3 (.inr y), s0.free (s.free r4), s.free r4⟩
theorem ev_call {x : Str} {j kf : Nat} {ps : List Str} {bm : Bool} {T : Ty ρ} {F : δ → M ρ} {m : M δ} {pp : Pos} (ok : Ok p sc NN VV GG k g) (hf : Fn p kf x ps (spM p A (fun r => .rt bm T r) F)) (hk : kf ≤ k) (hG : GG[j]? = some x) (hc : CaMd bm md')
    (ha : EvA g L (e :: es) md A m) (he : starEach (e :: es) g.X.env = (false, eval e g.X.env) :: starEach es g.X.env := by rfl) (hpl : (backTo pos (starEach es g.X.env)).any (·.1) = false := by rfl) :
    EvE g L (.Call (.Name x pp) (e :: es) [] pos) md' T (m.bind F) := by
  obtain ⟨f, fd, hF, hm, hkp, hbd⟩ := hf.ex
  obtain ⟨hg, ho⟩ := ok.gl hG
  rw [← ok.prog, ← ok.w, ← ok.base] at hF
  have hF' : FnOk g.X.prog g.X.w g.X.K g.X.mg g.X.base (L2.CX g.X.prog g.X.w) kf f fd ps (spM p A (fun r => .rt bm T r) F) := by rw [ok.K, ok.mg]; exact hF
  refine PE.imp (pe_callS hF' (ok.room.mono hk) hg (by rw [ok.mg]; exact hm) (by rw [ok.K]; exact hkp) (by rw [ok.K]; exact hbd) (tk_at ok) ha (okName_d ho).1 he hpl) fun σ H Q q => ?_
  obtain ⟨kp, own, at_, q⟩ := tE_iff.mp q
  refine subA finE (Same.refl H) at_ q fun d vs H1 s1 r1 at1 q1 => ⟨d, fun a => a ∈ own ∨ g.fm.z a, ⟨fun a z => ?_, fun P e => at1.same.tab P (ok.tab P e)⟩, ?_, ?_⟩
  · rcases z with z | z
    · exact (at1.new a z).1
    · exact at1.zin a z
  · rw [← ok.fmK]; exact args_in r1
  · rw [← ok.fmK]
    cases hd : F d with
    | ok r =>
      rw [hd] at q1
      exact fun v H' s r => q1 v H' (s1.trans s) (T.mono r (hc.rx s1 at_.same))
    | ex c =>
      rw [hd] at q1
      exact fun H' s => ⟨c, rfl, rfl, q1 H' (s1.trans s)⟩
    | no => rw [hd] at q1; exact q1
theorem evl_call {x : Str} {j kf : Nat} {ps : List Str} {bm : Bool} {F : δ → M (List α)} {m : M δ} {pp : Pos} (ok : Ok p sc NN VV GG k g) (hf : Fn p kf x ps (spM p A (fun r => .rtL bm S r) F)) (hk : kf ≤ k) (hG : GG[j]? = some x) (hc : CaMd bm md')
    (ha : EvA g L (e :: es) md A m) (he : starEach (e :: es) g.X.env = (false, eval e g.X.env) :: starEach es g.X.env := by rfl) (hpl : (backTo pos (starEach es g.X.env)).any (·.1) = false := by rfl) :
    EvL g L (.Call (.Name x pp) (e :: es) [] pos) md' S (m.bind F) := by
  obtain ⟨f, fd, hF, hm, hkp, hbd⟩ := hf.ex
  obtain ⟨hg, ho⟩ := ok.gl hG
  rw [← ok.prog, ← ok.w, ← ok.base] at hF
  have hF' : FnOk g.X.prog g.X.w g.X.K g.X.mg g.X.base (L2.CX g.X.prog g.X.w) kf f fd ps (spM p A (fun r => .rtL bm S r) F) := by rw [ok.K, ok.mg]; exact hF
  refine PE.imp (pe_callS hF' (ok.room.mono hk) hg (by rw [ok.mg]; exact hm) (by rw [ok.K]; exact hkp) (by rw [ok.K]; exact hbd) (tk_at ok) ha (okName_d ho).1 he hpl) fun σ H Q q => ?_
  obtain ⟨kp, own, at_, q⟩ := tL_iff.mp q
  refine subA finL (Same.refl H) at_ q fun d vs H1 s1 r1 at1 q1 => ⟨d, fun a => a ∈ own ∨ g.fm.z a, ⟨fun a z => ?_, fun P e => at1.same.tab P (ok.tab P e)⟩, ?_, ?_⟩
  · rcases z with z | z
    · exact (at1.new a z).1
    · exact at1.zin a z
  · rw [← ok.fmK]; exact args_in r1
  · rw [← ok.fmK]
    cases hd : F d with
    | ok r =>
      rw [hd] at q1
      exact fun p' vs' H' s n1 n2 h' r => q1 p' vs' H' (s1.trans s) (s1.free n2) h' (r.mono (hc.rx (q := some p') s1 at_.same))
    | ex c =>
      rw [hd] at q1
      exact fun H' s => ⟨c, rfl, rfl, q1 H' (s1.trans s)⟩
    | no => rw [hd] at q1; exact q1
/-- an own class of refusals -/
structure ExF (p : Pr) (x : Str) (c : Ec) : Prop where
  xP : PySem.W.excIn p.K (p.C c) [.type "ValueError", .type "Exception", .type "BaseException", .type "object"] "ValueError.__new__" = true
  gP : p.mg x = some (.ref (p.C c))
  kP : PySem.W.keepIn p.K (.ref (p.C c)) = true
  bP : PySem.W.subIn p.K (.ref (p.C c)) (.type "BaseException") = some true
  tP : PySem.W.typeIn p.K (.ref (p.C c)) = some (.type "type")
variable {st : List Stmt} {D : δ → Out} {d : δ}
theorem evb_raise {x : Str} {c : Ec} {j jj : Nat} {msg : Str} {pp p2 p3 : Pos} (ok : OkS p sc NN VV GG k g) (wk : Wk L g.LX) (X : ExF p x c) (hG : GG[j]? = some x) :
    EvB g L (.Raise (some (.Call (.Name x pp) [.Constant (.str msg) jj p2] [] p3)) none pos :: st) D (.ex c) := by
  obtain ⟨hg, ho⟩ := ok.gl hG
  refine PSs.imp (PSs.head (ps_raise ok.calm ok.tk (pmk_own PySem.F.excBase_ValueError (by rw [ok.K]; exact X.xP) (by rw [ok.mg]; exact X.gP) (by rw [ok.K]; exact X.kP) (raises_own (by rw [ok.K]; exact X.bP) (by rw [ok.K]; exact X.tP)) hg (okName_d ho).1))) fun E σ H ⟨kp, own, at_, q⟩ => ?_
  exact ⟨c, rfl, rfl, BOk.exx wk at_ q H (Same.refl H)⟩
end
end Hd
namespace Hd
open PySem PySem.Spec L2
section
variable {p : Pr} {sc : Scope} {NN VV GG : List Str} {k : Nat} {g : G} {L L' : List Slot} {a b c e e' : Expr} {es : List Expr} {md md' : Md} {α β γ δ ρ : Type} {S : Ty α} {T : Ty β} {U : Ty γ} {A : Ar δ} {pos : Pos} {K : PySem.W.Frag}
def mulM (x y : Int) : M Int := if x.natAbs < 2 ^ 10000 ∧ y.natAbs < 2 ^ 10000 then .ok (x * y) else .no
def modM (x y : Int) : M Int := if 0 < y then .ok (x % y) else .no
def divM (x y : Int) : M Int := if 0 < y ∧ y.natAbs < 2 ^ 1000 then .ok (x / y) else .no
theorem o_add : Op2 K (rI0 fun i j => .int (i + j)) tInt tInt tInt (fun x y => .ok (x + y)) true := ⟨fun rb rx ry q => ⟨_, _, rx, ry, q _ _ (Same.refl _) rfl⟩⟩
theorem o_sub : Op2 K (rI0 fun i j => .int (i - j)) tInt tInt tInt (fun x y => .ok (x - y)) true := ⟨fun rb rx ry q => ⟨_, _, rx, ry, q _ _ (Same.refl _) rfl⟩⟩
theorem o_mul : Op2 K (rI CMulW fun i j => .int (i * j)) tInt tInt tInt mulM true := ⟨fun {d e x y R H Q} rb rx ry q => by
  unfold mulM at q
  split at q
  · rename_i h
    exact ⟨_, _, rx, ry, wide_mul h.1 h.2 (by decide) (by decide) (by decide), q _ _ (Same.refl _) rfl⟩
  · exact q.elim⟩
theorem o_mod : Op2 K (rI (fun _ j => 0 < j) fun i j => .int (i % j)) tInt tInt tInt modM true := ⟨fun {d e x y R H Q} rb rx ry q => by
  unfold modM at q
  split at q
  · rename_i h
    exact ⟨_, _, rx, ry, h, q _ _ (Same.refl _) rfl⟩
  · exact q.elim⟩
theorem o_div : Op2 K (rI CDivW fun i j => .int (i / j)) tInt tInt tInt divM true := ⟨fun {d e x y R H Q} rb rx ry q => by
  unfold divM at q
  split at q
  · rename_i h
    exact ⟨_, _, rx, ry, wide_div h.1 h.2 (by decide) (by decide), q _ _ (Same.refl _) rfl⟩
  · exact q.elim⟩
theorem mulM_ne {x y : Int} {c : Ec} : mulM x y ≠ .ex c := by unfold mulM; split <;> exact fun h => nomatch h
theorem modM_ne {x y : Int} {c : Ec} : modM x y ≠ .ex c := by unfold modM; split <;> exact fun h => nomatch h
theorem divM_ne {x y : Int} {c : Ec} : divM x y ≠ .ex c := by unfold divM; split <;> exact fun h => nomatch h
variable {m1 m2 : M Int} {x y : Int}
theorem ev_add (ok : Ok p sc NN VV GG k g) (ha : EvE g L a md tInt m1) (hb : EvE g L b md tInt m2) : EvE g L (.BinOp a .Add b pos) md' tInt (m1.bind fun x => m2.bind fun y => .ok (x + y)) := ev_op2 ok op_add o_add (fun _ _ _ h => nomatch h) .fresh ha hb
theorem ev_subt (ok : Ok p sc NN VV GG k g) (ha : EvE g L a md tInt m1) (hb : EvE g L b md tInt m2) : EvE g L (.BinOp a .Sub b pos) md' tInt (m1.bind fun x => m2.bind fun y => .ok (x - y)) := ev_op2 ok op_sub o_sub (fun _ _ _ h => nomatch h) .fresh ha hb
theorem ev_mul (ok : Ok p sc NN VV GG k g) (ha : EvE g L a md tInt m1) (hb : EvE g L b md tInt m2) : EvE g L (.BinOp a .Mult b pos) md' tInt (m1.bind fun x => m2.bind fun y => mulM x y) := ev_op2 ok op_mulW o_mul (fun _ _ _ => mulM_ne) .fresh ha hb
theorem ev_mod (ok : Ok p sc NN VV GG k g) (ha : EvE g L a md tInt m1) (hb : EvE g L b md tInt m2) : EvE g L (.BinOp a .Mod b pos) md' tInt (m1.bind fun x => m2.bind fun y => modM x y) := ev_op2 ok op_mod o_mod (fun _ _ _ => modM_ne) .fresh ha hb
theorem ev_div (ok : Ok p sc NN VV GG k g) (ha : EvE g L a md tInt m1) (hb : EvE g L b md tInt m2) : EvE g L (.BinOp a .FloorDiv b pos) md' tInt (m1.bind fun x => m2.bind fun y => divM x y) := ev_op2 ok op_fdivW o_div (fun _ _ _ => divM_ne) .fresh ha hb
/-- the one number c -/
def tLit (c : Int) : Ty Unit := ⟨fun _ v _ => v = .int c, fun h _ => h⟩
theorem ev_lit (h : EvE g L e md tInt (.ok x)) : EvE g L e md (tLit x) (.ok ()) := ev_asP (fun v R r => r) h
theorem ev_mulC (ok : Ok p sc NN VV GG k g) (hc : y.natAbs < 2 ^ 64) (ha : EvE g L a md tInt m1) (hb : EvE g L b md tInt (.ok y)) : EvE g L (.BinOp a .Mult b pos) md' tInt (m1.bind fun x => .ok (x * y)) :=
  ev_op2 (f := fun x _ => .ok (x * y)) ok op_mul ⟨fun rb rx ry q => ⟨_, _, rx, ry, .inr ⟨by omega, by omega⟩, q _ _ (Same.refl _) rfl⟩⟩ (fun _ _ _ h => nomatch h) (.fresh : MdOk true md md') ha (ev_lit hb)
theorem ev_mulL (ok : Ok p sc NN VV GG k g) (hc : x.natAbs < 2 ^ 64) (ha : EvE g L a md tInt (.ok x)) (hb : EvE g L b md tInt m2) : EvE g L (.BinOp a .Mult b pos) md' tInt (m2.bind fun y => .ok (x * y)) :=
  ev_op2 (f := fun _ y => .ok (x * y)) (m1 := .ok ()) ok op_mul ⟨fun rb rx ry q => ⟨_, _, rx, ry, .inl ⟨by omega, by omega⟩, q _ _ (Same.refl _) rfl⟩⟩ (fun _ _ _ h => nomatch h) (.fresh : MdOk true md md') (ev_lit ha) hb
theorem ev_modC (ok : Ok p sc NN VV GG k g) (hc : 0 < y) (ha : EvE g L a md tInt m1) (hb : EvE g L b md tInt (.ok y)) : EvE g L (.BinOp a .Mod b pos) md' tInt (m1.bind fun x => .ok (x % y)) :=
  ev_op2 (f := fun x _ => .ok (x % y)) ok op_mod ⟨fun rb rx ry q => ⟨_, _, rx, ry, hc, q _ _ (Same.refl _) rfl⟩⟩ (fun _ _ _ h => nomatch h) (.fresh : MdOk true md md') ha (ev_lit hb)
theorem ev_divC (ok : Ok p sc NN VV GG k g) (hc : 0 < y) (hb' : y.natAbs < 2 ^ 1000) (ha : EvE g L a md tInt m1) (hb : EvE g L b md tInt (.ok y)) : EvE g L (.BinOp a .FloorDiv b pos) md' tInt (m1.bind fun x => .ok (x / y)) :=
  ev_op2 (f := fun x _ => .ok (x / y)) ok op_fdivW ⟨fun rb rx ry q => ⟨_, _, rx, ry, wide_div hc hb' (by decide) (by decide), q _ _ (Same.refl _) rfl⟩⟩ (fun _ _ _ h => nomatch h) (.fresh : MdOk true md md') ha (ev_lit hb)
theorem ev_neg (ok : Ok p sc NN VV GG k g) (ha : EvE g L a md tInt m1) : EvE g L (.UnaryOp .USub a pos) md' tInt (m1.bind fun x => .ok (-x)) :=
  ev_un ok un_neg (f := fun x => .ok (-x)) (fr := true) ⟨fun rb rx q => ⟨_, rx, q _ _ (Same.refl _) rfl⟩⟩ (fun _ _ h => nomatch h) .fresh ha
/-- a comparison that always tells -/
structure CmpOk (p : Pr) (X : Cx) (op : CmpOp) (S : Ty α) (T : Ty β) (f : α → β → Bool) : Prop where
  ex : ∃ r, OpR X (compareOp op) r ∧ Op2 p.K r S T tBool (fun x y => .ok (f x y)) true
section
variable {op : CmpOp} {f : α → β → Bool} {ma : M α} {mb : M β} {da : α} {db : β}
theorem ev_c (ok : Ok p sc NN VV GG k g) (F : CmpOk p g.X op S T f) (ha : EvE g L a md S ma) (hb : EvE g L b md T mb) (hk : behindInMarks op b = false := by first | exact nomark _ (by decide) (by decide) | rfl) : EvE g L (.Compare a [op] [b] pos) md' tBool (ma.bind fun x => mb.bind fun y => .ok (f x y)) := by
  obtain ⟨r, h1, h2⟩ := F.ex
  exact ev_cmp ok h1 h2 (fun _ _ _ h => nomatch h) .fresh ha hb hk
theorem evt_c (ok : Ok p sc NN VV GG k g) (F : CmpOk p g.X op S T f) (ha : EvE g L a md S ma) (hb : EvE g L b md T mb) (hk : behindInMarks op b = false := by first | exact nomark _ (by decide) (by decide) | rfl) : EvT g L (.Compare a [op] [b] pos) (ma.bind fun x => mb.bind fun y => .ok (f x y)) := by
  obtain ⟨r, h1, h2⟩ := F.ex
  exact evt_cmp ok h1 h2 (fun _ _ _ h => nomatch h) ha hb hk
end
variable {X : Cx}
theorem c_lt : CmpOk p X .Lt tInt tInt (fun x y => decide (x < y)) := ⟨_, op_lt, ⟨fun rb rx ry q => ⟨_, _, rx, ry, q _ _ (Same.refl _) rfl⟩⟩⟩
theorem c_gt : CmpOk p X .Gt tInt tInt (fun x y => decide (y < x)) := ⟨_, op_gt, ⟨fun rb rx ry q => ⟨_, _, rx, ry, q _ _ (Same.refl _) rfl⟩⟩⟩
/-- kinds that are told apart by value -/
structure Scal (S : Ty α) : Prop where
  sc : ∀ {d e v w R}, S.rep d v R → S.rep e w R → scal v w = true ∧ (v = w ↔ d = e)
theorem s_int : Scal tInt := ⟨fun {d e v w R} h1 h2 => by cases h1; cases h2; exact ⟨rfl, fun h => by injection h, fun h => by rw [h]⟩⟩
theorem s_bool : Scal tBool := ⟨fun {d e v w R} h1 h2 => by cases h1; cases h2; exact ⟨rfl, fun h => by injection h, fun h => by rw [h]⟩⟩
theorem s_str : Scal tStr := ⟨fun {d e v w R} h1 h2 => by cases h1.1; cases h2.1; exact ⟨rfl, fun h => toS_inj (by injection h), fun h => by rw [h]⟩⟩
theorem c_eq [DecidableEq α] (h : Scal S) : CmpOk p X .Eq S S (fun x y => decide (x = y)) := ⟨_, op_eq, ⟨fun {d e x y R H Q} rb rx ry q => by
  obtain ⟨h1, h2⟩ := h.sc rx ry
  refine ⟨h1, q _ _ (Same.refl _) ?_⟩
  show _ = V.bl _
  congr 1
  exact decide_eq_decide.mpr h2⟩⟩
theorem c_ne [DecidableEq α] (h : Scal S) : CmpOk p X .NotEq S S (fun x y => !decide (x = y)) := ⟨_, op_ne, ⟨fun {d e x y R H Q} rb rx ry q => by
  obtain ⟨h1, h2⟩ := h.sc rx ry
  refine ⟨h1, q _ _ (Same.refl _) ?_⟩
  show _ = V.bl _
  congr 2
  exact decide_eq_decide.mpr h2⟩⟩
/-- .. with a heap: lists, tuples -/
structure Deep (S : Ty α) where
  pd : α → PyData
  dp : Nat
  rep : ∀ {K d v R H}, Rdb K R H → S.rep d v R → Dp K H v (pd d) ∧ (pd d).canLay0 = true
  dep : ∀ d, (pd d).depth ≤ dp
  eqv : ∀ d e, PyData.eqv (pd d) (pd e) = true ↔ d = e
theorem Deep.sh {D : Deep S} (h : D.dp ≤ 64) {d : α} (hl : (D.pd d).canLay0 = true) : SeqAt.shaped (D.pd d) = true := by
  unfold SeqAt.shaped
  rw [hl, Bool.true_and]
  exact decide_eq_true (Nat.le_trans (D.dep d) h)
theorem Deep.bq [DecidableEq α] (D : Deep S) (d e : α) : PyData.eqv (D.pd d) (D.pd e) = decide (d = e) := by
  cases hh : PyData.eqv (D.pd d) (D.pd e) with
  | true => exact (decide_eq_true ((D.eqv d e).mp hh)).symm
  | false => exact (decide_eq_false fun z => by rw [(D.eqv d e).mpr z] at hh; cases hh).symm
theorem c_eqD [DecidableEq α] (ok : Ok p sc NN VV GG k g) (D : Deep S) (hd : D.dp ≤ 64) : CmpOk p g.X .Eq S S (fun x y => decide (x = y)) := ⟨rEqD p.K, by rw [← ok.K]; exact op_eqD ok.room.units, ⟨fun {d e x y R H Q} rb rx ry q => by
  obtain ⟨a1, a2⟩ := D.rep rb rx
  obtain ⟨b1, b2⟩ := D.rep rb ry
  exact ⟨_, _, a1, b1, D.sh hd a2, D.sh hd b2, q _ _ (Same.refl _) (by show _ = V.bl _; rw [D.bq])⟩⟩⟩
theorem c_neD [DecidableEq α] (ok : Ok p sc NN VV GG k g) (D : Deep S) (hd : D.dp ≤ 64) : CmpOk p g.X .NotEq S S (fun x y => !decide (x = y)) := ⟨rNeD p.K, by rw [← ok.K]; exact op_neD ok.room.units, ⟨fun {d e x y R H Q} rb rx ry q => by
  obtain ⟨a1, a2⟩ := D.rep rb rx
  obtain ⟨b1, b2⟩ := D.rep rb ry
  exact ⟨_, _, a1, b1, D.sh hd a2, D.sh hd b2, q _ _ (Same.refl _) (by show _ = V.bl _; rw [D.bq])⟩⟩⟩
def dInt : Deep tInt := ⟨.int, 0, fun rb h => by cases h; exact ⟨.int _, rfl⟩, fun _ => by simp [PyData.depth], fun d e => by simp [PyData.eqv]⟩
def dStr : Deep tStr := ⟨fun x => .str (toS x), 0, fun {K d v R H} rb h => by
    obtain ⟨rfl, h⟩ := h
    refine ⟨.str _, ?_⟩
    show PyData.strOk (toS d) = true
    simp only [PyData.strOk, toS, List.all_toArray, List.all_eq_true, decide_eq_true_eq]
    exact h.2, fun _ => by simp [PyData.depth], fun d e => by
    simp only [PyData.eqv, beq_iff_eq]
    exact ⟨toS_inj, fun h => by rw [h]⟩⟩
theorem eqvAll_map {pd : α → PyData} (h : ∀ d e, PyData.eqv (pd d) (pd e) = true ↔ d = e) : ∀ ds es : List α, PyData.eqvAll (ds.map pd) (es.map pd) = true ↔ ds = es
  | [], [] => by simp [PyData.eqvAll]
  | [], _ :: _ => by simp [PyData.eqvAll]
  | _ :: _, [] => by simp [PyData.eqvAll]
  | d :: ds, e :: es => by simp [PyData.eqvAll, h d e, eqvAll_map h ds es]
theorem depthAll_map {pd : α → PyData} {n : Nat} (h : ∀ d, (pd d).depth ≤ n) : ∀ ds : List α, PyData.depthAll (ds.map pd) ≤ n
  | [] => by simp [PyData.depthAll]
  | d :: ds => by simp only [List.map_cons, PyData.depthAll]; have := h d; have := depthAll_map h ds; omega
theorem Deep.all (D : Deep S) {R : RdR} {H : Hp} (rb : Rdb K R H) {ds : List α} {vs : List V} (r : Reps S R ds vs) : DpAll K H vs (ds.map D.pd) ∧ PyData.canLayAll0 (ds.map D.pd) = true := by
  induction r with
  | nil => exact ⟨.nil, rfl⟩
  | cons r _ ih =>
    obtain ⟨h1, h2⟩ := D.rep rb r
    exact ⟨.cons h1 ih.1, by simp only [List.map_cons, PyData.canLayAll0, h2, ih.2, Bool.and_self]⟩
def dList (D : Deep S) : Deep (tList S) := ⟨fun ds => .list (ds.map D.pd), D.dp + 1, fun {K ds v R H} rb ⟨a, vs, e, h, r⟩ => by
    subst e
    obtain ⟨h1, h2⟩ := D.all rb r
    exact ⟨.lst (.inl ((rb _ _ h rfl).resolve_right fun z => z)) h1, h2⟩, fun ds => by simp only [PyData.depth]; have := depthAll_map D.dep ds; omega, fun d e => by
    simp only [PyData.eqv]
    exact eqvAll_map D.eqv d e⟩
def getM {α : Type} (xs : List α) (i : Int) : M α := match L2.atI xs i with | some d => .ok d | none => .no
def getS (x : Tx) (i : Int) : M Tx := match L2.atI x i with | some c => .ok [c] | none => .no
theorem getM_ne {xs : List α} {i : Int} {c : Ec} : getM xs i ≠ .ex c := by unfold getM; split <;> exact fun h => nomatch h
theorem getS_ne {x : Tx} {i : Int} {c : Ec} : getS x i ≠ .ex c := by unfold getS; split <;> exact fun h => nomatch h
theorem Reps.at {R : RdR} {ds : List α} {vs : List V} (r : Reps S R ds vs) {i : Int} {d : α} (h : L2.atI ds i = some d) : ∃ v, L2.atI vs i = some v ∧ S.rep d v R := by
  unfold L2.atI at h ⊢
  rw [r.length] at h
  cases hj : L2.ixN vs.length i with
  | none => rw [hj] at h; cases h
  | some j => rw [hj] at h; exact r.get h
theorem sq_of {R : RdR} {H : Hp} {a : Addr} {vs : List V} (rb : Rdb K R H) (h : R a (.lst vs)) : SqL K H a vs := .inl ((rb _ _ h rfl).resolve_right fun z => z)
theorem rd_of {R : RdR} {H : Hp} {a : Addr} {vs : List V} (rb : Rdb K R H) (h : R a (.lst vs)) : L2.Rd H a (.lst vs) := (rb _ _ h rfl).resolve_right fun z => z
theorem st_of {R : RdR} {H : Hp} {a : Addr} {vs : List V} (rb : Rdb K R H) (h : R a (.tup vs)) : SqT K H a vs := (rb _ _ h rfl).imp id id
theorem Nw.old {fr : Bool} {R : RdR} {H : Hp} (h : fr = false) : ∀ a o, R a o → Nw fr R H H a o := fun _ _ r => .inl ⟨h, r⟩
theorem atI_mem {xs : List α} {i : Int} {d : α} (h : L2.atI xs i = some d) : d ∈ xs := by
  unfold L2.atI at h
  cases hj : L2.ixN xs.length i with
  | none => rw [hj] at h; cases h
  | some j => rw [hj] at h; exact List.mem_of_getElem? h
theorem o_ixS : Op2 K rIxS tStr tInt tStr getS true := ⟨fun {d e x y R H Q} rb rx ry q => by
  unfold getS at q
  cases hj : L2.atI d e with
  | none => rw [hj] at q; exact q.elim
  | some u =>
    rw [hj] at q
    refine ⟨toS d, e, u, rx.1, ry, by rw [toS_len]; exact rx.2.1, by rw [show (toS d).cps.toList = d from by simp [toS]]; exact hj, q _ _ (Same.refl _) ⟨rfl, (by show 1 ≤ sizeLine; decide), fun c hc => by rw [List.mem_singleton.mp hc]; exact rx.2.2 _ (atI_mem hj)⟩⟩⟩
section
variable {mx : M (List α)} {mi : M Int} {xs : List α} {i : Int} {mt : M Tx} {t : Tx}
theorem ev_ixS (ok : Ok p sc NN VV GG k g) (ha : EvE g L a md tStr mt) (hb : EvE g L b md tInt mi) (hs : PlainIx b := by exact fun _ _ => rfl) : EvE g L (.Subscript a b pos) md' tStr (mt.bind fun xs => mi.bind fun i => getS xs i) := ev_ix (r := rIxS) ok ix_str o_ixS (fun _ _ _ => getS_ne) .fresh ha hb hs
end
theorem ev_lenS {j : Nat} {mx : M Tx} {pp : Pos} (ok : Ok p sc NN VV GG k g) (hG : GG[j]? = some "len") (hmg : p.mg "len" = none) (ha : EvE g L e md tStr mx) (hs : starEach [e] g.X.env = (false, eval e g.X.env) :: starEach [] g.X.env := by rfl) : EvE g L (.Call (.Name "len" pp) [e] [] pos) md' tInt (mx.bind fun xs => .ok (xs.length : Int)) := by
  have h := ev_callB (md' := md') (U := tInt) (A := aCons tStr aNil) (f := fun d => .ok (d.1.length : Int)) (fr := true) (pos := pos) (pp := pp) ok call_len_str ⟨fun {d xs R H Q} rb ⟨v, r, e1, e2, e3⟩ q => by
    subst e1; cases (show r = [] from e3)
    exact ⟨toS d.1, by rw [e2.1], by rw [toS_len]; exact e2.2.1, q _ _ (Same.refl _) (by show _ = V.int _; rw [toS_len])⟩⟩ (fun _ _ h => nomatch h) .fresh hG hmg PySem.boot_len (eva_cons ha eva_nil hs) hs rfl
  have e : (mx.bind fun d => (M.ok ()).bind fun e => M.ok (d, e)).bind (fun d => M.ok (d.1.length : Int)) = mx.bind fun xs => .ok (xs.length : Int) := by cases mx <;> rfl
  rwa [e] at h
def catS (x y : Tx) : M Tx := if x.length + y.length ≤ sizeLine then .ok (x ++ y) else .no
theorem catS_ne {x y : Tx} {c : Ec} : catS x y ≠ .ex c := by unfold catS; split <;> exact fun h => nomatch h
theorem toS_app (x y : Tx) : toS (x ++ y) = toS x ++ toS y := by
  show (⟨(x ++ y).toArray⟩ : Str) = _
  rw [← List.append_toArray]
  rfl
theorem ev_catS {ma mb : M Tx} (ok : Ok p sc NN VV GG k g) (ha : EvE g L a md tStr ma) (hb : EvE g L b md tStr mb) : EvE g L (.BinOp a .Add b pos) md' tStr (ma.bind fun x => mb.bind fun y => catS x y) :=
  ev_op2 (fr := true) ok op_add_str ⟨fun {d e x y R H Q} rb rx ry q => by
    unfold catS at q
    split at q
    · rename_i h
      exact ⟨_, _, rx.1, ry.1, by rw [toS_len, toS_len]; exact h, q _ _ (Same.refl _) ⟨by rw [toS_app], by rw [List.length_append]; exact h, fun c hc => (List.mem_append.mp hc).elim (rx.2.2 c) (ry.2.2 c)⟩⟩
    · exact q.elim⟩ (fun _ _ _ => catS_ne) .fresh ha hb
structure IsT (S : Ty α) (ty : String) : Prop where
  t : ∀ {K d v R H}, Rdb K R H → S.rep d v R → TyX K H v (.type ty)
end
end Hd
namespace Hd
open PySem PySem.Spec L2
section
variable {p : Pr} {sc : Scope} {NN VV GG : List Str} {k : Nat} {g : G} {L L' : List Slot} {a b c e e' : Expr} {es : List Expr} {md md' : Md} {α β γ δ ρ : Type} {S : Ty α} {T : Ty β} {U : Ty γ} {A : Ar δ} {pos : Pos} {K : PySem.W.Frag} {tg : Expr}
theorem RX.tyx {R : RdR} {H : Hp} {a : Addr} {vs : List V} (rb : Rdb K R H) (h : R a (.lst vs)) : TyX K H (.ref a) (.type "list") := by
  rcases rb _ _ h rfl with (h | ⟨o, h⟩) | h
  · exact .base (.lst h)
  · exact .base (.frz h)
  · exact h.elim
theorem RX.tyt {R : RdR} {H : Hp} {a : Addr} {vs : List V} (rb : Rdb K R H) (h : R a (.tup vs)) : TyX K H (.ref a) (.type "tuple") := by
  rcases rb _ _ h rfl with (h | ⟨o, h⟩) | h
  · exact .base (.tup h)
  · exact .fTuple h
  · obtain ⟨o, its, n, h1, h2, _⟩ := (show ∃ (o : Obj) (its : Array Value) (n : Nat), K.lookup a = some o ∧ o.cls = .type "tuple" ∧ o.data = .seq its n ∧ its.size ≤ sizeLine ∧ Vals vs its.toList from h)
    exact .kTuple h1 h2
theorem i_int : IsT tInt "int" := ⟨fun rb h => by cases h; exact .base (.int _)⟩
theorem i_str : IsT tStr "str" := ⟨fun rb h => by cases h.1; exact .base (.str _)⟩
theorem i_list : IsT (tList S) "list" := ⟨fun rb ⟨a, vs, e, h, _⟩ => by subst e; exact RX.tyx rb h⟩
theorem i_tup : IsT (tTup A) "tuple" := ⟨fun rb ⟨a, vs, e, h, _⟩ => by subst e; exact RX.tyt rb h⟩
/-- a built-in class by its name -/
def tTy (n : String) : Ty Unit := ⟨fun _ v _ => v = .ty n, fun h _ => h⟩
theorem ev_ty {j : Nat} {x : Str} {n : String} (ok : Ok p sc NN VV GG k g) (hG : GG[j]? = some x) (hmg : p.mg x = none) (hv : bootBuiltins x = some (.type n)) : EvE g L (.Name x pos) md (tTy n) (.ok ()) := by
  obtain ⟨hg, ho⟩ := ok.gl hG
  obtain ⟨h1, _, h3⟩ := okName_d ho
  exact PE.imp (pe_bltn (v := .ty n) hg (by rw [ok.mg]; exact hmg) hv rfl h3 h1) fun σ H Q ⟨kp, own, at_, q⟩ => q _ H (Same.refl H) rfl
theorem ev_isi {j : Nat} {ty n : String} {r : Bool} {m : M α} {pp : Pos} (ok : Ok p sc NN VV GG k g) (hG : GG[j]? = some "isinstance") (hmg : p.mg "isinstance" = none) (hT : IsT S ty) (hr : kitB ty n = some r) (ha : EvE g L a md S m) (hb : EvE g L b md (tTy n) (.ok ()))
    (hs1 : starEach (a :: [b]) g.X.env = (false, eval a g.X.env) :: starEach [b] g.X.env := by rfl) (hs2 : starEach [b] g.X.env = (false, eval b g.X.env) :: starEach [] g.X.env := by rfl) (hpl : (backTo pos (starEach [b] g.X.env)).any (·.1) = false := by rfl) :
    EvE g L (.Call (.Name "isinstance" pp) [a, b] [] pos) md' tBool (m.bind fun _ => .ok r) := by
  have h := ev_callB (md' := md') (U := tBool) (A := aCons S (aCons (tTy n) aNil)) (f := fun _ => .ok r) (fr := true) (pos := pos) (pp := pp) ok (id := "isinstance") call_isi ⟨fun {d xs R H Q} rb ⟨v, w, e1, h1, v2, w2, e2, h2, e3⟩ q => by
    subst e1; subst e2; cases (show w2 = [] from e3); cases h2
    exact ⟨v, .ty n, .type ty, .type n, r, rfl, .ty n, hT.t (by rw [ok.K]; exact rb) h1, kit_ty hr, q _ _ (Same.refl _) rfl⟩⟩ (fun _ _ h => nomatch h) .fresh hG hmg (by decide +kernel) (eva_cons ha (eva_cons hb eva_nil hs2) hs1) hs1 hpl
  have e : (m.bind fun d => ((M.ok ()).bind fun d => (M.ok ()).bind fun e => M.ok (d, e)).bind fun e => M.ok (d, e)).bind (fun d => M.ok r) = m.bind fun _ => .ok r := by cases m <;> rfl
  rwa [e] at h
theorem evi_str {m : M Tx} (he : EvE g L e md tStr m) : EvI g L tg e tStr (m.bind fun x => .ok (x.map fun c => [c])) := by
  refine PI.imp (pi_str he) fun σ H R ⟨kp, own, at_, q⟩ => ?_
  refine tE_iff.mpr ⟨kp, own, at_, ?_⟩
  cases m with
  | ok xs =>
    rintro v H' s ⟨rfl, hok⟩
    refine ⟨toS xs, rfl, q (Its (toS xs)) H' s fun H2 rb i => ?_⟩
    refine ⟨fun d hd => ?_, fun hn => ?_⟩
    · rw [List.getElem?_map] at hd
      cases hi : xs[i]? with
      | none => rw [hi] at hd; cases hd
      | some c =>
        rw [hi] at hd
        cases hd
        have hlt := (List.getElem?_eq_some_iff.mp hi).1
        refine ⟨by show i < xs.toArray.size; simpa using hlt, fun x H3 ⟨e, c', h1, h2⟩ => ?_⟩
        subst e
        have : c' = c := by
          have h1' : xs.toArray[i]? = some c' := h1
          rw [List.getElem?_toArray, hi] at h1'
          exact (Option.some.inj h1').symm
        subst this
        exact ⟨Same.refl _, h2, by show 1 ≤ sizeLine; decide, fun c2 hc2 => by rw [List.mem_singleton.mp hc2]; exact hok.2 _ (List.mem_of_getElem? hi)⟩
    · rw [List.getElem?_eq_none_iff, List.length_map] at hn
      show xs.toArray.size ≤ i
      simpa using hn
  | ex c => exact q
  | no => exact q
/-- the whole numbers from lo on, n many -/
def upFrom (lo : Int) : Nat → List Int
  | 0 => []
  | n + 1 => lo :: upFrom (lo + 1) n
theorem upFrom_get (n : Nat) : ∀ (lo : Int) (i : Nat), (upFrom lo n)[i]? = if i < n then some (lo + i) else none := by
  induction n with
  | zero => intro lo i; simp [upFrom]
  | succ n ih =>
    intro lo i
    cases i with
    | zero => simp [upFrom]
    | succ i =>
      rw [upFrom, List.getElem?_cons_succ, ih]
      by_cases h : i < n
      · rw [if_pos h, if_pos (by omega)]
        congr 1
        push_cast
        omega
      · rw [if_neg h, if_neg (by omega)]
theorem upFrom_len (n : Nat) : ∀ lo : Int, (upFrom lo n).length = n := by
  induction n with
  | zero => intro lo; rfl
  | succ n ih => intro lo; simp [upFrom, ih]
/-- range(lo, hi) -/
def rangeM (lo hi : Int) : M (List Int) := if -(2 ^ 62) ≤ lo ∧ lo < 2 ^ 62 ∧ -(2 ^ 62) ≤ hi ∧ hi < 2 ^ 62 then .ok (upFrom lo (hi - lo).toNat) else .no
theorem itr_ok {kp : RdR} {lo : Int} {n : Nat} : ItOk K kp (Itr lo n) tInt (upFrom lo n) := fun H rb i => by
  rw [upFrom_get]
  refine ⟨fun d hd => ?_, fun hn => ?_⟩
  · by_cases h : i < n
    · rw [if_pos h] at hd
      cases hd
      exact ⟨h, fun x H' ⟨e, hx⟩ => by subst e; exact ⟨Same.refl _, hx⟩⟩
    · rw [if_neg h] at hd; cases hd
  · by_cases h : i < n
    · rw [if_pos h] at hn; cases hn
    · exact Nat.le_of_not_lt h
theorem evi_range1 {j : Nat} {m : M Int} {pp : Pos} (ok : Ok p sc NN VV GG k g) (hG : GG[j]? = some "range") (hmg : p.mg "range" = none) (ha : EvE g L a md tInt m) (hs : starEach [a] g.X.env = (false, eval a g.X.env) :: starEach [] g.X.env := by rfl) :
    EvI g L tg (.Call (.Name "range" pp) [a] [] pos) tInt (m.bind fun n => rangeM 0 n) := by
  obtain ⟨hg, ho⟩ := ok.gl hG
  refine PI.imp (pi_range1 hg (by rw [ok.mg]; exact hmg) (eva_cons ha eva_nil hs) hs) fun σ H R ⟨kp, own, at_, q⟩ => ?_
  refine tA_iff.mpr ⟨kp, own, at_, ?_⟩
  cases m with
  | ok n =>
    rintro vs H' s ⟨v, r, rfl, rfl, e3⟩
    cases (show r = [] from e3)
    simp only [M.bind_ok] at q
    unfold rangeM at q
    split at q
    · rename_i xs h1
      split at h1
      · rename_i h
        cases h1
        refine ⟨n, rfl, h.2.2.1, h.2.2.2, q _ H' s ?_⟩
        rw [Int.sub_zero]
        exact itr_ok
      · cases h1
    · rename_i h1; split at h1 <;> cases h1
    · exact q.elim
  | ex c => exact q
  | no => exact q
theorem At.mut {fm : Fm} {kp : RdR} {σ : L2.St} {H : Hp} {own : List Addr} {b : Bool} {ds : List α} {i : Nat} (h : At fm kp L σ H own) (hL : L[i]? = some (sOwn b S ds)) :
    ∃ p vs, σ[i]? = some (some (.ref p)) ∧ H p = some (.lst vs) ∧ Reps S (RB fm own H b) ds vs ∧ ∀ ds' vs', Reps S (RB fm own H b) ds' vs' → At fm kp (L.set i (sOwn b S ds')) σ (upd H p (.lst vs')) own := by
  obtain ⟨h1, h2, ⟨Fs, h3, rfl⟩, h4, h5, h6⟩ := h
  obtain ⟨v, F, e1, e2, q, vs, rfl, rfl, hp, r⟩ := h3.get hL
  have qin : q ∈ Fs.flatten := List.mem_flatten.mpr ⟨[q], List.mem_of_getElem? e2, by simp⟩
  refine ⟨q, vs, e1, hp, r, fun ds' vs' r' => ?_⟩
  have key : ∀ (md : Md) a o, RX fm Fs.flatten H H md a o → RX fm Fs.flatten (upd H q (.lst vs')) (upd H q (.lst vs')) md a o ∨ md = .fx := fun md a o z => by
    cases md with
    | sh =>
      rcases z with z | z
      · have n : a ≠ q := fun e => z.2.1 (by rw [e]; exact qin)
        refine .inl (.inl ⟨?_, z.2⟩)
        unfold Rd
        rw [cl_upd_ne n]
        exact z.1
      · exact .inl (.inr z)
    | f0 =>
      have n : a ≠ q := fun e => z.2.1 (by rw [e]; exact qin)
      exact .inl ⟨by rw [cl_upd_ne n]; exact z.1, z.2⟩
    | fx => exact .inr rfl
  have keyB : ∀ (b : Bool) a o, RB fm Fs.flatten H b a o → RB fm Fs.flatten (upd H q (.lst vs')) b a o := fun b a o z => by
    cases b with
    | false => exact (key .sh a o z).resolve_right (fun e => nomatch e)
    | true => exact (key .f0 a o z).resolve_right (fun e => nomatch e)
  have up : ∀ a, H a ≠ none → upd H q (.lst vs') a ≠ none := fun a n => by
    by_cases e : a = q
    · rw [e, upd_same]; exact fun z => by cases z
    · rw [upd_ne e]; exact n
  refine ⟨h1.wr (h5 q qin).2.1 hp (fun _ z => nomatch z) rfl, fun a z => up a (h2 a z), ⟨Fs, ?_, rfl⟩, h4, fun x hx => ⟨up x (h5 x hx).1, (h5 x hx).2⟩, fun a o z => (key .sh a o (h6 a o z)).resolve_right (fun e => nomatch e)⟩
  · -- the slots
    have gen : ∀ {L : List Slot} {σ : L2.St} {Fs' : List (List Addr)}, AllS H (RB fm Fs.flatten H) L σ Fs' → Fs'.flatten.Nodup → ∀ {i : Nat}, Fs'[i]? = some [q] → L[i]? = some (sOwn b S ds) → σ[i]? = some (some (V.ref q)) →
        AllS (upd H q (.lst vs')) (RB fm Fs.flatten (upd H q (.lst vs'))) (L.set i (sOwn b S ds')) σ Fs' := by
      intro L σ Fs' hA
      induction hA with
      | nil => intro _ i e _ _; simp at e
      | @cons sl L v σ F Fs' r t ih =>
        intro nd i e eL eσ
        rw [List.flatten_cons, List.nodup_append] at nd
        cases i with
        | zero =>
          simp at e eL eσ
          subst e; subst eL; subst eσ
          refine .cons ⟨q, vs', rfl, rfl, upd_same, r'.mono (keyB b)⟩ (t.st keyB fun x hx => ?_)
          exact upd_ne fun z => nd.2.2 q (by simp) x hx z.symm
        | succ i =>
          have e' : Fs'[i]? = some [q] := by simpa using e
          refine .cons (sl.st r keyB fun x hx => upd_ne fun z => nd.2.2 x hx q (List.mem_flatten.mpr ⟨[q], List.mem_of_getElem? e', by simp⟩) z) (ih nd.2.1 e' (by simpa using eL) (by simpa using eσ))
    exact gen h3 h4 e2 hL e1
def pushM {α : Type} (xs : List α) (d : α) : M (List α) := if xs.length < sizeLine then .ok (xs ++ [d]) else .no
def setM {α : Type} (xs : List α) (i : Int) (d : α) : M (List α) := match L2.ixN xs.length i with | some j => .ok (xs.set j d) | none => .no
variable {st : List Stmt} {D : δ → Out} {i j : Nat} {x : Str}
theorem evb_append {bb : Bool} {ds : List α} {m : M α} {f : List α → M δ} {p1 ap cp : Pos} (ok : OkS p sc NN VV GG k g) (wk : Wk L g.LX) (hN : NN[i]? = some x) (hV : VV[j]? = some x) (hL : L[i]? = some (sOwn bb S ds)) (hb : SlB md bb)
    (he : EvE g L e md S m) (hr : ∀ ds', EvB g (L.set i (sOwn bb S ds')) st D (f ds'))
    (hs : swapsWith (.Call (.Attribute (.Name x p1) "append" ap) [e] [] cp) none pos.line g.X.env = pure false := by rfl)
    (hbase : attributeBase (.Name x p1) "append" g.X.env (eval (.Name x p1) g.X.env) = eval (.Name x p1) g.X.env := by rfl)
    (hfew : ((backTo cp (starEach [e] g.X.env)).all (fun x => !x.1) && (backToKw cp (keywordEach [] g.X.env)).all (fun x => x.1.isSome)
      && decide (([e] : List Expr).length + ([] : List Keyword).length + (if ([] : List Keyword).isEmpty then 0 else 1) < 30)) = true := by rfl)
    (hline : (ap.endLine == cp.line) = true := by rfl) (hst : starEach [e] g.X.env = (false, eval e g.X.env) :: starEach [] g.X.env := by rfl) (hpl : (backTo cp (starEach [] g.X.env)).any (·.1) = false := by rfl) :
    EvB g L (.Expr (.Call (.Attribute (.Name x p1) "append" ap) [e] [] cp) pos :: st) D (m.bind fun d => (pushM ds d).bind f) := by
  obtain ⟨hv, ho⟩ := ok.vis hV
  obtain ⟨h1, h2, _⟩ := okName_d ho
  refine PSs.imp (pss_cons (ps_expr (pe_bm PySem.F.plainAttrs_list PySem.F.slot_list_append PySem.F.type_list_append mt_append (pe_var (i := i) (by rw [ok.N]; exact hN) hv h1 h2) (pa_cons he pa_nil hst) (hbase := hbase) (hfew := hfew) (hline := hline) (hs := hst) (hplain := hpl)) hs) (PSs.ex hr)) fun E σ H ⟨kp, own, at_, q⟩ => ?_
  obtain ⟨p', vs, e1, hp, r, mu⟩ := at_.mut hL
  refine ⟨_, e1, Or.inl ⟨rfl, _, SqL.of hp⟩, tE_iff.mpr ⟨kp, own, at_, ?_⟩⟩
  cases m with
  | ok d =>
    intro v H1 s1 r1
    have a1 := at_.ext s1
    obtain ⟨p2, vs2, e12, hp2, rr2, mu2⟩ := a1.mut hL
    rw [e1] at e12
    cases e12
    have q : BOk g kp E D ((pushM ds d).bind f) := q
    unfold pushM at q
    split at q
    · rename_i hlt
      refine ⟨_, vs2, v, rfl, rfl, hp2, by rw [← rr2.length]; exact hlt, ds ++ [d], kp, own, mu2 _ _ (rr2.append (.cons (S.mono r1 hb.rb) .nil)), q⟩
    · exact q.elim
  | ex c => exact BOk.exx wk at_ q
  | no => exact q
theorem evb_setitem {bb : Bool} {ds : List α} {m : M α} {mi : M Int} {f : List α → M δ} {ix : Expr} {p1 p2 : Pos} (ok : OkS p sc NN VV GG k g) (wk : Wk L g.LX) (hN : NN[i]? = some x) (hV : VV[j]? = some x) (hL : L[i]? = some (sOwn bb S ds)) (hb : SlB md bb)
    (he : EvE g L e md S m) (hi : EvE g L ix md' tInt mi) (hr : ∀ ds', EvB g (L.set i (sOwn bb S ds')) st D (f ds'))
    (hs : swapsWith e (some (.Subscript (.Name x p1) ix p2)) pos.line g.X.env = pure false := by rfl)
    (hsub : ∀ v, assign (.Subscript (.Name x p1) ix p2) g.X.env v = (do
      let ov ← holding [v] (eval (.Name x p1) g.X.env)
      let iv ← holding [v, ov] (eval ix g.X.env)
      standAt p2
      holding [v, ov, iv] (setItem ov iv v)
      release [v, ov, iv] []) := by intro _; rfl)
    (hs' : swapsWithSole [.Subscript (.Name x p1) ix p2] e pos.line g.X.env = pure false := by rfl) (hw : swappedStores [.Subscript (.Name x p1) ix p2] e g.X.env = pure none := by rfl) (ha1 : (assignEach [.Subscript (.Name x p1) ix p2] g.X.env).map (·.2) = [assign (.Subscript (.Name x p1) ix p2) g.X.env] := by rfl) :
    EvB g L (.Assign [.Subscript (.Name x p1) ix p2] e pos :: st) D (m.bind fun d => mi.bind fun i => (setM ds i d).bind f) := by
  obtain ⟨hv, ho⟩ := ok.vis hV
  obtain ⟨h1, h2, _⟩ := okName_d ho
  refine PSs.imp (pss_cons (ps_asg he (pg_sub (pe_var (i := i) (by rw [ok.N]; exact hN) hv h1 h2) hi set_list hsub) hs' hw ha1) (PSs.ex hr)) fun E σ H ⟨kp, own, at_, q⟩ => ?_
  refine tE_iff.mpr ⟨kp, own, at_, ?_⟩
  cases m with
  | ok d =>
    intro v H1 s1 r1
    have a1 := at_.ext s1
    obtain ⟨p', vs, e1, hp, r, mu⟩ := a1.mut hL
    refine ⟨_, e1, tE_iff.mpr ⟨kp, own, a1, ?_⟩⟩
    cases mi with
    | ok n =>
      intro v2 H2 s2 r2
      have a2 := a1.ext s2
      obtain ⟨p2, vs2, e12, hp2, rr2, mu2⟩ := a2.mut hL
      rw [e1] at e12
      cases e12
      have q : BOk g kp E D ((setM ds n d).bind f) := q
      unfold setM at q
      split at q
      · rename_i jj hj
        refine ⟨_, vs2, n, jj, rfl, r2, hp2, by rw [← rr2.length]; exact hj, ds.set jj d, kp, own, mu2 _ _ (rr2.set (S.mono r1 fun a o z => RB.same s2 bb a o (hb.rb a o z)) jj), q⟩
      · exact q.elim
    | ex c => exact BOk.exx wk a1 q
    | no => exact q
  | ex c => exact BOk.exx wk at_ q
  | no => exact q
end
end Hd
namespace Hd
open PySem PySem.Spec L2
section
variable {p : Pr} {sc : Scope} {NN VV GG VV' GG' : List Str} {k : Nat} {g : G} {L L' : List Slot} {a b c e e' : Expr} {es : List Expr} {md md' : Md} {α β γ δ ρ : Type} {S : Ty α} {T : Ty β} {U : Ty γ} {A : Ar δ} {pos : Pos} {K : PySem.W.Frag} {tg : Expr}
def tGs (fm : Fm) (A : Ar δ) (L : List Slot) (Lt : δ → List Slot) : TGs := fun vs σ H Q => ∃ kp own d, At fm kp L σ H own ∧ A.rep d vs (RD fm own H) ∧ ∀ σ' own', At fm kp (Lt d) σ' H own' → (∀ p ∈ own', p ∈ own) → Q σ' H
def EvGs (g : G) (es : List Expr) (A : Ar δ) (L : List Slot) (Lt : δ → List Slot) : Prop := PGs g.X es (tGs g.fm A L Lt)
theorem PGs.imp {X : Cx} {es : List Expr} {t t' : TGs} (h : PGs X es t) (k : ∀ v σ H Q, t' v σ H Q → t v σ H Q) : PGs X es t' := ⟨fun pins s σ H v u Q I r q => h.run pins s σ H v u Q I r (k _ _ _ _ q)⟩
theorem PGs.ex {X : Cx} {ι : Type} {es : List Expr} {t : ι → TGs} (h : ∀ d, PGs X es (t d)) : PGs X es (fun v σ H Q => ∃ d, t d v σ H Q) := ⟨fun pins s σ H v u Q I r ⟨d, q⟩ => (h d).run pins s σ H v u Q I r q⟩
theorem evgs_nil : EvGs g [] aNil L (fun _ => L) := by
  refine PGs.imp pgs_nil fun v σ H Q ⟨kp, own, d, at_, r, q⟩ => ⟨r, q σ own at_ fun _ h => h⟩
theorem evgs_cons {Lt1 : α → List Slot} {Lt2 : α → δ → List Slot} (h1 : EvG g e S L Lt1) (h2 : ∀ d, EvGs g es A (Lt1 d) (Lt2 d)) (hs : (assignEach (e :: es) g.X.env).map (·.2) = assign e g.X.env :: (assignEach es g.X.env).map (·.2) := by rfl) :
    EvGs g (e :: es) (aCons S A) L (fun d => Lt2 d.1 d.2) := by
  refine PGs.imp (pgs_cons h1 (PGs.ex h2) hs) fun vs σ H Q ⟨kp, own, d, at_, ⟨v, r, e1, r1, r2⟩, q⟩ => ?_
  refine ⟨v, r, e1, kp, own, d.1, at_, r1, fun σ' own' a' sub => ⟨d.1, kp, own', d.2, a', A.mono r2 (RX.own (md := .sh) (H := H) sub), fun σ2 own2 a2 sub2 => q σ2 own2 a2 fun p hp => sub p (sub2 p hp)⟩⟩
theorem evg_tup {Lt : δ → List Slot} {n k' : Nat} (ok : Ok p sc NN VV GG k g) (hl : ∀ {d vs R}, A.rep d vs R → vs.length = n) (h : EvGs g es A L Lt)
    (hn : (assignEach es g.X.env).length = n := by rfl) (hst : (assignEach es g.X.env).findIdx? (·.1) = none := by rfl) : EvG g (.Tuple es k' pos) (tTup A) L Lt := by
  refine PG.imp (pg_tup ok.calm h hn hst) fun v σ H Q ⟨kp, own, d, at_, ⟨a, vs, e, hr, rr⟩, q⟩ => ?_
  subst e
  exact ⟨a, vs, rfl, (ok.fmK.trans ok.K.symm) ▸ RX.tup (md := .sh) (H := H) hr, hl rr, kp, own, d, at_, rr, q⟩
theorem len0 {d : Unit} {vs : List V} {R : RdR} (h : aNil.rep d vs R) : vs.length = 0 := by cases (show vs = [] from h); rfl
theorem lenS {n : Nat} (h : ∀ {d vs R}, A.rep d vs R → vs.length = n) {d : α × δ} {vs : List V} {R : RdR} (q : (aCons S A).rep d vs R) : vs.length = n + 1 := by
  obtain ⟨v, r, e, _, h2⟩ := q
  rw [e, List.length_cons, h h2]
variable {st : List Stmt} {D : δ → Out} {i j : Nat} {x : Str}
/-- a, b = e -/
theorem evb_asg {m : M α} {Lt : α → List Slot} {f : α → M δ} (ok : OkS p sc NN VV GG k g) (wk : Wk L g.LX) (he : EvE g L e md S m) (hG : EvG g tg S L Lt) (hr : ∀ d, EvB g (Lt d) st D (f d))
    (hs : swapsWithSole [tg] e pos.line g.X.env = pure false := by rfl) (hw : swappedStores [tg] e g.X.env = pure none := by rfl) (h1 : (assignEach [tg] g.X.env).map (·.2) = [assign tg g.X.env] := by rfl) :
    EvB g L (.Assign [tg] e pos :: st) D (m.bind f) := by
  refine PSs.imp (pss_cons (ps_asg he hG hs hw h1) (PSs.ex hr)) fun E σ H ⟨kp, own, at_, q⟩ => ?_
  refine tE_iff.mpr ⟨kp, own, at_, ?_⟩
  cases m with
  | ok d => exact fun v H' s r => ⟨kp, own, d, at_.ext s, S.mono r RX.sh, fun σ' own' a' _ => ⟨d, kp, own', a', q⟩⟩
  | ex c => exact BOk.exx wk at_ q
  | no => exact q
def compG {α β : Type} (h : α → M (Option β)) : List α → M (List β)
  | [] => .ok []
  | x :: r => (h x).nox.bind fun o => (compG h r).bind fun l => .ok (o.toList ++ l)
def compM {α β : Type} (h : α → M (Option β)) (xs : List α) : M (List β) := if xs.length ≤ sizeLine then compG h xs else .no
theorem lookup_rl {env : Env} {x : Str} : ∀ {names : List (Str × NameKind)} {kd : NameKind}, names.lookup x = some kd →
    (names.map fun (n, k) => if (k == NameKind.free && env.scope.kind == .function && env.kindOf n == some .cell) then (n, NameKind.cell) else (n, k)).lookup x = some kd ∨
      (kd = .free ∧ (names.map fun (n, k) => if (k == NameKind.free && env.scope.kind == .function && env.kindOf n == some .cell) then (n, NameKind.cell) else (n, k)).lookup x = some .cell)
  | [], _, h => by simp at h
  | (n, k') :: r, kd, h => by
    rw [List.lookup_cons] at h
    rw [List.map_cons]
    by_cases e : x == n
    · rw [e] at h
      cases h
      dsimp only
      split
      · rename_i hh
        refine .inr ⟨?_, by rw [List.lookup_cons, e]⟩
        simp only [Bool.and_eq_true, beq_iff_eq] at hh
        exact hh.1.1
      · exact .inl (by rw [List.lookup_cons, e])
    · have e : (x == n) = false := by simpa using e
      rw [e] at h
      dsimp only
      have ih := lookup_rl (env := env) (x := x) (names := r) h
      split <;> (rw [List.lookup_cons, e]; exact ih)
theorem vis_rl {scope : Scope} {env : Env} {x : Str} (h : Vis scope x) : Vis (relabel scope env) x := by
  rcases h with h | h | h <;> rcases lookup_rl (env := env) h with q | ⟨q, q2⟩
  · exact .inl q
  · cases q
  · exact .inr (.inl q)
  · cases q
  · exact .inr (.inr q)
  · exact .inr (.inl q2)
theorem gl_rl {scope : Scope} {env : Env} {x : Str} (h : scope.names.lookup x = some .globalImplicit) : (relabel scope env).names.lookup x = some .globalImplicit := by
  rcases lookup_rl (env := env) h with q | ⟨q, q2⟩
  · exact q
  · cases q
theorem _root_.L2.BlkOk.relab {N : List Str} {sc scope : Scope} {env : Env} {own : List (Str × Nat)} (h : BlkOk N sc scope own) : BlkOk N (relabel sc env) scope own :=
  ⟨h.kind, h.uniq, h.ix, fun y hy e => by
    rcases h.free y hy e with q | q <;> rcases lookup_rl (env := env) q with z | ⟨z, z2⟩
    · exact .inl z
    · cases z
    · exact .inr z
    · exact .inl z2, h.own⟩
/-- where the inner part of a comprehension stands -/
theorem blk_ok (ok : Ok p sc NN VV GG k g) {scope : Scope} {s : Shared} {H : Hp} {C : Addr} {cl : List (Str × Addr)} {fp : List Addr} {fm : Fm} (hK : fm.K = p.K ∧ ∀ P, p.T = some P → LamX.TabS fm.H0 P lamQ) (hv : VV'.all (seenB scope) = true) (hg : GG'.all (glB scope) = true) :
    Ok p scope NN VV' GG' k ⟨g.X.blk s H scope (compEnvC scope cl C g.X.env) fp, fm, fun _ _ _ => False, []⟩ :=
  { prog := ok.prog, w := ok.w, K := ok.K, mg := ok.mg, base := ok.base, N := ok.N, fmK := hK.1, tab := hK.2, room := ok.room, nd := ok.nd
    vis := fun e => let h := seenB_v (List.all_eq_true.mp hv _ (List.mem_of_getElem? e)); ⟨vis_rl h.2, h.1⟩
    gl := fun e => let h := glB_v (List.all_eq_true.mp hg _ (List.mem_of_getElem? e)); ⟨gl_rl h.2, h.1⟩
    tk := Takes.imp takes0 (fun cls d σ H ⟨c, e1, e2, h⟩ => h)
    calm := ok.calm
    blk := fun h => (blkOk_by h).relab }
theorem wipe1 {σ : L2.St} {v : V} : wipe ((wipe σ [i]).set i (some v)) [i] = wipe σ [i] := by
  show ((σ.set i none).set i (some v)).set i none = σ.set i none
  rw [List.set_set, List.set_set]
def NoOwn (s : Slot) : Prop := ∀ {v H R F}, s.ok v H R F → F = []
theorem no_any : NoOwn sAny := fun h => h
theorem At.setN {fm : Fm} {kp : RdR} {σ : L2.St} {H : Hp} {own : List Addr} {s s' : Slot} {v : Option V} (h : At fm kp L σ H own) (hL : L[i]? = some s) (hs : NoOwn s) (r : s'.ok v H (RB fm own H) []) : At fm kp (L.set i s') (σ.set i v) H own := by
  obtain ⟨h1, h2, ⟨Fs, h3, rfl⟩, h4, h5, h6⟩ := h
  obtain ⟨v0, F, e1, e2, r0⟩ := h3.get hL
  have e : (Fs.set i []).flatten = Fs.flatten := set_same_nil (by rw [e2, hs r0])
  exact ⟨h1, h2, ⟨Fs.set i [], h3.set r i, e.symm⟩, h4, h5, h6⟩
theorem PTs.ex {X : Cx} {ι : Type} {ifs : List Expr} {t : ι → TT} (h : ∀ d, PTs X ifs (t d)) : PTs X ifs (fun σ H Q => ∃ d, t d σ H Q) := ⟨fun pins s σ H Q I ⟨d, q⟩ => (h d).run pins s σ H Q I q⟩
theorem PE.ex {X : Cx} {ι : Type} {e : Expr} {t : ι → TE} (h : ∀ d, PE X e (t d)) : PE X e (fun σ H Q => ∃ d, t d σ H Q) := ⟨fun pins s σ H Q I ⟨d, q⟩ => (h d).run pins s σ H Q I q⟩
theorem M.bind_assoc {α β γ : Type} (m : M α) (f : α → M β) (h : β → M γ) : (m.bind f).bind h = m.bind fun x => (f x).bind h := by cases m <;> rfl
theorem PS.imp {X : Cx} {e : Stmt} {t t' : TS} (h : PS X e t) (k : ∀ E σ H, t' E σ H → t E σ H) : PS X e t' := ⟨fun pins s σ H D I q => h.run pins s σ H D I (k _ _ _ q)⟩
/-- [elt for x in it if c] -/
theorem evl_lc2 {scope : Scope} {it elt : Expr} {m : M (List α)} {cm : α → M Bool} {f : α → M β} {tp : Pos} {ifs : List Expr} {s₀ : Slot} (ok : Ok p sc NN VV GG k g) (hI : EvI g L (.Name x tp) it S m) (hN : NN[i]? = some x) (hLi : L[i]? = some s₀) (hs₀ : NoOwn s₀) (hb : blkC NN sc scope [(x, i)] = true)
    (hv : VV'.all (seenB scope) = true) (hg : GG'.all (glB scope) = true) (hx : locB scope x = true)
    (hc : ∀ g', Ok p scope NN VV' GG' k g' → ∀ d, PTs g'.X ifs (tT g'.fm g'.W (L.set i (sV false S d)) (cm d)))
    (he : ∀ g', Ok p scope NN VV' GG' k g' → ∀ d, EvE g' (L.set i (sV false S d)) elt md T (f d)) (hs : ∀ x, foldedSetIterable it g.X.env x = pure x := by intro _; rfl) :
    (EvL g L (.ListComp elt [⟨.Name x tp, it, ifs, 0⟩] scope pos) md T (m.bind fun xs => compM (fun d => (cm d).bind fun c => if c = true then (f d).bind fun y => .ok (some y) else .ok none) xs)) ∧
    (∀ {y : Str} {i2 : Nat} {py spos : Pos}, NN[i2]? = some y → g.X.env.scope.names.lookup y = some .local → swapsWith (.ListComp elt [⟨.Name x tp, it, ifs, 0⟩] scope pos) (some (.Name y py)) spos.line g.X.env = pure true →
      PS g.X (.Assign [.Name y py] (.ListComp elt [⟨.Name x tp, it, ifs, 0⟩] scope pos) spos) (tAsg (tL g.fm g.W L md T (m.bind fun xs => compM (fun d => (cm d).bind fun c => if c = true then (f d).bind fun y => .ok (some y) else .ok none) xs)) (gName i2))) := by
  have loc : ∀ (s : Shared) (H : Hp) (C : Addr) (cl : List (Str × Addr)) (fp : List Addr), L2.Loc (g.X.blk s H scope (compEnvC scope cl C g.X.env) fp).env.scope x ∧ ((g.X.blk s H scope (compEnvC scope cl C g.X.env) fp).fn x = true ∨ (g.X.blk s H scope (compEnvC scope cl C g.X.env) fp).env.scope.names.lookup x = some .local) := by
    intro s H C cl fp
    rcases locB_v hx with h | h
    · have q : (relabel scope g.X.env).names.lookup x = some .local := by
        rcases lookup_rl (env := g.X.env) h with q | ⟨q, _⟩
        · exact q
        · cases q
      exact ⟨.inl q, .inr q⟩
    · have q : (relabel scope g.X.env).names.lookup x = some .cell := by
        rcases lookup_rl (env := g.X.env) h with q | ⟨q, _⟩
        · exact q
        · cases q
      refine ⟨.inr q, .inl ?_⟩
      show (scope.names.lookup x == some .cell) = true
      rw [h]; rfl
  have BODY : ∀ σ H Q, tL g.fm g.W L md T (m.bind fun xs => compM (fun d => (cm d).bind fun c => if c = true then (f d).bind fun y => .ok (some y) else .ok none) xs) σ H Q →
      tLc (tI g.fm g.W L S m) (gName i) (fun σ H Q => ∃ z : {fm' : Fm // fm'.K = p.K ∧ ∀ P, p.T = some P → LamX.TabS fm'.H0 P lamQ} × α, tT z.1.1 (fun _ _ _ => False) (L.set i (sV false S z.2)) (cm z.2) σ H Q)
        (fun σ H Q => ∃ z : {fm' : Fm // fm'.K = p.K ∧ ∀ P, p.T = some P → LamX.TabS fm'.H0 P lamQ} × α, tE z.1.1 (fun _ _ _ => False) (L.set i (sV false S z.2)) md T (f z.2) σ H Q) ([(x, i)].map (·.2)) σ H Q := by
    intro σ H Q q
    obtain ⟨kp, own, at_, q⟩ := tL_iff.mp q
    cases m with
    | ex c => exact ⟨kp, own, at_, q⟩
    | no => exact q.elim
    | ok xs =>
    refine ⟨kp, own, at_, fun J H1 s1 hJ D hD => ?_⟩
    have at1 := at_.ext s1
    have hHD : H D = none := s1.free hD
    -- the inner frame
    let fm' : Fm := ⟨g.fm.K, g.fm.H0, fun a => a = D ∨ g.fm.z a⟩
    let hh : α → M (Option β) := fun d => (cm d).bind fun c => if c = true then (f d).bind fun y => .ok (some y) else .ok none
    have q : FinL g.fm g.W own σ H md T Q (compM hh xs) := q
    unfold compM at q
    split at q
    case isFalse => exact q.elim
    rename_i hlen
    have aw : At g.fm kp (L.set i sAny) (σ.set i none) H1 own := at1.setN hLi hs₀ rfl
    have rdD : ∀ (md : Md) (H0 : Hp) a o, RX g.fm own H0 H1 md a o → RX fm' own H0 (upd H1 D (.lst [])) md a o := fun md H0 a o z => by
      have z2 := RX.add (o' := .lst []) hD a o z
      cases md with
      | sh => exact z2.imp (fun ⟨a1, a2, a3⟩ => ⟨a1, fun y => a2 (List.mem_cons_of_mem _ y), fun y => y.elim (fun e => a2 (by rw [e]; exact List.mem_cons_self)) a3⟩) id
      | f0 => exact ⟨z2.1, fun y => z2.2.1 (List.mem_cons_of_mem _ y), fun y => y.elim (fun e => z2.2.1 (by rw [e]; exact List.mem_cons_self)) z2.2.2.1, z2.2.2.2⟩
      | fx => exact ⟨z2.1, fun y => z2.2.1 (List.mem_cons_of_mem _ y), fun y => y.elim (fun e => z2.2.1 (by rw [e]; exact List.mem_cons_self)) z2.2.2.1, z2.2.2.2⟩
    have a0 : At fm' (RD g.fm own H1) (L.set i sAny) (wipe σ [i]) (upd H1 D (.lst [])) own := by
      obtain ⟨h1, h2, ⟨Fs, h3, e⟩, h4, h5, h6⟩ := aw
      refine ⟨h1.trans (newSame hD), fun a z => ?_, ⟨Fs, h3.st (fun b a o z => ?_) fun y hy => ?_, e⟩, h4, fun y hy => ⟨fun n => (h5 y hy).1 ((newSame hD).free n), (h5 y hy).2.1, fun z => z.elim (fun e => (h5 y hy).1 (by rw [e]; exact hD)) (h5 y hy).2.2⟩, fun a o z => rdD .sh H1 a o z⟩
      · rcases z with z | z
        · rw [z, upd_same]; exact fun n => by cases n
        · exact fun n => h2 a z ((newSame hD).free n)
      · cases b with
        | false => exact rdD .sh H1 a o z
        | true => exact rdD .f0 H1 a o z
      · exact upd_ne fun e' => (h5 y (by rw [e]; exact hy)).1 (by rw [e']; exact hD)
    have upR : ∀ (md : Md) {H5 : Hp} {vs' : List V}, ∀ a o, RX g.fm (D :: own) H H5 md a o → RX g.fm (D :: own) H (upd H5 D (.lst vs')) md a o := fun md {H5 vs'} a o z => by
      have ne : a ∉ D :: own → a ≠ D := fun h e => h (by rw [e]; exact List.mem_cons_self)
      cases md with
      | sh =>
        refine z.imp (fun ⟨a1, a2, a3⟩ => ⟨?_, a2, a3⟩) id
        unfold Rd
        rw [cl_upd_ne (ne a2)]
        exact a1
      | f0 => exact ⟨by rw [cl_upd_ne (ne z.2.1)]; exact z.1, z.2⟩
      | fx => exact ⟨by rw [cl_upd_ne (ne z.2.1)]; exact z.1, z.2⟩
    refine ⟨fun n mm H' => mm = xs.length - n ∧ n ≤ xs.length ∧ ∃ vs ds, H' D = some (.lst vs) ∧ vs.length ≤ n ∧ Same H H' ∧ Reps T (RX g.fm (D :: own) H H' md) ds vs ∧ At fm' (RD g.fm own H1) (L.set i sAny) (wipe σ [i]) H' own ∧
      FinL g.fm g.W own σ H md T Q ((compG hh (xs.drop n)).bind fun l => .ok (ds ++ l)), ⟨_, rfl, Nat.zero_le _, [], [], upd_same, Nat.zero_le _, s1.trans (newSame hD), .nil, a0, ?_⟩, ?_⟩
    · rw [List.drop_zero]
      have e : ((compG hh xs).bind fun l => M.ok ([] ++ l)) = compG hh xs := by cases compG hh xs <;> rfl
      rw [e]; exact q
    rintro n mm H' ⟨rfl, hn, vs, ds, hDv, hvl, sH, rr, a', q'⟩
    have rb : Rdb g.fm.K (RD g.fm own H1) H' := ⟨fun a o z n => (a'.kept a o z).imp (fun h => Rd.raw h.1 n) id⟩
    obtain ⟨hgo, hst⟩ := hJ H' rb n
    by_cases hlt : n < xs.length
    · have hx' : xs[n]? = some xs[n] := by simp [hlt]
      obtain ⟨go, yl⟩ := hgo _ hx'
      refine .inr ⟨go, fun H6 => ∃ vs ds, H6 D = some (.lst vs) ∧ vs.length ≤ n + 1 ∧ Same H H6 ∧ Reps T (RX g.fm (D :: own) H H6 md) ds vs ∧ At fm' (RD g.fm own H1) (L.set i sAny) (wipe σ [i]) H6 own ∧
        FinL g.fm g.W own σ H md T Q ((compG hh (xs.drop (n + 1))).bind fun l => .ok (ds ++ l)), fun H6 z => ⟨xs.length - (n + 1), by omega, rfl, hlt, z⟩, fun y H3 hy => ?_⟩
      obtain ⟨s3, r3⟩ := yl y H3 hy
      have a3 := a'.ext s3
      have ry : S.rep xs[n] y (RD fm' own H3) := S.mono r3 (Nw.rd a' a'.kept s3)
      have hLw : (L.set i sAny)[i]? = some sAny := by
        have hlt' := (List.getElem?_eq_some_iff.mp hLi).1
        rw [List.getElem?_set_self hlt']
      have a4 : At fm' (RD g.fm own H1) (L.set i (sV false S xs[n])) ((wipe σ [i]).set i (some y)) H3 own := by
        have := a3.setN (s' := sV false S xs[n]) (v := some y) hLw no_any ⟨rfl, y, rfl, ry⟩
        rwa [List.set_set] at this
      rw [List.drop_eq_getElem_cons hlt] at q'
      refine ⟨wipe1, ⟨⟨fm', ok.fmK, ok.tab⟩, xs[n]⟩, _, own, a4, ?_⟩
      have q2 : FinL g.fm g.W own σ H md T Q (((hh xs[n]).nox.bind fun o => (compG hh (xs.drop (n + 1))).bind fun l => .ok (o.toList ++ l)).bind fun l => .ok (ds ++ l)) := q'
      cases hcm : cm xs[n] with
      | ex c => rw [show hh xs[n] = .ex c from by show (cm xs[n]).bind _ = _; rw [hcm]; rfl] at q2; exact q2.elim
      | no => rw [show hh xs[n] = .no from by show (cm xs[n]).bind _ = _; rw [hcm]; rfl] at q2; exact q2.elim
      | ok c =>
        intro H4 s4
        cases c with
        | false =>
          rw [show hh xs[n] = .ok none from by show (cm xs[n]).bind _ = _; rw [hcm]; rfl] at q2
          refine (if_neg (by decide)).mpr ?_
          have a5 : At fm' (RD g.fm own H1) (L.set i sAny) (wipe σ [i]) H4 own := a3.ext s4
          refine ⟨vs, ds, s4.keep _ _ (s3.keep _ _ hDv rfl) rfl, Nat.le_succ_of_le hvl, (sH.trans s3).trans s4, rr.mono (RX.same (s3.trans s4)), a5, ?_⟩
          have e : (((M.ok (none : Option β)).nox.bind fun o => (compG hh (xs.drop (n + 1))).bind fun l => M.ok (o.toList ++ l)).bind fun l => M.ok (ds ++ l)) = (compG hh (xs.drop (n + 1))).bind fun l => M.ok (ds ++ l) := by
            cases compG hh (xs.drop (n + 1)) <;> rfl
          rw [e] at q2; exact q2
        | true =>
          refine (if_pos rfl).mpr ⟨⟨⟨fm', ok.fmK, ok.tab⟩, xs[n]⟩, _, own, a4.ext s4, ?_⟩
          cases hf : f xs[n] with
          | ex c => rw [show hh xs[n] = .ex c from by show (cm xs[n]).bind _ = _; rw [hcm]; show (f xs[n]).bind _ = _; rw [hf]; rfl] at q2; exact q2.elim
          | no => rw [show hh xs[n] = .no from by show (cm xs[n]).bind _ = _; rw [hcm]; show (f xs[n]).bind _ = _; rw [hf]; rfl] at q2; exact q2.elim
          | ok w =>
            rw [show hh xs[n] = .ok (some w) from by show (cm xs[n]).bind _ = _; rw [hcm]; show (f xs[n]).bind _ = _; rw [hf]; rfl] at q2
            intro v H5 s5 r5
            have s35 : Same H' H5 := (s3.trans s4).trans s5
            have sHH5 : Same H H5 := sH.trans s35
            have nw : ∀ a o, RX fm' own H4 H5 md a o → RX g.fm (D :: own) H H5 md a o := fun a o z => by
              have nd : ¬ fm'.z a → a ≠ D ∧ ¬ g.fm.z a := fun h => ⟨fun e => h (.inl e), fun e => h (.inr e)⟩
              cases md with
              | sh => exact z.imp (fun ⟨a1, a2, a3⟩ => ⟨a1, fun y => (List.mem_cons.mp y).elim (nd a3).1 a2, (nd a3).2⟩) id
              | f0 => exact ⟨z.1, fun y => (List.mem_cons.mp y).elim (nd z.2.2.1).1 z.2.1, (nd z.2.2.1).2, z.2.2.2⟩
              | fx => exact ⟨z.1, fun y => (List.mem_cons.mp y).elim (nd z.2.2.1).1 z.2.1, (nd z.2.2.1).2, z.2.2.2.1, ((sH.trans s3).trans s4).free z.2.2.2.2⟩
            refine ⟨vs, s35.keep _ _ hDv rfl, by omega, vs ++ [v], ds ++ [w], upd_same, by rw [List.length_append, List.length_singleton]; omega, sHH5.wr hHD (s35.keep _ _ hDv rfl) (fun _ z => nomatch z) rfl, ?_, ?_, ?_⟩
            · exact ((rr.mono (RX.same s35)).append (.cons (T.mono r5 nw) .nil)).mono (upR md)
            · -- the slots at the changed heap
              have a5 : At fm' (RD g.fm own H1) (L.set i sAny) (wipe σ [i]) H5 own := a'.ext s35
              obtain ⟨h1, h2, ⟨Fs, h3, e⟩, h4, h5, h6⟩ := a5
              have ne : ∀ {a : Addr}, ¬ fm'.z a → a ≠ D := fun h e => h (.inl e)
              have k0 : ∀ (md : Md) a o, RX fm' own H5 H5 md a o → md = .fx ∨ RX fm' own (upd H5 D (.lst (vs ++ [v]))) (upd H5 D (.lst (vs ++ [v]))) md a o := fun md a o z => by
                cases md with
                | sh =>
                  refine .inr (z.imp (fun ⟨a1, a2, a3⟩ => ⟨?_, a2, a3⟩) id)
                  unfold Rd
                  rw [cl_upd_ne (ne a3)]
                  exact a1
                | f0 => exact .inr ⟨by rw [cl_upd_ne (ne z.2.2.1)]; exact z.1, z.2⟩
                | fx => exact .inl rfl
              have up : ∀ a, H5 a ≠ none → upd H5 D (.lst (vs ++ [v])) a ≠ none := fun a hne => by
                by_cases e : a = D
                · rw [e, upd_same]; exact fun z => by cases z
                · rw [upd_ne e]; exact hne
              refine ⟨h1.wr (at_.same.free hHD) (s35.keep _ _ hDv rfl) (fun _ z => nomatch z) rfl, fun a z => up a (h2 a z), ⟨Fs, h3.st (fun b a o z => ?_) fun y hy => ?_, e⟩, h4, fun y hy => ⟨up y (h5 y hy).1, (h5 y hy).2⟩, fun a o z => (k0 .sh a o (h6 a o z)).resolve_left fun e => nomatch e⟩
              · cases b with
                | false => exact (k0 .sh a o z).resolve_left fun e => nomatch e
                | true => exact (k0 .f0 a o z).resolve_left fun e => nomatch e
              · exact upd_ne (ne (h5 y (by rw [e]; exact hy)).2.2)
            · have e : (((M.ok (some w)).nox.bind fun o => (compG hh (xs.drop (n + 1))).bind fun l => M.ok (o.toList ++ l)).bind fun l => M.ok (ds ++ l)) = (compG hh (xs.drop (n + 1))).bind fun l => M.ok ((ds ++ [w]) ++ l) := by
                cases compG hh (xs.drop (n + 1)) <;> simp [M.nox, M.bind]
              rw [e] at q2; exact q2
    · have e : n = xs.length := by omega
      subst e
      rw [List.drop_length] at q'
      refine .inl ⟨hst (by simp), ?_⟩
      have q2 : FinL g.fm g.W own σ H md T Q (.ok (ds ++ [])) := q'
      rw [List.append_nil] at q2
      exact q2 D vs H' sH hHD hDv rr
  refine ⟨PE.imp (pe_lc (own := [(x, i)]) ok.calm (by rw [ok.N]; exact ok.nd) hI (by rw [ok.N]; exact ok.blk hb) (fun s H C cl fp => pg_name (i := i) (by show g.X.N.Nodup; rw [ok.N]; exact ok.nd) (by show g.X.N[i]? = _; rw [ok.N]; exact hN) (loc s H C cl fp).1 (loc s H C cl fp).2)
    (fun s H C cl fp => PTs.ex (t := fun (z : {fm' : Fm // fm'.K = p.K ∧ ∀ P, p.T = some P → LamX.TabS fm'.H0 P lamQ} × α) => tT z.1.1 (fun _ _ _ => False) (L.set i (sV false S z.2)) (cm z.2)) fun z => hc ⟨g.X.blk s H scope (compEnvC scope cl C g.X.env) fp, z.1.1, fun _ _ _ => False, []⟩ (blk_ok ok z.1.2 hv hg) z.2) (fun s H C cl fp => PE.ex (t := fun (z : {fm' : Fm // fm'.K = p.K ∧ ∀ P, p.T = some P → LamX.TabS fm'.H0 P lamQ} × α) => tE z.1.1 (fun _ _ _ => False) (L.set i (sV false S z.2)) md T (f z.2)) fun z => he ⟨g.X.blk s H scope (compEnvC scope cl C g.X.env) fp, z.1.1, fun _ _ _ => False, []⟩ (blk_ok ok z.1.2 hv hg) z.2) hs) BODY, fun {y i2 py spos} hy hyl hsw => ?_⟩
  exact PS.imp (ps_setLc (own := [(x, i)]) ok.calm (by rw [ok.N]; exact ok.nd) (by rw [ok.N]; exact hy) hyl hsw hI (by rw [ok.N]; exact ok.blk hb) (fun s H C cl fp => pg_name (i := i) (by show g.X.N.Nodup; rw [ok.N]; exact ok.nd) (by show g.X.N[i]? = _; rw [ok.N]; exact hN) (loc s H C cl fp).1 (loc s H C cl fp).2)
    (fun s H C cl fp => PTs.ex (t := fun (z : {fm' : Fm // fm'.K = p.K ∧ ∀ P, p.T = some P → LamX.TabS fm'.H0 P lamQ} × α) => tT z.1.1 (fun _ _ _ => False) (L.set i (sV false S z.2)) (cm z.2)) fun z => hc ⟨g.X.blk s H scope (compEnvC scope cl C g.X.env) fp, z.1.1, fun _ _ _ => False, []⟩ (blk_ok ok z.1.2 hv hg) z.2) (fun s H C cl fp => PE.ex (t := fun (z : {fm' : Fm // fm'.K = p.K ∧ ∀ P, p.T = some P → LamX.TabS fm'.H0 P lamQ} × α) => tE z.1.1 (fun _ _ _ => False) (L.set i (sV false S z.2)) md T (f z.2)) fun z => he ⟨g.X.blk s H scope (compEnvC scope cl C g.X.env) fp, z.1.1, fun _ _ _ => False, []⟩ (blk_ok ok z.1.2 hv hg) z.2) hs) fun E σ H q => BODY σ H _ q
/-- [elt for x in it if c] -/
theorem evl_lc {scope : Scope} {it elt : Expr} {m : M (List α)} {cm : α → M Bool} {f : α → M β} {tp : Pos} {ifs : List Expr} {s₀ : Slot} (ok : Ok p sc NN VV GG k g) (hI : EvI g L (.Name x tp) it S m) (hN : NN[i]? = some x) (hLi : L[i]? = some s₀) (hs₀ : NoOwn s₀) (hb : blkC NN sc scope [(x, i)] = true)
    (hv : VV'.all (seenB scope) = true) (hg : GG'.all (glB scope) = true) (hx : locB scope x = true)
    (hc : ∀ g', Ok p scope NN VV' GG' k g' → ∀ d, PTs g'.X ifs (tT g'.fm g'.W (L.set i (sV false S d)) (cm d)))
    (he : ∀ g', Ok p scope NN VV' GG' k g' → ∀ d, EvE g' (L.set i (sV false S d)) elt md T (f d)) (hs : ∀ x, foldedSetIterable it g.X.env x = pure x := by intro _; rfl) :
    EvL g L (.ListComp elt [⟨.Name x tp, it, ifs, 0⟩] scope pos) md T (m.bind fun xs => compM (fun d => (cm d).bind fun c => if c = true then (f d).bind fun y => .ok (some y) else .ok none) xs) := (evl_lc2 ok hI hN hLi hs₀ hb hv hg hx hc he hs).1
end
end Hd
namespace Hd
open PySem PySem.Spec L2
section
variable {p : Pr} {sc : Scope} {NN VV GG VV' GG' : List Str} {k : Nat} {g : G} {L L' : List Slot} {a b c e e' : Expr} {es : List Expr} {md md' : Md} {α β γ δ ρ : Type} {S : Ty α} {T : Ty β} {U : Ty γ} {A : Ar δ} {pos : Pos} {K : PySem.W.Frag} {tg : Expr} {i j : Nat} {x : Str}
/-- all slots forgotten -/
theorem wkX {n : Nat} (h : g.LX = List.replicate n sAny) (e : L.length = n) : Wk L g.LX := h ▸ Wk.anys e
theorem ev_gstr {s : String} (ok : Ok p sc NN VV GG k g) (hG : GG[j]? = some x) (h : ∃ t, p.mg x = some (.str (Str.ofString s) t)) (hl : okTxB (tx s) = true) : EvE g L (.Name x pos) md tStr (.ok (tx s)) := by
  obtain ⟨t, h⟩ := h
  exact ev_glob (v := .str (Str.ofString s)) ok hG h ⟨t, rfl⟩ (fun _ => ⟨by rw [toS_tx], okTx_of hl⟩)
theorem ev_b1 {id : String} {r : List V → Hp → VK → Prop} {f : α → M γ} {fr : Bool} {m : M α} {pp : Pos} (ok : Ok p sc NN VV GG k g) (hc : CallR g.X (.builtin id) r)
    (F : ∀ {d v R H Q}, Rdb p.K R H → S.rep d v R → OpEnd U fr R H Q (f d) → r [v] H Q) (hne : ∀ d c, f d ≠ .ex c) (hm : MdOk fr md md')
    (hG : GG[j]? = some x) (hmg : p.mg x = none) (hv : bootBuiltins x = some (.builtin id)) (ha : EvE g L e md S m) (hs : starEach [e] g.X.env = (false, eval e g.X.env) :: starEach [] g.X.env := by rfl) : EvE g L (.Call (.Name x pp) [e] [] pos) md' U (m.bind f) := by
  have h := ev_callB (md' := md') (U := U) (A := aCons S aNil) (f := fun d => f d.1) (fr := fr) (pos := pos) (pp := pp) ok hc ⟨fun {d xs R H Q} rb ⟨v, r, e1, h1, e3⟩ q => by
    subst e1; cases (show r = [] from e3); exact F rb h1 q⟩ (fun d c => hne d.1 c) hm hG hmg hv (eva_cons ha eva_nil hs) hs rfl
  have e : (m.bind fun d => (M.ok ()).bind fun e => M.ok (d, e)).bind (fun d => f d.1) = m.bind f := by cases m <;> rfl
  rwa [e] at h
variable {m1 m2 : M Int} {pp : Pos}
theorem Reps.strs {R : RdR} {ds : List Tx} {vs : List V} (r : Reps tStr R ds vs) : vs = (ds.map toS).map V.str ∧ ∀ d ∈ ds, OkTx d := by
  induction r with
  | nil => exact ⟨rfl, fun _ h => nomatch h⟩
  | cons h _ ih =>
    obtain ⟨e, h⟩ := h
    subst e
    refine ⟨by rw [ih.1]; rfl, fun d hd => ?_⟩
    rcases List.mem_cons.mp hd with e | hd
    · rw [e]; exact h
    · exact ih.2 d hd
end
end Hd
namespace Hd
open PySem PySem.Spec L2
theorem lstR {X : Cx} {pins : List (Addr × Obj)} {σ : L2.St} {H : Hp} {s : Shared} {l : Addr} {xs : List V} (I : Inv X pins σ H s) (h : L2.Rd H l (.lst xs)) : xs.length ≤ sizeLine ∧ ∃ (its : List Value) (n : Nat), Vals xs its ∧ xs.length = its.length ∧ s.heap.get? l = some { cls := .type "list", data := .seq its.toArray n } := by
  obtain ⟨z, its, n, r, e⟩ := h.ok I.hok
  exact ⟨z, its, n, r, r.length, e⟩
def rExtR : V → List V → Hp → VK → Prop := fun x vs H Q => ∃ l b xs zs, x = .ref l ∧ vs = [.ref b] ∧ H l = some (.lst xs) ∧ L2.Rd H b (.lst zs) ∧ xs.length + zs.length ≤ sizeLine ∧ Q .non (upd H l (.lst (xs ++ zs)))
theorem mt_extR {X : Cx} : MtR X "list.extend" rExtR := by
  intro pins s σ H x vs v us Q I rx rv h
  obtain ⟨l, b, xs, zs, rfl, rfl, hH, hB, hz, q⟩ := h
  cases rx
  obtain ⟨u, rfl, ru⟩ := rv.one
  cases ru
  obtain ⟨z, its, n, r, hl, e⟩ := I.lstM hH
  obtain ⟨z2, its2, n2, r2, hl2, e2⟩ := lstR I hB
  have hsz : its.toArray.size + its2.toArray.size ≤ sizeLine := by rw [List.size_toArray, List.size_toArray]; omega
  have hlong : ¬ (!its.toArray.isEmpty && Builtin.List.listTooLong (its.toArray.size + its2.toArray.size)) = true := by
    rw [notLongL hsz, Bool.and_false]
    exact Bool.false_ne_true
  refine call_meets F.slot_list_extend ⟨_, e, rfl⟩ F.entry_list_extend (F.args_list_extend_2 _ _)
    (AutoSeq1.list_extend_list_list_0 l its.toArray n b its2.toArray n2 hlong (by rw [List.size_toArray]; omega) (by omega)) ⟨e, e2, ?_⟩
  refine ⟨.non, _, I.lset (its' := its ++ its2) hH e (by simp) (r.append r2) ?_, rfl, q⟩
  rw [List.length_append]
  omega
section
variable {p : Pr} {sc : Scope} {NN VV GG VV' GG' : List Str} {k : Nat} {g : G} {L L' : List Slot} {a b c e e' : Expr} {es : List Expr} {md md' : Md} {α β γ δ ρ : Type} {S : Ty α} {T : Ty β} {U : Ty γ} {A : Ar δ} {pos : Pos} {K : PySem.W.Frag} {tg : Expr} {i j : Nat} {x : Str}
theorem ev_sm1 {id : String} {name : Str} {r : V → List V → Hp → VK → Prop} {f : Tx → β → M γ} {m1 : M Tx} {m2 : M β} {apos : Pos} (ok : Ok p sc NN VV GG k g) (slot : PySem.Slot "str" name id) (hty : typeOf (.builtin id) = pure (.type "method_descriptor")) (hmt : MtR g.X id r)
    (F : ∀ {d e y R H Q}, Rdb p.K R H → OkTx d → T.rep e y R → OpEnd U true R H Q (f d e) → r (.str (toS d)) [y] H Q) (hne : ∀ d e c, f d e ≠ .ex c) (ha : EvE g L a md tStr m1) (hb : EvE g L b md T m2)
    (hs : starEach [b] g.X.env = [(false, eval b g.X.env)] := by rfl) (hbase : attributeBase a name g.X.env (eval a g.X.env) = eval a g.X.env := by rfl) (hline : (apos.endLine == pos.line) = true := by rfl) :
    EvE g L (.Call (.Attribute a name apos) [b] [] pos) md' U (m1.bind fun d => m2.bind fun e => f d e) := by
  refine PE.imp (pe_m1 slot hty hmt ha hb hs hbase hline) fun σ H Q q => ?_
  obtain ⟨kp, own, at_, q⟩ := tE_iff.mp q
  refine sub finE (Same.refl H) at_ q fun d x H1 s1 r1 at1 q1 => ⟨⟨_, r1.1⟩, sub finE s1 at1 q1 fun e y H2 s2 r2 at2 q2 => ?_⟩
  rw [r1.1]
  rw [← ok.fmK] at F
  exact F (R := RX g.fm own H H2 md) RX.rdb r1.2 r2 (q2.fin (MdOk.fresh : MdOk true md md') (s1.trans s2) at2 (hne d e))
/-- sep.join(xs) -/
def joinM (s : Tx) (xs : List Tx) : M Tx := if (xs.map List.length).sum + xs.length * s.length ≤ 16777216 then .ok (TL.joinL s xs) else .no
theorem joinM_ne {s : Tx} {xs : List Tx} {c : Ec} : joinM s xs ≠ .ex c := by unfold joinM; split <;> exact fun h => nomatch h
theorem joinL_len (s : Tx) : ∀ xs : List Tx, (TL.joinL s xs).length ≤ (xs.map List.length).sum + xs.length * s.length
  | [] => by simp [TL.joinL]
  | [x] => by simp [TL.joinL]
  | x :: y :: r => by
    have := joinL_len s (y :: r)
    simp only [TL.joinL, List.length_append, List.map_cons, List.sum_cons, List.length_cons] at this ⊢
    rw [Nat.add_mul, Nat.add_mul] at *
    omega
theorem joinL_mem (s : Tx) {c : Nat} : ∀ xs : List Tx, c ∈ TL.joinL s xs → c ∈ s ∨ ∃ x ∈ xs, c ∈ x
  | [], h => nomatch h
  | [x], h => .inr ⟨x, List.mem_cons_self, h⟩
  | x :: y :: r, h => by
    simp only [TL.joinL, List.mem_append] at h
    rcases h with h | h | h
    · exact .inr ⟨x, List.mem_cons_self, h⟩
    · exact .inl h
    · rcases joinL_mem s (y :: r) h with h | ⟨z, hz, h⟩
      · exact .inl h
      · exact .inr ⟨z, List.mem_cons_of_mem _ hz, h⟩
theorem tl_toS (x : Tx) : TL.tl (toS x) = x := by simp [TL.tl, toS]
theorem ev_join {m1 : M Tx} {m2 : M (List Tx)} {apos : Pos} (ok : Ok p sc NN VV GG k g) (ha : EvE g L a md tStr m1) (hb : EvE g L b md (tList tStr) m2)
    (hs : starEach [b] g.X.env = [(false, eval b g.X.env)] := by rfl) (hbase : attributeBase a "join" g.X.env (eval a g.X.env) = eval a g.X.env := by rfl) (hline : (apos.endLine == pos.line) = true := by rfl) :
    EvE g L (.Call (.Attribute a "join" apos) [b] [] pos) md' tStr (m1.bind fun s => m2.bind fun xs => joinM s xs) :=
  ev_sm1 (T := tList tStr) ok PySem.F.slot_str_join PySem.F.type_str_join mt_join (fun {d e y R H Q} rb hd ⟨a, vs, ey, h, r⟩ q => by
    obtain ⟨ev, ho⟩ := r.strs
    unfold joinM at q
    split at q
    · rename_i hz
      refine ⟨toS d, a, e.map toS, rfl, by rw [ey], .inl (by rw [← ev, ok.K]; exact sq_of rb h), ?_, ?_⟩
      · rw [List.map_map, show (fun x : Str => x.length) ∘ toS = List.length from funext toS_len, List.length_map, toS_len]; exact hz
      · refine q _ _ (Same.refl _) ⟨?_, Nat.le_trans (joinL_len d e) (Nat.le_trans hz (by decide)), fun c hc => ?_⟩
        · show V.str _ = V.str _
          congr 1
          rw [TL.join_eq]
          refine TL.ext_tl ?_
          rw [TL.tl_join, tl_toS, tl_toS, List.map_map, show TL.tl ∘ toS = id from funext tl_toS, List.map_id]
        · rcases joinL_mem d e hc with h | ⟨z, hz, h⟩
          · exact hd.2 c h
          · exact (ho z hz).2 c h
    · exact q.elim) (fun _ _ _ => joinM_ne) ha hb hs hbase hline
def tO (fm : Fm) (W : Wx) (L : List Slot) (m : M (Option Int)) : TO := fun σ H Q => ∃ kp own, At fm kp L σ H own ∧
  match m with
  | .ok d => ∀ H', Same H H' → Q d H'
  | .ex c => ∀ H', Same H H' → W c σ H'
  | .no => False
def EvO (g : G) (L : List Slot) (e : Option Expr) (m : M (Option Int)) : Prop := PO g.X e (tO g.fm g.W L m)
theorem PO.imp {X : Cx} {e : Option Expr} {t t' : TO} (h : PO X e t) (k : ∀ σ H Q, t' σ H Q → t σ H Q) : PO X e t' := ⟨fun pins s σ H Q I q => h.run pins s σ H Q I (k _ _ _ q)⟩
theorem evo_none : EvO g L none (.ok none) := PO.imp po_none fun σ H Q ⟨kp, own, at_, q⟩ => q H (Same.refl H)
theorem evo_some {m : M Int} (h : EvE g L e md tInt m) : EvO g L (some e) (m.bind fun i => .ok (some i)) := PO.imp (po_some h) fun σ H Q q => by
  cases m with
  | ok d => obtain ⟨kp, own, at_, q⟩ := q; exact ⟨kp, own, at_, fun v H' s r => ⟨d, r, q H' s⟩⟩
  | ex c => exact q
  | no => exact q
def FinO (W : Wx) (σ : L2.St) (H : Hp) (Q : Option Int → Hp → Prop) : M (Option Int) → Prop
  | .ok d => ∀ H', Same H H' → Q d H'
  | .ex c => ∀ H', Same H H' → W c σ H'
  | .no => False
theorem tO_iff {fm : Fm} {W : Wx} {m : M (Option Int)} {σ : L2.St} {H : Hp} {Q : Option Int → Hp → Prop} : tO fm W L m σ H Q ↔ ∃ kp own, At fm kp L σ H own ∧ FinO W σ H Q m := by
  cases m <;> exact Iff.rfl
theorem subO {fm : Fm} {W : Wx} {kp : RdR} {own : List Addr} {σ : L2.St} {H0 H : Hp} {F : M β → Prop} {m : M (Option Int)} {f : Option Int → M β} {K : Option Int → Hp → Prop} (hF : Fin W σ H0 F) (s0 : Same H0 H) (at_ : At fm kp L σ H own) (q : F (m.bind f))
    (h : ∀ d H1, Same H H1 → At fm kp L σ H1 own → F (f d) → K d H1) : tO fm W L m σ H K := by
  refine tO_iff.mpr ⟨kp, own, at_, ?_⟩
  cases m with
  | ok d => exact fun H1 s => h d H1 s (at_.ext s) q
  | ex c => exact fun H' s => hF.ex q H' (s0.trans s)
  | no => exact hF.no q
def cutL {α : Type} (xs : List α) (lo hi : Option Int) : List α := (xs.drop (HT.sIx xs.length 0 lo)).take (HT.sIx xs.length xs.length hi - HT.sIx xs.length 0 lo)
theorem Reps.cut {R : RdR} {ds : List α} {vs : List V} (h : Reps S R ds vs) (lo hi : Option Int) : Reps S R (cutL ds lo hi) (L2.cutV vs lo hi) := by
  unfold cutL L2.cutV
  rw [h.length]
  exact (h.drop _).take _
theorem cutL_len {xs : List α} {lo hi : Option Int} : (cutL xs lo hi).length ≤ xs.length := by
  unfold cutL
  rw [List.length_take, List.length_drop]
  omega
theorem cutL_mem {xs : List α} {lo hi : Option Int} {d : α} (h : d ∈ cutL xs lo hi) : d ∈ xs := List.mem_of_mem_drop (List.mem_of_mem_take h)
variable {lo hi : Option Expr} {ml mh : M (Option Int)} {p2 : Pos}
theorem ev_slS {m : M Tx} (ok : Ok p sc NN VV GG k g) (ha : EvE g L a md tStr m) (hl : EvO g L lo ml) (hh : EvO g L hi mh) : EvE g L (.Subscript a (.Slice lo hi none p2) pos) md' tStr (m.bind fun x => ml.bind fun l => mh.bind fun h => .ok (cutL x l h)) := by
  refine PE.imp (pe_slice sl_str ha hl hh) fun σ H Q q => ?_
  obtain ⟨kp, own, at_, q⟩ := tE_iff.mp q
  refine sub finE (Same.refl H) at_ q fun d x H1 s1 r1 at1 q1 => subO finE s1 at1 q1 fun l H2 s2 at2 q2 => subO finE (s1.trans s2) at2 q2 fun h H3 s3 at3 q3 => ?_
  refine ⟨toS d, r1.1, by rw [toS_len]; exact r1.2.1, q3 _ H3 ((s1.trans s2).trans s3) ⟨?_, Nat.le_trans cutL_len r1.2.1, fun c hc => r1.2.2 c (cutL_mem hc)⟩⟩
  show V.str _ = V.str _
  congr 1
theorem Reps.rep {R : RdR} {ds : List α} {vs : List V} (h : Reps S R ds vs) : ∀ n : Nat, Reps S R (List.replicate n ds).flatten (List.replicate n vs).flatten
  | 0 => .nil
  | n + 1 => by rw [List.replicate_succ, List.flatten_cons, List.replicate_succ, List.flatten_cons]; exact h.append (Reps.rep h n)
/-- xs + ys -/
def catL {α : Type} (xs ys : List α) : M (List α) := if xs.length + ys.length ≤ sizeLine then .ok (xs ++ ys) else .no
structure FlatV (S : Ty α) : Prop where
  fl : ∀ {d v R}, S.rep d v R → flatV v = true
  eq : ∀ {d e v w R R'}, S.rep d v R → S.rep e w R' → (eqV v w = true ↔ d = e)
theorem f_str : FlatV tStr := ⟨fun h => by cases h.1; rfl, fun h1 h2 => by
  cases h1.1; cases h2.1
  exact ⟨fun h => toS_inj (beq_iff_eq.mp h), fun h => by rw [h]; exact beq_self_eq_true _⟩⟩
theorem Reps.allFlat {R : RdR} {ds : List α} {vs : List V} (hf : FlatV S) (h : Reps S R ds vs) : vs.all flatV = true := by
  induction h with
  | nil => rfl
  | cons r _ ih => rw [List.all_cons, hf.fl r, ih]; rfl
theorem Reps.inV [DecidableEq α] {R R' : RdR} {ds : List α} {vs : List V} (hf : FlatV S) (h : Reps S R ds vs) {d : α} {v : V} (r : S.rep d v R') : L2.inV v vs = decide (d ∈ ds) := by
  induction h with
  | nil => simp [L2.inV]
  | @cons d' ds v' vs r' _ ih =>
    unfold L2.inV at ih ⊢
    rw [List.any_cons, ih]
    by_cases e : d = d'
    · have : eqV v' v = true := (hf.eq r' r).mpr e.symm
      rw [this]; simp [e]
    · have : eqV v' v = false := by
        cases q : eqV v' v with
        | true => exact absurd ((hf.eq r' r).mp q).symm e
        | false => rfl
      rw [this]; simp [e]
def notinSM (x s : Tx) : M Bool := match x with
  | [c] => .ok (!decide (c ∈ s))
  | _ => .no
theorem notinSM_ne {x s : Tx} {c : Ec} : notinSM x s ≠ .ex c := by unfold notinSM; split <;> exact fun h => nomatch h
inductive ArAt : {δ α : Type} → Ar δ → Int → Ty α → (δ → α) → Prop where
  | z {α δ : Type} {T : Ty α} {A : Ar δ} : ArAt (aCons T A) 0 T (fun d => d.1)
  | s {α β δ : Type} {T : Ty α} {S : Ty β} {A : Ar δ} {n : Int} {f : δ → α} : ArAt A n T f → ArAt (aCons S A) (n + 1) T (fun d => f d.2)
theorem ArAt.nat {n : Int} {f : δ → α} (h : ArAt A n S f) : 0 ≤ n := by
  induction h with
  | z => omega
  | s _ ih => omega
theorem ArAt.get {n : Int} {f : δ → α} (h : ArAt A n S f) : ∀ {d : δ} {vs : List V} {R : RdR}, A.rep d vs R → ∃ v, vs[n.toNat]? = some v ∧ S.rep (f d) v R := by
  induction h with
  | z => intro d vs R ⟨v, r, e, h1, h2⟩; subst e; exact ⟨v, rfl, h1⟩
  | s h ih =>
    intro d vs R ⟨v, r, e, h1, h2⟩
    subst e
    obtain ⟨w, h3, h4⟩ := ih h2
    have := h.nat
    refine ⟨w, ?_, h4⟩
    rename_i n _
    rw [show (n + 1).toNat = n.toNat + 1 by omega, List.getElem?_cons_succ]
    exact h3
theorem ev_ixA {n : Int} {f : δ → α} {m : M δ} (ok : Ok p sc NN VV GG k g) (hA : ArAt A n S f) (ha : EvE g L a md (tTup A) m) (hb : EvE g L b md tInt (.ok n)) (hs : PlainIx b := by exact fun _ _ => rfl) : EvE g L (.Subscript a b pos) md S (m.bind fun t => .ok (f t)) :=
  ev_ix (S := tTup A) (r := rIxT p.K) (m2 := .ok ()) (f := fun t _ => .ok (f t)) (T := tLit n) (fr := false) ok (by rw [← ok.K]; exact ix_tup) ⟨fun {d e x y R H Q} rb ⟨a, vs, ex, h, r⟩ ry q => by
    obtain ⟨v, h1, h2⟩ := hA.get r
    refine ⟨a, vs, n, v, ex, ry, st_of rb h, ?_, q _ _ (Same.refl _) (S.mono h2 (Nw.old rfl))⟩
    have := atI_nat (xs := vs) (j := n.toNat) h1
    rwa [Int.toNat_of_nonneg hA.nat] at this⟩ (fun _ _ _ h => nomatch h) .same ha (ev_lit hb) hs
variable {st : List Stmt} {D : δ → Out} {d : δ}
/-- if c: raise X("..") -/
theorem evb_ifr {mc : M Bool} {m2 : M δ} {y : Str} {ec : Ec} {jj : Nat} {msg : Str} {q1 q2 q3 q4 : Pos} (ok : OkS p sc NN VV GG k g) (wk : Wk L g.LX) (X : ExF p y ec) (hG : GG[j]? = some y) (hc : EvT g L c mc) (hr : EvB g L st D m2) :
    EvB g L (.If c [.Raise (some (.Call (.Name y q1) [.Constant (.str msg) jj q2] [] q3)) none q4] [] pos :: st) D (mc.bind fun c => if c = true then .ex ec else m2) := by
  refine PSs.imp (pss_cons (ps_if hc (evb_raise (D := fun _ : Unit => Out.bad) (st := []) (pos := q4) (msg := msg) (jj := jj) (pp := q1) (p2 := q2) (p3 := q3) ok wk X hG) pss_nil) hr) fun E σ H ⟨kp, own, at_, q⟩ => ?_
  cases mc with
  | ok c =>
    refine ⟨kp, own, at_, fun H1 s => ?_⟩
    cases c with
    | true => exact ⟨kp, own, at_.ext s, q⟩
    | false => exact ⟨kp, own, at_.ext s, q⟩
  | ex c => exact ⟨kp, own, at_, BOk.exx wk at_ q⟩
  | no => exact q.elim
end
end Hd
namespace Hd
open PySem PySem.Spec L2
section
variable {p : Pr} {sc : Scope} {NN VV GG VV' GG' : List Str} {k : Nat} {g : G} {L L' : List Slot} {a b c e e' : Expr} {es : List Expr} {md md' : Md} {α β γ δ ρ : Type} {S : Ty α} {T : Ty β} {U : Ty γ} {A : Ar δ} {pos : Pos} {K : PySem.W.Frag} {tg : Expr} {i j : Nat} {x : Str}
/-- a list of the written part -/
def KList (K : PySem.W.Frag) (a : Addr) (xs : List V) : Prop := ∃ (o : Obj) (its : Array Value) (n : Nat), K.lookup a = some o ∧ o.cls = .type "list" ∧ o.dict = none ∧ o.data = .seq its n ∧ its.size ≤ sizeLine ∧ Vals xs its.toList
/-- a list that is but read -/
def tListK {α : Type} (K : PySem.W.Frag) (T : Ty α) : Ty (List α) := ⟨fun ds v R => ∃ a vs, v = .ref a ∧ (R a (.lst vs) ∨ KList K a vs) ∧ Reps T R ds vs, fun ⟨a, vs, e, r, h⟩ s => ⟨a, vs, e, r.imp (s _ _) id, h.mono s⟩⟩
structure IsSq (K : PySem.W.Frag) (Q : Ty (List α)) (S : Ty α) : Prop where
  sq : ∀ {d v R H}, Rdb K R H → Q.rep d v R → ∃ a vs, v = .ref a ∧ SqL K H a vs ∧ Reps S R d vs
theorem sq_l : IsSq K (tList S) S := ⟨fun rb ⟨a, vs, e, h, r⟩ => ⟨a, vs, e, sq_of rb h, r⟩⟩
theorem sq_k : IsSq K (tListK K S) S := ⟨fun rb ⟨a, vs, e, h, r⟩ => ⟨a, vs, e, h.elim (sq_of rb) .inr, r⟩⟩
variable {Q : Ty (List α)}
theorem ev_ixQ {mx : M (List α)} {mi : M Int} (ok : Ok p sc NN VV GG k g) (hq : IsSq p.K Q S) (ha : EvE g L a md Q mx) (hb : EvE g L b md tInt mi) (hs : PlainIx b := by exact fun _ _ => rfl) : EvE g L (.Subscript a b pos) md S (mx.bind fun xs => mi.bind fun i => getM xs i) :=
  ev_ix (S := Q) (r := rIxL p.K) (fr := false) ok (by rw [← ok.K]; exact ix_list) ⟨fun {d e x y R H W} rb rx ry q => by
    obtain ⟨a, vs, ex, h, r⟩ := hq.sq rb rx
    unfold getM at q
    cases hj : L2.atI d e with
    | none => rw [hj] at q; exact q.elim
    | some u =>
      rw [hj] at q
      obtain ⟨v, h1, h2⟩ := r.at hj
      exact ⟨a, vs, e, v, ex, ry, h, h1, q _ _ (Same.refl _) (S.mono h2 (Nw.old rfl))⟩⟩ (fun _ _ _ => getM_ne) .same ha hb hs
theorem ev_lenQ {mx : M (List α)} {pp : Pos} (ok : Ok p sc NN VV GG k g) (hq : IsSq p.K Q S) (hG : GG[j]? = some "len") (hmg : p.mg "len" = none) (ha : EvE g L e md Q mx) (hs : starEach [e] g.X.env = (false, eval e g.X.env) :: starEach [] g.X.env := by rfl) : EvE g L (.Call (.Name "len" pp) [e] [] pos) md' tInt (mx.bind fun xs => .ok (xs.length : Int)) :=
  ev_b1 (S := Q) (fr := true) ok call_len_seq (fun {d v R H W} rb h q => by
    obtain ⟨a, vs, e, hs, r⟩ := hq.sq rb h
    exact ⟨a, vs, by rw [e], .inl (by rw [ok.K]; exact hs), q _ _ (Same.refl _) (by show _ = V.int _; rw [r.length])⟩) (fun _ _ h => nomatch h) .fresh hG hmg PySem.boot_len ha hs
theorem evi_seq {m : M (List α)} (ok : Ok p sc NN VV GG k g) (hq : IsSq p.K Q S) (he : EvE g L e md Q m) : EvI g L tg e S m := by
  refine PI.imp (pi_list he) fun σ H R ⟨kp, own, at_, q⟩ => ?_
  refine tE_iff.mpr ⟨kp, own, at_, ?_⟩
  cases m with
  | ok xs =>
    intro v H' s rx
    have rx' : Q.rep xs v (RD g.fm own H') := Q.mono rx RX.sh
    have rb0 : Rdb p.K (RD g.fm own H') H' := by rw [← ok.fmK]; exact RD.rdb
    obtain ⟨a, vs, rfl, h, r⟩ := hq.sq rb0 rx'
    refine ⟨a, rfl, ⟨vs, by rw [ok.K]; exact h⟩, ?_⟩
    rw [show Itl g.X.K a = Itl g.fm.K a from by rw [ok.K, ok.fmK]]
    refine q (Itl g.fm.K a) H' s fun H2 rb i => ?_
    obtain ⟨a', vs', e', hs, r2⟩ := hq.sq (by rw [← ok.fmK]; exact rb) rx'
    cases e'
    rw [← ok.fmK] at hs
    refine ⟨fun d hd => ?_, fun hn => ⟨vs', hs, ?_⟩⟩
    · obtain ⟨v, h1, h2⟩ := r2.get hd
      refine ⟨⟨vs', v, hs, h1⟩, fun x H3 ⟨e, hx⟩ => ?_⟩
      subst e
      have := hx vs' hs
      rw [h1] at this
      cases this
      exact ⟨Same.refl _, S.mono h2 fun a o z => .inl ⟨rfl, z⟩⟩
    · rw [List.getElem?_eq_none_iff, r2.length] at hn
      exact hn
  | ex c => exact q
  | no => exact q
variable {lo hi : Option Expr} {ml mh : M (Option Int)} {p2 : Pos}
theorem evl_copyQ {mx : M (List α)} {pp : Pos} (ok : Ok p sc NN VV GG k g) (hq : IsSq p.K Q S) (hG : GG[j]? = some "list") (hmg : p.mg "list" = none) (ha : EvE g L e md Q mx) (hs : starEach [e] g.X.env = (false, eval e g.X.env) :: starEach [] g.X.env := by rfl) : EvL g L (.Call (.Name "list" pp) [e] [] pos) md S mx := by
  obtain ⟨hg, ho⟩ := ok.gl hG
  obtain ⟨h1, _, h3⟩ := okName_d ho
  refine PE.imp (pe_callTy call_list_of hg (by rw [ok.mg]; exact hmg) (by decide +kernel) (eva_cons ha eva_nil hs) h3 h1 hs rfl) fun σ H W q => ?_
  obtain ⟨kp, own, at_, q⟩ := tL_iff.mp q
  refine tA_iff.mpr ⟨kp, own, at_, ?_⟩
  cases mx with
  | ok d =>
    rintro vs H1 s1 ⟨v, r, rfl, rx, e3⟩
    cases (show r = [] from e3)
    obtain ⟨a, ws, rfl, h, rr⟩ := hq.sq (by rw [← ok.fmK]; exact RX.rdb) rx
    exact ⟨a, ws, rfl, .inl (by rw [ok.K]; exact h), fun l hl => q l ws _ (s1.trans (newSame hl)) (s1.free hl) upd_same (rr.mono (RX.add hl))⟩
  | ex c => exact q
  | no => exact q
theorem evpts_nil : PTs g.X [] (tT g.fm g.W L (.ok true)) := ⟨fun pins s σ H Q I ⟨kp, own, at_, q⟩ => pts_nil.run pins s σ H Q I (q H (Same.refl H))⟩
theorem evpts_one {m : M Bool} (h : EvT g L c m) : PTs g.X [c] (tT g.fm g.W L m) := pts_one h
variable {st : List Stmt} {D : δ → Out} {d : δ}
structure NotNon (S : Ty α) : Prop where
  nn : ∀ {d v R}, S.rep d v R → v ≠ .non
theorem ev_some {m : M α} (hn : NotNon S) (h : EvE g L e md S m) : EvE g L e md (tOpt S) (m.bind fun d => .ok (some d)) :=
  ev_as (T := tOpt S) (d2 := some) (fun d v R r => ⟨r, hn.nn r⟩) h
def unM {α : Type} : Option α → M α
  | some d => .ok d
  | none => .no
/-- what is known not to be None -/
theorem ev_un1 {m : M (Option α)} (h : EvE g L e md (tOpt S) m) : EvE g L e md S (m.bind unM) := PE.imp h fun σ H Q q => by
  obtain ⟨kp, own, at_, q⟩ := tE_iff.mp q
  refine tE_iff.mpr ⟨kp, own, at_, ?_⟩
  cases m with
  | ok d =>
    cases d with
    | none => exact q.elim
    | some d => exact fun v H' s r => q v H' s r.1
  | ex c => exact q
  | no => exact q
end
end Hd
namespace Hd
open PySem PySem.Spec L2
def fuel : Nat := 1000000000
theorem M.bok {α β : Type} (a : α) (f : α → M β) : M.bind (.ok a) f = f a := by
  have h : ∀ m : M α, m = .ok a → M.bind m f = f a := fun m e => by rw [e]; rfl
  exact h _ rfl
section
variable {p : Pr} {sc : Scope} {NN VV GG VV' GG' : List Str} {k : Nat} {g : G} {L L' : List Slot} {a b c e e' : Expr} {es : List Expr} {md md' : Md} {α β γ δ ρ : Type} {S : Ty α} {T : Ty β} {U : Ty γ} {A : Ar δ} {pos : Pos} {K : PySem.W.Frag} {tg : Expr} {i j : Nat} {x : Str}
/-- how many items -/
def LenM (n : Nat) (m : M (List α)) : Prop := ∀ ds, m = .ok ds → ds.length = n
theorem ln0 : LenM 0 (.ok ([] : List α)) := fun ds h => by cases h; rfl
theorem lnS {n : Nat} {m1 : M α} {m2 : M (List α)} (h : LenM n m2) : LenM (n + 1) (m1.bind fun d => m2.bind fun e => .ok (d :: e)) := fun ds q => by
  cases m1 with
  | ok d =>
    cases m2 with
    | ok e => cases q; rw [List.length_cons, h e rfl]
    | ex c => cases q
    | no => cases q
  | ex c => cases q
  | no => cases q
theorem evl_lstN {n : Nat} {m : M (List α)} (h : LenM n m) (hn : n ≤ 1000) (ha : EvA g L es md (aAll S) m) : EvL g L (.List es pos) md S m := evl_lst (fun ds q => by rw [h ds q]; exact hn) ha
def isLoc (sc : Scope) (y : Str) : Bool := (match sc.kind with | .function => true | _ => false) && match sc.names.lookup y with | some .local => true | _ => false
theorem isLoc_k {sc : Scope} {y : Str} (h : isLoc sc y = true) : sc.kind = .function ∧ sc.names.lookup y = some .local := by
  unfold isLoc at h
  rw [Bool.and_eq_true] at h
  obtain ⟨h1, h2⟩ := h
  constructor
  · split at h1
    · assumption
    · cases h1
  · split at h2
    · assumption
    · cases h2
variable {st : List Stmt} {D : δ → Out} {y : Str} {py spos cpos : Pos} {elt it : Expr} {ifs : List Expr} {scope : Scope} {tp : Pos} {s₀ : Slot}
theorem sw_loc (ok : OkS p sc NN VV GG k g) {gs : List Comprehension} (hy : isLoc sc y = true) (hl : (py.line == cpos.line) = true) (ha : (scope.names.any fun (n, k) => n == y && (k == .local || k == .cell)) = false) :
    g.X.env.scope.names.lookup y = some .local ∧ swapsWith (.ListComp elt gs scope cpos) (some (.Name y py)) spos.line g.X.env = pure true := by
  obtain ⟨h1, h2⟩ := isLoc_k hy
  have e1 : g.X.env.scope.kind = .function := by rw [ok.scp]; exact h1
  have e2 : g.X.env.scope.names.lookup y = some .local := by rw [ok.scp]; exact h2
  exact ⟨e2, sw_true e1 e2 hl ha⟩
/-- y = [elt for x in it if c], y its owner -/
theorem evb_ownC {m : M (List α)} {cm : α → M Bool} {f : α → M β} {h : List β → M δ} {b : Bool} {i2 : Nat} (ok : OkS p sc NN VV GG k g) (hN2 : NN[i2]? = some y) (wk : Wk L g.LX) (hbb : SlB md b) (hy : isLoc sc y = true) (hl : (py.line == cpos.line) = true) (ha : (scope.names.any fun (n, k) => n == y && (k == .local || k == .cell)) = false)
    (hI : EvI g L (.Name x tp) it S m) (hN : NN[i]? = some x) (hLi : L[i]? = some s₀) (hs₀ : NoOwn s₀) (hb : blkC NN sc scope [(x, i)] = true) (hv : VV'.all (seenB scope) = true) (hg : GG'.all (glB scope) = true) (hx : locB scope x = true)
    (hc : ∀ g', Ok p scope NN VV' GG' k g' → ∀ d, PTs g'.X ifs (tT g'.fm g'.W (L.set i (sV false S d)) (cm d))) (he : ∀ g', Ok p scope NN VV' GG' k g' → ∀ d, EvE g' (L.set i (sV false S d)) elt md T (f d))
    (hr : ∀ d, EvB g (L.set i2 (sOwn b T d)) st D (h d)) (hs : ∀ x, foldedSetIterable it g.X.env x = pure x := by intro _; rfl) :
    EvB g L (.Assign [.Name y py] (.ListComp elt [⟨.Name x tp, it, ifs, 0⟩] scope cpos) spos :: st) D ((m.bind fun xs => compM (fun d => (cm d).bind fun c => if c = true then (f d).bind fun y => .ok (some y) else .ok none) xs).bind h) := by
  obtain ⟨e1, e2⟩ := sw_loc (elt := elt) (spos := spos) (gs := [⟨.Name x tp, it, ifs, 0⟩]) ok hy hl ha
  refine PSs.imp (pss_cons ((evl_lc2 ok.toOk hI hN hLi hs₀ hb hv hg hx hc he hs).2 hN2 e1 e2) (PSs.ex hr)) fun E σ H ⟨kp, own, at_, q⟩ => ?_
  unfold tSeq tAsg
  refine tL_iff.mpr ⟨kp, own, at_, ?_⟩
  generalize (m.bind fun xs => compM (fun d => (cm d).bind fun c => if c = true then (f d).bind fun y => .ok (some y) else .ok none) xs) = mm at q ⊢
  cases mm with
  | ok d =>
    intro v vs H' s n h' r
    obtain ⟨own', a'⟩ := at_.setOwn (i := i2) (b := b) s n h' (r.mono hbb.rb)
    exact ⟨d, kp, own', a', q⟩
  | ex c => exact BOk.exx wk at_ q
  | no => exact q
theorem evb_setC {m : M (List α)} {cm : α → M Bool} {f : α → M β} {h : List β → M δ} {i2 : Nat} (ok : OkS p sc NN VV GG k g) (hN2 : NN[i2]? = some y) (wk : Wk L g.LX) (hy : isLoc sc y = true) (hl : (py.line == cpos.line) = true) (ha : (scope.names.any fun (n, k) => n == y && (k == .local || k == .cell)) = false)
    (hI : EvI g L (.Name x tp) it S m) (hN : NN[i]? = some x) (hLi : L[i]? = some s₀) (hs₀ : NoOwn s₀) (hb : blkC NN sc scope [(x, i)] = true) (hv : VV'.all (seenB scope) = true) (hg : GG'.all (glB scope) = true) (hx : locB scope x = true)
    (hc : ∀ g', Ok p scope NN VV' GG' k g' → ∀ d, PTs g'.X ifs (tT g'.fm g'.W (L.set i (sV false S d)) (cm d))) (he : ∀ g', Ok p scope NN VV' GG' k g' → ∀ d, EvE g' (L.set i (sV false S d)) elt md T (f d))
    (hr : ∀ d, EvB g (L.set i2 (sV false (tList T) d)) st D (h d)) (hs : ∀ x, foldedSetIterable it g.X.env x = pure x := by intro _; rfl) :
    EvB g L (.Assign [.Name y py] (.ListComp elt [⟨.Name x tp, it, ifs, 0⟩] scope cpos) spos :: st) D ((m.bind fun xs => compM (fun d => (cm d).bind fun c => if c = true then (f d).bind fun y => .ok (some y) else .ok none) xs).bind h) := by
  obtain ⟨e1, e2⟩ := sw_loc (elt := elt) (spos := spos) (gs := [⟨.Name x tp, it, ifs, 0⟩]) ok hy hl ha
  refine PSs.imp (pss_cons ((evl_lc2 ok.toOk hI hN hLi hs₀ hb hv hg hx hc he hs).2 hN2 e1 e2) (PSs.ex hr)) fun E σ H ⟨kp, own, at_, q⟩ => ?_
  unfold tSeq tAsg
  refine tL_iff.mpr ⟨kp, own, at_, ?_⟩
  generalize (m.bind fun xs => compM (fun d => (cm d).bind fun c => if c = true then (f d).bind fun y => .ok (some y) else .ok none) xs) = mm at q ⊢
  cases mm with
  | ok d =>
    intro v vs H' s n h' r
    obtain ⟨own', a'⟩ := (at_.ext s).setV (i := i2) (b := false) (T := tList T) (d := d) (v := .ref v) ⟨v, vs, rfl, RX.sh (H := H) _ _ (newRX' (md := .sh) at_ n h'), r.mono fun a o z => RX.sh (H := H) a o (RX.drop1 a o z)⟩
    exact ⟨d, kp, own', a', q⟩
  | ex c => exact BOk.exx wk at_ q
  | no => exact q
theorem pureT {m : M Bool} {v : Bool} (h : EvT g L e m) (q : m = .ok v) : EvT g L e (.ok v) := q ▸ h
theorem pureW {m : M Bool} {v : Bool} (h : EvW g L e m) (q : m = .ok v) : EvW g L e (.ok v) := q ▸ h
theorem pureE {m : M α} {v : α} (h : EvE g L e md S m) (q : m = .ok v) : EvE g L e md S (.ok v) := q ▸ h
end
end Hd
namespace Hd
open PySem PySem.Spec L2
theorem fnCx {P : Program} {w : World} {K : PySem.W.Frag} {mg : Str → Option Value} {base : Heap} {CX CX' : CXT} {k : Nat} {f : Addr} {fd : FuncData} {ps : List Str} {sp : Sp} (F : FnOk P w K mg base CX k f fd ps sp)
    (h : ∀ outer H s E u s', CX outer H s E u s' → CX' outer H s E u s') : FnOk P w K mg base CX' k f fd ps sp :=
  ⟨F.len, fun A outer s H args us vs Q E hr he hb hv hs => codeAny_mono (F.run A outer s H args us vs Q E hr he hb hv hs) fun r s' q => by
    cases r with
    | error e => exact h _ _ _ _ _ _ q
    | ok fl => cases fl <;> exact q⟩
def CXw (P : Program) : CXT := fun outer H s E u s' => ∃ w, L2.CX P w outer H s E u s'
def ecName : Ec → Str
  | .weave => "WeaveError"
  | .noRow => "NoRow"
  | .tooLarge => "TooLarge"
  | .noCloth => "NoCloth"
  | .noDraft => "NoDraft"
  | .noStrand => "NoStrand"
  | .noDeed => "NoDeed"
  | .noLaying => "NoLaying"
  | .noShuttle => "NoShuttle"
  | .noColour => "NoColour"
  | .noBlock => "NoBlock"
  | .noPattern => "NoPattern"
  | .unknown => "Unknown"
  | .twice => "Twice"
theorem reps_ints {R : RdR} : ∀ ns : List Int, Reps tInt R ns (ns.map V.int)
  | [] => .nil
  | n :: r => .cons rfl (reps_ints r)
theorem law_end {l : PySem.W.OpenLaw} {k : Nat} {q : Program} {loose : List Str} {XP : (Str → Option Value) → Heap → Prop} {YP : World → Heap → Prop} {d : DefRec} {cl : List Int × Unit → M Bool}
    (hn : l.most = some 63) (hdf : d.params.defaults = []) (hr : Room k callerA)
    (F : ∀ (w : World) (mg : Str → Option Value) (fa : Addr) (h : Heap), YP w h → h.Ns mainGlobals mg → mg d.name = some (.ref fa) →
      ∃ (K : PySem.W.Frag) (fd : FuncData) (C : Ec → Addr), K.In h ∧ (∀ (s : Shared) (u : Value), BindsTo s fd ⟨[u], []⟩ [("script", u)]) ∧
        ∀ base : Heap, FnOk l.prog w K mg base (L2.CX l.prog w) k fa fd ["script"] (spM ⟨l.prog, w, K, mg, base, C, none⟩ (aCons (tListK K tInt) aNil) (fun r => .rt false tBool r) cl))
    (math : ∀ ns : List Int, ns.length ≤ 63 → cl (ns, ()) = .ok true) : PySem.W.WalkO q loose XP YP l.row.toRowW d [] (fun f vs => PySem.call f vs) := by
  refine L2.walk_ofE (CX := CXw l.prog) (x := "script") (k := k) hn (by decide) hdf hr (fun w mg fa h Y G hm => ?_) (fun H s e s' z => ?_)
  · obtain ⟨K, fd, C, KX, hb, hF⟩ := F w mg fa h Y G hm
    refine ⟨K, fd, spM ⟨l.prog, w, K, mg, h, C, none⟩ (aCons (tListK K tInt) aNil) (fun r => .rt false tBool r) cl, KX, hb, fun H a ns hl hO hS => ?_, fun base _ _ => fnCx (hF base) fun _ _ _ _ _ _ z => ⟨w, z⟩⟩
    refine ⟨(ns, ()), fun _ => False, ⟨fun _ z => z.elim, fun P e => nomatch e⟩, ⟨.ref a, [], rfl, ⟨a, ns.map V.int, rfl, hS.imp (fun r => .inl ⟨Rd.clo r, (fun z => nomatch z), fun z => z⟩) id, reps_ints ns⟩, rfl⟩, ?_⟩
    rw [math ns hl]
    exact fun v H' s r => r
  · obtain ⟨w, a, B, H', cls, d, _, _, _, _, _, _, _, z⟩ := z
    exact z
theorem exF {K : PySem.W.Frag} {h : Heap} {mg : Str → Option Value} {P : Program} {w : World} {base : Heap} {T : Option Addr} (X : K.In h) (G : h.Ns mainGlobals mg) {x : Str} {c : Ec} (e : ecName c = x) (c1 : (He.Fa.glo x).ok K = true) (c2 : (He.Fa.exc x).ok K = true) : ExF ⟨P, w, K, mg, base, fun c => He.ga K (ecName c), T⟩ x c := by
  subst e
  obtain ⟨h1, h2, h3, h4⟩ := He.exc_ok c2
  exact ⟨h1, He.glo_ok X G c1, h2, h3, h4⟩
theorem L2_bindsA {K : PySem.W.Frag} {x qual : Str} {params : Arguments} {body : List Stmt} {scope : Scope} {f : Addr} {fd : FuncData} (F : FunD K x qual params body scope [] [] f fd) (s : Shared) (v : Value)
    (h : ∀ (kV doc pm : Value) (an : Option Addr) (cdv ct : Value) (us : List Value), us.length = (["script"] : List Str).length → bindArgs (PySem.W.fnOf x qual params body scope .none kV doc pm an cdv ct) ⟨us, []⟩ = pure ((["script"] : List Str).zip us) := by
      exact fun _ _ _ _ _ _ us hl => match us, hl with | [_], _ => rfl) : BindsTo s fd ⟨[v], []⟩ [("script", v)] := F.bindsA (ps := ["script"]) h s [v] rfl
end Hd
namespace Hd
open PySem PySem.Spec L2
section
variable {p : Pr} {sc : Scope} {NN VV GG VV' GG' : List Str} {k : Nat} {g : G} {L L' : List Slot} {a b c e e' : Expr} {es : List Expr} {md md' : Md} {α β γ δ ρ : Type} {S : Ty α} {T : Ty β} {U : Ty γ} {A : Ar δ} {pos : Pos} {K : PySem.W.Frag} {tg : Expr} {i j : Nat} {x : Str} {pp : Pos}
theorem ev_ixOwn {bb : Bool} {ds : List α} {mi : M Int} {npos : Pos} (ok : Ok p sc NN VV GG k g) (hN : NN[i]? = some x) (hV : VV[j]? = some x) (hL : L[i]? = some (sOwn bb S ds)) (hb : EvE g L b .sh tInt mi) (hs : PlainIx b := by exact fun _ _ => rfl) :
    EvE g L (.Subscript (.Name x npos) b pos) .sh S (mi.bind fun i => getM ds i) := by
  obtain ⟨hv, ho⟩ := ok.vis hV
  obtain ⟨h1, h2, _⟩ := okName_d ho
  refine PE.imp (pe_ix ix_list (pe_var (i := i) (by rw [ok.N]; exact hN) hv h1 h2) hb hs) fun σ H Q q => ?_
  obtain ⟨kp, own, at_, q⟩ := tE_iff.mp q
  obtain ⟨Fs, hA, rfl⟩ := at_.sl
  obtain ⟨v, F, e1, e2, pp, vs, rfl, rfl, hp, r⟩ := hA.get hL
  refine ⟨_, e1, sub finE (Same.refl H) at_ q fun n y H2 s2 r2 at2 q2 => ?_⟩
  unfold getM at q2
  cases hj : L2.atI ds n with
  | none => rw [hj] at q2; exact q2.elim
  | some u =>
    rw [hj] at q2
    obtain ⟨w, w1, w2⟩ := r.at hj
    refine ⟨pp, vs, n, w, rfl, r2, .inl (.inl (s2.keep _ _ hp rfl)), w1, q2 w H2 s2 (S.mono w2 fun a o z => ?_)⟩
    have z1 : RX g.fm Fs.flatten H H (if bb then .f0 else .sh) a o := z
    exact RX.same s2 a o (RX.sh a o z1)
variable {Q : Ty (List α)}
variable {Q2 : Ty (List β)}
structure DeepA (A : Ar δ) where
  pd : δ → List PyData
  dp : Nat
  rep : ∀ {K d vs R H}, Rdb K R H → A.rep d vs R → DpAll K H vs (pd d) ∧ PyData.canLayAll0 (pd d) = true
  dep : ∀ d, PyData.depthAll (pd d) ≤ dp
  eqv : ∀ d e, PyData.eqvAll (pd d) (pd e) = true ↔ d = e
def dNil : DeepA aNil := ⟨fun _ => [], 0, fun rb h => by cases (show _ = [] from h); exact ⟨.nil, rfl⟩, fun _ => by simp [PyData.depthAll], fun d e => by simp [PyData.eqvAll]⟩
def dCons (D : Deep S) (E : DeepA A) : DeepA (aCons S A) := ⟨fun d => D.pd d.1 :: E.pd d.2, max D.dp E.dp, fun {K d vs R H} rb ⟨v, r, e, h1, h2⟩ => by
    subst e
    obtain ⟨a1, a2⟩ := D.rep rb h1
    obtain ⟨b1, b2⟩ := E.rep rb h2
    exact ⟨.cons a1 b1, by simp only [PyData.canLayAll0, a2, b2, Bool.and_self]⟩, fun d => by
    have h1 := D.dep d.1
    have h2 := E.dep d.2
    simp only [PyData.depthAll]
    omega, fun d e => by
    simp only [PyData.eqvAll, Bool.and_eq_true, D.eqv, E.eqv]
    exact ⟨fun h => Prod.ext h.1 h.2, fun h => by rw [h]; exact ⟨rfl, rfl⟩⟩⟩
def dTup (E : DeepA A) : Deep (tTup A) := ⟨fun d => .tuple (E.pd d), E.dp + 1, fun {K ds v R H} rb ⟨a, vs, e, h, r⟩ => by
    subst e
    obtain ⟨h1, h2⟩ := E.rep rb r
    exact ⟨.tup ((rb _ _ h rfl).imp id id) h1, h2⟩, fun ds => by simp only [PyData.depth]; have := E.dep ds; omega, fun d e => by
    simp only [PyData.eqv]
    exact E.eqv d e⟩
structure ChI (op : CmpOp) (f : Int → Int → Bool) : Prop where
  ex : ∀ {K : PySem.W.Frag} {X : Cx}, ∃ r, OpR X (compareOp op) r ∧ Op2 K r tInt tInt tBool (fun x y => .ok (f x y)) false
theorem ch_lt : ChI .Lt (fun x y => decide (x < y)) := ⟨⟨_, op_lt, ⟨fun rb rx ry q => ⟨_, _, rx, ry, q _ _ (Same.refl _) rfl⟩⟩⟩⟩
theorem ch_le : ChI .LtE (fun x y => decide (x ≤ y)) := ⟨⟨_, op_le, ⟨fun rb rx ry q => ⟨_, _, rx, ry, q _ _ (Same.refl _) rfl⟩⟩⟩⟩
theorem evt_chainI {op op' : CmpOp} {f f' : Int → Int → Bool} {m1 m2 m3 : M Int} {d1 d2 d3 : Int} (ok : Ok p sc NN VV GG k g) (F : ChI op f) (F' : ChI op' f') (ha : EvE g L a md tInt m1) (hb : EvE g L b md tInt m2) (hc : EvE g L c md tInt m3) (e1 : m1 = .ok d1) (e2 : m2 = .ok d2) (e3 : m3 = .ok d3)
    (hm : lastMarks [op, op'] [b, c] = false := by with_unfolding_all rfl) : EvT g L (.Compare a [op, op'] [b, c] pos) (.ok (f d1 d2 && f' d2 d3)) := by
  subst e1; subst e2; subst e3
  obtain ⟨r, h1, h2⟩ := F.ex (K := p.K) (X := g.X)
  obtain ⟨r', h1', h2'⟩ := F'.ex (K := p.K) (X := g.X)
  exact evt_chain ok h1 h1' h2 h2' ha hb hc hm
variable {st : List Stmt} {D : δ → Out} {d : δ}
theorem evb_extend {bb : Bool} {ds : List α} {m : M (List α)} {f : List α → M δ} {p1 ap cp : Pos} (ok : OkS p sc NN VV GG k g) (wk : Wk L g.LX) (hN : NN[i]? = some x) (hV : VV[j]? = some x) (hL : L[i]? = some (sOwn bb S ds)) (hb : SlB md bb)
    (he : EvE g L e md (tList S) m) (hr : ∀ ds', EvB g (L.set i (sOwn bb S ds')) st D (f ds'))
    (hs : swapsWith (.Call (.Attribute (.Name x p1) "extend" ap) [e] [] cp) none pos.line g.X.env = pure false := by rfl)
    (hbase : attributeBase (.Name x p1) "extend" g.X.env (eval (.Name x p1) g.X.env) = eval (.Name x p1) g.X.env := by rfl)
    (hfew : ((backTo cp (starEach [e] g.X.env)).all (fun x => !x.1) && (backToKw cp (keywordEach [] g.X.env)).all (fun x => x.1.isSome)
      && decide (([e] : List Expr).length + ([] : List Keyword).length + (if ([] : List Keyword).isEmpty then 0 else 1) < 30)) = true := by rfl)
    (hline : (ap.endLine == cp.line) = true := by rfl) (hst : starEach [e] g.X.env = (false, eval e g.X.env) :: starEach [] g.X.env := by rfl) (hpl : (backTo cp (starEach [] g.X.env)).any (·.1) = false := by rfl) :
    EvB g L (.Expr (.Call (.Attribute (.Name x p1) "extend" ap) [e] [] cp) pos :: st) D (m.bind fun d => (catL ds d).bind f) := by
  obtain ⟨hv, ho⟩ := ok.vis hV
  obtain ⟨h1, h2, _⟩ := okName_d ho
  refine PSs.imp (pss_cons (ps_expr (pe_bm PySem.F.plainAttrs_list PySem.F.slot_list_extend PySem.F.type_list_extend mt_extR (pe_var (i := i) (by rw [ok.N]; exact hN) hv h1 h2) (pa_cons he pa_nil hst) (hbase := hbase) (hfew := hfew) (hline := hline) (hs := hst) (hplain := hpl)) hs) (PSs.ex hr)) fun E σ H ⟨kp, own, at_, q⟩ => ?_
  obtain ⟨p', vs, e1, hp, r, mu⟩ := at_.mut hL
  refine ⟨_, e1, Or.inl ⟨rfl, _, SqL.of hp⟩, tE_iff.mpr ⟨kp, own, at_, ?_⟩⟩
  cases m with
  | ok d =>
    rintro v H1 s1 ⟨ad, ws, rfl, h3, r3⟩
    have a1 := at_.ext s1
    obtain ⟨p2, vs2, e12, hp2, rr2, mu2⟩ := a1.mut hL
    rw [e1] at e12
    cases e12
    have q : BOk g kp E D ((catL ds d).bind f) := q
    unfold catL at q
    split at q
    · rename_i hlt
      have rb : Rdb g.fm.K (RX g.fm own H H1 md) H1 := RX.rdb
      refine ⟨_, ad, vs2, ws, rfl, rfl, hp2, rd_of rb h3, by rw [← rr2.length, ← r3.length]; exact hlt, ds ++ d, kp, own, mu2 _ _ (rr2.append (r3.mono hb.rb)), q⟩
    · exact q.elim
  | ex c => exact BOk.exx wk at_ q
  | no => exact q
end
end Hd
namespace Hd
open PySem PySem.Spec L2
section
end
section
end
end Hd
namespace Hd
open PySem PySem.Spec L2
section
end
end Hd
namespace Hd
open PySem PySem.Spec L2
section
variable {p : Pr} {sc : Scope} {NN VV GG VV' GG' : List Str} {k : Nat} {g : G} {L L' : List Slot} {a b c e e' : Expr} {es : List Expr} {md md' : Md} {α β γ δ ρ : Type} {S : Ty α} {T : Ty β} {U : Ty γ} {A : Ar δ} {pos : Pos} {K : PySem.W.Frag} {tg : Expr} {i j : Nat} {x : Str} {pp : Pos}
variable {st : List Stmt} {D : δ → Out} {d : δ}
def tAny : Ty Unit := ⟨fun _ _ _ => True, fun h _ => h⟩
end
end Hd
namespace Hd
open PySem PySem.Spec L2
end Hd
namespace Hd
open PySem PySem.Spec L2
section
variable {p : Pr} {sc : Scope} {NN VV GG : List Str} {k : Nat} {g : G} {α : Type} {S : Ty α}
def memD {α : Type} [DecidableEq α] (x : α) (xs : List α) : Bool := decide (x ∈ xs)
variable {L : List Slot} {a b : Expr} {md md' : Md} {pos : Pos}
theorem evt_isN {m : M (Option α)} {j1 : Nat} {p1 : Pos} (ok : Ok p sc NN VV GG k g) (ha : EvE g L a md (tOpt S) m) : EvT g L (.Compare a [.Is] [.Constant .none j1 p1] pos) (m.bind fun d => .ok d.isNone) := by
  have h := evt_cmp (fr := true) (pos := pos) (S := tOpt S) (T := tNone) (f := fun d _ => .ok d.isNone) ok op_isN ⟨fun {d e x y R H W} rb rx ry q => ⟨ry, q _ _ (Same.refl _) (by
    show _ = V.bl _
    cases d with
    | none => cases (show x = .non from rx); rfl
    | some d => rw [decide_eq_false rx.2]; rfl)⟩⟩ (fun _ _ _ h => nomatch h) ha (ev_none (j := j1) (pos := p1)) (by first | exact nomark _ (by decide) (by decide) | rfl)
  have e : (m.bind fun d => (M.ok ()).bind fun _ => M.ok d.isNone) = m.bind fun d => .ok d.isNone := by cases m <;> rfl
  rwa [e] at h
theorem evt_notN {m : M (Option α)} {j1 : Nat} {p1 : Pos} (ok : Ok p sc NN VV GG k g) (ha : EvE g L a md (tOpt S) m) : EvT g L (.Compare a [.IsNot] [.Constant .none j1 p1] pos) (m.bind fun d => .ok d.isSome) := by
  have h := evt_cmp (fr := true) (pos := pos) (S := tOpt S) (T := tNone) (f := fun d _ => .ok d.isSome) ok op_notN ⟨fun {d e x y R H W} rb rx ry q => ⟨ry, q _ _ (Same.refl _) (by
    show _ = V.bl _
    cases d with
    | none => cases (show x = .non from rx); rfl
    | some d => rw [decide_eq_false rx.2]; rfl)⟩⟩ (fun _ _ _ h => nomatch h) ha (ev_none (j := j1) (pos := p1)) (by first | exact nomark _ (by decide) (by decide) | rfl)
  have e : (m.bind fun d => (M.ok ()).bind fun _ => M.ok d.isSome) = m.bind fun d => .ok d.isSome := by cases m <;> rfl
  rwa [e] at h
theorem evt_notinS {m1 m2 : M Tx} (ok : Ok p sc NN VV GG k g) (ha : EvE g L a md tStr m1) (hb : EvE g L b md tStr m2) (hk : behindInMarks .NotIn b = false := by first | exact nomark _ (by decide) (by decide) | rfl) : EvT g L (.Compare a [.NotIn] [b] pos) (m1.bind fun x => m2.bind fun y => notinSM x y) :=
  evt_cmp (fr := true) ok op_notIn_sign ⟨fun {d e x y R H Q} rb rx ry q => by
    unfold notinSM at q
    split at q
    · rename_i c
      exact ⟨c, toS e, rx.1, ry.1, q _ _ (Same.refl _) (by show V.bl _ = V.bl _; rw [show (toS e).cps.toList = e from tl_toS e])⟩
    · exact q.elim⟩ (fun _ _ _ => notinSM_ne) ha hb hk
end
end Hd
namespace Hd
open PySem PySem.Spec L2
section
end
end Hd
namespace Hd
open PySem PySem.Spec PyProof.Rows L2
section
variable {p : Pr} {sc : Scope} {NN VV GG : List Str} {k : Nat} {g : G} {L : List Slot} {a b e tg : Expr} {md md' : Md} {pos pp : Pos} {j : Nat} {α β δ : Type} {S : Ty α} {T : Ty β} {A : Ar δ}
theorem ev_lenT {n : Nat} {m : M δ} (ok : Ok p sc NN VV GG k g) (hA : ∀ {d vs R}, A.rep d vs R → vs.length = n) (hG : GG[j]? = some "len") (hmg : p.mg "len" = none) (ha : EvE g L e md (tTup A) m) (hs : starEach [e] g.X.env = (false, eval e g.X.env) :: starEach [] g.X.env := by rfl) : EvE g L (.Call (.Name "len" pp) [e] [] pos) md' tInt (m.bind fun _ => .ok (n : Int)) :=
  ev_b1 (S := tTup A) (fr := true) ok call_len_seq (fun {d v R H W} rb ⟨a, vs, e, h, r⟩ q => by
    exact ⟨a, vs, by rw [e], .inr (by rw [ok.K]; exact st_of rb h), q _ _ (Same.refl _) (by show _ = V.int _; rw [hA r])⟩) (fun _ _ h => nomatch h) .fresh hG hmg PySem.boot_len ha hs
structure HomA (A : Ar δ) (S : Ty α) (f : δ → List α) : Prop where
  r : ∀ {d vs R}, A.rep d vs R → Reps S R (f d) vs
theorem hom0 : HomA aNil S (fun _ => []) := ⟨fun {d vs R} h => by cases (show vs = [] from h); exact .nil⟩
theorem homS {f : δ → List α} (h : HomA A S f) : HomA (aCons S A) S (fun d => d.1 :: f d.2) := ⟨fun {d vs R} q => by
  obtain ⟨v, r, e, h1, h2⟩ := q
  subst e
  exact .cons h1 (h.r h2)⟩
end
end Hd
namespace Hd
open PySem PySem.Spec PyProof.Rows L2
section
end
end Hd
namespace Hd
open PySem PySem.Spec PyProof.Rows L2
section
end
end Hd
namespace Hd
open PySem PySem.Spec PyProof.Rows L2
section
end
end Hd
set_option maxHeartbeats 1000000
namespace Hd
open PySem PySem.Spec PyProof.Rows L2 RT
def IsRs (h : Heap) (a : Addr) (x : Str) (u : Tok) (i : Int) : Prop := ∃ o, h.get? a = some o ∧ o.cls = .type "reversed" ∧ o.data = .fields #[.str x u, rawInt i]
theorem IsRs.at {h h' : Heap} {a : Addr} {x : Str} {u : Tok} {i : Int} (y : IsRs h a x u i) (e : ∀ o, h.get? a = some o → h'.get? a = some o) : IsRs h' a x u i := let ⟨o, ho, r⟩ := y; ⟨o, e _ ho, r⟩
section
variable {prog : Program} {w : World} {A : Around} {E : Value → Shared → Prop} {s : Shared} {x : Str} {u : Tok}
theorem IsRs.typeIs {a : Addr} {i : Int} (y : IsRs s.heap a x u i) : s.TypeIs (.ref a) "reversed" := let ⟨o, ho, hc, _⟩ := y; ⟨o, ho, hc⟩
end
section
end
end Hd
namespace Hd
open PySem PySem.Spec PyProof.Rows L2
section
end
end Hd
namespace Hd
open PySem PySem.Spec PyProof.Rows L2
section
variable {p : Pr} {sc : Scope} {NN VV GG : List Str} {k : Nat} {g : G} {L : List Slot} {α β δ : Type} {S : Ty α} {T : Ty β} {md md' : Md} {pos : Pos} {st : List Stmt} {D : δ → Out} {i j : Nat} {x : Str} {a b c e : Expr}
inductive KReps {α : Type} (T : Ty α) (R : RdR) : List (Key × α) → List (Key × V) → Prop where
  | nil : KReps T R [] []
  | cons {k d v ds vs} : T.rep d v R → KReps T R ds vs → KReps T R ((k, d) :: ds) ((k, v) :: vs)
theorem KReps.mono {R R' : RdR} {ds : List (Key × α)} {vs : List (Key × V)} (h : KReps S R ds vs) (s : ∀ a o, R a o → R' a o) : KReps S R' ds vs := by
  induction h with
  | nil => exact .nil
  | cons r _ ih => exact .cons (S.mono r s) ih
theorem KReps.length {R : RdR} {ds : List (Key × α)} {vs : List (Key × V)} (h : KReps S R ds vs) : ds.length = vs.length := by
  induction h with
  | nil => rfl
  | cons r _ ih => simp [ih]
/-- what stands at a key -/
def dgetL {α : Type} (ds : List (Key × α)) (k : Key) : Option α := (ds.find? fun kv => decide (kv.1 = k)).map (·.2)
def dputL {α : Type} (ds : List (Key × α)) (k : Key) (d : α) : List (Key × α) := if (ds.any fun kv => decide (kv.1 = k)) = true then ds.map (fun kv => if kv.1 = k then (kv.1, d) else kv) else ds ++ [(k, d)]
theorem KReps.get {R : RdR} {ds : List (Key × α)} {vs : List (Key × V)} (h : KReps S R ds vs) (k : Key) : (dgetL ds k = none ∧ valV vs k = none) ∨ ∃ d v, dgetL ds k = some d ∧ valV vs k = some v ∧ S.rep d v R := by
  induction h with
  | nil => exact .inl ⟨rfl, rfl⟩
  | @cons k' d v ds vs r _ ih =>
    by_cases e : k' = k
    · exact .inr ⟨d, v, by simp [dgetL, List.find?_cons, e], valV_pos e, r⟩
    · have e1 : dgetL ((k', d) :: ds) k = dgetL ds k := by simp [dgetL, List.find?_cons, e]
      rw [e1, valV_neg e]
      exact ih
theorem KReps.map {R : RdR} {ds : List (Key × α)} {vs : List (Key × V)} (h : KReps S R ds vs) (k : Key) {d : α} {v : V} (r : S.rep d v R) : KReps S R (ds.map (fun kv => if kv.1 = k then (kv.1, d) else kv)) (vs.map (fun kv => if kv.1 = k then (kv.1, v) else kv)) := by
  induction h with
  | nil => exact .nil
  | @cons k' d' v' ds vs r' _ ih =>
    rw [List.map_cons, List.map_cons]
    by_cases e : k' = k
    · simp only [if_pos e]; exact .cons r ih
    · simp only [if_neg e]; exact .cons r' ih
theorem KReps.any {R : RdR} {ds : List (Key × α)} {vs : List (Key × V)} (h : KReps S R ds vs) (k : Key) : (ds.any fun kv => decide (kv.1 = k)) = (vs.any fun kv => decide (kv.1 = k)) := by
  induction h with
  | nil => rfl
  | cons r _ ih => rw [List.any_cons, List.any_cons, ih]
theorem KReps.snoc {R : RdR} {ds : List (Key × α)} {vs : List (Key × V)} (h : KReps S R ds vs) (k : Key) {d : α} {v : V} (r : S.rep d v R) : KReps S R (ds ++ [(k, d)]) (vs ++ [(k, v)]) := by
  induction h with
  | nil => exact .cons r .nil
  | cons r' _ ih => exact .cons r' ih
theorem KReps.put {R : RdR} {ds : List (Key × α)} {vs : List (Key × V)} (h : KReps S R ds vs) (k : Key) {d : α} {v : V} (r : S.rep d v R) : KReps S R (dputL ds k d) (putK vs k v) := by
  unfold dputL putK
  rw [h.any k]
  split
  · exact h.map k r
  · exact h.snoc k r
def sDict {α : Type} (b : Bool) (T : Ty α) (ds : List (Key × α)) : Slot := ⟨fun v H R F => ∃ p xs, v = some (.ref p) ∧ F = [p] ∧ H p = some (.dK xs) ∧ KReps T (R b) ds xs,
  fun ⟨p, xs, e, f, h, r⟩ s k => ⟨p, xs, e, f, by rw [k p (by simp [f])]; exact h, r.mono (s b)⟩, fun ⟨p, xs, e, f, h, r⟩ q hq => by subst f; rw [List.mem_singleton.mp hq, cl_of h]; exact fun z => nomatch z⟩
theorem At.mutD {fm : Fm} {kp : RdR} {σ : L2.St} {H : Hp} {own : List Addr} {b : Bool} {ds : List (Key × α)} {i : Nat} (h : At fm kp L σ H own) (hL : L[i]? = some (sDict b S ds)) :
    ∃ p vs, σ[i]? = some (some (.ref p)) ∧ H p = some (.dK vs) ∧ KReps S (RB fm own H b) ds vs ∧ ∀ ds' vs', KReps S (RB fm own H b) ds' vs' → At fm kp (L.set i (sDict b S ds')) σ (upd H p (.dK vs')) own := by
  obtain ⟨h1, h2, ⟨Fs, h3, rfl⟩, h4, h5, h6⟩ := h
  obtain ⟨v, F, e1, e2, q, vs, rfl, rfl, hp, r⟩ := h3.get hL
  have qin : q ∈ Fs.flatten := List.mem_flatten.mpr ⟨[q], List.mem_of_getElem? e2, by simp⟩
  refine ⟨q, vs, e1, hp, r, fun ds' vs' r' => ?_⟩
  have key : ∀ (md : Md) a o, RX fm Fs.flatten H H md a o → RX fm Fs.flatten (upd H q (.dK vs')) (upd H q (.dK vs')) md a o ∨ md = .fx := fun md a o z => by
    cases md with
    | sh =>
      rcases z with z | z
      · have n : a ≠ q := fun e => z.2.1 (by rw [e]; exact qin)
        refine .inl (.inl ⟨?_, z.2⟩)
        unfold Rd
        rw [cl_upd_ne n]
        exact z.1
      · exact .inl (.inr z)
    | f0 =>
      have n : a ≠ q := fun e => z.2.1 (by rw [e]; exact qin)
      exact .inl ⟨by rw [cl_upd_ne n]; exact z.1, z.2⟩
    | fx => exact .inr rfl
  have keyB : ∀ (b : Bool) a o, RB fm Fs.flatten H b a o → RB fm Fs.flatten (upd H q (.dK vs')) b a o := fun b a o z => by
    cases b with
    | false => exact (key .sh a o z).resolve_right (fun e => nomatch e)
    | true => exact (key .f0 a o z).resolve_right (fun e => nomatch e)
  have up : ∀ a, H a ≠ none → upd H q (.dK vs') a ≠ none := fun a n => by
    by_cases e : a = q
    · rw [e, upd_same]; exact fun z => by cases z
    · rw [upd_ne e]; exact n
  refine ⟨h1.wr (h5 q qin).2.1 hp (fun _ z => nomatch z) rfl, fun a z => up a (h2 a z), ⟨Fs, ?_, rfl⟩, h4, fun x hx => ⟨up x (h5 x hx).1, (h5 x hx).2⟩, fun a o z => (key .sh a o (h6 a o z)).resolve_right (fun e => nomatch e)⟩
  · -- the slots
    have gen : ∀ {L : List Slot} {σ : L2.St} {Fs' : List (List Addr)}, AllS H (RB fm Fs.flatten H) L σ Fs' → Fs'.flatten.Nodup → ∀ {i : Nat}, Fs'[i]? = some [q] → L[i]? = some (sDict b S ds) → σ[i]? = some (some (V.ref q)) →
        AllS (upd H q (.dK vs')) (RB fm Fs.flatten (upd H q (.dK vs'))) (L.set i (sDict b S ds')) σ Fs' := by
      intro L σ Fs' hA
      induction hA with
      | nil => intro _ i e _ _; simp at e
      | @cons sl L v σ F Fs' r t ih =>
        intro nd i e eL eσ
        rw [List.flatten_cons, List.nodup_append] at nd
        cases i with
        | zero =>
          simp at e eL eσ
          subst e; subst eL; subst eσ
          refine .cons ⟨q, vs', rfl, rfl, upd_same, r'.mono (keyB b)⟩ (t.st keyB fun x hx => ?_)
          exact upd_ne fun z => nd.2.2 q (by simp) x hx z.symm
        | succ i =>
          have e' : Fs'[i]? = some [q] := by simpa using e
          refine .cons (sl.st r keyB fun x hx => upd_ne fun z => nd.2.2 x hx q (List.mem_flatten.mpr ⟨[q], List.mem_of_getElem? e', by simp⟩) z) (ih nd.2.1 e' (by simpa using eL) (by simpa using eσ))
    exact gen h3 h4 e2 hL e1
theorem At.setOwnD {fm : Fm} {kp : RdR} {σ : L2.St} {H H' : Hp} {own : List Addr} {b : Bool} {ds : List (Key × α)} {vs : List (Key × V)} {q : Addr} (h : At fm kp L σ H own) (s : Same H H') (hn : H q = none) (h' : H' q = some (.dK vs))
    (r : KReps S (RB fm (q :: own) H' b) ds vs) : ∃ own', At fm kp (L.set i (sDict b S ds)) (σ.set i (some (.ref q))) H' own' := by
  obtain ⟨h1, h2, ⟨Fs, h3, rfl⟩, h4, h5, h6⟩ := h
  have hq : q ∉ Fs.flatten := fun z => (h5 q z).1 hn
  have sub : ∀ x ∈ (Fs.set i [q]).flatten, x ∈ q :: Fs.flatten := fun x hx => (set_own x hx).elim (fun e => by rw [e]; exact List.mem_cons_self) (List.mem_cons_of_mem _)
  have key : ∀ (md : Md) a o, RX fm Fs.flatten H H md a o → RX fm (Fs.set i [q]).flatten H H' md a o := fun md a o z => by
    refine RX.own sub a o ?_
    have z1 := RX.add (o' := .lst []) hn a o z
    have na : a ≠ q ∨ KObj fm.K a o := by
      rcases RX.sh a o z with z | z
      · exact .inl fun e => Rd.some z.1 (by rw [e]; exact cl_none hn)
      · exact .inr z
    cases md with
    | sh =>
      rcases z1 with z1 | z1
      · rcases z with z | z
        · exact .inl ⟨Rd.same s z.1, z1.2⟩
        · exact .inr z
      · exact .inr z1
    | f0 => exact ⟨s.cl _ _ z.1, z1.2⟩
    | fx => exact ⟨s.cl _ _ z.1, z1.2⟩
  have keyB : ∀ (b : Bool) a o, RB fm Fs.flatten H b a o → RB fm (Fs.set i [q]).flatten H' b a o := fun b a o z => by
    cases b with
    | false => exact key .sh a o z
    | true => exact key .f0 a o z
  refine ⟨_, h1.trans s, fun a z n => h2 a z (s.free n), ⟨Fs.set i [q], (h3.st (H' := H') keyB fun p hp => ?_).set (s := sDict b S ds) ⟨q, vs, rfl, rfl, h', r.mono fun a o z => ?_⟩ i, rfl⟩, set_own_nd hq h4, fun p hp => ?_, fun a o z => key .sh a o (h6 a o z)⟩
  · cases e : cl H p with
    | none => exact absurd e (h3.tb p hp)
    | some u => rw [cl_raw e]; exact s.keep _ _ (cl_raw e) (cl_nt e)
  · cases b <;> exact RX.own sub a o z
  · rcases set_own p hp with rfl | hp
    · exact ⟨by rw [h']; exact (fun z => by cases z), h1.free hn, fun z => h2 _ z hn⟩
    · exact ⟨fun e => (h5 p hp).1 (s.free e), (h5 p hp).2⟩
theorem evb_newD {f : List (Key × α) → M δ} {pos' pd : Pos} (ok : OkS p sc NN VV GG k g) (hN : NN[i]? = some x) (hV : VV[j]? = some x) (hr : ∀ ds, EvB g (L.set i (sDict false S ds)) st D (f ds))
    (hs : ∀ Y : Cx, swapsWith (.Dict [] [] pd) (some (.Name x pos')) pos.line Y.env = pure false := by intro _; rfl) : EvB g L (.Assign [.Name x pos'] (.Dict [] [] pd) pos :: st) D ((M.ok ([] : List (Key × α))).bind f) := by
  refine PSs.imp (pss_cons (ps_set (i := i) (by rw [ok.N]; exact ok.nd) (by rw [ok.N]; exact hN) (ok.loc hV) pe_dnewK (hs _) (okS_fn ok)) (PSs.ex hr)) fun E σ H ⟨kp, own, at_, q⟩ => ?_
  intro q' hq'
  obtain ⟨own', a'⟩ := at_.setOwnD (S := S) (i := i) (b := false) (ds := []) (vs := []) (newSame hq') hq' upd_same .nil
  exact ⟨[], kp, own', a', q⟩
def dputM {α : Type} (ds : List (Key × α)) (k : Key) (d : α) : M (List (Key × α)) := if ds.length < sizeLine then .ok (dputL ds k d) else .no
end
end Hd
namespace Hd
open PySem PySem.Spec PyProof.Rows L2
section
variable {p : Pr} {sc : Scope} {NN VV GG : List Str} {k : Nat} {g : G} {L : List Slot} {α β δ : Type} {S : Ty α} {T : Ty β} {md md' : Md} {pos : Pos} {st : List Stmt} {D : δ → Out} {i j : Nat} {x : Str} {a b c e : Expr}
theorem KReps.some {R : RdR} {ds : List (Key × α)} {vs : List (Key × V)} (h : KReps S R ds vs) (k : Key) : (valV vs k).isSome = (dgetL ds k).isSome := by
  rcases h.get k with ⟨g1, g2⟩ | ⟨d, v, g1, g2, _⟩ <;> rw [g1, g2] <;> rfl
def getDM {α : Type} (ds : List (Key × α)) (k : Key) : M α := match dgetL ds k with
  | some d => .ok d
  | none => .no
/-- n in d, a dict of one's own -/
theorem evt_inOwn {bb : Bool} {ds : List (Key × α)} {m1 : M Int} {npos : Pos} (ok : Ok p sc NN VV GG k g) (hN : NN[i]? = some x) (hV : VV[j]? = some x) (hL : L[i]? = some (sDict bb S ds)) (ha : EvE g L a .sh tInt m1)
    (hk : behindInMarks .In (.Name x npos) = false := by first | exact nobehind _ (by decide) (by decide) | rfl) : EvT g L (.Compare a [.In] [.Name x npos] pos) (m1.bind fun n => .ok (dgetL ds (.inl n)).isSome) := by
  obtain ⟨hv, ho⟩ := ok.vis hV
  obtain ⟨h1, h2, _⟩ := okName_d ho
  refine PT.imp (pt_cmp (pc_din (by have := ok.room.un; omega) ha (pe_var (i := i) (by rw [ok.N]; exact hN) hv h1 h2)) hk) fun σ H Q q => ?_
  obtain ⟨kp, own, at_, q⟩ := tT_iff.mp q
  obtain ⟨Fs, hA, rfl⟩ := at_.sl
  obtain ⟨v, F, e1, e2, pp, vs, rfl, rfl, hp, r⟩ := hA.get hL
  refine sub finT (Same.refl H) at_ q fun n y H2 s2 r2 at2 q2 => ?_
  cases (show y = .int n from r2)
  refine ⟨_, e1, pp, _, rfl, DGet.k (k := .inl n) (s2.keep _ _ hp rfl), _, rfl, ?_⟩
  rw [r.some]
  exact q2 H2 s2
theorem evt_notinOwn {bb : Bool} {ds : List (Key × α)} {m1 : M Int} {npos : Pos} (ok : Ok p sc NN VV GG k g) (hN : NN[i]? = some x) (hV : VV[j]? = some x) (hL : L[i]? = some (sDict bb S ds)) (ha : EvE g L a .sh tInt m1)
    (hk : behindInMarks .NotIn (.Name x npos) = false := by first | exact nobehind _ (by decide) (by decide) | rfl) : EvT g L (.Compare a [.NotIn] [.Name x npos] pos) (m1.bind fun n => .ok (!(dgetL ds (.inl n)).isSome)) := by
  obtain ⟨hv, ho⟩ := ok.vis hV
  obtain ⟨h1, h2, _⟩ := okName_d ho
  refine PT.imp (pt_cmp (pc_dnotin (by have := ok.room.un; omega) ha (pe_var (i := i) (by rw [ok.N]; exact hN) hv h1 h2)) hk) fun σ H Q q => ?_
  obtain ⟨kp, own, at_, q⟩ := tT_iff.mp q
  obtain ⟨Fs, hA, rfl⟩ := at_.sl
  obtain ⟨v, F, e1, e2, pp, vs, rfl, rfl, hp, r⟩ := hA.get hL
  refine sub finT (Same.refl H) at_ q fun n y H2 s2 r2 at2 q2 => ?_
  cases (show y = .int n from r2)
  refine ⟨_, e1, pp, _, rfl, DGet.k (k := .inl n) (s2.keep _ _ hp rfl), _, rfl, ?_⟩
  rw [r.some]
  exact q2 H2 s2
/-- d[n], a dict of one's own -/
theorem ev_subOwn {bb : Bool} {ds : List (Key × α)} {m1 : M Int} {npos : Pos} (ok : Ok p sc NN VV GG k g) (hN : NN[i]? = some x) (hV : VV[j]? = some x) (hL : L[i]? = some (sDict bb S ds)) (ha : EvE g L a .sh tInt m1)
    (hs : NoSl a := by intro _ _; rfl) : EvE g L (.Subscript (.Name x npos) a pos) .sh S (m1.bind fun n => getDM ds (.inl n)) := by
  obtain ⟨hv, ho⟩ := ok.vis hV
  obtain ⟨h1, h2, _⟩ := okName_d ho
  refine PE.imp (pe_dget (by have := ok.room.un; omega) (pe_var (i := i) (by rw [ok.N]; exact hN) hv h1 h2) ha hs) fun σ H Q q => ?_
  obtain ⟨kp, own, at_, q⟩ := tE_iff.mp q
  obtain ⟨Fs, hA, rfl⟩ := at_.sl
  obtain ⟨v, F, e1, e2, pp, vs, rfl, rfl, hp, r⟩ := hA.get hL
  refine ⟨_, e1, sub finE (Same.refl H) at_ q fun n y H2 s2 r2 at2 q2 => ?_⟩
  cases (show y = .int n from r2)
  unfold getDM at q2
  rcases r.get (.inl n) with ⟨g1, g2⟩ | ⟨d', v', g1, g2, g3⟩
  · rw [g1] at q2
    exact q2.elim
  · rw [g1] at q2
    refine ⟨pp, v', rfl, by rw [← g2]; exact DGet.k (k := .inl n) (s2.keep _ _ hp rfl), q2 v' H2 s2 (S.mono g3 fun a o z => ?_)⟩
    have z1 : RX g.fm Fs.flatten H H (if bb then .f0 else .sh) a o := z
    exact RX.same s2 a o (RX.sh a o z1)
end
end Hd
namespace Hd
open PySem PySem.Spec PyProof.Rows L2
section
end
end Hd
namespace Hd
open PySem PySem.Spec PyProof.Rows L2
section
end
end Hd
namespace Hd
open PySem PySem.Spec PyProof.Rows L2
section
variable {prog : Program} {w : World} {A : Around} {E : Value → Shared → Prop} {s : Shared}
theorem call_list_rev {it l : Addr} {items : Array Value} {Q : Value → Shared → Prop} (hh : A.handled = none) (hit : s.heap.IsRevIter it l ((items.size : Int) - 1)) (hl : s.heap.IsList l items) (hne : l ≠ it) (hn : items.size ≤ sizeLine)
    (hQ : ∀ (h' : Heap) (tk : Nat) (acc : Array Value) (c' : Nat), (∀ b o, b ≠ it → s.heap.get? b = some o → h'.get? b = some o) → h'.get? s.heap.objs.size = some { cls := .type "list", data := .seq acc c' } →
      ItemsOf (fun i v => items[items.size - 1 - i]? = some v) acc items.size → Q (.ref s.heap.objs.size) { s with heap := h', toks := tk }) :
    wpAny (model prog w) A (call (.type "list") [.ref it]) Q E s := by
  refine callType_codes (Q₁ := fun obj s₁ => obj = .ref s.heap.objs.size ∧ s₁ = { s with heap := s.heap.push { cls := .type "list", data := .seq #[] } }) F.called_list (F.typeCall_list_1 _) F.entry_list_init
    (code_list_new _ ⟨rfl, rfl⟩) fun obj s₁ h₁ => ?_
  obtain ⟨rfl, rfl⟩ := h₁
  have hS : (s.heap.push { cls := .type "list", data := .seq #[] }).get? s.heap.objs.size = some { cls := .type "list", data := .seq #[] } := Heap.get?_push_size _ rfl
  refine ⟨⟨_, hS, rfl⟩, F.args_list_init_2 _ _, ?_⟩
  obtain ⟨oi, hoi, hoc, hod⟩ := id hit
  obtain ⟨ol, hol, _⟩ := id hl
  have hSi : s.heap.objs.size ≠ it := Nat.ne_of_gt (Heap.lt_size hoi)
  have hSl : s.heap.objs.size ≠ l := Nat.ne_of_gt (Heap.lt_size hol)
  have hSf : s.heap.objs.size ∉ [it, l] := by simp only [List.mem_cons, List.not_mem_nil, or_false, not_or]; exact ⟨hSi, hSl⟩
  have W := (Walks.listRev (prog := prog) (w := w) (A := A.in1.in1) hh it l hne items).toS
  show wpAny _ A.in1.in1 (do let old ← Builtin.List.listItems (.ref s.heap.objs.size); Builtin.List.listUpdate (.ref s.heap.objs.size) (fun _ => #[]); letGo old.toList.reverse; Builtin.List.listExtendWith (.ref s.heap.objs.size) (.ref it) .none) _ _ _
  refine wpAny_bind ?_
  unfold Builtin.List.listItems
  refine wpAny_bind (wpAny_seqItems hS rfl (wpAny_pure ?_))
  show wpAny _ A.in1.in1 (updateSeq s.heap.objs.size (fun _ => #[]) >>= fun _ => letGo (#[] : Array Value).toList.reverse >>= fun _ => Builtin.List.listExtendWith (.ref s.heap.objs.size) (.ref it) .none) _ _ _
  refine wpAny_bind (wpAny_updateSeq hS rfl ?_)
  have hS2 := Heap.get?_update_self (Obj.mapSeq (fun _ => (#[] : Array Value))) hS rfl
  refine wpAny_bind (wpAny_letGo ?_)
  have up : ∀ b o, s.heap.get? b = some o → ((s.heap.push { cls := .type "list", data := .seq #[] }).update s.heap.objs.size (Obj.mapSeq (fun _ => (#[] : Array Value)))).get? b = some o := fun b o e =>
    (Heap.get?_update_other _ _ (Ne.symm (Nat.ne_of_lt (Heap.lt_size e)))).trans (Heap.get?_push_of_some _ e)
  have hit1 : ((s.heap.push { cls := .type "list", data := .seq #[] }).update s.heap.objs.size (Obj.mapSeq (fun _ => (#[] : Array Value)))).IsRevIter it l ((items.size : Int) - 1) := ⟨oi, up _ _ hoi, hoc, hod⟩
  have hl1 : ((s.heap.push { cls := .type "list", data := .seq #[] }).update s.heap.objs.size (Obj.mapSeq (fun _ => (#[] : Array Value)))).IsList l items := by
    obtain ⟨o, ho, r⟩ := hl
    exact ⟨o, up _ _ ho, r⟩
  generalize ((s.heap.push { cls := .type "list", data := .seq #[] }).update s.heap.objs.size (Obj.mapSeq (fun _ => (#[] : Array Value)))) = h2 at hS2 up hit1 hl1 ⊢
  unfold Builtin.List.listExtendWith
  have hT : ({ s with heap := h2 } : Shared).TypeIs (.ref it) "list_reverseiterator" := Heap.IsRevIter.typeIs (s := { s with heap := h2 }) hit1
  have h1 : Builtin.List.listSameRef (.ref s.heap.objs.size) (.ref it) = false := by simp [Builtin.List.listSameRef, hSi]
  refine wpAny_bind (wpAny_typeOf hT ?_)
  rw [if_neg (by rw [h1]; decide)]
  refine wpAny_bind (wpAny_pyIter_revIter (s := { s with heap := h2 }) hit1 ?_)
  refine wpAny_bind (wpAny_holding ?_)
  unfold Builtin.List.listLengthHint
  refine wpAny_bind (wpAny_specialOf hT RT.nolen_lri ?_)
  show wpAny _ A.in1.in1 (specialOf (Value.ref it) (Str.ofString "__length_hint__") >>= _) _ _ _
  refine wpAny_bind (wpAny_specialOf hT RT.hint_lri ?_)
  generalize hid : ("list_reverseiterator.__length_hint__" : String) = id0
  wp_delta
  rw [show splitId id0 = some ("list_reverseiterator", "__length_hint__") from by subst hid; decide +kernel]
  subst hid
  refine wpAny_bind (wpAny_isInstance (b := true) hT (by rw [isSubtype_type]; kernel_rfl) ?_)
  refine wpAny_pure ?_
  rw [if_neg (by decide)]
  have e0 : ((items.size : Nat) : Int) - 1 - ((0 : Nat) : Int) = (items.size : Int) - 1 := by omega
  refine wpAny_pure ⟨plainId_quiet F.plain_extend_loop _, codeAny_extend_loopS W hn _ hSf _ items.size 0 _ _ _ rfl (Nat.zero_le _) ⟨Nat.zero_le _, by rw [e0]; exact hit1, hl1⟩ hS2 (ItemsOf.nil _) fun s' acc' c' hm hS' hacc => ?_⟩
  rw [Moved.eq_with hm]
  refine ⟨rfl, hQ s'.heap s'.toks acc' c' (fun b o hb e => hm.heap b o (fun hmem => ?_) (up _ _ e)) hS' hacc⟩
  rcases List.mem_cons.mp hmem with e' | hmem
  · exact absurd (Heap.lt_size e) (by rw [e']; exact Nat.lt_irrefl _)
  · rcases List.mem_cons.mp hmem with e' | hmem
    · exact hb e'
    · exact absurd hmem (by simp)
end
def tLstRev (K : PySem.W.Frag) (te : TE) : TE := fun σ H Q => te σ H fun v H1 => ∃ (a : Addr) (xs : List V), v = .ref a ∧ SqL K H1 a xs ∧ ∀ q, H1 q = none → Q (.ref q) (upd H1 q (.lst xs.reverse))
theorem pe_lstRev {X : Cx} {e : Expr} {te : TE} {p p2 pos pos2 : Pos} (hc : X.calm = true) (hg : Gl X "list") (hm : X.mg "list" = none) (hg2 : Gl X "reversed") (hm2 : X.mg "reversed" = none) (he : PE X e te)
    (hs : starEach [e] X.env = (false, eval e X.env) :: starEach [] X.env := by rfl)
    (hs2 : starEach [.Call (.Name "reversed" p2) [e] [] pos2] X.env = (false, eval (.Call (.Name "reversed" p2) [e] [] pos2) X.env) :: starEach [] X.env := by rfl) :
    PE X (.Call (.Name "list" p) [.Call (.Name "reversed" p2) [e] [] pos2] [] pos) (tLstRev X.K te) := by
  refine ⟨fun pins s σ H Q I h => ?_⟩
  refine Call_ (ld_blt I hg hm boot_list (PyProof.Rows.callWith_type1 (args_cons (Call_ (ld_blt I hg2 hm2 PyProof.Rows.boot_reversed (PyProof.Rows.callWith_type1 (args_cons (thn (he.run pins s σ H _ I h) fun u s1 ⟨v, H1, I1, r1, q1⟩ => args_nil ?_) hs) hs rfl))) hs2) hs2 rfl))
  obtain ⟨a, xs, ev, hq, q⟩ := q1
  subst ev
  obtain rfl : u = Value.ref a := r1
  obtain ⟨its, rv, p', hz⟩ := I1.list hq
  refine call_reversed_list p'.isList (args_nil ?_)
  have k0 : ∀ b o, s1.heap.get? b = some o → (s1.heap.push (revObj a ((its.toArray.size : Int) - 1))).get? b = some o := fun b o e => Heap.get?_push_of_some _ e
  have I2 : Inv X pins σ H1 { s1 with heap := s1.heap.push (revObj a ((its.toArray.size : Int) - 1)) } := I1.kept (t' := s1.toks) k0
  obtain ⟨f0, f1, f2, f3, f4, f5⟩ := I1.fpOk (H' := H1) (b := s1.heap.objs.size) (Nat.le_refl _) (I1.hok.fresh (Nat.le_refl _))
  have hl := p'.isList
  obtain ⟨ol, hol, _⟩ := id hl
  have hne : a ≠ s1.heap.objs.size := Nat.ne_of_lt (Heap.lt_size hol)
  have hn : its.toArray.size ≤ sizeLine := by rw [List.size_toArray, ← rv.length]; exact hz
  refine call_list_rev (s := { s1 with heap := s1.heap.push (revObj a ((its.toArray.size : Int) - 1)) }) (I1.ok.hd hc) ⟨_, Heap.get?_push_size _ rfl, rfl, rfl⟩ (hl.push _) hne hn fun h' tk acc c' hk hS hi => ?_
  have nN : H1 (s1.heap.push (revObj a ((its.toArray.size : Int) - 1))).objs.size = none := I2.hok.fresh (Nat.le_refl _)
  have sz : s1.heap.objs.size < (s1.heap.push (revObj a ((its.toArray.size : Int) - 1))).objs.size := by rw [Heap.size_push]; omega
  refine ⟨.ref (s1.heap.push (revObj a ((its.toArray.size : Int) - 1))).objs.size, upd H1 (s1.heap.push (revObj a ((its.toArray.size : Int) - 1))).objs.size (.lst xs.reverse), ?_, rfl, q _ nN⟩
  refine I2.turnedNew (t' := tk) (ch := [s1.heap.objs.size]) (fun b o hb e => hk b o (by simpa using hb) e) (fun b hb => ?_) (Nat.le_refl _) (show ObjOk X.prog X.w _ _ _ (.lst xs.reverse) from ⟨by rw [List.length_reverse]; exact hz, acc.toList, c', RT.vals_rev rv hi, by rw [Array.toArray_toList]; exact hS⟩)
  have e : b = s1.heap.objs.size := by simpa using hb
  subst e
  exact ⟨f0, f1, f2, f3, f4, f5⟩
section
variable {p : Pr} {sc : Scope} {NN VV GG : List Str} {k : Nat} {g : G} {L : List Slot} {α β δ : Type} {S : Ty α} {T : Ty β} {Q : Ty (List α)} {md md' : Md} {pos pp p2 pos2 : Pos} {st : List Stmt} {D : δ → Out} {i j j2 : Nat} {x : Str} {a b c e : Expr}
theorem evl_listRev {mx : M (List α)} (ok : Ok p sc NN VV GG k g) (hq : IsSq p.K Q S) (hL : ∀ {d v R H}, Rdb p.K R H → Q.rep d v R → ∃ a vs, v = .ref a ∧ SqL p.K H a vs ∧ Reps S R d vs) (hG : GG[j]? = some "list") (hmg : p.mg "list" = none) (hG2 : GG[j2]? = some "reversed") (hmg2 : p.mg "reversed" = none) (ha : EvE g L e md Q mx)
    (hs : starEach [e] g.X.env = (false, eval e g.X.env) :: starEach [] g.X.env := by rfl) (hs2 : starEach [.Call (.Name "reversed" p2) [e] [] pos2] g.X.env = (false, eval (.Call (.Name "reversed" p2) [e] [] pos2) g.X.env) :: starEach [] g.X.env := by rfl) :
    EvL g L (.Call (.Name "list" pp) [.Call (.Name "reversed" p2) [e] [] pos2] [] pos) md S (mx.bind fun d => .ok d.reverse) := by
  obtain ⟨hg, ho⟩ := ok.gl hG
  obtain ⟨hg2, ho2⟩ := ok.gl hG2
  refine PE.imp (pe_lstRev ok.calm hg (by rw [ok.mg]; exact hmg) hg2 (by rw [ok.mg]; exact hmg2) ha hs hs2) fun σ H W q => ?_
  obtain ⟨kp, own, at_, q⟩ := tL_iff.mp q
  refine tE_iff.mpr ⟨kp, own, at_, ?_⟩
  cases mx with
  | ok d =>
    intro v H1 s1 rx
    obtain ⟨a, ws, rfl, h, rr⟩ := hL (by rw [← ok.fmK]; exact RX.rdb) rx
    exact ⟨a, ws, rfl, by rw [ok.K]; exact h, fun l hl => q l ws.reverse _ (s1.trans (newSame hl)) (s1.free hl) upd_same (rr.reverse.mono (RX.add hl))⟩
  | ex c => exact q
  | no => exact q
theorem sqL_list {K : PySem.W.Frag} : ∀ {d : List α} {v R H}, Rdb K R H → (tList S).rep d v R → ∃ a vs, v = .ref a ∧ SqL K H a vs ∧ Reps S R d vs := fun {d v R H} rb ⟨a, vs, e, r, h⟩ => by
  refine ⟨a, vs, e, ?_, h⟩
  rcases rb _ _ r rfl with r | r
  · exact .inl r
  · exact r.elim
def rangeL (lo hi : Int) : M (List Int) := if -(2 ^ 62) ≤ lo ∧ lo < 2 ^ 62 ∧ -(2 ^ 62) ≤ hi ∧ hi < 2 ^ 62 ∧ (hi - lo).toNat ≤ 2 ^ 24 then .ok (upFrom lo (hi - lo).toNat) else .no
theorem rgV_up (lo hi : Int) : rgV lo hi = (upFrom lo (hi - lo).toNat).map V.int := by
  apply List.ext_getElem?
  intro i
  unfold rgV
  rw [List.getElem?_map, List.getElem?_map, upFrom_get]
  by_cases h : i < (hi - lo).toNat
  · rw [if_pos h, List.getElem?_range h]; rfl
  · rw [if_neg h, List.getElem?_eq_none (by simp; omega)]; rfl
theorem rangeL_ok {lo hi : Int} {F : M (List Int) → Prop} (no : ¬ F .no) (q : F (rangeL lo hi)) : RgOk lo hi ∧ F (.ok (upFrom lo (hi - lo).toNat)) := by
  unfold rangeL at q
  split at q
  · rename_i h; exact ⟨h, q⟩
  · exact absurd q no
theorem evl_listRg1 {m : M Int} (ok : Ok p sc NN VV GG k g) (hG : GG[j]? = some "list") (hmg : p.mg "list" = none) (hG2 : GG[j2]? = some "range") (hmg2 : p.mg "range" = none) (ha : EvE g L a md tInt m)
    (hs : starEach [a] g.X.env = (false, eval a g.X.env) :: starEach [] g.X.env := by rfl) (hs2 : starEach [.Call (.Name "range" p2) [a] [] pos2] g.X.env = (false, eval (.Call (.Name "range" p2) [a] [] pos2) g.X.env) :: starEach [] g.X.env := by rfl) :
    EvL g L (.Call (.Name "list" pp) [.Call (.Name "range" p2) [a] [] pos2] [] pos) md' tInt (m.bind fun n => rangeL 0 n) := by
  obtain ⟨hg, ho⟩ := ok.gl hG
  obtain ⟨hg2, ho2⟩ := ok.gl hG2
  refine PE.imp (pe_listRg ok.calm hg (by rw [ok.mg]; exact hmg) (prg_1 hg2 (by rw [ok.mg]; exact hmg2) ha hs) hs2) fun σ H W q => ?_
  obtain ⟨kp, own, at_, q⟩ := tL_iff.mp q
  refine tE_iff.mpr ⟨kp, own, at_, ?_⟩
  cases m with
  | ok n =>
    intro v H1 s1 rx
    cases (show v = .int n from rx)
    obtain ⟨h1, q⟩ := rangeL_ok (F := FinL g.fm g.W own σ H md' tInt W) (fun z => z) q
    exact ⟨n, rfl, h1, fun l hl => q l _ _ (s1.trans (newSame hl)) (s1.free hl) upd_same (by rw [rgV_up]; exact reps_ints _)⟩
  | ex c => exact q
  | no => exact q
theorem evl_listRg2 {m1 m2 : M Int} (ok : Ok p sc NN VV GG k g) (hG : GG[j]? = some "list") (hmg : p.mg "list" = none) (hG2 : GG[j2]? = some "range") (hmg2 : p.mg "range" = none) (ha : EvE g L a md tInt m1) (hb : EvE g L b md tInt m2)
    (hs : starEach [a, b] g.X.env = (false, eval a g.X.env) :: starEach [b] g.X.env := by rfl) (hs' : starEach [b] g.X.env = (false, eval b g.X.env) :: starEach [] g.X.env := by rfl) (hs2 : starEach [.Call (.Name "range" p2) [a, b] [] pos2] g.X.env = (false, eval (.Call (.Name "range" p2) [a, b] [] pos2) g.X.env) :: starEach [] g.X.env := by rfl) :
    EvL g L (.Call (.Name "list" pp) [.Call (.Name "range" p2) [a, b] [] pos2] [] pos) md' tInt (m1.bind fun lo => m2.bind fun hi => rangeL lo hi) := by
  obtain ⟨hg, ho⟩ := ok.gl hG
  obtain ⟨hg2, ho2⟩ := ok.gl hG2
  refine PE.imp (pe_listRg ok.calm hg (by rw [ok.mg]; exact hmg) (prg_2 hg2 (by rw [ok.mg]; exact hmg2) ha hb hs hs' (by rw [hs']; rfl)) hs2) fun σ H W q => ?_
  obtain ⟨kp, own, at_, q⟩ := tL_iff.mp q
  refine tE_iff.mpr ⟨kp, own, at_, ?_⟩
  cases m1 with
  | ok lo =>
    intro v H1 s1 rx
    cases (show v = .int lo from rx)
    refine tE_iff.mpr ⟨kp, own, at_.ext s1, ?_⟩
    cases m2 with
    | ok hi =>
      intro v H2 s2 rx
      cases (show v = .int hi from rx)
      obtain ⟨h1, q⟩ := rangeL_ok (F := FinL g.fm g.W own σ H md' tInt W) (fun z => z) q
      exact ⟨lo, hi, rfl, rfl, h1, fun l hl => q l _ _ ((s1.trans s2).trans (newSame hl)) ((s1.trans s2).free hl) upd_same (by rw [rgV_up]; exact reps_ints _)⟩
    | ex c => exact fun H' s => q H' (s1.trans s)
    | no => exact q
  | ex c => exact q
  | no => exact q
end
end Hd
namespace Hd
open PySem PySem.Spec PyProof.Rows L2
section
end
section
open LamX
end
section
end
theorem upFrom_bd {lo x : Int} {n : Nat} (h : x ∈ upFrom lo n) : lo ≤ x ∧ x < lo + n := by
  induction n generalizing lo with
  | zero => simp [upFrom] at h
  | succ n ih =>
    rw [upFrom, List.mem_cons] at h
    rcases h with rfl | h
    · omega
    · have := ih h; omega
section
open LamX
end
section
open LamX
end
end Hd
namespace Hd
open PySem PySem.Spec L2
end Hd
namespace Hd
open PySem PySem.Spec PyProof.Rows L2
section
end
end Hd
namespace Hd
open PySem PySem.Spec PyProof.Rows L2
section
end
end Hd
namespace Hd
open PySem PySem.Spec PyProof.Rows L2
section
end
section
end
end Hd
namespace Hd
open PySem PySem.Spec PyProof.Rows L2
section
end
end Hd
namespace Hd
open PySem PySem.Spec PyProof.Rows L2
section
end
end Hd
namespace Hd
open PySem PySem.Spec PyProof.Rows L2
end Hd
namespace Hd
open PySem PySem.Spec PyProof.Rows L2
section
end
end Hd
namespace Hd
open PySem PySem.Spec L2
section
end
end Hd
namespace Hd
open PySem PySem.Spec PyProof.Rows L2
section
end
section
end
end Hd
namespace Hd
open PySem PySem.Spec L2
/-- a field: its name, its kind, its worth -/
structure FldS : Type 1 where
  n : Str
  α : Type
  T : Ty α
  d : α
inductive FsR (R : RdR) : List FldS → List (Str × V) → Prop where
  | nil : FsR R [] []
  | cons {s : FldS} {l v fs} : s.T.rep s.d v R → FsR R l fs → FsR R (s :: l) ((s.n, v) :: fs)
section
variable {R R' : RdR} {l l' : List FldS} {fs fs' : List (Str × V)}
theorem FsR.mono (h : FsR R l fs) (s : ∀ a o, R a o → R' a o) : FsR R' l fs := by
  induction h with
  | nil => exact .nil
  | cons r _ ih => exact .cons (Ty.mono _ r s) ih
theorem FsR.snoc {s : FldS} {v : V} (h : FsR R l fs) (r : s.T.rep s.d v R) : FsR R (l ++ [s]) (fs ++ [(s.n, v)]) := by
  induction h with
  | nil => exact .cons r .nil
  | cons q _ ih => exact .cons q ih
theorem FsR.length (h : FsR R l fs) : l.length = fs.length := by
  induction h with
  | nil => rfl
  | cons _ _ ih => simp [ih]
theorem FsR.none {f : Str} (h : FsR R l fs) (hn : l.all (fun s => !(f == s.n)) = true) : fs.lookup f = none := by
  induction h with
  | nil => rfl
  | @cons s l v fs _ _ ih =>
    rw [List.all_cons, Bool.and_eq_true] at hn
    rw [List.lookup_cons]
    have : (f == s.n) = false := by simpa using hn.1
    rw [this]
    exact ih hn.2
end
/-- the field f is there -/
inductive FAt {β : Type} (f : Str) (T : Ty β) (d : β) : List FldS → Prop where
  | here {l} : FAt f T d (⟨f, β, T, d⟩ :: l)
  | there {s l} {n : Str} : s.n = n → (f == n) = false → FAt f T d l → FAt f T d (s :: l)
theorem FAt.get {β : Type} {f : Str} {T : Ty β} {d : β} {R : RdR} {l : List FldS} (h : FAt f T d l) : ∀ {fs : List (Str × V)}, FsR R l fs → ∃ v, fs.lookup f = some v ∧ T.rep d v R := by
  induction h with
  | here =>
    intro fs r
    cases r with
    | cons q _ => exact ⟨_, by rw [List.lookup_cons]; simp, q⟩
  | there e0 e _ ih =>
    subst e0
    intro fs r
    cases r with
    | cons _ q =>
      obtain ⟨v, h1, h2⟩ := ih q
      exact ⟨v, by rw [List.lookup_cons, e]; exact h1, h2⟩
/-- the address of a class -/
abbrev cA (p : Pr) (c : Str) : Addr := He.ga p.K c
section
end
section
variable {p : Pr} {sc : Scope} {NN VV GG : List Str} {k : Nat} {g : G} {L : List Slot} {a b c e e' : Expr} {es : List Expr} {md md' : Md} {α β γ δ ρ : Type} {S : Ty α} {T : Ty β} {U : Ty γ} {A : Ar δ} {pos : Pos} {i j : Nat} {x f : Str} {pp : Pos} {C : Addr}
variable {st : List Stmt} {D : δ → Out} {d : δ}
/-- a method, as its callers know it -/
structure MeF (p : Pr) (k : Nat) (c m : Str) (ps : List Str) (sp : Sp) : Prop where
  ex : ∃ (f : Addr) (fd : FuncData), FnOk p.P p.w p.K p.mg p.base (L2.CX p.P p.w) k f fd ("self" :: ps) sp ∧ Cls p.K (cA p c) ∧ Meth p.K (cA p c) m f ∧ Binds p.K fd ("self" :: ps) []
end
end Hd
namespace Hd
open PySem PySem.Spec PyProof.Rows L2
section
end
end Hd
namespace Hd
open PySem PySem.Spec L2
section
end
end Hd
namespace Hd
open PySem PySem.Spec L2
/-- an object that may be owned -/
def gd : HO → Bool
  | .lst _ => true
  | .tup _ => true
  | .dK _ => true
  | .dT _ => true
  | .set _ _ => true
  | .ins _ _ _ => true
  | _ => false
theorem gd_nt {o : HO} (h : gd o = true) : nt o = true := by cases o <;> first | rfl | cases h
theorem gd_ext {o : HO} (h : gd o = true) : ∀ φ, o ≠ .ext φ := fun φ e => by subst e; cases h
/-- a kind of things of one's own: what is owned of one stands in F; T: as it looks when it is shared -/
structure WTy (α : Type) where
  T : Ty α
  rep : α → V → Hp → RdR → List Addr → Prop
  st : ∀ {d v H H' F} {R R' : RdR}, rep d v H R F → (∀ a o, R a o → R' a o) → (∀ p ∈ F, H' p = H p) → rep d v H' R' F
  tb : ∀ {d v H F} {R : RdR}, rep d v H R F → ∀ p ∈ F, ∃ o, H p = some o ∧ gd o = true
  fz : ∀ {d v H F} {R R' : RdR}, rep d v H R F → (∀ a o, R a o → R' a o) → (∀ p ∈ F, ∀ o, H p = some o → R' p o) → T.rep d v R'
/-- shared things -/
def wV {α : Type} (T : Ty α) : WTy α where
  T := T
  rep := fun d v _ R F => F = [] ∧ T.rep d v R
  st := fun ⟨e, r⟩ s _ => ⟨e, T.mono r s⟩
  tb := fun ⟨e, _⟩ p hp => by subst e; exact nomatch hp
  fz := fun ⟨_, r⟩ s _ => T.mono r s
inductive RepsO {α : Type} (O : WTy α) (H : Hp) (R : RdR) : List α → List V → List (List Addr) → Prop where
  | nil : RepsO O H R [] [] []
  | cons {d v F ds vs Fs} : O.rep d v H R F → RepsO O H R ds vs Fs → RepsO O H R (d :: ds) (v :: vs) (F :: Fs)
section
variable {α : Type} {O : WTy α} {H H' : Hp} {R R' : RdR} {ds es : List α} {vs ws : List V} {Fs Gs : List (List Addr)}
theorem RepsO.st (h : RepsO O H R ds vs Fs) (s : ∀ a o, R a o → R' a o) (k : ∀ p ∈ Fs.flatten, H' p = H p) : RepsO O H' R' ds vs Fs := by
  induction h with
  | nil => exact .nil
  | cons r _ ih => exact .cons (O.st r s fun p hp => k p (by simp [hp])) (ih fun p hp => k p (by simp only [List.flatten_cons, List.mem_append]; exact .inr hp))
theorem RepsO.tb (h : RepsO O H R ds vs Fs) : ∀ p ∈ Fs.flatten, ∃ o, H p = some o ∧ gd o = true := by
  induction h with
  | nil => intro p hp; simp at hp
  | cons r _ ih => intro p hp; rw [List.flatten_cons, List.mem_append] at hp; exact hp.elim (O.tb r p) (ih p)
theorem RepsO.fz (h : RepsO O H R ds vs Fs) (s : ∀ a o, R a o → R' a o) (k : ∀ p ∈ Fs.flatten, ∀ o, H p = some o → R' p o) : Reps O.T R' ds vs := by
  induction h with
  | nil => exact .nil
  | cons r _ ih => exact .cons (O.fz r s fun p hp => k p (by simp [hp])) (ih fun p hp => k p (by simp only [List.flatten_cons, List.mem_append]; exact .inr hp))
theorem RepsO.length (h : RepsO O H R ds vs Fs) : ds.length = vs.length := by
  induction h with
  | nil => rfl
  | cons _ _ ih => simp [ih]
theorem RepsO.get (h : RepsO O H R ds vs Fs) : ∀ {i : Nat} {d : α}, ds[i]? = some d → ∃ v F, vs[i]? = some v ∧ Fs[i]? = some F ∧ O.rep d v H R F := by
  induction h with
  | nil => intro i d e; simp at e
  | cons r _ ih =>
    intro i d e
    cases i with
    | zero => simp at e; subst e; exact ⟨_, _, rfl, rfl, r⟩
    | succ i => obtain ⟨v, F, e1, e2, r1⟩ := ih (i := i) (d := d) (by simpa using e); exact ⟨v, F, by simpa using e1, by simpa using e2, r1⟩
theorem RepsO.append (h : RepsO O H R ds vs Fs) (k : RepsO O H R es ws Gs) : RepsO O H R (ds ++ es) (vs ++ ws) (Fs ++ Gs) := by
  induction h with
  | nil => exact k
  | cons r _ ih => exact .cons r ih
theorem RepsO.set {d : α} {v : V} {F : List Addr} (h : RepsO O H R ds vs Fs) (r : O.rep d v H R F) : ∀ (i : Nat), RepsO O H R (ds.set i d) (vs.set i v) (Fs.set i F) := by
  induction h with
  | nil => intro i; exact .nil
  | cons q t ih =>
    intro i
    cases i with
    | zero => exact .cons r t
    | succ i => exact .cons q (ih i)
theorem RepsO.take (h : RepsO O H R ds vs Fs) : ∀ n, RepsO O H R (ds.take n) (vs.take n) (Fs.take n) := by
  induction h with
  | nil => intro n; simp; exact .nil
  | cons r _ ih => intro n; cases n with
    | zero => exact .nil
    | succ n => exact .cons r (ih n)
theorem RepsO.drop (h : RepsO O H R ds vs Fs) : ∀ n, RepsO O H R (ds.drop n) (vs.drop n) (Fs.drop n) := by
  induction h with
  | nil => intro n; simp; exact .nil
  | cons r t ih => intro n; cases n with
    | zero => exact .cons r t
    | succ n => exact ih n
/-- an item changes where it stands -/
theorem RepsO.chg {d' : α} {F F' : List Addr} {v : V} (h : RepsO O H R ds vs Fs) (s : ∀ a o, R a o → R' a o) : ∀ {i : Nat}, Fs.flatten.Nodup → Fs[i]? = some F → vs[i]? = some v → (∀ p ∈ Fs.flatten, p ∉ F → H' p = H p) → O.rep d' v H' R' F' → RepsO O H' R' (ds.set i d') vs (Fs.set i F') := by
  induction h with
  | nil => intro i _ e; simp at e
  | @cons d0 v0 F0 ds vs Fs q t ih =>
    intro i nd e1 e2 k r
    rw [List.flatten_cons, List.nodup_append] at nd
    cases i with
    | zero =>
      simp at e1 e2
      subst e1; subst e2
      exact .cons r (t.st s fun p hp => k p (by simp only [List.flatten_cons, List.mem_append]; exact .inr hp) fun hp' => nd.2.2 p hp' p hp rfl)
    | succ i =>
      have e1' : Fs[i]? = some F := by simpa using e1
      refine .cons (O.st q s fun p hp => k p (by simp [hp]) fun hp' => nd.2.2 p hp p (List.mem_flatten.mpr ⟨F, List.mem_of_getElem? e1', hp'⟩) rfl) ?_
      exact ih nd.2.1 e1' (by simpa using e2) (fun p hp => k p (by simp only [List.flatten_cons, List.mem_append]; exact .inr hp)) r
end
/-- the footprints' lists -/
theorem flat_set_mem {Fs : List (List Addr)} {F F' : List Addr} : ∀ {i : Nat}, Fs.flatten.Nodup → Fs[i]? = some F → ∀ x, x ∈ (Fs.set i F').flatten → x ∈ F' ∨ (x ∈ Fs.flatten ∧ x ∉ F) := by
  induction Fs with
  | nil => intro i _ e; simp at e
  | cons G Fs ih =>
    intro i nd e x hx
    rw [List.flatten_cons, List.nodup_append] at nd
    cases i with
    | zero =>
      simp at e; subst e
      rw [List.set_cons_zero, List.flatten_cons, List.mem_append] at hx
      rcases hx with h | h
      · exact .inl h
      · exact .inr ⟨by rw [List.flatten_cons, List.mem_append]; exact .inr h, fun h' => nd.2.2 x h' x h rfl⟩
    | succ i =>
      have e' : Fs[i]? = some F := by simpa using e
      rw [List.set_cons_succ, List.flatten_cons, List.mem_append] at hx
      rcases hx with h | h
      · exact .inr ⟨by rw [List.flatten_cons, List.mem_append]; exact .inl h, fun h' => nd.2.2 x h x (List.mem_flatten.mpr ⟨F, List.mem_of_getElem? e', h'⟩) rfl⟩
      · rcases ih nd.2.1 e' x h with h | ⟨h, h2⟩
        · exact .inl h
        · exact .inr ⟨by rw [List.flatten_cons, List.mem_append]; exact .inr h, h2⟩
theorem flat_set_nd {Fs : List (List Addr)} {F F' : List Addr} : ∀ {i : Nat}, Fs.flatten.Nodup → Fs[i]? = some F → F'.Nodup → (∀ x ∈ F', x ∈ F ∨ x ∉ Fs.flatten) → (Fs.set i F').flatten.Nodup := by
  induction Fs with
  | nil => intro i _ e; simp at e
  | cons G Fs ih =>
    intro i nd e n' k
    rw [List.flatten_cons, List.nodup_append] at nd
    cases i with
    | zero =>
      simp at e; subst e
      rw [List.set_cons_zero, List.flatten_cons, List.nodup_append]
      refine ⟨n', nd.2.1, fun a ha b hb e => ?_⟩
      subst e
      rcases k a ha with h | h
      · exact nd.2.2 a h a hb rfl
      · exact h (by rw [List.flatten_cons, List.mem_append]; exact .inr hb)
    | succ i =>
      have e' : Fs[i]? = some F := by simpa using e
      rw [List.set_cons_succ, List.flatten_cons, List.nodup_append]
      refine ⟨nd.1, ih nd.2.1 e' n' fun x hx => (k x hx).imp id (fun h h' => h (by rw [List.flatten_cons, List.mem_append]; exact .inr h')), fun a ha b hb e => ?_⟩
      subst e
      rcases flat_set_mem nd.2.1 e' a hb with h | ⟨h, _⟩
      · rcases k a h with h | h
        · exact nd.2.2 a ha a (List.mem_flatten.mpr ⟨F, List.mem_of_getElem? e', h⟩) rfl
        · exact h (by rw [List.flatten_cons, List.mem_append]; exact .inl ha)
      · exact nd.2.2 a ha a h rfl
theorem flat_mem {Fs : List (List Addr)} {F : List Addr} {i : Nat} (e : Fs[i]? = some F) : ∀ x ∈ F, x ∈ Fs.flatten := fun x hx => List.mem_flatten.mpr ⟨F, List.mem_of_getElem? e, hx⟩
theorem flat_nd {Fs : List (List Addr)} {F : List Addr} : ∀ {i : Nat}, Fs.flatten.Nodup → Fs[i]? = some F → F.Nodup := by
  induction Fs with
  | nil => intro i _ e; simp at e
  | cons G Fs ih =>
    intro i nd e
    rw [List.flatten_cons, List.nodup_append] at nd
    cases i with
    | zero => simp at e; subst e; exact nd.1
    | succ i => exact ih nd.2.1 (by simpa using e)
/-- a list of one's own -/
def wL {α : Type} (O : WTy α) : WTy (List α) where
  T := tList O.T
  rep := fun ds v H R F => ∃ p vs Fs, v = .ref p ∧ F = p :: Fs.flatten ∧ H p = some (.lst vs) ∧ RepsO O H R ds vs Fs
  st := by
    rintro d v H H' F R R' ⟨p, vs, Fs, e1, e2, h, r⟩ s k
    exact ⟨p, vs, Fs, e1, e2, by rw [k p (by rw [e2]; exact List.mem_cons_self)]; exact h, r.st s fun q hq => k q (by rw [e2]; exact List.mem_cons_of_mem _ hq)⟩
  tb := by
    rintro d v H F R ⟨p, vs, Fs, e1, e2, h, r⟩ q hq
    rw [e2] at hq
    rcases List.mem_cons.mp hq with e | hq
    · subst e; exact ⟨_, h, rfl⟩
    · exact r.tb q hq
  fz := by
    rintro d v H F R R' ⟨p, vs, Fs, e1, e2, h, r⟩ s k
    exact ⟨p, vs, e1, k p (by rw [e2]; exact List.mem_cons_self) _ h, r.fz s fun q hq => k q (by rw [e2]; exact List.mem_cons_of_mem _ hq)⟩
/-- written items of one's own -/
structure WAr (δ : Type) where
  A : Ar δ
  /-- as fields of an object with these names -/
  fl : List Str → δ → List FldS
  rep : δ → List V → Hp → RdR → List Addr → Prop
  st : ∀ {d vs H H' F} {R R' : RdR}, rep d vs H R F → (∀ a o, R a o → R' a o) → (∀ p ∈ F, H' p = H p) → rep d vs H' R' F
  tb : ∀ {d vs H F} {R : RdR}, rep d vs H R F → ∀ p ∈ F, ∃ o, H p = some o ∧ gd o = true
  fz : ∀ {d vs H F} {R R' : RdR}, rep d vs H R F → (∀ a o, R a o → R' a o) → (∀ p ∈ F, ∀ o, H p = some o → R' p o) → A.rep d vs R'
  fzF : ∀ {d vs H F} {R R' : RdR} {ns : List Str}, ns.length = vs.length → rep d vs H R F → (∀ a o, R a o → R' a o) → (∀ p ∈ F, ∀ o, H p = some o → R' p o) → FsR R' (fl ns d) (ns.zip vs)
def waNil : WAr Unit where
  A := aNil
  fl := fun _ _ => []
  rep := fun _ vs _ _ F => vs = [] ∧ F = []
  st := fun h _ _ => h
  tb := by
    rintro d vs H F R ⟨_, e⟩ p hp
    subst e; exact nomatch hp
  fz := fun h _ _ => h.1
  fzF := by
    rintro d vs H F R R' ns hl ⟨e, _⟩ _ _
    subst e
    cases ns with
    | nil => exact .nil
    | cons _ _ => cases hl
def waFl {α β : Type} (T : Ty α) (fl : List Str → β → List FldS) : List Str → α × β → List FldS
  | [], _ => []
  | n :: ns, d => ⟨n, α, T, d.1⟩ :: fl ns d.2
def waCons {α β : Type} (O : WTy α) (A : WAr β) : WAr (α × β) where
  A := aCons O.T A.A
  fl := waFl O.T A.fl
  rep := fun d vs H R F => ∃ v r F1 F2, vs = v :: r ∧ F = F1 ++ F2 ∧ O.rep d.1 v H R F1 ∧ A.rep d.2 r H R F2
  st := by
    rintro d vs H H' F R R' ⟨v, r, F1, F2, e1, e2, h1, h2⟩ s k
    exact ⟨v, r, F1, F2, e1, e2, O.st h1 s fun p hp => k p (by rw [e2]; exact List.mem_append_left _ hp), A.st h2 s fun p hp => k p (by rw [e2]; exact List.mem_append_right _ hp)⟩
  tb := by
    rintro d vs H F R ⟨v, r, F1, F2, e1, e2, h1, h2⟩ p hp
    rw [e2] at hp; exact (List.mem_append.mp hp).elim (O.tb h1 p) (A.tb h2 p)
  fz := by
    rintro d vs H F R R' ⟨v, r, F1, F2, e1, e2, h1, h2⟩ s k
    exact ⟨v, r, e1, O.fz h1 s fun p hp => k p (by rw [e2]; exact List.mem_append_left _ hp), A.fz h2 s fun p hp => k p (by rw [e2]; exact List.mem_append_right _ hp)⟩
  fzF := by
    rintro d vs H F R R' ns hl ⟨v, r, F1, F2, e1, e2, h1, h2⟩ s k
    subst e1
    cases ns with
    | nil => cases hl
    | cons n ns => exact .cons (O.fz h1 s fun p hp => k p (by rw [e2]; exact List.mem_append_left _ hp)) (A.fzF (by simpa using hl) h2 s fun p hp => k p (by rw [e2]; exact List.mem_append_right _ hp))
/-- a tuple of things of one's own -/
def wTup {δ : Type} (A : WAr δ) : WTy δ where
  T := tTup A.A
  rep := fun d v H R F => ∃ p vs G, v = .ref p ∧ F = p :: G ∧ H p = some (.tup vs) ∧ A.rep d vs H R G
  st := by
    rintro d v H H' F R R' ⟨p, vs, Fs, e1, e2, h, r⟩ s k
    exact ⟨p, vs, Fs, e1, e2, by rw [k p (by rw [e2]; exact List.mem_cons_self)]; exact h, A.st r s fun q hq => k q (by rw [e2]; exact List.mem_cons_of_mem _ hq)⟩
  tb := by
    rintro d v H F R ⟨p, vs, Fs, e1, e2, h, r⟩ q hq
    rw [e2] at hq
    rcases List.mem_cons.mp hq with e | hq
    · subst e; exact ⟨_, h, rfl⟩
    · exact A.tb r q hq
  fz := by
    rintro d v H F R R' ⟨p, vs, Fs, e1, e2, h, r⟩ s k
    exact ⟨p, vs, e1, k p (by rw [e2]; exact List.mem_cons_self) _ h, A.fz r s fun q hq => k q (by rw [e2]; exact List.mem_cons_of_mem _ hq)⟩
/-- what holds of all leaves however they are read -/
def FlatW {α : Type} (O : WTy α) : Prop := ∀ {d v H F} {R R' : RdR}, O.rep d v H R F → O.rep d v H R' F
def FlatWA {δ : Type} (A : WAr δ) : Prop := ∀ {d vs H F} {R R' : RdR}, A.rep d vs H R F → A.rep d vs H R' F
section
variable {α β δ : Type} {O : WTy α} {A : WAr δ} {T : Ty α} {C : Addr} {ns : List Str}
theorem fw_v (h : Flat T) : FlatW (wV T) := fun ⟨e, r⟩ => ⟨e, h r⟩
theorem fw_reps (h : FlatW O) {H : Hp} {R R' : RdR} {ds : List α} {vs : List V} {Fs : List (List Addr)} (r : RepsO O H R ds vs Fs) : RepsO O H R' ds vs Fs := by
  induction r with
  | nil => exact .nil
  | cons q _ ih => exact .cons (h q) ih
theorem fw_l (h : FlatW O) : FlatW (wL O) := fun ⟨p, vs, Fs, e1, e2, q, r⟩ => ⟨p, vs, Fs, e1, e2, q, fw_reps h r⟩
theorem fwa_nil : FlatWA waNil := fun h => h
theorem fwa_cons (h : FlatW O) (k : FlatWA A) : FlatWA (waCons O A) := fun ⟨v, r, F1, F2, e1, e2, h1, h2⟩ => ⟨v, r, F1, F2, e1, e2, h h1, k h2⟩
theorem fw_tup (k : FlatWA A) : FlatW (wTup A) := fun ⟨p, vs, G, e1, e2, h, r⟩ => ⟨p, vs, G, e1, e2, h, k r⟩
end
/-- a slot of things of one's own; px: which value it is -/
def sP {α : Type} (px : V → Prop) (O : WTy α) (d : α) : Slot := ⟨fun v H R F => ∃ x, v = some x ∧ px x ∧ O.rep d x H (R false) F, fun ⟨x, e, hx, r⟩ s k => ⟨x, e, hx, O.st r (s false) k⟩,
  fun ⟨x, e, hx, r⟩ p hp => by obtain ⟨o, h, g⟩ := O.tb r p hp; rw [cl_of h (gd_nt g)]; exact fun z => nomatch z⟩
abbrev sO {α : Type} (O : WTy α) (d : α) : Slot := sP (fun _ => True) O d
abbrev sA {α : Type} (x : V) (O : WTy α) (d : α) : Slot := sP (fun v => v = x) O d
def FinN {β : Type} (fm : Fm) (W : Wx) (own : List Addr) (σ : L2.St) (H : Hp) (O : WTy β) (Q : VK) : M β → Prop
  | .ok d => ∀ v F H', Same H H' → F.Nodup → (∀ p ∈ F, H p = none) → O.rep d v H' (RD fm (F ++ own) H') F → Q v H'
  | .ex c => ∀ H', Same H H' → W c σ H'
  | .no => False
theorem finN {β : Type} {O : WTy β} {fm : Fm} {W : Wx} {own : List Addr} {σ : L2.St} {H : Hp} {Q : VK} : Fin W σ H (FinN fm W own σ H O Q) := ⟨fun h => h, fun h => h⟩
def EvN (g : G) (L : List Slot) (e : Expr) {β : Type} (O : WTy β) (m : M β) : Prop := PE g.X e (fun σ H Q => ∃ kp own, At g.fm kp L σ H own ∧ FinN g.fm g.W own σ H O Q m)
theorem RD.drop {fm : Fm} {own own' : List Addr} {H : Hp} (k : ∀ p ∈ own', p ∈ own) : ∀ a o, RD fm own H a o → RD fm own' H a o := RX.own (md := .sh) (H := H) k
/-- read ahead: what was there is none of the new -/
theorem RD.newer {fm : Fm} {own F : List Addr} {H H' : Hp} (s : Same H H') (n : ∀ p ∈ F, H p = none) : ∀ a o, RD fm own H a o → RD fm (F ++ own) H' a o := fun a o r => by
  rcases r with ⟨r1, r2, r3⟩ | r
  · refine .inl ⟨Rd.same s r1, fun h => ?_, r3⟩
    rcases List.mem_append.mp h with h | h
    · have := n a h
      rcases r1 with r1 | ⟨_, r1⟩ <;> rw [cl_none this] at r1 <;> cases r1
    · exact r2 h
  · exact .inr r
section
variable {p : Pr} {sc : Scope} {NN VV GG : List Str} {k : Nat} {g : G} {L L' : List Slot} {a b c e e' : Expr} {es : List Expr} {md md' : Md} {α β γ δ ρ : Type} {S : Ty α} {T : Ty β} {U : Ty γ} {O : WTy α} {A : WAr δ} {pos pp : Pos} {i j : Nat} {x : Str}
/-- .. is shared at once -/
theorem ev_ofN {m : M α} (h : EvN g L e O m) : EvE g L e .sh O.T m := PE.imp h fun σ H Q q => by
  obtain ⟨kp, own, at_, q⟩ := tE_iff.mp q
  refine ⟨kp, own, at_, ?_⟩
  cases m with
  | ok d => exact fun v F H' s nd n r => q v H' s (O.fz r (RD.drop fun p hp => List.mem_append_right _ hp) fun p hp o ho => by
      obtain ⟨o', h', g'⟩ := O.tb r p hp
      rw [ho] at h'; cases h'
      exact .inl ⟨.inl (cl_of ho (gd_nt g')), fun hq => (at_.new p hq).1 (n p hp), fun hz => at_.zin p hz (n p hp)⟩)
  | ex c => exact q
  | no => exact q
theorem evn_v {m : M α} (h : EvE g L e md S m) : EvN g L e (wV S) m := PE.imp h fun σ H Q ⟨kp, own, at_, q⟩ => by
  refine tE_iff.mpr ⟨kp, own, at_, ?_⟩
  cases m with
  | ok d => exact fun v H' s r => q v [] H' s List.nodup_nil (fun _ hp => nomatch hp) ⟨rfl, S.mono r fun a o z => RX.sh a o z⟩
  | ex c => exact q
  | no => exact q
theorem evn_l {m : M (List α)} (h : EvL g L e md S m) : EvN g L e (wL (wV S)) m := PE.imp h fun σ H Q ⟨kp, own, at_, q⟩ => by
  refine tL_iff.mpr ⟨kp, own, at_, ?_⟩
  cases m with
  | ok ds =>
    intro p vs H' s n h' r
    have fl : ∀ {ds : List α} {vs : List V} {R : RdR}, Reps S R ds vs → ∃ Fs, RepsO (wV S) H' R ds vs Fs ∧ Fs.flatten = [] := fun {ds vs R} r => by
      induction r with
      | nil => exact ⟨[], .nil, rfl⟩
      | cons r _ ih => obtain ⟨Fs, h1, h2⟩ := ih; exact ⟨[] :: Fs, .cons ⟨rfl, r⟩ h1, by simpa using h2⟩
    obtain ⟨Fs, r1, e1⟩ := fl (r.mono fun a o z => RX.sh a o z)
    exact q (.ref p) [p] H' s (by simp) (fun q hq => by rw [List.mem_singleton.mp hq]; exact n) ⟨p, vs, Fs, rfl, by rw [e1], h', r1⟩
  | ex c => exact q
  | no => exact q
end
end Hd
namespace Hd
open PySem PySem.Spec L2
structure Plc (H : Hp) (R : RdR) {α : Type} (O : WTy α) (v : V) (F : List Addr) {β : Type} (O2 : WTy β) (d2 : β) (put : β → α) (v2 : V) (F2 : List Addr) : Prop where
  rep : O2.rep d2 v2 H R F2
  sub : ∀ p ∈ F2, p ∈ F
  nd : F2.Nodup
  up : ∀ {H' : Hp} {R' : RdR} {d2' : β} {F2' : List Addr}, (∀ a o, R a o → R' a o) → (∀ p ∈ F, p ∉ F2 → H' p = H p) → O2.rep d2' v2 H' R' F2' → F2'.Nodup → (∀ p ∈ F2', p ∈ F2 ∨ p ∉ F) →
    ∃ F', O.rep (put d2') v H' R' F' ∧ F'.Nodup ∧ ∀ p ∈ F', p ∈ F2' ∨ (p ∈ F ∧ p ∉ F2)
/-- the item k of written items -/
inductive WAt : {δ : Type} → WAr δ → Nat → {α : Type} → WTy α → (δ → α) → (δ → α → δ) → Prop where
  | z {α δ : Type} {O : WTy α} {A : WAr δ} : WAt (waCons O A) 0 O (fun d => d.1) (fun d y => (y, d.2))
  | s {α β δ : Type} {O : WTy α} {O' : WTy β} {A : WAr δ} {k : Nat} {pr : δ → α} {st : δ → α → δ} : WAt A k O pr st → WAt (waCons O' A) (k + 1) O (fun d => pr d.2) (fun d y => (d.1, st d.2 y))
section
variable {α β γ δ : Type} {O : WTy α} {O2 : WTy β} {O3 : WTy γ} {A : WAr δ} {H H' : Hp} {R R' : RdR} {v v2 : V} {F F2 G : List Addr} {d : α} {d2 : β} {put : β → α}
theorem Plc.root (r : O.rep d v H R F) (nd : F.Nodup) : Plc H R O v F O d (fun y => y) v F := ⟨r, fun _ h => h, nd, fun _ _ r' nd' _ => ⟨_, r', nd', fun _ hp => .inl hp⟩⟩
theorem Plc.ext (h : Plc H R O v F O2 d2 put v2 F2) (s : ∀ a o, R a o → R' a o) (k : ∀ p ∈ F, H' p = H p) : Plc H' R' O v F O2 d2 put v2 F2 :=
  ⟨O2.st h.rep s fun p hp => k p (h.sub p hp), h.sub, h.nd, fun s' k' r' nd' n' => h.up (fun a o z => s' a o (s a o z)) (fun p hp hn => (k' p hp hn).trans (k p hp)) r' nd' n'⟩
theorem WAt.get {k : Nat} {pr : δ → γ} {st : δ → γ → δ} (h : WAt A k O3 pr st) : ∀ {d : δ} {vs : List V} {G : List Addr}, A.rep d vs H R G → G.Nodup → ∃ v3 F3, vs[k]? = some v3 ∧ O3.rep (pr d) v3 H R F3 ∧ (∀ q ∈ F3, q ∈ G) ∧ F3.Nodup ∧
    ∀ {H' R' y F3'}, (∀ a o, R a o → R' a o) → (∀ q ∈ G, q ∉ F3 → H' q = H q) → O3.rep y v3 H' R' F3' → F3'.Nodup → (∀ q ∈ F3', q ∈ F3 ∨ q ∉ G) → ∃ G', A.rep (st d y) vs H' R' G' ∧ G'.Nodup ∧ ∀ q ∈ G', q ∈ F3' ∨ (q ∈ G ∧ q ∉ F3) := by
  induction h with
  | z =>
    rintro d vs G ⟨v, r, F1, F2, e1, e2, h1, h2⟩ nd
    subst e1; subst e2
    rw [List.nodup_append] at nd
    refine ⟨v, F1, rfl, h1, fun q hq => List.mem_append_left _ hq, nd.1, fun {H' R' y F3'} s k r' nd' n' => ?_⟩
    have dj : ∀ q ∈ F2, q ∉ F1 := fun q hq hq' => nd.2.2 q hq' q hq rfl
    refine ⟨F3' ++ F2, ⟨v, r, F3', F2, rfl, rfl, r', WAr.st _ h2 s fun q hq => k q (List.mem_append_right _ hq) (dj q hq)⟩, List.nodup_append.mpr ⟨nd', nd.2.1, fun a ha b hb e => ?_⟩, fun q hq => ?_⟩
    · subst e
      rcases n' a ha with hq | hq
      · exact dj a hb hq
      · exact hq (List.mem_append_right _ hb)
    · rcases List.mem_append.mp hq with hq | hq
      · exact .inl hq
      · exact .inr ⟨List.mem_append_right _ hq, dj q hq⟩
  | s _ ih =>
    rintro d vs G ⟨v, r, F1, F2, e1, e2, h1, h2⟩ nd
    subst e1; subst e2
    rw [List.nodup_append] at nd
    obtain ⟨v3, F3, e3, r3, s3, nd3, up3⟩ := ih h2 nd.2.1
    have dj : ∀ q ∈ F1, q ∉ F2 := fun q hq hq' => nd.2.2 q hq q hq' rfl
    refine ⟨v3, F3, by simpa using e3, r3, fun q hq => List.mem_append_right _ (s3 q hq), nd3, fun {H' R' y F3'} s k r' nd' n' => ?_⟩
    obtain ⟨G', r4, nd4, n4⟩ := up3 s (fun q hq hn => k q (List.mem_append_right _ hq) hn) r' nd' (fun q hq => (n' q hq).imp id fun hn hq' => hn (List.mem_append_right _ hq'))
    refine ⟨F1 ++ G', ⟨v, r, F1, G', rfl, rfl, WTy.st _ h1 s fun q hq => k q (List.mem_append_left _ hq) fun hq' => dj q hq (s3 q hq'), r4⟩, List.nodup_append.mpr ⟨nd.1, nd4, fun a ha b hb e => ?_⟩, fun q hq => ?_⟩
    · subst e
      rcases n4 a hb with hq | ⟨hq, _⟩
      · rcases n' a hq with hq | hq
        · exact dj a ha (s3 a hq)
        · exact hq (List.mem_append_left _ ha)
      · exact dj a ha hq
    · rcases List.mem_append.mp hq with hq | hq
      · exact .inr ⟨List.mem_append_left _ hq, fun hq' => dj q hq (s3 q hq')⟩
      · rcases n4 q hq with hq | ⟨hq, hn⟩
        · exact .inl hq
        · exact .inr ⟨List.mem_append_right _ hq, hn⟩
/-- a part of a thing that stands at one address and holds written items -/
theorem Plc.part {dd : δ} {put : δ → α} {B : WTy δ} {con : List V → HO} (h : Plc H R O v F B dd put v2 F2) {p : Addr} {vs : List V} {G : List Addr}
    (e1 : v2 = .ref p) (e2 : F2 = p :: G) (hp : H p = some (con vs)) (rr : A.rep dd vs H R G) (cl : ∀ H' R' d' G', H' p = some (con vs) → A.rep d' vs H' R' G' → B.rep d' v2 H' R' (p :: G'))
    {k : Nat} {pr : δ → γ} {st : δ → γ → δ} (hA : WAt A k O3 pr st) :
    ∃ v3 F3, vs[k]? = some v3 ∧ (∀ q ∈ F3, q ∈ F2) ∧ Plc H R O v F O3 (pr dd) (fun y => put (st dd y)) v3 F3 := by
  have nd := h.nd
  rw [e2, List.nodup_cons] at nd
  obtain ⟨v3, F3, e3, r3, s3, nd3, up3⟩ := hA.get rr nd.2
  have s32 : ∀ q ∈ F3, q ∈ F2 := fun q hq => by rw [e2]; exact List.mem_cons_of_mem _ (s3 q hq)
  have pF2 : p ∈ F2 := by rw [e2]; exact List.mem_cons_self
  have np3 : p ∉ F3 := fun hq => nd.1 (s3 p hq)
  refine ⟨v3, F3, e3, s32, r3, fun q hq => h.sub q (s32 q hq), nd3, fun {H' R' d3' F3'} s k r' nd' n' => ?_⟩
  obtain ⟨G', r4, nd4, n4⟩ := up3 s (fun q hq hn => k q (h.sub q (by rw [e2]; exact List.mem_cons_of_mem _ hq)) hn) r' nd' (fun q hq => (n' q hq).imp id fun hn hq' => hn (h.sub q (by rw [e2]; exact List.mem_cons_of_mem _ hq')))
  have np : p ∉ G' := fun hq => by
    rcases n4 p hq with hq | ⟨hq, _⟩
    · rcases n' p hq with hq | hq
      · exact np3 hq
      · exact hq (h.sub p pF2)
    · exact nd.1 hq
  obtain ⟨F', r5, nd5, n5⟩ := h.up (d2' := st dd d3') (F2' := p :: G') s (fun q hq hn => k q hq fun hq' => hn (s32 q hq')) (cl _ _ _ _ (by rw [k p (h.sub p pF2) np3]; exact hp) r4) (List.nodup_cons.mpr ⟨np, nd4⟩) (fun q hq => by
      rcases List.mem_cons.mp hq with hq | hq
      · subst hq; exact .inl pF2
      · rcases n4 q hq with hq | ⟨hq, _⟩
        · exact (n' q hq).imp (s32 q) id
        · exact .inl (by rw [e2]; exact List.mem_cons_of_mem _ hq))
  refine ⟨F', r5, nd5, fun q hq => ?_⟩
  rcases n5 q hq with hq | ⟨hq, hn⟩
  · rcases List.mem_cons.mp hq with hq | hq
    · subst hq; exact .inr ⟨h.sub _ pF2, np3⟩
    · rcases n4 q hq with hq | ⟨hq, hn⟩
      · exact .inl hq
      · exact .inr ⟨h.sub q (by rw [e2]; exact List.mem_cons_of_mem _ hq), hn⟩
  · exact .inr ⟨hq, fun hq' => hn (s32 q hq')⟩
end
/-- slot i holds a thing of one's own, of which d2 at v2 is a place -/
def AtP (fm : Fm) (L : List Slot) (σ : L2.St) (own : List Addr) (Fs : List (List Addr)) (i : Nat) (px : V → Prop) {α : Type} (O : WTy α) (d : α) (H : Hp) {β : Type} (O2 : WTy β) (d2 : β) (put : β → α) (v2 : V) (F2 : List Addr) : Prop :=
  ∃ v F, L[i]? = some (sP px O d) ∧ AllS H (RB fm own H) L σ Fs ∧ own = Fs.flatten ∧ σ[i]? = some (some v) ∧ px v ∧ Fs[i]? = some F ∧ Plc H (RD fm own H) O v F O2 d2 put v2 F2
section
variable {fm : Fm} {kp : RdR} {L : List Slot} {σ : L2.St} {H H' : Hp} {own : List Addr} {i : Nat} {px : V → Prop} {α β γ : Type} {O : WTy α} {O2 : WTy β} {d : α} {d2 : β} {put : β → α} {v2 : V} {F2 : List Addr} {Fs : List (List Addr)}
theorem At.gdo (h : At fm kp L σ H own) (hA : AtP fm L σ own Fs i px O d H O2 d2 put v2 F2) : ∀ p ∈ F2, p ∈ own := by
  obtain ⟨v, F, hL, hs, e, e1, hx, e2, pl⟩ := hA
  exact fun p hp => by rw [e]; exact flat_mem e2 p (pl.sub p hp)
theorem AtP.ext (hA : AtP fm L σ own Fs i px O d H O2 d2 put v2 F2) (s : Same H H') : AtP fm L σ own Fs i px O d H' O2 d2 put v2 F2 := by
  obtain ⟨v, F, hL, hs, e, e1, hx, e2, pl⟩ := hA
  have k : ∀ p ∈ Fs.flatten, H' p = H p := fun p hp => by
    cases r : cl H p with
    | none => exact absurd r (hs.tb p hp)
    | some o => rw [cl_raw r]; exact s.keep _ _ (cl_raw r) (cl_nt r)
  exact ⟨v, F, hL, hs.st (RB.same s) k, e, e1, hx, e2, pl.ext (RD.same s) fun p hp => k p (flat_mem e2 p hp)⟩
theorem At.toP (h : At fm kp L σ H own) (hs : AllS H (RB fm own H) L σ Fs) (e : own = Fs.flatten) (hL : L[i]? = some (sP px O d)) : ∃ v F, σ[i]? = some (some v) ∧ AtP fm L σ own Fs i px O d H O d (fun y => y) v F := by
  obtain ⟨v0, F, e1, e2, v, rfl, hx, r⟩ := hs.get hL
  have nd := h.nd
  rw [e] at nd
  exact ⟨v, F, e1, v, F, hL, hs, e, e1, hx, e2, Plc.root r (flat_nd nd e2)⟩
/-- one slot changes -/
theorem AllS.chg {R R' : Bool → RdR} {s' : Slot} : ∀ {L : List Slot} {σ : L2.St} {Fs : List (List Addr)} {i : Nat} {F F' : List Addr} {v : Option V}, AllS H R L σ Fs → Fs.flatten.Nodup → Fs[i]? = some F → σ[i]? = some v → (∀ b a o, R b a o → R' b a o) → (∀ p ∈ Fs.flatten, p ∉ F → H' p = H p) → s'.ok v H' R' F' → AllS H' R' (L.set i s') σ (Fs.set i F') := by
  intro L σ Fs i F F' v h
  induction h generalizing i with
  | nil => intro _ e; simp at e
  | @cons sl L v0 σ F0 Fs r t ih =>
    intro nd e1 e2 s k r'
    rw [List.flatten_cons, List.nodup_append] at nd
    cases i with
    | zero =>
      simp at e1 e2
      subst e1; subst e2
      exact .cons r' (t.st s fun p hp => k p (by simp only [List.flatten_cons, List.mem_append]; exact .inr hp) fun hp' => nd.2.2 p hp' p hp rfl)
    | succ i =>
      have e1' : Fs[i]? = some F := by simpa using e1
      refine .cons (sl.st r s fun p hp => k p (by simp [hp]) fun hp' => nd.2.2 p hp p (flat_mem e1' p hp') rfl) ?_
      exact ih nd.2.1 e1' (by simpa using e2) s (fun p hp => k p (by simp only [List.flatten_cons, List.mem_append]; exact .inr hp)) r'
/-- the heap without some things -/
def hm (H : Hp) (F : List Addr) : Hp := fun a => if a ∈ F then none else H a
theorem hm_in {H : Hp} {F : List Addr} {a : Addr} (h : a ∈ F) : hm H F a = none := by unfold hm; rw [if_pos h]
theorem hm_out {H : Hp} {F : List Addr} {a : Addr} (h : a ∉ F) : hm H F a = H a := by unfold hm; rw [if_neg h]
/-- the place changes, and nothing else that was there -/
theorem At.chg {d2' : β} {F2' : List Addr} (h : At fm kp L σ H own) (hA : AtP fm L σ own Fs i px O d H O2 d2 put v2 F2)
    (sm : Same (hm H F2) H') (nd' : F2'.Nodup) (n1 : ∀ p ∈ F2', p ∈ F2 ∨ H p = none) (n2 : ∀ p ∈ F2', H' p ≠ none)
    (r' : O2.rep d2' v2 H' (RD fm (F2' ++ own) H') F2') : ∃ own', At fm kp (L.set i (sP px O (put d2'))) σ H' own' ∧ ∀ p ∈ own', p ∈ F2' ∨ (p ∈ own ∧ p ∉ F2) := by
  have sub2 := h.gdo hA
  obtain ⟨v, F, hL, hs, e, e1, hx, e2, pl⟩ := hA
  obtain ⟨h1, h2, _, h4, h5, h6⟩ := h
  have nd := h4
  rw [e] at nd
  have keep : ∀ a o, H a = some o → nt o = true → a ∉ F2 → H' a = some o := fun a o ea na hn => sm.keep a o (by rw [hm_out hn]; exact ea) na
  have fr : ∀ a, H' a = none → a ∉ F2 → H a = none := fun a ea hn => by have := sm.fr a ea; rwa [hm_out hn] at this
  have tab : ∀ P, LamX.TabS H P lamQ → LamX.TabS H' P lamQ := fun P t => sm.tab P (by
    obtain ⟨ps, t1, t2, t3⟩ := t
    have ng : ∀ a o, H a = some o → gd o = false → a ∉ F2 := fun a o ea ga q => by
      obtain ⟨o', ho', go'⟩ := O2.tb pl.rep a q
      rw [ea] at ho'; cases ho'
      rw [ga] at go'; cases go'
    refine ⟨ps, by rw [hm_out (ng P _ t1 rfl)]; exact t1, t2, fun pos cv hc => ?_⟩
    obtain ⟨c, c1, c2⟩ := t3 pos cv hc
    exact ⟨c, c1, by rw [hm_out (ng c _ c2 rfl)]; exact c2⟩)
  have kcl : ∀ a o, cl H a = some o → a ∉ F2 → cl H' a = some o := fun a o ea hn => cl_of (keep a o (cl_raw ea) (cl_nt ea) hn) (cl_nt ea)
  have keq : ∀ a, cl H a ≠ none → a ∉ F2 → H' a = H a := fun a ha hn => by
    cases r : cl H a with
    | none => exact absurd r ha
    | some o => rw [cl_raw r]; exact keep a o (cl_raw r) (cl_nt r) hn
  have rdn : ∀ a o, RD fm own H a o → RD fm (F2' ++ own) H' a o := fun a o z => by
    rcases z with ⟨z1, z2, z3⟩ | z
    · have hne : H a ≠ none := fun q => by rcases z1 with z1 | ⟨_, z1⟩ <;> rw [cl_none q] at z1 <;> cases z1
      have n2 : a ∉ F2 := fun q => z2 (sub2 a q)
      refine .inl ⟨z1.imp (fun q => kcl a _ q n2) fun ⟨f, q⟩ => ⟨f, kcl a _ q n2⟩, fun hq => ?_, z3⟩
      rcases List.mem_append.mp hq with hq | hq
      · rcases n1 a hq with hq | hq
        · exact z2 (sub2 a hq)
        · exact hne hq
      · exact z2 hq
    · exact .inr z
  obtain ⟨F', r4, nd4, n4⟩ := pl.up rdn (fun p hp hn => keq p (hs.tb p (flat_mem e2 p hp)) hn) r' nd' (fun p hp => (n1 p hp).imp id fun q hq => (h5 p (by rw [e]; exact flat_mem e2 p hq)).1 q)
  have nF : ∀ p ∈ (Fs.set i F').flatten, p ∈ F2' ∨ (p ∈ own ∧ p ∉ F2) := fun p hp => by
    rcases flat_set_mem nd e2 p hp with hp | ⟨hp, hn⟩
    · rcases n4 p hp with hp | ⟨hp, hn⟩
      · exact .inl hp
      · exact .inr ⟨by rw [e]; exact flat_mem e2 p hp, hn⟩
    · exact .inr ⟨by rw [e]; exact hp, fun q => hn (pl.sub p q)⟩
  have dr : ∀ a o, RD fm (F2' ++ own) H' a o → RD fm (Fs.set i F').flatten H' a o := RD.drop fun p hp => List.mem_append.mpr ((nF p hp).imp id (·.1))
  have keyB : ∀ b a o, RB fm own H b a o → RB fm (Fs.set i F').flatten H' b a o := fun b a o z => by
    cases b with
    | false => exact dr a o (rdn a o z)
    | true =>
      obtain ⟨z1, z2, z3, z4⟩ := z
      have hne : H a ≠ none := fun q => by rw [cl_none q] at z1; cases z1
      refine ⟨kcl a _ z1 fun q => z2 (sub2 a q), fun hq => ?_, z3, z4⟩
      rcases nF a hq with hq | ⟨hq, _⟩
      · rcases n1 a hq with hq | hq
        · exact z2 (sub2 a hq)
        · exact hne hq
      · exact z2 hq
  have sH : Same fm.H0 H' := by
    refine ⟨fun a o ea na => keep a o (h1.keep a o ea na) na (fun q => by have := (h5 a (sub2 a q)).2.1; rw [this] at ea; cases ea), fun a ea => ?_, fun P t => tab P (h1.tab P t)⟩
    by_cases q2 : a ∈ F2
    · exact (h5 a (sub2 a q2)).2.1
    · exact h1.fr a (fr a ea q2)
  refine ⟨_, ⟨sH, fun a z ea => ?_, ⟨Fs.set i F', hs.chg nd e2 e1 keyB (fun p hp hn => keq p (hs.tb p hp) fun q => hn (pl.sub p q)) (s' := sP px O (put d2')) ⟨v, rfl, hx, O.st r4 dr fun _ _ => rfl⟩, rfl⟩, flat_set_nd nd e2 nd4 (fun p hp => ?_), fun p hp => ?_, fun a o z => dr a o (rdn a o (h6 a o z))⟩, nF⟩
  · exact h2 a z (fr a ea fun q => (h5 a (sub2 a q)).2.2 z)
  · rcases n4 p hp with hp | ⟨hp, _⟩
    · rcases n1 p hp with hp | hp
      · exact .inl (pl.sub p hp)
      · exact .inr fun q => (h5 p (by rw [e]; exact q)).1 hp
    · exact .inl hp
  · rcases nF p hp with hp | ⟨hp, hn⟩
    · refine ⟨n2 p hp, ?_, ?_⟩
      · rcases n1 p hp with hq | hq
        · exact (h5 p (sub2 p hq)).2.1
        · exact h1.free hq
      · rcases n1 p hp with hq | hq
        · exact (h5 p (sub2 p hq)).2.2
        · exact fun z => h2 p z hq
    · have q := h5 p hp
      exact ⟨fun z => q.1 (fr p z hn), q.2⟩
end
end Hd
namespace Hd
open PySem PySem.Spec L2
def FinP (fm : Fm) (W : Wx) (L : List Slot) (own : List Addr) (Fs : List (List Addr)) (σ : L2.St) (H : Hp) (i : Nat) (px : V → Prop) {α : Type} (O : WTy α) (d : α) {β : Type} (O2 : WTy β) (Q : VK) : M (β × (β → α)) → Prop
  | .ok q => ∀ v2 F2 H', Same H H' → AtP fm L σ own Fs i px O d H' O2 q.1 q.2 v2 F2 → Q v2 H'
  | .ex c => ∀ H', Same H H' → W c σ H'
  | .no => False
def EvP (g : G) (L : List Slot) (e : Expr) (i : Nat) (px : V → Prop) {α : Type} (O : WTy α) (d : α) {β : Type} (O2 : WTy β) (m : M (β × (β → α))) : Prop := PE g.X e (fun σ H Q => ∃ kp own Fs, At g.fm kp L σ H own ∧ AllS H (RB g.fm own H) L σ Fs ∧ own = Fs.flatten ∧ FinP g.fm g.W L own Fs σ H i px O d O2 Q m)
def NoEx {α : Type} (m : M α) : Prop := ∀ c, m ≠ .ex c
section
variable {p : Pr} {sc : Scope} {NN VV GG : List Str} {k : Nat} {g : G} {L L' : List Slot} {a b c e e' ix : Expr} {es : List Expr} {md md' : Md} {α β γ δ ρ : Type} {S : Ty α} {T : Ty β} {O : WTy α} {O2 : WTy β} {O3 : WTy γ} {A : WAr ρ} {pos pp : Pos} {i j : Nat} {x f : Str} {px : V → Prop} {d : α}
theorem evp_name (ok : Ok p sc NN VV GG k g) (hN : NN[i]? = some x) (hV : VV[j]? = some x) (hL : L[i]? = some (sP px O d)) : EvP g L (.Name x pos) i px O d O (.ok (d, fun y => y)) := by
  obtain ⟨hv, ho⟩ := ok.vis hV
  obtain ⟨h1, h2, _⟩ := okName_d ho
  refine PE.imp (pe_var (i := i) (by rw [ok.N]; exact hN) hv h1 h2) fun σ H Q ⟨kp, own, Fs, at_, hsl, heo, q⟩ => ?_
  obtain ⟨v, F, e1, hA⟩ := at_.toP hsl heo hL
  exact ⟨v, e1, q v F H (Same.refl H) hA⟩
theorem evp_tup {m : M (ρ × (ρ → α))} {kk : Nat} {pr : ρ → γ} {st : ρ → γ → ρ} (ok : Ok p sc NN VV GG k g) (hA : WAt A kk O3 pr st) (he : EvP g L e i px O d (wTup A) m) (hi : EvE g L ix md tInt (.ok (kk : Int))) (hs : PlainIx ix := by exact fun _ _ => rfl) : EvP g L (.Subscript e ix pos) i px O d O3 (m.bind fun q => .ok (pr q.1, fun y => q.2 (st q.1 y))) := by
  refine PE.imp (pe_ix (r := rIxT g.X.K) ix_tup he hi hs) fun σ H Q ⟨kp, own, Fs, at_, hsl, heo, q⟩ => ?_
  refine ⟨kp, own, Fs, at_, hsl, heo, ?_⟩
  cases m with
  | ok q0 =>
    intro v2 F2 H1 s1 A1
    refine tE_iff.mpr ⟨kp, own, at_.ext s1, ?_⟩
    intro y H2 s2 r2
    cases (show y = .int kk from r2)
    obtain ⟨v, F, hL, hs, e, e1, hx, e2, pl⟩ := A1.ext s2
    obtain ⟨p', vs, G, r1, r2, hp, rr⟩ := pl.rep
    obtain ⟨v3, F3, e4, _, pl3⟩ := pl.part (con := .tup) r1 r2 hp rr (fun H' R' d' G' h' r' => ⟨p', vs, G', r1, rfl, h', r'⟩) hA
    exact ⟨p', vs, kk, v3, r1, rfl, .inl (.inl hp), atI_nat e4, q v3 F3 H2 (s1.trans s2) ⟨v, F, hL, hs, e, e1, hx, e2, pl3⟩⟩
  | ex c => exact q
  | no => exact q
variable {st : List Stmt} {D : δ → Out}
/-- exceptions: the slots ahead of them are told, or there are none -/
def Wkx (g : G) (L : List Slot) (n : Prop) : Prop := Wk L g.LX ∨ n
theorem BOk.exx' {kp : RdR} {E : Ends} {c : Ec} {σ : L2.St} {H : Hp} {own : List Addr} {n : Prop} (wk : Wkx g L n) (hn : n → False) (at_ : At g.fm kp L σ H own) (q : BOk g kp E D (.ex c)) : ∀ H', Same H H' → g.W c σ H' := by
  rcases wk with wk | z
  · exact BOk.exx wk at_ q
  · exact (hn z).elim
/-- one own thing is written -/
theorem hm_wr {H H1 : Hp} {F : List Addr} {q : Addr} {u o : HO} (s : Same H H1) (hq : q ∈ F) (h1 : H1 q = some u) (gu : gd u = true) (hg : ∀ a ∈ F, ∃ o, H a = some o ∧ gd o = true) : Same (hm H F) (upd H1 q o) := by
  have s0 : Same (hm H F) H := by
    refine ⟨fun a o e n => ?_, fun a e => ?_, fun P t => ?_⟩
    · by_cases z : a ∈ F
      · rw [hm_in z] at e; cases e
      · rwa [hm_out z] at e
    · unfold hm; split
      · rfl
      · exact e
    · obtain ⟨ps, t1, t2, t3⟩ := t
      have up : ∀ {a : Addr} {o : HO}, hm H F a = some o → H a = some o := fun {a o} e => by
        by_cases z : a ∈ F
        · rw [hm_in z] at e; cases e
        · rwa [hm_out z] at e
      exact ⟨ps, up t1, t2, fun pos cv hc => let ⟨c, c1, c2⟩ := t3 pos cv hc; ⟨c, c1, up c2⟩⟩
  exact (s0.trans s).wr (hm_in hq) h1 (gd_ext gu) (gd_nt gu)
/-- a list at a place changes -/
theorem At.chgL {fm : Fm} {kp : RdR} {σ : L2.St} {H1 H2 : Hp} {own : List Addr} {ds : List γ} {put : List γ → α} {v2 : V} {F1 F2 : List Addr} {Fs : List (List Addr)} (at1 : At fm kp L σ H1 own) (A1 : AtP fm L σ own Fs i px O d H1 (wL O3) ds put v2 F2) (s2 : Same H1 H2) (nF1 : ∀ q ∈ F1, H1 q = none) (tF1 : ∀ q ∈ F1, H2 q ≠ none) :
    ∃ p vs Gs, v2 = .ref p ∧ p ∈ own ∧ H1 p = some (.lst vs) ∧ H2 p = some (.lst vs) ∧ RepsO O3 H2 (RD fm (F1 ++ own) H2) ds vs Gs ∧ Gs.flatten.Nodup ∧ (∀ q ∈ Gs.flatten, H1 q ≠ none) ∧ (∀ q ∈ F1, q ∉ Gs.flatten) ∧
      ∀ ds' vs' Gs', RepsO O3 H2 (RD fm (F1 ++ own) H2) ds' vs' Gs' → Gs'.flatten.Nodup → (∀ q ∈ Gs'.flatten, q ∈ Gs.flatten ∨ q ∈ F1) → ∃ own', At fm kp (L.set i (sP px O (put ds'))) σ (upd H2 p (.lst vs')) own' ∧ ∀ q ∈ own', q ∈ own ∨ q ∈ F1 := by
  have sub2 := at1.gdo A1
  have A1' := A1
  obtain ⟨v, F, hL, hs, eo, e1, hx, e2, pl⟩ := A1
  obtain ⟨p, vs, Gs, r1, r2, hp, rr⟩ := pl.rep
  have nd := pl.nd
  rw [r2, List.nodup_cons] at nd
  have gH : ∀ q ∈ Gs.flatten, H1 q ≠ none := fun q hq => by obtain ⟨o, ho, _⟩ := rr.tb q hq; rw [ho]; exact fun z => nomatch z
  have h2p : H2 p = some (.lst vs) := s2.keep _ _ hp rfl
  have pF2 : p ∈ F2 := by rw [r2]; exact List.mem_cons_self
  have pown : p ∈ own := sub2 p pF2
  have dj : ∀ q ∈ F1, q ∉ Gs.flatten := fun q h1 h2 => gH q h2 (nF1 q h1)
  have np1 : p ∉ F1 := fun q => by rw [nF1 p q] at hp; cases hp
  have k2 : ∀ q ∈ Gs.flatten, H2 q = H1 q := fun q hq => by obtain ⟨o, ho, go⟩ := rr.tb q hq; rw [ho]; exact s2.keep _ _ ho (gd_nt go)
  refine ⟨p, vs, Gs, r1, pown, hp, h2p, rr.st (RD.newer s2 nF1) k2, nd.2, gH, dj, fun ds' vs' Gs' rr' nd' n' => ?_⟩
  have np : p ∉ Gs'.flatten := fun q => (n' p q).elim nd.1 np1
  have gdF2 : ∀ a ∈ F2, ∃ o, H1 a = some o ∧ gd o = true := fun a ha => by
    rw [r2] at ha
    rcases List.mem_cons.mp ha with e | ha
    · subst e; exact ⟨_, hp, rfl⟩
    · exact rr.tb a ha
  have rd : ∀ a o, RD fm (F1 ++ own) H2 a o → RD fm ((p :: Gs'.flatten) ++ own) (upd H2 p (.lst vs')) a o := fun a o z => by
    rcases z with ⟨z1, z2, z3⟩ | z
    · have ne : a ≠ p := fun e => z2 (by rw [e]; exact List.mem_append_right _ pown)
      refine .inl ⟨?_, fun hq => z2 ?_, z3⟩
      · unfold Rd at z1 ⊢; rw [cl_upd_ne ne]; exact z1
      · rcases List.mem_append.mp hq with hq | hq
        · rcases List.mem_cons.mp hq with e | hq
          · exact absurd e ne
          · rcases n' a hq with h | h
            · exact List.mem_append_right _ (sub2 a (by rw [r2]; exact List.mem_cons_of_mem _ h))
            · exact List.mem_append_left _ h
        · exact List.mem_append_right _ hq
    · exact .inr z
  have n1' : ∀ q ∈ p :: Gs'.flatten, q ∈ F2 ∨ H1 q = none := fun q hq => by
    rcases List.mem_cons.mp hq with e | hq
    · subst e; exact .inl pF2
    · exact (n' q hq).imp (fun h => by rw [r2]; exact List.mem_cons_of_mem _ h) (nF1 q)
  have n2' : ∀ q ∈ p :: Gs'.flatten, upd H2 p (.lst vs') q ≠ none := fun q hq => by
    rcases List.mem_cons.mp hq with e | hq
    · subst e; rw [upd_same]; exact fun z => nomatch z
    · rw [upd_ne fun e => np (by rw [← e]; exact hq)]
      rcases n' q hq with h | h
      · rw [k2 q h]; exact gH q h
      · exact tF1 q h
  obtain ⟨own', a', n3⟩ := at1.chg (d2' := ds') (F2' := p :: Gs'.flatten) A1' (hm_wr (o := .lst vs') s2 pF2 h2p rfl gdF2) (List.nodup_cons.mpr ⟨np, nd'⟩) n1' n2' ⟨p, vs', Gs', r1, rfl, upd_same, rr'.st rd fun q hq => upd_ne fun e => np (by rw [← e]; exact hq)⟩
  refine ⟨own', a', fun q hq => ?_⟩
  rcases n3 q hq with h | h
  · rcases List.mem_cons.mp h with e | h
    · subst e; exact .inl pown
    · rcases n' q h with h | h
      · exact .inl (sub2 q (by rw [r2]; exact List.mem_cons_of_mem _ h))
      · exact .inr h
  · exact .inl h.1
theorem flat_snoc {Gs : List (List Addr)} {F : List Addr} : (Gs ++ [F]).flatten = Gs.flatten ++ F := by simp
/-- place.append(e) -/
theorem evb_pAppend {mp : M (List γ × (List γ → α))} {m : M γ} {h : α → M δ} {ap cp : Pos} (ok : OkS p sc NN VV GG k g) (wk : Wkx g L (NoEx mp ∧ NoEx m)) (hp : EvP g L a i px O d (wL O3) mp) (he : EvN g L e O3 m) (hr : ∀ d', EvB g (L.set i (sP px O d')) st D (h d'))
    (hs : swapsWith (.Call (.Attribute a "append" ap) [e] [] cp) none pos.line g.X.env = pure false := by rfl)
    (hbase : attributeBase a "append" g.X.env (eval a g.X.env) = eval a g.X.env := by rfl)
    (hfew : ((backTo cp (starEach [e] g.X.env)).all (fun x => !x.1) && (backToKw cp (keywordEach [] g.X.env)).all (fun x => x.1.isSome)
      && decide (([e] : List Expr).length + ([] : List Keyword).length + (if ([] : List Keyword).isEmpty then 0 else 1) < 30)) = true := by rfl)
    (hline : (ap.endLine == cp.line) = true := by rfl) (hst : starEach [e] g.X.env = (false, eval e g.X.env) :: starEach [] g.X.env := by rfl) (hpl : (backTo cp (starEach [] g.X.env)).any (·.1) = false := by rfl) :
    EvB g L (.Expr (.Call (.Attribute a "append" ap) [e] [] cp) pos :: st) D (mp.bind fun q => m.bind fun x => (pushM q.1 x).bind fun l => h (q.2 l)) := by
  refine PSs.imp (pss_cons (ps_expr (pe_bm PySem.F.plainAttrs_list PySem.F.slot_list_append PySem.F.type_list_append mt_append hp (pa_cons he pa_nil hst) (hbase := hbase) (hfew := hfew) (hline := hline) (hs := hst) (hplain := hpl)) hs) (PSs.ex hr)) fun E σ H ⟨kp, own, at_, q⟩ => ?_
  obtain ⟨Fs, hsl, heo⟩ := at_.sl
  refine ⟨kp, own, Fs, at_, hsl, heo, ?_⟩
  cases mp with
  | ok q0 =>
    intro v2 F2 H1 s1 A1
    have at1 := at_.ext s1
    obtain ⟨p', vs, Gs, r1, _, hp', _⟩ := at1.chgL (F1 := []) A1 (Same.refl H1) (fun _ h => nomatch h) (fun _ h => nomatch h)
    subst r1
    refine ⟨Or.inl ⟨rfl, _, SqL.of hp'⟩, kp, own, at1, ?_⟩
    cases m with
    | ok x =>
      intro w F1 H2 s2 nd1 n1 rw_
      have q : BOk g kp E D ((pushM q0.1 x).bind fun l => h (q0.2 l)) := q
      obtain ⟨p2, vs, Gs, r1, _, _, hp2, rr, nd, gH, dj, up⟩ := at1.chgL A1 s2 n1 (fun q hq => by obtain ⟨o, ho, _⟩ := O3.tb rw_ q hq; rw [ho]; exact fun z => nomatch z)
      cases r1
      unfold pushM at q
      split at q
      · rename_i hlt
        obtain ⟨own', a', _⟩ := up (q0.1 ++ [x]) (vs ++ [w]) (Gs ++ [F1]) (rr.append (.cons rw_ .nil)) (by rw [flat_snoc]; exact List.nodup_append.mpr ⟨nd, nd1, fun a ha b hb e => dj b hb (by rw [← e]; exact ha)⟩) (fun q hq => by rw [flat_snoc] at hq; exact (List.mem_append.mp hq))
        exact ⟨_, vs, w, rfl, rfl, hp2, by rw [← rr.length]; exact hlt, q0.2 (q0.1 ++ [x]), kp, own', a', q⟩
      · exact q.elim
    | ex c => exact BOk.exx' wk (fun n => n.2 c rfl) at1 q
    | no => exact q
  | ex c => exact BOk.exx' wk (fun n => n.1 c rfl) at_ q
  | no => exact q
end
end Hd
namespace Hd
open PySem PySem.Spec L2
/-- a thing of one's own is handed back -/
def oOut {ρ : Type} (O : WTy ρ) (r : ρ) : Out := .gen fun fm rt => ∀ v H' F, Same fm.H0 H' → F.Nodup → (∀ a ∈ F, fm.H0 a = none ∧ ¬ fm.z a) → O.rep r v H' (RD fm F H') F → rt v H'
section
variable {p : Pr} {sc : Scope} {NN VV GG : List Str} {k : Nat} {g : G} {L L' : List Slot} {a b c e e' ix : Expr} {es : List Expr} {md md' : Md} {α β γ δ ρ : Type} {S : Ty α} {T : Ty β} {O : WTy α} {O2 : WTy β} {O3 : WTy γ} {A : WAr ρ} {pos pp pos' : Pos} {i j : Nat} {x f : Str} {px : V → Prop} {d : α}
variable {st : List Stmt} {D : δ → Out}
theorem AllS.lenF {H : Hp} {R : Bool → RdR} {L : List Slot} {σ : L2.St} {Fs : List (List Addr)} (h : AllS H R L σ Fs) : Fs.length = L.length := by
  induction h with
  | nil => rfl
  | cons _ _ ih => rw [List.length_cons, List.length_cons, ih]
theorem At.setW {fm : Fm} {kp : RdR} {σ : L2.St} {H H' : Hp} {own F1 : List Addr} {v : V} (h : At fm kp L σ H own) (s : Same H H') (nd1 : F1.Nodup) (n1 : ∀ q ∈ F1, H q = none) (r : O.rep d v H' (RD fm (F1 ++ own) H') F1) : ∃ own', At fm kp (L.set i (sO O d)) (σ.set i (some v)) H' own' := by
  obtain ⟨h1, h2, ⟨Fs, h3, e⟩, h4, h5, h6⟩ := h
  have nd := h4
  rw [e] at nd
  have hk : ∀ q ∈ Fs.flatten, H' q = H q := fun q hq => by
    cases r : cl H q with
    | none => exact absurd r (h3.tb q hq)
    | some o => rw [cl_raw r]; exact s.keep _ _ (cl_raw r) (cl_nt r)
  by_cases hi : i < Fs.length
  · have ei : Fs[i]? = some Fs[i] := List.getElem?_eq_getElem hi
    have nF : ∀ q ∈ (Fs.set i F1).flatten, q ∈ F1 ∨ q ∈ own := fun q hq => by
      rcases flat_set_mem nd ei q hq with hq | ⟨hq, _⟩
      · exact .inl hq
      · exact .inr (by rw [e]; exact hq)
    have dr : ∀ a o, RD fm (F1 ++ own) H' a o → RD fm (Fs.set i F1).flatten H' a o := RD.drop fun q hq => List.mem_append.mpr (nF q hq)
    have keyB : ∀ b a o, RB fm own H b a o → RB fm (Fs.set i F1).flatten H' b a o := fun b a o z => by
      cases b with
      | false => exact dr a o (RD.newer s n1 a o z)
      | true =>
        obtain ⟨z1, z2, z3, z4⟩ := z
        refine ⟨s.cl _ _ z1, fun hq => ?_, z3, z4⟩
        rcases nF a hq with hq | hq
        · rw [cl_none (n1 a hq)] at z1; cases z1
        · exact z2 hq
    refine ⟨_, h1.trans s, fun a z ea => h2 a z (s.free ea), ⟨Fs.set i F1, (h3.st keyB hk).set (s := sO O d) ⟨v, rfl, trivial, O.st r dr fun _ _ => rfl⟩ i, rfl⟩, flat_set_nd nd ei nd1 fun q hq => .inr fun hq' => (h5 q (by rw [e]; exact hq')).1 (n1 q hq), fun q hq => ?_, fun a o z => dr a o (RD.newer s n1 a o (h6 a o z))⟩
    rcases nF q hq with hq | hq
    · exact ⟨(fun z => by obtain ⟨o, ho, _⟩ := O.tb r q hq; rw [ho] at z; cases z), h1.free (n1 q hq), fun z => h2 q z (n1 q hq)⟩
    · exact ⟨fun z => (h5 q hq).1 (s.free z), (h5 q hq).2⟩
  · have hl := h3.len
    have hl2 : Fs.length = L.length := h3.lenF
    have e1 : L.set i (sO O d) = L := List.set_eq_of_length_le (by omega)
    have e2 : σ.set i (some v) = σ := List.set_eq_of_length_le (by omega)
    rw [e1, e2]
    exact ⟨own, At.ext ⟨h1, h2, ⟨Fs, h3, e⟩, h4, h5, h6⟩ s⟩
/-- x = e -/
theorem evb_setN {m : M α} {h : α → M δ} (ok : OkS p sc NN VV GG k g) (hN : NN[i]? = some x) (hV : VV[j]? = some x) (wk : Wkx g L (NoEx m)) (he : EvN g L e O m) (hr : ∀ d, EvB g (L.set i (sO O d)) st D (h d))
    (hs : swapsWith e (some (.Name x pos')) pos.line g.X.env = pure false := by rfl) : EvB g L (.Assign [.Name x pos'] e pos :: st) D (m.bind h) := by
  refine PSs.imp (pss_cons (ps_set (i := i) (by rw [ok.N]; exact ok.nd) (by rw [ok.N]; exact hN) (ok.loc hV) he hs (okS_fn ok)) (PSs.ex hr)) fun E σ H ⟨kp, own, at_, q⟩ => ?_
  refine ⟨kp, own, at_, ?_⟩
  cases m with
  | ok d =>
    intro v F H' s nd n r
    obtain ⟨own', a'⟩ := at_.setW (i := i) s nd n r
    exact ⟨d, kp, own', a', q⟩
  | ex c => exact BOk.exx' wk (fun n => n c rfl) at_ q
  | no => exact q
/-- looked at, as if it were shared -/
theorem At.freezeP {fm : Fm} {kp : RdR} {σ : L2.St} {H : Hp} {own : List Addr} (h : At fm kp L σ H own) (hL : L[i]? = some (sP px O d)) : ∃ own', At fm kp (L.set i (sV false O.T d)) σ H own' ∧ ∀ p ∈ own', p ∈ own := by
  obtain ⟨h1, h2, ⟨Fs, h3, e⟩, h4, h5, h6⟩ := h
  obtain ⟨v0, F, e1, e2, v, rfl, hx, r⟩ := h3.get hL
  have nd := h4
  rw [e] at nd
  have nF : ∀ q ∈ (Fs.set i []).flatten, q ∈ Fs.flatten ∧ q ∉ F := fun q hq => by
    rcases flat_set_mem nd e2 q hq with hq | hq
    · exact nomatch hq
    · exact hq
  have kk : ∀ q ∈ (Fs.set i []).flatten, q ∈ own := fun q hq => by rw [e]; exact (nF q hq).1
  have hk : ∀ q ∈ Fs.flatten, q ∉ F → H q = H q := fun _ _ _ => rfl
  refine ⟨_, ⟨h1, h2, ⟨Fs.set i [], h3.chg nd e2 e1 (RB.own kk) hk (s' := sV false O.T d) ⟨rfl, v, rfl, O.fz r (RB.own kk false) fun q hq o ho => ?_⟩, rfl⟩, flat_set_nd nd e2 List.nodup_nil (fun _ h => nomatch h), fun q hq => h5 q (kk q hq), fun a o z => RX.own (md := .sh) (H := H) kk a o (h6 a o z)⟩, kk⟩
  obtain ⟨o', ho', go⟩ := O.tb r q hq
  rw [ho] at ho'; cases ho'
  exact .inl ⟨.inl (cl_of ho (gd_nt go)), fun hq' => (nF q hq').2 hq, (h5 q (by rw [e]; exact flat_mem e2 q hq)).2.2⟩
theorem evb_freezeP {m : M δ} (hL : L[i]? = some (sP px O d)) (hr : EvB g (L.set i (sV false O.T d)) st D m) : EvB g L st D m := PSs.imp hr fun E σ H ⟨kp, own, at_, q⟩ => by
  obtain ⟨own', a', _⟩ := at_.freezeP hL
  exact ⟨kp, own', a', q⟩
theorem ev_borrowP {m : M β} (hf : Flat T ∨ md = .fx) (hL : L[i]? = some (sP px O d)) (h : EvE g (L.set i (sV false O.T d)) e md T m) : EvE g L e md T m := PE.imp h fun σ H Q q => by
  obtain ⟨kp, own, at_, q⟩ := tE_iff.mp q
  obtain ⟨own', a', sub⟩ := at_.freezeP hL
  refine tE_iff.mpr ⟨kp, own', a', ?_⟩
  cases m with
  | ok d =>
    refine fun v H' s r => q v H' s ?_
    rcases hf with hf | rfl
    · exact hf r
    · exact T.mono r fun a o z => ⟨z.1, fun y => (at_.new a y).1 z.2.2.2.2, z.2.2⟩
  | ex c => exact q
  | no => exact q
theorem evt_borrowP {m : M Bool} (hL : L[i]? = some (sP px O d)) (h : EvT g (L.set i (sV false O.T d)) e m) : EvT g L e m := PT.imp h fun σ H Q q => by
  obtain ⟨kp, own, at_, q⟩ := tT_iff.mp q
  obtain ⟨own', a', sub⟩ := at_.freezeP hL
  refine tT_iff.mpr ⟨kp, own', a', ?_⟩
  cases m <;> exact q
theorem evn_borrowP {m : M β} (hf : FlatW O2) (hL : L[i]? = some (sP px O d)) (h : EvN g (L.set i (sV false O.T d)) e O2 m) : EvN g L e O2 m := PE.imp h fun σ H Q ⟨kp, own, at_, q⟩ => by
  obtain ⟨own', a', sub⟩ := at_.freezeP hL
  refine ⟨kp, own', a', ?_⟩
  cases m with
  | ok d => exact fun v F H' s nd n r => q v F H' s nd n (hf r)
  | ex c => exact q
  | no => exact q
theorem fn_rtN {x qual : Str} {st : Stmt} {f : Addr} {fd : FuncData} {ps : List Str} {δ ρ : Type} {A : Ar δ} {O : WTy ρ} {L0 : δ → List Slot} {n m : Nat} {F : δ → M ρ} (hF : FunD p.K x qual (defArgs st) (defBody st) (defScope st) [] [] f fd) (hS : Sc st NN VV ps GG) (ha : ArS A n L0) (hn : ps.length = n) (hm : n + m = NN.length)
    (hb : Body p st NN VV GG k (fun d => L0 d ++ List.replicate m sAny) (fun r => oOut O r) F) : FnOk p.P p.w p.K p.mg p.base (L2.CX p.P p.w) (k + 1) f fd ps (spM p A (fun r => oOut O r) F) :=
  fn_gen (D' := fun r => oOut O r) hF hS ha hn hm (fun r fm Q h => h) hb
theorem evn_call {x : Str} {j kf : Nat} {ps : List Str} {δ ρ : Type} {A : Ar δ} {O : WTy ρ} {F : δ → M ρ} {m : M δ} {pp : Pos} (ok : Ok p sc NN VV GG k g) (hf : Fn p kf x ps (spM p A (fun r => oOut O r) F)) (hk : kf ≤ k) (hG : GG[j]? = some x)
    (ha : EvA g L (e :: es) md A m) (he : starEach (e :: es) g.X.env = (false, eval e g.X.env) :: starEach es g.X.env := by rfl) (hpl : (backTo pos (starEach es g.X.env)).any (·.1) = false := by rfl) :
    EvN g L (.Call (.Name x pp) (e :: es) [] pos) O (m.bind F) := by
  obtain ⟨f, fd, hF, hm, hkp, hbd⟩ := hf.ex
  obtain ⟨hg, ho⟩ := ok.gl hG
  rw [← ok.prog, ← ok.w, ← ok.base] at hF
  have hF' : FnOk g.X.prog g.X.w g.X.K g.X.mg g.X.base (L2.CX g.X.prog g.X.w) kf f fd ps (spM p A (fun r => oOut O r) F) := by rw [ok.K, ok.mg]; exact hF
  refine PE.imp (pe_callS hF' (ok.room.mono hk) hg (by rw [ok.mg]; exact hm) (by rw [ok.K]; exact hkp) (by rw [ok.K]; exact hbd) (tk_at ok) ha (okName_d ho).1 he hpl) fun σ H Q ⟨kp, own, at_, q⟩ => ?_
  refine subA finN (Same.refl H) at_ q fun d vs H1 s1 r1 at1 q1 => ⟨d, fun a => a ∈ own ∨ g.fm.z a, ⟨fun a z => ?_, fun P e => at1.same.tab P (ok.tab P e)⟩, ?_, ?_⟩
  · rcases z with z | z
    · exact (at1.new a z).1
    · exact at1.zin a z
  · rw [← ok.fmK]; exact args_in r1
  · rw [← ok.fmK]
    cases hd : F d with
    | ok r =>
      rw [hd] at q1
      refine fun v H' F1 s nd n r => q1 v F1 H' (s1.trans s) nd (fun a ha => s1.free (n a ha).1) (O.st r (fun a o z => ?_) fun _ _ => rfl)
      exact z.imp (fun ⟨z1, z2, z3⟩ => ⟨z1, fun hq => (List.mem_append.mp hq).elim z2 fun hq => z3 (.inl hq), fun hq => z3 (.inr hq)⟩) id
    | ex c =>
      rw [hd] at q1
      exact fun H' s => ⟨c, rfl, rfl, q1 H' (s1.trans s)⟩
    | no => rw [hd] at q1; exact q1
end
end Hd
namespace Hd
open PySem PySem.Spec L2
/-- arguments: f: the slots they begin with; fo: the slots they end with; pj: what is owned of them; up: what they have become -/
inductive ArX : {δ ω : Type} → WAr δ → Nat → (δ → List V → List Slot) → (ω → List V → List Slot) → (δ → ω) → (δ → ω → δ) → Prop where
  | nil : ArX (ω := Unit) waNil 0 (fun _ _ => []) (fun _ _ => []) (fun _ => ()) (fun d _ => d)
  | sh {α δ ω : Type} {T : Ty α} {A : WAr δ} {n : Nat} {f : δ → List V → List Slot} {fo : ω → List V → List Slot} {pj : δ → ω} {up : δ → ω → δ} : ArX A n f fo pj up →
      ArX (ω := ω) (waCons (wV T) A) (n + 1) (fun d vs => sV false T d.1 :: f d.2 vs.tail) (fun w vs => sAny :: fo w vs.tail) (fun d => pj d.2) (fun d w => (d.1, up d.2 w))
  | ow {α δ ω : Type} {O : WTy α} {A : WAr δ} {n : Nat} {f : δ → List V → List Slot} {fo : ω → List V → List Slot} {pj : δ → ω} {up : δ → ω → δ} : ArX A n f fo pj up →
      ArX (ω := α × ω) (waCons O A) (n + 1) (fun d vs => sA (vs.headD .non) O d.1 :: f d.2 vs.tail) (fun w vs => sA (vs.headD .non) O w.1 :: fo w.2 vs.tail) (fun d => (d.1, pj d.2)) (fun d w => (w.1, up d.2 w.2))
section
variable {δ ω : Type} {A : WAr δ} {n : Nat} {f : δ → List V → List Slot} {fo : ω → List V → List Slot} {pj : δ → ω} {up : δ → ω → δ} {H H1 : Hp} {R : Bool → RdR} {R1 : RdR}
theorem ArX.all (h : ArX A n f fo pj up) : ∀ {d : δ} {vs : List V} {F : List Addr}, A.rep d vs H (R false) F → vs.length = n ∧ ∃ Fs, AllS H R (f d vs) (vs.map some) Fs ∧ Fs.flatten = F := by
  induction h with
  | nil => rintro d vs F ⟨e1, e2⟩; subst e1; subst e2; exact ⟨rfl, [], .nil, rfl⟩
  | sh _ ih =>
    rintro d vs F ⟨v, r, F1, F2, e1, e2, ⟨e3, h1⟩, h2⟩
    subst e1; subst e2; subst e3
    obtain ⟨hl, Fs, h3, h4⟩ := ih h2
    exact ⟨by simp [hl], [] :: Fs, .cons ⟨rfl, v, rfl, h1⟩ h3, by simp [h4]⟩
  | ow _ ih =>
    rintro d vs F ⟨v, r, F1, F2, e1, e2, h1, h2⟩
    subst e1; subst e2
    obtain ⟨hl, Fs, h3, h4⟩ := ih h2
    exact ⟨by simp [hl], F1 :: Fs, .cons ⟨v, rfl, rfl, h1⟩ h3, by simp [h4]⟩
theorem ArX.back (h : ArX A n f fo pj up) (s : ∀ a o, R1 a o → R false a o) {L : List Slot} (hL : ∀ {σ : L2.St} {Fs : List (List Addr)}, AllS H R L σ Fs → Fs.flatten = []) : ∀ {d : δ} {w : ω} {vs : List V} {F1 : List Addr} {σ : L2.St} {Fs : List (List Addr)}, A.rep d vs H1 R1 F1 → AllS H R (fo w vs ++ L) σ Fs → A.rep (up d w) vs H (R false) Fs.flatten := by
  induction h with
  | nil => rintro d w vs F1 σ Fs ⟨e1, e2⟩ ha; subst e1; exact ⟨rfl, hL ha⟩
  | sh _ ih =>
    rintro d w vs F1 σ Fs ⟨v, r, G1, G2, e1, e2, ⟨e3, h1⟩, h2⟩ ha
    subst e1
    cases ha with
    | @cons _ _ _ _ _ Fs' q t =>
      cases (show _ = [] from q)
      exact ⟨v, r, [], Fs'.flatten, rfl, by simp, ⟨rfl, Ty.mono _ h1 s⟩, ih h2 t⟩
  | ow _ ih =>
    rintro d w vs F1 σ Fs ⟨v, r, G1, G2, e1, e2, h1, h2⟩ ha
    subst e1
    cases ha with
    | @cons _ _ _ _ F0 Fs' q t =>
      obtain ⟨x, _, e6, r5⟩ := q
      have e6 : x = v := e6
      subst e6
      exact ⟨x, r, F0, Fs'.flatten, rfl, by simp, r5, ih h2 t⟩
end
section
end
end Hd
namespace Hd
open PySem PySem.Spec L2
/-- the slots, some of them set -/
def setAll (L : List Slot) : List (Nat × Slot) → List Slot
  | [] => L
  | c :: cs => (setAll L cs).set c.1 c.2
/-- pointwise, but for some places -/
structure Pw (H : Hp) (R : Bool → RdR) (L : List Slot) (σ : L2.St) (Fs : List (List Addr)) (out : Nat → Prop) : Prop where
  l1 : σ.length = L.length
  l2 : Fs.length = L.length
  ok : ∀ j, ¬ out j → ∀ s v F, L[j]? = some s → σ[j]? = some v → Fs[j]? = some F → s.ok v H R F
theorem AllS.pw {H : Hp} {R : Bool → RdR} {L : List Slot} {σ : L2.St} {Fs : List (List Addr)} (h : AllS H R L σ Fs) : Pw H R L σ Fs (fun _ => False) := by
  refine ⟨h.len, h.lenF, fun j _ s v F e1 e2 e3 => ?_⟩
  obtain ⟨v', F', e4, e5, r⟩ := h.get e1
  rw [e2] at e4; cases e4
  rw [e3] at e5; cases e5
  exact r
theorem Pw.all {H : Hp} {R : Bool → RdR} : ∀ {L : List Slot} {σ : L2.St} {Fs : List (List Addr)}, Pw H R L σ Fs (fun _ => False) → AllS H R L σ Fs
  | [], σ, Fs, h => by
    have e1 : σ = [] := List.length_eq_zero_iff.mp h.l1
    have e2 : Fs = [] := List.length_eq_zero_iff.mp h.l2
    subst e1; subst e2; exact .nil
  | s :: L, [], Fs, h => by have := h.l1; simp at this
  | s :: L, v :: σ, [], h => by have := h.l2; simp at this
  | s :: L, v :: σ, F :: Fs, h => .cons (h.ok 0 (fun z => z) s v F rfl rfl rfl) (Pw.all ⟨by have := h.l1; simpa using this, by have := h.l2; simpa using this, fun j _ s' v' F' e1 e2 e3 => h.ok (j + 1) (fun z => z) s' v' F' (by simpa using e1) (by simpa using e2) (by simpa using e3)⟩)
/-- arguments, some of them places in slots of their own -/
inductive ArgsAt (L : List Slot) (σ : L2.St) (Fs : List (List Addr)) (H : Hp) (R : RdR) : {δ ω τ : Type} → WAr δ → (δ → ω → δ) → δ → List V → List Addr → List Nat → (ω → τ) → (τ → List (Nat × Slot)) → Prop where
  | nil : ArgsAt L σ Fs H R (ω := Unit) (τ := Unit) waNil (fun d _ => d) () [] [] [] (fun _ => ()) (fun _ => [])
  | sh {α δ ω τ : Type} {T : Ty α} {A : WAr δ} {up : δ → ω → δ} {d : α} {ds : δ} {v : V} {vs : List V} {Fa : List Addr} {is : List Nat} {pu : ω → τ} {mk : τ → List (Nat × Slot)} : T.rep d v R → ArgsAt L σ Fs H R A up ds vs Fa is pu mk →
      ArgsAt L σ Fs H R (waCons (wV T) A) (fun d w => (d.1, up d.2 w)) (d, ds) (v :: vs) Fa is pu mk
  | ow {α β δ ω τ : Type} {O : WTy α} {O2 : WTy β} {A : WAr δ} {up : δ → ω → δ} {d : α} {d2 : β} {ds : δ} {v v2 : V} {vs : List V} {F F2 Fa : List Addr} {is : List Nat} {i : Nat} {put : β → α} {px : V → Prop} {pu : ω → τ} {mk : τ → List (Nat × Slot)} :
      L[i]? = some (sP px O d) → σ[i]? = some (some v) → px v → Fs[i]? = some F → Plc H R O v F O2 d2 put v2 F2 → i ∉ is → ArgsAt L σ Fs H R A up ds vs Fa is pu mk →
      ArgsAt L σ Fs H R (ω := β × ω) (τ := α × τ) (waCons O2 A) (fun d w => (w.1, up d.2 w.2)) (d2, ds) (v2 :: vs) (F2 ++ Fa) (i :: is) (fun w => (put w.1, pu w.2)) (fun t => (i, sP px O t.1) :: mk t.2)
section
variable {L : List Slot} {σ : L2.St} {Fs : List (List Addr)} {H H' : Hp} {R R' : RdR} {δ ω τ : Type} {A : WAr δ} {up : δ → ω → δ} {ds : δ} {vs : List V} {Fa : List Addr} {is : List Nat} {pu : ω → τ} {mk : τ → List (Nat × Slot)}
theorem ArgsAt.ext (h : ArgsAt L σ Fs H R A up ds vs Fa is pu mk) (s : ∀ a o, R a o → R' a o) (k : ∀ p ∈ Fs.flatten, H' p = H p) : ArgsAt L σ Fs H' R' A up ds vs Fa is pu mk := by
  induction h with
  | nil => exact .nil
  | sh r _ ih => exact .sh (Ty.mono _ r s) ih
  | ow h1 h2 h3 h4 pl hn _ ih => exact .ow h1 h2 h3 h4 (pl.ext s fun p hp => k p (flat_mem h4 p hp)) hn ih
/-- the roots: what they hold of the arguments -/
theorem ArgsAt.sub (h : ArgsAt L σ Fs H R A up ds vs Fa is pu mk) : ∀ q ∈ Fa, ∃ i ∈ is, ∃ F, Fs[i]? = some F ∧ q ∈ F := by
  induction h with
  | nil => exact fun q hq => nomatch hq
  | sh _ _ ih => exact ih
  | ow h1 h2 h3 h4 pl hn _ ih =>
    intro q hq
    rcases List.mem_append.mp hq with hq | hq
    · exact ⟨_, List.mem_cons_self, _, h4, pl.sub q hq⟩
    · obtain ⟨i, hi, F, e, hF⟩ := ih q hq
      exact ⟨i, List.mem_cons_of_mem _ hi, F, e, hF⟩
theorem flat_two {i j : Nat} {F G : List Addr} (nd : Fs.flatten.Nodup) (h1 : Fs[i]? = some F) (h2 : Fs[j]? = some G) {q : Addr} (hF : q ∈ F) (hG : q ∈ G) : i = j := by
  induction Fs generalizing i j with
  | nil => simp at h1
  | cons E Fs ih =>
    rw [List.flatten_cons, List.nodup_append] at nd
    cases i with
    | zero =>
      cases j with
      | zero => rfl
      | succ j =>
        simp at h1; subst h1
        exact absurd rfl (nd.2.2 q hF q (flat_mem (by simpa using h2) q hG))
    | succ i =>
      cases j with
      | zero =>
        simp at h2; subst h2
        exact absurd rfl (nd.2.2 q hG q (flat_mem (by simpa using h1) q hF))
      | succ j =>
        have := ih nd.2.1 (i := i) (j := j) (by simpa using h1) (by simpa using h2)
        rw [this]
theorem ArgsAt.rep (h : ArgsAt L σ Fs H R A up ds vs Fa is pu mk) (nd : Fs.flatten.Nodup) : A.rep ds vs H R Fa ∧ Fa.Nodup := by
  induction h with
  | nil => exact ⟨⟨rfl, rfl⟩, List.nodup_nil⟩
  | sh r _ ih => exact ⟨⟨_, _, [], _, rfl, rfl, ⟨rfl, r⟩, ih.1⟩, ih.2⟩
  | ow h1 h2 h3 h4 pl hn t ih =>
    refine ⟨⟨_, _, _, _, rfl, rfl, pl.rep, ih.1⟩, List.nodup_append.mpr ⟨pl.nd, ih.2, fun a ha b hb e => ?_⟩⟩
    subst e
    obtain ⟨i', hi', F', e', hF'⟩ := t.sub a hb
    have := flat_two nd h4 e' (pl.sub a ha) hF'
    subst this
    exact hn hi'
/-- the roots hold again -/
theorem ArgsAt.done (h : ArgsAt L σ Fs H R A up ds vs Fa is pu mk) {FA : List Addr} {RR : Bool → RdR} (hFA : ∀ q ∈ Fa, q ∈ FA) (hR : ∀ a o, R a o → RR false a o) (hk : ∀ p ∈ Fs.flatten, p ∉ FA → H' p = H p) (nd : Fs.flatten.Nodup) {Gs : List (List Addr)} (eG : Gs = Fs.map (List.filter fun q => decide (q ∉ FA))) (ndG : Gs.flatten.Nodup)
    (hroot : ∀ i ∈ is, ∀ F, Fs[i]? = some F → ∀ q ∈ F, q ∈ FA → q ∈ Fa) {w : ω} : ∀ {Fa' : List Addr}, A.rep (up ds w) vs H' (RR false) Fa' → Fa'.Nodup → (∀ q ∈ Fa', q ∈ FA ∨ q ∉ Fs.flatten) →
    ∃ Fs' : List (List Addr), Fs'.length = Gs.length ∧ (∀ j, j ∉ is → Fs'[j]? = Gs[j]?) ∧ (∀ j ∈ is, ∀ s v F, (setAll L (mk (pu w)))[j]? = some s → σ[j]? = some v → Fs'[j]? = some F → s.ok v H' RR F) ∧ (∀ j, j ∉ is → (setAll L (mk (pu w)))[j]? = L[j]?) ∧ (setAll L (mk (pu w))).length = L.length ∧ Fs'.flatten.Nodup ∧ ∀ q ∈ Fs'.flatten, q ∈ Fa' ∨ q ∈ Gs.flatten := by
  have memG : ∀ {i : Nat} {F : List Addr}, Fs[i]? = some F → Gs[i]? = some (F.filter fun q => decide (q ∉ FA)) := fun {i F} e => by rw [eG, List.getElem?_map, e]; rfl
  have subG : ∀ q ∈ Gs.flatten, q ∈ Fs.flatten ∧ q ∉ FA := fun q hq => by
    rw [eG] at hq
    obtain ⟨G, hG, hq⟩ := List.mem_flatten.mp hq
    obtain ⟨F, hF, rfl⟩ := List.mem_map.mp hG
    rw [List.mem_filter, decide_eq_true_eq] at hq
    exact ⟨List.mem_flatten.mpr ⟨F, hF, hq.1⟩, hq.2⟩
  induction h with
  | nil => intro Fa' _ _ _; exact ⟨Gs, rfl, fun _ _ => rfl, (fun _ h => nomatch h), fun _ _ => rfl, rfl, ndG, fun q hq => .inr hq⟩
  | sh r t ih =>
    rintro Fa' ⟨v', r', G1, G2, e1, e2, ⟨e3, h1⟩, h2⟩ ndF nF
    cases e1
    subst e3; subst e2
    exact ih hFA hroot h2 ndF nF
  | @ow α β δ ω τ O O2 A up d d2 ds v v2 vs F F2 Fa is i put px pu mk h1 h2 h3 h4 pl hn t ih =>
    rintro Fa' ⟨v', r', G1, G2, e1, e2, r1, r2⟩ ndF nF
    cases e1
    subst e2
    rw [List.nodup_append] at ndF
    have hroot2 : ∀ i ∈ is, ∀ F, Fs[i]? = some F → ∀ q ∈ F, q ∈ FA → q ∈ Fa := fun j hj F' e' q hq hA => by
      rcases List.mem_append.mp (hroot j (List.mem_cons_of_mem _ hj) F' e' q hq hA) with z | z
      · have := flat_two nd h4 e' (pl.sub q z) hq
        subst this
        exact absurd hj hn
      · exact z
    obtain ⟨Fs1, l1, n1, k1, m1, ml, nd1, q1⟩ := ih (fun q hq => hFA q (List.mem_append_right _ hq)) hroot2 r2 ndF.2.1 (fun q hq => nF q (List.mem_append_right _ hq))
    have hF2 : ∀ q ∈ F, q ∈ FA → q ∈ F2 := fun q hq hA => by
      rcases List.mem_append.mp (hroot i List.mem_cons_self F h4 q hq hA) with z | z
      · exact z
      · obtain ⟨j, hj, F', e', hq'⟩ := t.sub q z
        have := flat_two nd h4 e' hq hq'
        subst this
        exact absurd hj hn
    obtain ⟨F', r3, nd3, n3⟩ := pl.up hR (fun p hp hpn => hk p (flat_mem h4 p hp) fun hA => hpn (hF2 p hp hA)) r1 ndF.1 (fun q hq => (nF q (List.mem_append_left _ hq)).elim (fun z => by
      by_cases y : q ∈ F
      · exact .inl (hF2 q y z)
      · exact .inr y) fun z => .inr fun y => z (flat_mem h4 q y))
    have ei : Fs1[i]? = some (F.filter fun q => decide (q ∉ FA)) := by rw [n1 i hn]; exact memG h4
    have hi : i < Fs1.length := (List.getElem?_eq_some_iff.mp ei).1
    have nF' : ∀ x ∈ F', x ∈ F.filter (fun q => decide (q ∉ FA)) ∨ x ∉ Fs1.flatten := fun x hx => by
      rcases n3 x hx with hx | ⟨hx, hx2⟩
      · refine .inr fun y => ?_
        rcases q1 x y with y | y
        · exact ndF.2.2 x hx x y rfl
        · obtain ⟨y1, y2⟩ := subG x y
          exact (nF x (List.mem_append_left _ hx)).elim y2 fun z => z y1
      · exact .inl (by rw [List.mem_filter, decide_eq_true_eq]; exact ⟨hx, fun hA => hx2 (hF2 x hx hA)⟩)
    refine ⟨Fs1.set i F', by rw [List.length_set, l1], fun j hj => ?_, fun j hj s v' F'' e1 e2 e3 => ?_, fun j hj => ?_, by show ((setAll L (mk (pu w.2))).set i _).length = _; rw [List.length_set, ml], flat_set_nd nd1 ei nd3 nF', fun q hq => ?_⟩
    · rw [List.getElem?_set_ne fun e => hj (by rw [e]; exact List.mem_cons_self)]
      exact n1 j fun z => hj (List.mem_cons_of_mem _ z)
    · have e1 : ((setAll L (mk (pu w.2))).set i (sP px O (put w.1)))[j]? = some s := e1
      by_cases hij : j = i
      · subst hij
        rw [List.getElem?_set_self hi] at e3
        have hj' : j < (setAll L (mk (pu w.2))).length := by rw [ml]; exact (List.getElem?_eq_some_iff.mp h1).1
        rw [List.getElem?_set_self hj'] at e1
        rw [h2] at e2
        cases e1; cases e2; cases e3
        exact ⟨v, rfl, h3, r3⟩
      · rw [List.getElem?_set_ne fun e => hij e.symm] at e1 e3
        exact k1 j ((List.mem_cons.mp hj).resolve_left hij) s v' F'' e1 e2 e3
    · show ((setAll L (mk (pu w.2))).set i _)[j]? = _
      rw [List.getElem?_set_ne fun e => hj (by rw [e]; exact List.mem_cons_self)]
      exact m1 j fun z => hj (List.mem_cons_of_mem _ z)
    · rcases flat_set_mem nd1 ei q hq with hq | ⟨hq, _⟩
      · rcases n3 q hq with hq | ⟨hq, hq2⟩
        · exact .inl (List.mem_append_left _ hq)
        · refine .inr (flat_mem (memG h4) q ?_)
          rw [List.mem_filter, decide_eq_true_eq]
          exact ⟨hq, fun hA => hq2 (hF2 q hq hA)⟩
      · exact (q1 q hq).imp (List.mem_append_right _) id
end
end Hd
namespace Hd
open PySem PySem.Spec L2
section
variable {p : Pr} {sc : Scope} {NN VV GG : List Str} {k : Nat} {g : G} {L L' : List Slot} {a b c e e' ix : Expr} {es : List Expr} {md md' : Md} {α β γ δ ρ ω τ : Type} {S : Ty α} {T : Ty β} {O : WTy α} {O2 : WTy β} {O3 : WTy γ} {A : WAr δ} {pos pp pos' : Pos} {i j : Nat} {x f : Str} {px : V → Prop} {d : α}
theorem AllS.hk {fm : Fm} {own : List Addr} {L : List Slot} {σ : L2.St} {H H' : Hp} {Fs : List (List Addr)} {R : Bool → RdR} (hs : AllS H R L σ Fs) (s : Same H H') : ∀ q ∈ Fs.flatten, H' q = H q := fun q hq => by
  cases r : cl H q with
  | none => exact absurd r (hs.tb q hq)
  | some o => rw [cl_raw r]; exact s.keep _ _ (cl_raw r) (cl_nt r)
end
section
end
section
end
end Hd
namespace Hd
open PySem PySem.Spec L2
section
variable {p : Pr} {sc : Scope} {NN VV GG VV' GG' : List Str} {k : Nat} {g : G} {L L' : List Slot} {a b c e e' : Expr} {es : List Expr} {md md' : Md} {α β γ δ ρ : Type} {S : Ty α} {O : WTy β} {U : Ty γ} {A : Ar δ} {pos : Pos} {K : PySem.W.Frag} {tg : Expr} {st : List Stmt} {D : δ → Out} {i j : Nat} {x : Str}
def tN (fm : Fm) (W : Wx) (L : List Slot) {β : Type} (O : WTy β) (m : M β) : TE := fun σ H Q => ∃ kp own, At fm kp L σ H own ∧ FinN fm W own σ H O Q m
/-- [elt for x in it if c] -/
theorem evn_lc2 {scope : Scope} {it elt : Expr} {m : M (List α)} {cm : α → M Bool} {f : α → M β} {tp : Pos} {ifs : List Expr} {s₀ : Slot} (ok : Ok p sc NN VV GG k g) (hI : EvI g L (.Name x tp) it S m) (hN : NN[i]? = some x) (hLi : L[i]? = some s₀) (hs₀ : NoOwn s₀) (hb : blkC NN sc scope [(x, i)] = true)
    (hv : VV'.all (seenB scope) = true) (hg : GG'.all (glB scope) = true) (hx : locB scope x = true)
    (hc : ∀ g', Ok p scope NN VV' GG' k g' → ∀ d, PTs g'.X ifs (tT g'.fm g'.W (L.set i (sV false S d)) (cm d)))
    (hO : FlatW O) (he : ∀ g', Ok p scope NN VV' GG' k g' → ∀ d, EvN g' (L.set i (sV false S d)) elt O (f d)) (hs : ∀ x, foldedSetIterable it g.X.env x = pure x := by intro _; rfl) :
    (EvN g L (.ListComp elt [⟨.Name x tp, it, ifs, 0⟩] scope pos) (wL O) (m.bind fun xs => compM (fun d => (cm d).bind fun c => if c = true then (f d).bind fun y => .ok (some y) else .ok none) xs)) ∧
    (∀ {y : Str} {i2 : Nat} {py spos : Pos}, NN[i2]? = some y → g.X.env.scope.names.lookup y = some .local → swapsWith (.ListComp elt [⟨.Name x tp, it, ifs, 0⟩] scope pos) (some (.Name y py)) spos.line g.X.env = pure true →
      PS g.X (.Assign [.Name y py] (.ListComp elt [⟨.Name x tp, it, ifs, 0⟩] scope pos) spos) (tAsg (tN g.fm g.W L (wL O) (m.bind fun xs => compM (fun d => (cm d).bind fun c => if c = true then (f d).bind fun y => .ok (some y) else .ok none) xs)) (gName i2))) := by
  have loc : ∀ (s : Shared) (H : Hp) (C : Addr) (cl : List (Str × Addr)) (fp : List Addr), L2.Loc (g.X.blk s H scope (compEnvC scope cl C g.X.env) fp).env.scope x ∧ ((g.X.blk s H scope (compEnvC scope cl C g.X.env) fp).fn x = true ∨ (g.X.blk s H scope (compEnvC scope cl C g.X.env) fp).env.scope.names.lookup x = some .local) := by
    intro s H C cl fp
    rcases locB_v hx with h | h
    · have q : (relabel scope g.X.env).names.lookup x = some .local := by
        rcases lookup_rl (env := g.X.env) h with q | ⟨q, _⟩
        · exact q
        · cases q
      exact ⟨.inl q, .inr q⟩
    · have q : (relabel scope g.X.env).names.lookup x = some .cell := by
        rcases lookup_rl (env := g.X.env) h with q | ⟨q, _⟩
        · exact q
        · cases q
      refine ⟨.inr q, .inl ?_⟩
      show (scope.names.lookup x == some .cell) = true
      rw [h]; rfl
  have BODY : ∀ σ H Q, tN g.fm g.W L (wL O) (m.bind fun xs => compM (fun d => (cm d).bind fun c => if c = true then (f d).bind fun y => .ok (some y) else .ok none) xs) σ H Q →
      tLc (tI g.fm g.W L S m) (gName i) (fun σ H Q => ∃ z : {fm' : Fm // fm'.K = p.K ∧ ∀ P, p.T = some P → LamX.TabS fm'.H0 P lamQ} × α, tT z.1.1 (fun _ _ _ => False) (L.set i (sV false S z.2)) (cm z.2) σ H Q)
        (fun σ H Q => ∃ z : {fm' : Fm // fm'.K = p.K ∧ ∀ P, p.T = some P → LamX.TabS fm'.H0 P lamQ} × α, tN z.1.1 (fun _ _ _ => False) (L.set i (sV false S z.2)) O (f z.2) σ H Q) ([(x, i)].map (·.2)) σ H Q := by
    intro σ H Q q
    obtain ⟨kp, own, at_, q⟩ := q
    cases m with
    | ex c => exact ⟨kp, own, at_, q⟩
    | no => exact q.elim
    | ok xs =>
    refine ⟨kp, own, at_, fun J H1 s1 hJ D hD => ?_⟩
    have at1 := at_.ext s1
    have hHD : H D = none := s1.free hD
    -- the inner frame
    let fm' : Fm := ⟨g.fm.K, g.fm.H0, fun a => a = D ∨ g.fm.z a⟩
    let hh : α → M (Option β) := fun d => (cm d).bind fun c => if c = true then (f d).bind fun y => .ok (some y) else .ok none
    have q : FinN g.fm g.W own σ H (wL O) Q (compM hh xs) := q
    unfold compM at q
    split at q
    case isFalse => exact q.elim
    rename_i hlen
    have aw : At g.fm kp (L.set i sAny) (σ.set i none) H1 own := at1.setN hLi hs₀ rfl
    have rdD : ∀ (md : Md) (H0 : Hp) a o, RX g.fm own H0 H1 md a o → RX fm' own H0 (upd H1 D (.lst [])) md a o := fun md H0 a o z => by
      have z2 := RX.add (o' := .lst []) hD a o z
      cases md with
      | sh => exact z2.imp (fun ⟨a1, a2, a3⟩ => ⟨a1, fun y => a2 (List.mem_cons_of_mem _ y), fun y => y.elim (fun e => a2 (by rw [e]; exact List.mem_cons_self)) a3⟩) id
      | f0 => exact ⟨z2.1, fun y => z2.2.1 (List.mem_cons_of_mem _ y), fun y => y.elim (fun e => z2.2.1 (by rw [e]; exact List.mem_cons_self)) z2.2.2.1, z2.2.2.2⟩
      | fx => exact ⟨z2.1, fun y => z2.2.1 (List.mem_cons_of_mem _ y), fun y => y.elim (fun e => z2.2.1 (by rw [e]; exact List.mem_cons_self)) z2.2.2.1, z2.2.2.2⟩
    have a0 : At fm' (RD g.fm own H1) (L.set i sAny) (wipe σ [i]) (upd H1 D (.lst [])) own := by
      obtain ⟨h1, h2, ⟨Fs, h3, e⟩, h4, h5, h6⟩ := aw
      refine ⟨h1.trans (newSame hD), fun a z => ?_, ⟨Fs, h3.st (fun b a o z => ?_) fun y hy => ?_, e⟩, h4, fun y hy => ⟨fun n => (h5 y hy).1 ((newSame hD).free n), (h5 y hy).2.1, fun z => z.elim (fun e => (h5 y hy).1 (by rw [e]; exact hD)) (h5 y hy).2.2⟩, fun a o z => rdD .sh H1 a o z⟩
      · rcases z with z | z
        · rw [z, upd_same]; exact fun n => by cases n
        · exact fun n => h2 a z ((newSame hD).free n)
      · cases b with
        | false => exact rdD .sh H1 a o z
        | true => exact rdD .f0 H1 a o z
      · exact upd_ne fun e' => (h5 y (by rw [e]; exact hy)).1 (by rw [e']; exact hD)
    refine ⟨fun n mm H' => mm = xs.length - n ∧ n ≤ xs.length ∧ ∃ vs ds Gs, H' D = some (.lst vs) ∧ vs.length ≤ n ∧ Same H H' ∧ RepsO O H' (fun _ _ => False) ds vs Gs ∧ Gs.flatten.Nodup ∧ (∀ q ∈ Gs.flatten, H q = none ∧ q ≠ D) ∧ At fm' (RD g.fm own H1) (L.set i sAny) (wipe σ [i]) H' own ∧
      FinN g.fm g.W own σ H (wL O) Q ((compG hh (xs.drop n)).bind fun l => .ok (ds ++ l)), ⟨_, rfl, Nat.zero_le _, [], [], [], upd_same, Nat.zero_le _, s1.trans (newSame hD), .nil, List.nodup_nil, (fun _ h => nomatch h), a0, ?_⟩, ?_⟩
    · rw [List.drop_zero]
      have e : ((compG hh xs).bind fun l => M.ok ([] ++ l)) = compG hh xs := by cases compG hh xs <;> rfl
      rw [e]; exact q
    rintro n mm H' ⟨rfl, hn, vs, ds, Gs, hDv, hvl, sH, rr, gnd, gn, a', q'⟩
    have rb : Rdb g.fm.K (RD g.fm own H1) H' := ⟨fun a o z n => (a'.kept a o z).imp (fun h => Rd.raw h.1 n) id⟩
    obtain ⟨hgo, hst⟩ := hJ H' rb n
    have rk : ∀ {H5 : Hp}, Same H' H5 → ∀ q ∈ Gs.flatten, H5 q = H' q := fun {H5} s q hq => by obtain ⟨o, ho, go⟩ := rr.tb q hq; rw [ho]; exact s.keep _ _ ho (gd_nt go)
    by_cases hlt : n < xs.length
    · have hx' : xs[n]? = some xs[n] := by simp [hlt]
      obtain ⟨go, yl⟩ := hgo _ hx'
      refine .inr ⟨go, fun H6 => ∃ vs ds Gs, H6 D = some (.lst vs) ∧ vs.length ≤ n + 1 ∧ Same H H6 ∧ RepsO O H6 (fun _ _ => False) ds vs Gs ∧ Gs.flatten.Nodup ∧ (∀ q ∈ Gs.flatten, H q = none ∧ q ≠ D) ∧ At fm' (RD g.fm own H1) (L.set i sAny) (wipe σ [i]) H6 own ∧
        FinN g.fm g.W own σ H (wL O) Q ((compG hh (xs.drop (n + 1))).bind fun l => .ok (ds ++ l)), fun H6 z => ⟨xs.length - (n + 1), by omega, rfl, hlt, z⟩, fun y H3 hy => ?_⟩
      obtain ⟨s3, r3⟩ := yl y H3 hy
      have a3 := a'.ext s3
      have ry : S.rep xs[n] y (RD fm' own H3) := S.mono r3 (Nw.rd a' a'.kept s3)
      have hLw : (L.set i sAny)[i]? = some sAny := by
        have hlt' := (List.getElem?_eq_some_iff.mp hLi).1
        rw [List.getElem?_set_self hlt']
      have a4 : At fm' (RD g.fm own H1) (L.set i (sV false S xs[n])) ((wipe σ [i]).set i (some y)) H3 own := by
        have := a3.setN (s' := sV false S xs[n]) (v := some y) hLw no_any ⟨rfl, y, rfl, ry⟩
        rwa [List.set_set] at this
      rw [List.drop_eq_getElem_cons hlt] at q'
      refine ⟨wipe1, ⟨⟨fm', ok.fmK, ok.tab⟩, xs[n]⟩, _, own, a4, ?_⟩
      have q2 : FinN g.fm g.W own σ H (wL O) Q (((hh xs[n]).nox.bind fun o => (compG hh (xs.drop (n + 1))).bind fun l => .ok (o.toList ++ l)).bind fun l => .ok (ds ++ l)) := q'
      cases hcm : cm xs[n] with
      | ex c => rw [show hh xs[n] = .ex c from by show (cm xs[n]).bind _ = _; rw [hcm]; rfl] at q2; exact q2.elim
      | no => rw [show hh xs[n] = .no from by show (cm xs[n]).bind _ = _; rw [hcm]; rfl] at q2; exact q2.elim
      | ok c =>
        intro H4 s4
        cases c with
        | false =>
          rw [show hh xs[n] = .ok none from by show (cm xs[n]).bind _ = _; rw [hcm]; rfl] at q2
          refine (if_neg (by decide)).mpr ?_
          have a5 : At fm' (RD g.fm own H1) (L.set i sAny) (wipe σ [i]) H4 own := a3.ext s4
          refine ⟨vs, ds, Gs, s4.keep _ _ (s3.keep _ _ hDv rfl) rfl, Nat.le_succ_of_le hvl, (sH.trans s3).trans s4, rr.st (fun _ _ h => h) (rk (s3.trans s4)), gnd, gn, a5, ?_⟩
          have e : (((M.ok (none : Option β)).nox.bind fun o => (compG hh (xs.drop (n + 1))).bind fun l => M.ok (o.toList ++ l)).bind fun l => M.ok (ds ++ l)) = (compG hh (xs.drop (n + 1))).bind fun l => M.ok (ds ++ l) := by
            cases compG hh (xs.drop (n + 1)) <;> rfl
          rw [e] at q2; exact q2
        | true =>
          refine (if_pos rfl).mpr ⟨⟨⟨fm', ok.fmK, ok.tab⟩, xs[n]⟩, _, own, a4.ext s4, ?_⟩
          cases hf : f xs[n] with
          | ex c => rw [show hh xs[n] = .ex c from by show (cm xs[n]).bind _ = _; rw [hcm]; show (f xs[n]).bind _ = _; rw [hf]; rfl] at q2; exact q2.elim
          | no => rw [show hh xs[n] = .no from by show (cm xs[n]).bind _ = _; rw [hcm]; show (f xs[n]).bind _ = _; rw [hf]; rfl] at q2; exact q2.elim
          | ok w =>
            rw [show hh xs[n] = .ok (some w) from by show (cm xs[n]).bind _ = _; rw [hcm]; show (f xs[n]).bind _ = _; rw [hf]; rfl] at q2
            intro v F5 H5 s5 nd5 n5 r5
            have s35 : Same H' H5 := (s3.trans s4).trans s5
            have sHH5 : Same H H5 := sH.trans s35
            have r6 := hO (R' := fun _ _ => False) r5
            have tb5 := O.tb r5
            have n5H' : ∀ q ∈ F5, H' q = none := fun q hq => (s3.trans s4).free (n5 q hq)
            have n5D : ∀ q ∈ F5, q ≠ D := fun q hq e => by have := n5H' q hq; rw [e, hDv] at this; cases this
            have dj : ∀ q ∈ Gs.flatten, q ∉ F5 := fun q h1 h2 => by obtain ⟨o, ho, _⟩ := rr.tb q h1; rw [n5H' q h2] at ho; cases ho
            have gn' : ∀ q ∈ (Gs ++ [F5]).flatten, H q = none ∧ q ≠ D := fun q hq => by
              rw [flat_snoc] at hq
              rcases List.mem_append.mp hq with hq | hq
              · exact gn q hq
              · exact ⟨sH.free (n5H' q hq), n5D q hq⟩
            refine ⟨vs, s35.keep _ _ hDv rfl, by omega, vs ++ [v], ds ++ [w], Gs ++ [F5], upd_same, by rw [List.length_append, List.length_singleton]; omega, sHH5.wr hHD (s35.keep _ _ hDv rfl) (fun _ z => nomatch z) rfl, ?_, ?_, gn', ?_, ?_⟩
            · exact ((rr.st (fun _ _ h => h) (rk s35)).append (.cons r6 .nil)).st (fun _ _ h => h) fun q hq => upd_ne (gn' q hq).2
            · rw [flat_snoc]; exact List.nodup_append.mpr ⟨gnd, nd5, fun a ha b hb e => dj a ha (by rw [e]; exact hb)⟩
            · -- the slots at the changed heap
              have a5 : At fm' (RD g.fm own H1) (L.set i sAny) (wipe σ [i]) H5 own := a'.ext s35
              obtain ⟨h1, h2, ⟨Fs, h3, e⟩, h4, h5, h6⟩ := a5
              have ne : ∀ {a : Addr}, ¬ fm'.z a → a ≠ D := fun h e => h (.inl e)
              have k0 : ∀ (md : Md) a o, RX fm' own H5 H5 md a o → md = .fx ∨ RX fm' own (upd H5 D (.lst (vs ++ [v]))) (upd H5 D (.lst (vs ++ [v]))) md a o := fun md a o z => by
                cases md with
                | sh =>
                  refine .inr (z.imp (fun ⟨a1, a2, a3⟩ => ⟨?_, a2, a3⟩) id)
                  unfold Rd
                  rw [cl_upd_ne (ne a3)]
                  exact a1
                | f0 => exact .inr ⟨by rw [cl_upd_ne (ne z.2.2.1)]; exact z.1, z.2⟩
                | fx => exact .inl rfl
              have up : ∀ a, H5 a ≠ none → upd H5 D (.lst (vs ++ [v])) a ≠ none := fun a hne => by
                by_cases e : a = D
                · rw [e, upd_same]; exact fun z => by cases z
                · rw [upd_ne e]; exact hne
              refine ⟨h1.wr (at_.same.free hHD) (s35.keep _ _ hDv rfl) (fun _ z => nomatch z) rfl, fun a z => up a (h2 a z), ⟨Fs, h3.st (fun b a o z => ?_) fun y hy => ?_, e⟩, h4, fun y hy => ⟨up y (h5 y hy).1, (h5 y hy).2⟩, fun a o z => (k0 .sh a o (h6 a o z)).resolve_left fun e => nomatch e⟩
              · cases b with
                | false => exact (k0 .sh a o z).resolve_left fun e => nomatch e
                | true => exact (k0 .f0 a o z).resolve_left fun e => nomatch e
              · exact upd_ne (ne (h5 y (by rw [e]; exact hy)).2.2)
            · have e : (((M.ok (some w)).nox.bind fun o => (compG hh (xs.drop (n + 1))).bind fun l => M.ok (o.toList ++ l)).bind fun l => M.ok (ds ++ l)) = (compG hh (xs.drop (n + 1))).bind fun l => M.ok ((ds ++ [w]) ++ l) := by
                cases compG hh (xs.drop (n + 1)) <;> simp [M.nox, M.bind]
              rw [e] at q2; exact q2
    · have e : n = xs.length := by omega
      subst e
      rw [List.drop_length] at q'
      refine .inl ⟨hst (by simp), ?_⟩
      have q2 : FinN g.fm g.W own σ H (wL O) Q (.ok (ds ++ [])) := q'
      rw [List.append_nil] at q2
      exact q2 (.ref D) (D :: Gs.flatten) H' sH (List.nodup_cons.mpr ⟨fun h => (gn D h).2 rfl, gnd⟩) (fun q hq => by
        rcases List.mem_cons.mp hq with e | hq
        · rw [e]; exact hHD
        · exact (gn q hq).1) ⟨D, vs, Gs, rfl, rfl, hDv, fw_reps hO rr⟩
  refine ⟨PE.imp (pe_lc (own := [(x, i)]) ok.calm (by rw [ok.N]; exact ok.nd) hI (by rw [ok.N]; exact ok.blk hb) (fun s H C cl fp => pg_name (i := i) (by show g.X.N.Nodup; rw [ok.N]; exact ok.nd) (by show g.X.N[i]? = _; rw [ok.N]; exact hN) (loc s H C cl fp).1 (loc s H C cl fp).2)
    (fun s H C cl fp => PTs.ex (t := fun (z : {fm' : Fm // fm'.K = p.K ∧ ∀ P, p.T = some P → LamX.TabS fm'.H0 P lamQ} × α) => tT z.1.1 (fun _ _ _ => False) (L.set i (sV false S z.2)) (cm z.2)) fun z => hc ⟨g.X.blk s H scope (compEnvC scope cl C g.X.env) fp, z.1.1, fun _ _ _ => False, []⟩ (blk_ok ok z.1.2 hv hg) z.2) (fun s H C cl fp => PE.ex (t := fun (z : {fm' : Fm // fm'.K = p.K ∧ ∀ P, p.T = some P → LamX.TabS fm'.H0 P lamQ} × α) => tN z.1.1 (fun _ _ _ => False) (L.set i (sV false S z.2)) O (f z.2)) fun z => he ⟨g.X.blk s H scope (compEnvC scope cl C g.X.env) fp, z.1.1, fun _ _ _ => False, []⟩ (blk_ok ok z.1.2 hv hg) z.2) hs) BODY, fun {y i2 py spos} hy hyl hsw => ?_⟩
  exact PS.imp (ps_setLc (own := [(x, i)]) ok.calm (by rw [ok.N]; exact ok.nd) (by rw [ok.N]; exact hy) hyl hsw hI (by rw [ok.N]; exact ok.blk hb) (fun s H C cl fp => pg_name (i := i) (by show g.X.N.Nodup; rw [ok.N]; exact ok.nd) (by show g.X.N[i]? = _; rw [ok.N]; exact hN) (loc s H C cl fp).1 (loc s H C cl fp).2)
    (fun s H C cl fp => PTs.ex (t := fun (z : {fm' : Fm // fm'.K = p.K ∧ ∀ P, p.T = some P → LamX.TabS fm'.H0 P lamQ} × α) => tT z.1.1 (fun _ _ _ => False) (L.set i (sV false S z.2)) (cm z.2)) fun z => hc ⟨g.X.blk s H scope (compEnvC scope cl C g.X.env) fp, z.1.1, fun _ _ _ => False, []⟩ (blk_ok ok z.1.2 hv hg) z.2) (fun s H C cl fp => PE.ex (t := fun (z : {fm' : Fm // fm'.K = p.K ∧ ∀ P, p.T = some P → LamX.TabS fm'.H0 P lamQ} × α) => tN z.1.1 (fun _ _ _ => False) (L.set i (sV false S z.2)) O (f z.2)) fun z => he ⟨g.X.blk s H scope (compEnvC scope cl C g.X.env) fp, z.1.1, fun _ _ _ => False, []⟩ (blk_ok ok z.1.2 hv hg) z.2) hs) fun E σ H q => BODY σ H _ q
end
end Hd
namespace Hd
open PySem PySem.Spec L2
def tSum {α β : Type} (S : Ty α) (T : Ty β) : Ty (α ⊕ β) := ⟨fun d v R => match d with | .inl a => S.rep a v R | .inr b => T.rep b v R, fun {d v R R'} h s => by
  cases d with
  | inl a => exact S.mono h s
  | inr b => exact T.mono h s⟩
def unl {α β : Type} : α ⊕ β → M α
  | .inl a => .ok a
  | .inr _ => .no
def unr {α β : Type} : α ⊕ β → M β
  | .inl _ => .no
  | .inr b => .ok b
inductive It where
  | path (ns : List Int)
  | times (n : Int) (l : List It)
def itP : V := .str (Str.ofString "path")
def itT : V := .str (Str.ofString "times")
inductive ItR (R : RdR) : It → V → Prop where
  | path {ns : List Int} {a b : Addr} : R a (.tup [itP, .ref b]) → R b (.lst (ns.map V.int)) → ItR R (.path ns) (.ref a)
  | times {n : Int} {l : List It} {a b : Addr} {vs : List V} : R a (.tup [itT, .int n, .ref b]) → R b (.lst vs) → l.length = vs.length → (∀ (i : Nat) x v, l[i]? = some x → vs[i]? = some v → ItR R x v) → ItR R (.times n l) (.ref a)
theorem ItR.mono {R R' : RdR} (s : ∀ a o, R a o → R' a o) {x : It} {v : V} (h : ItR R x v) : ItR R' x v := by
  induction h with
  | path h1 h2 => exact .path (s _ _ h1) (s _ _ h2)
  | times h1 h2 h3 _ ih => exact .times (s _ _ h1) (s _ _ h2) h3 ih
theorem unl_ne {α β : Type} {d : α ⊕ β} : ∀ c, unl d ≠ .ex c := fun c => by cases d <;> exact fun h => nomatch h
theorem unr_ne {α β : Type} {d : α ⊕ β} : ∀ c, unr d ≠ .ex c := fun c => by cases d <;> exact fun h => nomatch h
section
variable {p : Pr} {sc : Scope} {NN VV GG : List Str} {k : Nat} {g : G} {L L' : List Slot} {a b c e e' : Expr} {es : List Expr} {md md' : Md} {α β γ δ ρ : Type} {S : Ty α} {T : Ty β} {U : Ty γ} {A : Ar δ} {pos pp : Pos} {j : Nat}
/-- seen as another kind -/
theorem ev_asM {m : M α} {f : α → M β} (hr : ∀ {d v R y}, S.rep d v R → f d = .ok y → T.rep y v R) (hne : ∀ {d} c, f d ≠ .ex c) (h : EvE g L e md S m) : EvE g L e md T (m.bind f) := PE.imp h fun σ H Q q => by
  obtain ⟨kp, own, at_, q⟩ := tE_iff.mp q
  refine tE_iff.mpr ⟨kp, own, at_, ?_⟩
  cases m with
  | ok d =>
    intro v H' s r
    have q : FinE g.fm g.W own σ H md T Q (f d) := q
    cases hf : f d with
    | ok y => rw [hf] at q; exact q v H' s (hr r hf)
    | ex c => exact absurd hf (hne c)
    | no => rw [hf] at q; exact q.elim
  | ex c => exact q
  | no => exact q
theorem ev_inl {m : M α} (h : EvE g L e md S m) : EvE g L e md (tSum S T) (m.bind fun d => .ok (.inl d)) := ev_as (fun d v R r => r) h
theorem unl_r {d : α ⊕ β} {v : V} {R : RdR} {y : α} (h : (tSum S T).rep d v R) (e : unl d = .ok y) : S.rep y v R := by
  cases d with
  | inl a => cases e; exact h
  | inr b => cases e
theorem unr_r {d : α ⊕ β} {v : V} {R : RdR} {y : β} (h : (tSum S T).rep d v R) (e : unr d = .ok y) : T.rep y v R := by
  cases d with
  | inl a => cases e
  | inr b => cases e; exact h
theorem ev_unl {m : M (α ⊕ β)} (h : EvE g L e md (tSum S T) m) : EvE g L e md S (m.bind unl) := ev_asM unl_r unl_ne h
theorem ev_unr {m : M (α ⊕ β)} (h : EvE g L e md (tSum S T) m) : EvE g L e md T (m.bind unr) := ev_asM unr_r unr_ne h
/-- an item of a tuple, told by the tuple's kind -/
structure TupAt (S : Ty α) (n : Nat) (T : Ty β) (f : α → β) : Prop where
  r : ∀ {d v R}, S.rep d v R → ∃ a vs w, v = .ref a ∧ R a (.tup vs) ∧ vs[n]? = some w ∧ T.rep (f d) w R
/-- .. how long it is -/
structure TupLen (S : Ty α) (f : α → Int) : Prop where
  r : ∀ {d v R}, S.rep d v R → ∃ a vs, v = .ref a ∧ R a (.tup vs) ∧ (vs.length : Int) = f d
theorem ta_tup {n : Int} {f : δ → α} (hA : ArAt A n S f) : TupAt (tTup A) n.toNat S f := ⟨fun {d v R} ⟨a, vs, e, h, r⟩ => by
  obtain ⟨w, h1, h2⟩ := hA.get r
  exact ⟨a, vs, w, e, h, h1, h2⟩⟩
theorem tl_tup {n : Nat} (hA : ∀ {d vs R}, A.rep d vs R → vs.length = n) : TupLen (tTup A) (fun _ => (n : Int)) := ⟨fun {d v R} ⟨a, vs, e, h, r⟩ => ⟨a, vs, e, h, by rw [hA r]⟩⟩
theorem ev_ixG {n : Nat} {f : α → β} {m : M α} (ok : Ok p sc NN VV GG k g) (hA : TupAt S n T f) (ha : EvE g L a md S m) (hb : EvE g L b md tInt (.ok (n : Int))) (hs : PlainIx b := by exact fun _ _ => rfl) : EvE g L (.Subscript a b pos) md T (m.bind fun t => .ok (f t)) :=
  ev_ix (S := S) (r := rIxT p.K) (m2 := .ok ()) (f := fun t _ => .ok (f t)) (T := tLit n) (fr := false) ok (by rw [← ok.K]; exact ix_tup) ⟨fun {d e x y R H Q} rb rx ry q => by
    obtain ⟨a, vs, w, e1, h, h1, h2⟩ := hA.r rx
    exact ⟨a, vs, n, w, e1, ry, st_of rb h, atI_nat h1, q _ _ (Same.refl _) (T.mono h2 (Nw.old rfl))⟩⟩ (fun _ _ _ h => nomatch h) .same ha (ev_lit hb) hs
theorem ev_lenG {f : α → Int} {m : M α} (ok : Ok p sc NN VV GG k g) (hA : TupLen S f) (hG : GG[j]? = some "len") (hmg : p.mg "len" = none) (ha : EvE g L e md S m) (hs : starEach [e] g.X.env = (false, eval e g.X.env) :: starEach [] g.X.env := by rfl) : EvE g L (.Call (.Name "len" pp) [e] [] pos) md' tInt (m.bind fun x => .ok (f x)) := by
  have h := ev_callB (md' := md') (U := tInt) (A := aCons S aNil) (f := fun d => .ok (f d.1)) (fr := true) (pos := pos) (pp := pp) ok call_len_seq ⟨fun {d xs R H Q} rb ⟨v, r, e1, h1, e3⟩ q => by
    subst e1; cases (show r = [] from e3)
    obtain ⟨a, vs, e4, h4, h5⟩ := hA.r h1
    exact ⟨a, vs, by rw [e4], .inr (by rw [ok.K]; exact st_of rb h4), q _ _ (Same.refl _) (by show _ = V.int _; rw [← h5])⟩⟩ (fun _ _ h => nomatch h) .fresh hG hmg PySem.boot_len (eva_cons ha eva_nil hs) hs rfl
  have e : (m.bind fun d => (M.ok ()).bind fun e => M.ok (d, e)).bind (fun d => M.ok (f d.1)) = m.bind fun x => .ok (f x) := by cases m <;> rfl
  rwa [e] at h
theorem i_sum {ty : String} (h1 : IsT S ty) (h2 : IsT T ty) : IsT (tSum S T) ty := ⟨fun {K d v R H} rb h => by
  cases d with
  | inl a => exact h1.t rb h
  | inr b => exact h2.t rb h⟩
end
end Hd
namespace Hd
open PySem PySem.Spec L2
section
end
end Hd
namespace Hd
open PySem PySem.Spec L2
section
end
end Hd
namespace Hd
open PySem PySem.Spec L2
section
end
end Hd
namespace Hd
open PySem PySem.Spec L2
section
end
end Hd
namespace Hd
open PySem PySem.Spec L2
section
end
end Hd
namespace Hd
open PySem PySem.Spec L2
section
variable {p : Pr} {sc : Scope} {NN VV GG : List Str} {k : Nat} {g : G} {L : List Slot} {e : Expr} {α β γ δ : Type} {O3 : WTy γ} {pos pos' np : Pos} {i j : Nat} {x : Str} {px : V → Prop} {ds : List γ} {st : List Stmt} {D : δ → Out}
theorem evb_nAppend {m : M γ} {h : List γ → M δ} {ap cp : Pos} (ok : OkS p sc NN VV GG k g) (hN : NN[i]? = some x) (hV : VV[j]? = some x) (hL : L[i]? = some (sP px (wL O3) ds)) (wk : Wk L g.LX) (he : EvN g L e O3 m) (hr : ∀ d', EvB g (L.set i (sP px (wL O3) d')) st D (h d'))
    (hs : swapsWith (.Call (.Attribute (.Name x np) "append" ap) [e] [] cp) none pos.line g.X.env = pure false := by rfl)
    (hbase : attributeBase (.Name x np) "append" g.X.env (eval (.Name x np) g.X.env) = eval (.Name x np) g.X.env := by rfl)
    (hfew : ((backTo cp (starEach [e] g.X.env)).all (fun x => !x.1) && (backToKw cp (keywordEach [] g.X.env)).all (fun x => x.1.isSome)
      && decide (([e] : List Expr).length + ([] : List Keyword).length + (if ([] : List Keyword).isEmpty then 0 else 1) < 30)) = true := by rfl)
    (hline : (ap.endLine == cp.line) = true := by rfl) (hst : starEach [e] g.X.env = (false, eval e g.X.env) :: starEach [] g.X.env := by rfl) (hpl : (backTo cp (starEach [] g.X.env)).any (·.1) = false := by rfl) :
    EvB g L (.Expr (.Call (.Attribute (.Name x np) "append" ap) [e] [] cp) pos :: st) D (m.bind fun y => (pushM ds y).bind h) :=
  evb_pAppend (mp := .ok (ds, fun y => y)) ok (.inl wk) (evp_name ok.toOk hN hV hL) he hr hs hbase hfew hline hst hpl
end
end Hd
namespace Hd
open PySem PySem.Spec L2
section
end
end Hd
namespace Hd
open PySem PySem.Spec L2
theorem WAt.set {δ : Type} {A : WAr δ} {kk : Nat} {α : Type} {O : WTy α} {pr : δ → α} {stt : δ → α → δ} (hA : WAt A kk O pr stt) : ∀ {d : δ} {vs : List V} {H : Hp} {R : RdR} {G F1 : List Addr} {x : α} {w : V}, A.rep d vs H R G → G.Nodup → O.rep x w H R F1 → F1.Nodup → (∀ q ∈ F1, q ∉ G) → ∃ G', A.rep (stt d x) (vs.set kk w) H R G' ∧ G'.Nodup ∧ (∀ q ∈ G', q ∈ F1 ∨ q ∈ G) ∧ kk < vs.length := by
  induction hA with
  | z =>
    rintro d vs H R G F1 x w ⟨v, r, Fa, Fb, e1, e2, h1, h2⟩ nd rx nd1 dis
    subst e1; subst e2
    have nd' := List.nodup_append.mp nd
    refine ⟨F1 ++ Fb, ⟨w, r, F1, Fb, rfl, rfl, rx, h2⟩, List.nodup_append.mpr ⟨nd1, nd'.2.1, fun q hq z hz e => dis q hq (by rw [e]; exact List.mem_append_right _ hz)⟩, fun q hq => ?_, by simp⟩
    rcases List.mem_append.mp hq with h | h
    · exact .inl h
    · exact .inr (List.mem_append_right _ h)
  | s _ ih =>
    rintro d vs H R G F1 x w ⟨v, r, Fa, Fb, e1, e2, h1, h2⟩ nd rx nd1 dis
    subst e1; subst e2
    have nd' := List.nodup_append.mp nd
    obtain ⟨G', g1, g2, g3, g4⟩ := ih h2 nd'.2.1 rx nd1 fun q hq hz => dis q hq (List.mem_append_right _ hz)
    refine ⟨Fa ++ G', ⟨v, _, Fa, G', rfl, rfl, h1, g1⟩, List.nodup_append.mpr ⟨nd'.1, g2, fun q hq z hz e => ?_⟩, fun q hq => ?_, by simp; omega⟩
    · subst e
      rcases g3 q hz with h | h
      · exact dis q h (List.mem_append_left _ hq)
      · exact nd'.2.2 q hq q h rfl
    · rcases List.mem_append.mp hq with h | h
      · exact .inr (List.mem_append_left _ h)
      · exact (g3 q h).imp id (List.mem_append_right _)
section
end
end Hd
namespace Hd
open PySem PySem.Spec PyProof.Rows L2
section
variable {p : Pr} {sc : Scope} {NN VV GG VV' GG' : List Str} {k : Nat} {g : G} {L L' : List Slot} {a b c e e' ix : Expr} {es : List Expr} {md md' : Md} {α β γ δ ρ : Type} {S : Ty α} {T : Ty β} {O : WTy α} {O2 : WTy β} {O3 : WTy γ} {A : WAr ρ} {pos pp pos' : Pos} {i j i2 : Nat} {x y f : Str} {px : V → Prop} {d : α} {st : List Stmt} {D : δ → Out} {py spos cpos tp : Pos} {elt it : Expr} {ifs : List Expr} {scope : Scope} {s₀ : Slot}
/-- y = [elt for x in it if c], items of one's own -/
theorem evn_lc {m : M (List α)} {cm : α → M Bool} {f : α → M β} (ok : Ok p sc NN VV GG k g) (hI : EvI g L (.Name x tp) it S m) (hN : NN[i]? = some x) (hLi : L[i]? = some s₀) (hs₀ : NoOwn s₀) (hb : blkC NN sc scope [(x, i)] = true)
    (hv : VV'.all (seenB scope) = true) (hg : GG'.all (glB scope) = true) (hx : locB scope x = true)
    (hc : ∀ g', Ok p scope NN VV' GG' k g' → ∀ d, PTs g'.X ifs (tT g'.fm g'.W (L.set i (sV false S d)) (cm d)))
    (hO : FlatW O2) (he : ∀ g', Ok p scope NN VV' GG' k g' → ∀ d, EvN g' (L.set i (sV false S d)) elt O2 (f d)) (hs : ∀ x, foldedSetIterable it g.X.env x = pure x := by intro _; rfl) :
    EvN g L (.ListComp elt [⟨.Name x tp, it, ifs, 0⟩] scope pos) (wL O2) (m.bind fun xs => compM (fun d => (cm d).bind fun c => if c = true then (f d).bind fun y => .ok (some y) else .ok none) xs) := (evn_lc2 ok hI hN hLi hs₀ hb hv hg hx hc hO he hs).1
/-- the statements over places, the rest behind a bind -/
theorem evb_qAppend {mp : M (List γ × (List γ → α))} {m : M γ} {h : α → M δ} {ap cp : Pos} (ok : OkS p sc NN VV GG k g) (wk : Wk L g.LX) (hp : EvP g L a i px O d (wL O3) mp) (he : EvN g L e O3 m) (hr : ∀ d', EvB g (L.set i (sP px O d')) st D (h d'))
    (hs : swapsWith (.Call (.Attribute a "append" ap) [e] [] cp) none pos.line g.X.env = pure false := by rfl)
    (hbase : attributeBase a "append" g.X.env (eval a g.X.env) = eval a g.X.env := by rfl)
    (hfew : ((backTo cp (starEach [e] g.X.env)).all (fun x => !x.1) && (backToKw cp (keywordEach [] g.X.env)).all (fun x => x.1.isSome)
      && decide (([e] : List Expr).length + ([] : List Keyword).length + (if ([] : List Keyword).isEmpty then 0 else 1) < 30)) = true := by rfl)
    (hline : (ap.endLine == cp.line) = true := by rfl) (hst : starEach [e] g.X.env = (false, eval e g.X.env) :: starEach [] g.X.env := by rfl) (hpl : (backTo cp (starEach [] g.X.env)).any (·.1) = false := by rfl) :
    EvB g L (.Expr (.Call (.Attribute a "append" ap) [e] [] cp) pos :: st) D (mp.bind fun q => m.bind fun x => (pushM q.1 x).bind fun l => M.bind (.ok (q.2 l)) h) :=
  evb_pAppend ok (.inl wk) hp he hr hs hbase hfew hline hst hpl
end
end Hd
namespace Hd
open PySem PySem.Spec PyProof.Rows L2
section
end
end Hd
namespace Hd
open PySem PySem.Spec PyProof.Rows L2
def selm {α β γ : Type} (f : α → γ) (h : β → γ) : α ⊕ β → γ
  | .inl a => f a
  | .inr b => h b
@[simp] theorem selm_l {α β γ : Type} (f : α → γ) (h : β → γ) (a : α) : selm f h (.inl a) = f a := rfl
@[simp] theorem selm_r {α β γ : Type} (f : α → γ) (h : β → γ) (b : β) : selm f h (.inr b) = h b := rfl
section
variable {p : Pr} {sc : Scope} {NN VV GG : List Str} {k : Nat} {g : G} {L : List Slot} {a b e tg : Expr} {md md' : Md} {pos pp : Pos} {j : Nat} {α β γ δ : Type} {S : Ty α} {T : Ty β} {U : Ty γ} {A : Ar δ} {K : PySem.W.Frag} {O : WTy α}
theorem tl_sumE {f : α → Int} {h : β → Int} (h1 : TupLen S f) (h2 : TupLen T h) : TupLen (tSum S T) (selm f h) := ⟨fun {d v R} r => by
  cases d with
  | inl a => exact h1.r r
  | inr b => exact h2.r r⟩
theorem ta_sumE {n : Nat} {f : α → γ} {h : β → γ} (h1 : TupAt S n U f) (h2 : TupAt T n U h) : TupAt (tSum S T) n U (selm f h) := ⟨fun {d v R} r => by
  cases d with
  | inl a => exact h1.r r
  | inr b => exact h2.r r⟩
/-- an own list of nothing -/
theorem evn_lnil : EvN g L (.List [] pos) (wL O) (.ok []) := PE.imp (evl_nil (S := tNone) (md := .sh)) fun σ H Q ⟨kp, own, at_, q⟩ => by
  refine tL_iff.mpr ⟨kp, own, at_, ?_⟩
  intro p vs H' s n h' r
  have e : vs = [] := by cases r; rfl
  subst e
  exact q (.ref p) [p] H' s (by simp) (fun q hq => by rw [List.mem_singleton.mp hq]; exact n) ⟨p, [], [], rfl, rfl, h', .nil⟩
end
end Hd
namespace Hd
open PySem PySem.Spec L2
section
end
section
end
end Hd
namespace Hd
open PySem PySem.Spec L2
def wSum {α β : Type} (O : WTy α) (O2 : WTy β) : WTy (α ⊕ β) := ⟨tSum O.T O2.T, fun d v H R F => match d with | .inl a => O.rep a v H R F | .inr b => O2.rep b v H R F,
  fun {d v H H' F R R'} h s k => by
    cases d with
    | inl a => exact O.st h s k
    | inr b => exact O2.st h s k,
  fun {d v H F R} h p hp => by
    cases d with
    | inl a => exact O.tb h p hp
    | inr b => exact O2.tb h p hp,
  fun {d v H F R R'} h s k => by
    cases d with
    | inl a => exact O.fz h s k
    | inr b => exact O2.fz h s k⟩
/-- the addresses of the slots is -/
def Mv (Fs : List (List Addr)) (is : List Nat) (a : Addr) : Prop := ∃ i ∈ is, ∃ F, Fs[i]? = some F ∧ a ∈ F
def FinMR {β : Type} (fm : Fm) (W : Wx) (own : List Addr) (Fs : List (List Addr)) (is : List Nat) (σ : L2.St) (H : Hp) (O : WTy β) (Q : VK) : M β → Prop
  | .ok d => ∀ v F H', Same H H' → F.Nodup → (∀ p ∈ F, H p = none ∨ Mv Fs is p) → O.rep d v H' (RD fm (F ++ own) H') F → Q v H'
  | .ex c => ∀ H', Same H H' → W c σ H'
  | .no => False
/-- an expression that makes a thing of one's own, of which the slots is are parts -/
def EvR (g : G) (L : List Slot) (is : List Nat) (e : Expr) {β : Type} (O : WTy β) (m : M β) : Prop := PE g.X e (fun σ H Q => ∃ kp own Fs, At g.fm kp L σ H own ∧ AllS H (RB g.fm own H) L σ Fs ∧ own = Fs.flatten ∧ FinMR g.fm g.W own Fs is σ H O Q m)
def FinMA {δ : Type} (fm : Fm) (W : Wx) (own : List Addr) (Fs : List (List Addr)) (is : List Nat) (σ : L2.St) (H : Hp) (A : WAr δ) (Q : List V → Hp → Prop) : M δ → Prop
  | .ok d => ∀ vs F H', Same H H' → F.Nodup → (∀ p ∈ F, H p = none ∨ Mv Fs is p) → A.rep d vs H' (RD fm (F ++ own) H') F → Q vs H'
  | .ex c => ∀ H', Same H H' → W c σ H'
  | .no => False
def EvRA (g : G) (L : List Slot) (is : List Nat) (es : List Expr) {δ : Type} (A : WAr δ) (m : M δ) : Prop := PA g.X es (fun σ H Q => ∃ kp own Fs, At g.fm kp L σ H own ∧ AllS H (RB g.fm own H) L σ Fs ∧ own = Fs.flatten ∧ FinMA g.fm g.W own Fs is σ H A Q m)
theorem RD.more {fm : Fm} {own own' : List Addr} {H H' : Hp} (s : Same H H') (k : ∀ p ∈ own', p ∈ own ∨ H p = none) : ∀ a o, RD fm own H a o → RD fm own' H' a o := fun a o r => by
  rcases r with ⟨r1, r2, r3⟩ | r
  · refine .inl ⟨Rd.same s r1, fun h => ?_, r3⟩
    rcases k a h with h | h
    · exact r2 h
    · rcases r1 with r1 | ⟨_, r1⟩ <;> rw [cl_none h] at r1 <;> cases r1
  · exact .inr r
theorem flat_ij {Fs : List (List Addr)} : ∀ {i j : Nat} {F G : List Addr} {x : Addr}, Fs.flatten.Nodup → Fs[i]? = some F → Fs[j]? = some G → x ∈ F → x ∈ G → i = j := by
  induction Fs with
  | nil => intro i j F G x _ e; simp at e
  | cons K Fs ih =>
    intro i j F G x nd e1 e2 h1 h2
    rw [List.flatten_cons, List.nodup_append] at nd
    cases i with
    | zero =>
      cases j with
      | zero => rfl
      | succ j =>
        simp at e1 e2
        subst e1
        exact absurd rfl (nd.2.2 x h1 x (flat_mem e2 x h2))
    | succ i =>
      cases j with
      | zero =>
        simp at e1 e2
        subst e2
        exact absurd rfl (nd.2.2 x h2 x (flat_mem e1 x h1))
      | succ j => exact congrArg (· + 1) (ih nd.2.1 (by simpa using e1) (by simpa using e2) h1 h2)
section
variable {p : Pr} {sc : Scope} {NN VV GG : List Str} {k : Nat} {g : G} {L L' : List Slot} {a b c e e' ix : Expr} {es : List Expr} {md md' : Md} {α β γ δ ρ : Type} {S : Ty α} {T : Ty β} {O : WTy α} {O2 : WTy β} {O3 : WTy γ} {A : WAr δ} {pos pp pos' : Pos} {i j : Nat} {x : Str} {px : V → Prop} {d : α} {is is2 : List Nat}
theorem evr_n {m : M α} (h : EvN g L e O m) : EvR g L [] e O m := PE.imp h fun σ H Q ⟨kp, own, Fs, at_, hsl, heo, q⟩ => by
  refine ⟨kp, own, at_, ?_⟩
  cases m with
  | ok d => exact fun v F H' s nd n r => q v F H' s nd (fun p hp => .inl (n p hp)) r
  | ex c => exact q
  | no => exact q
/-- a name, the slot of which is moved -/
theorem evr_mv (ok : Ok p sc NN VV GG k g) (hN : NN[i]? = some x) (hV : VV[j]? = some x) (hL : L[i]? = some (sP px O d)) : EvR g L [i] (.Name x pos) O (.ok d) := by
  obtain ⟨hv, ho⟩ := ok.vis hV
  obtain ⟨h1, h2, _⟩ := okName_d ho
  refine PE.imp (pe_var (i := i) (by rw [ok.N]; exact hN) hv h1 h2) fun σ H Q ⟨kp, own, Fs, at_, hsl, heo, q⟩ => ?_
  obtain ⟨v0, F, e1, e2, v, rfl, hx, r⟩ := hsl.get hL
  have nd := at_.nd
  rw [heo] at nd
  have sub : ∀ q ∈ F, q ∈ own := fun q hq => by rw [heo]; exact flat_mem e2 q hq
  exact ⟨v, e1, q v F H (Same.refl H) (flat_nd nd e2) (fun p hp => .inr ⟨i, by simp, F, e2, hp⟩) (O.st r (RD.drop fun q hq => (List.mem_append.mp hq).elim (sub q) id) fun _ _ => rfl)⟩
theorem evra_nil : EvRA g L [] [] waNil (.ok ()) := PA.imp pa_nil fun σ H Q ⟨kp, own, Fs, at_, hsl, heo, q⟩ => q [] [] H (Same.refl H) List.nodup_nil (fun _ z => nomatch z) ⟨rfl, rfl⟩
theorem evra_cons {m1 : M α} {m2 : M δ} (ok : Ok p sc NN VV GG k g) (ha : EvR g L is a O m1) (hb : ∀ g', Ok p sc NN VV GG k g' → EvRA g' L is2 es A m2) (hd : ∀ i ∈ is, i ∉ is2)
    (hs : starEach (a :: es) g.X.env = (false, eval a g.X.env) :: starEach es g.X.env := by rfl) : EvRA g L (is ++ is2) (a :: es) (waCons O A) (m1.bind fun d => m2.bind fun e => .ok (d, e)) := by
  refine ⟨fun po pins s σ H Q I ⟨kp, own, Fs, at_, hsl, heo, q⟩ => ?_⟩
  refine (pa_cons (t := fun σ' H1 Q' => ∃ (g' : G) (hg' : g'.X = g.X) (_ : Ok p sc NN VV GG k g') (kp' : RdR) (own' : List Addr) (Fs' : List (List Addr)), At g'.fm kp' L σ' H1 own' ∧ AllS H1 (RB g'.fm own' H1) L σ' Fs' ∧ own' = Fs'.flatten ∧ FinMA g'.fm g'.W own' Fs' is2 σ' H1 A Q' m2) ha ?_ hs).run po pins s σ H Q I ?_
  · refine ⟨fun po pins s σ H Q I ⟨g', hg', ok', z⟩ => ?_⟩
    have h := (hb g' ok').run
    rw [hg'] at h
    exact h po pins s σ H Q I z
  · refine ⟨kp, own, Fs, at_, hsl, heo, ?_⟩
    have nd := at_.nd
    rw [heo] at nd
    cases m1 with
    | ok d =>
      intro v F1 H1 s1 nd1 n1 r1
      have F1n : ∀ y ∈ F1, H1 y ≠ none := fun y hy => by
        obtain ⟨o, ho, _⟩ := O.tb r1 y hy
        rw [ho]; exact fun z => nomatch z
      -- the fresh of the first are hidden from the rest
      let Fr : Addr → Prop := fun y => y ∈ F1 ∧ H y = none
      let fm' : Fm := ⟨g.fm.K, g.fm.H0, fun y => Fr y ∨ g.fm.z y⟩
      let g' : G := ⟨g.X, fm', g.W, g.LX⟩
      have ok' : Ok p sc NN VV GG k g' := { prog := ok.prog, w := ok.w, K := ok.K, mg := ok.mg, base := ok.base, N := ok.N, fmK := ok.fmK, tab := ok.tab, room := ok.room, nd := ok.nd, vis := ok.vis, gl := ok.gl, tk := ok.tk, calm := ok.calm, blk := ok.blk }
      have rdo : ∀ a o, RD g.fm own H a o → RD fm' own H1 a o := fun a o r => by
        rcases r with ⟨r1, r2, r3⟩ | r
        · refine .inl ⟨Rd.same s1 r1, r2, fun z => z.elim (fun z => ?_) r3⟩
          rcases r1 with r1 | ⟨_, r1⟩ <;> rw [cl_none z.2] at r1 <;> cases r1
        · exact .inr r
      have hk : ∀ y ∈ Fs.flatten, H1 y = H y := hsl.hk (fm := g.fm) (own := own) s1
      have sl1 : AllS H1 (RB fm' own H1) L σ Fs := hsl.st (fun b a o z => by
        cases b with
        | false => exact rdo a o z
        | true =>
          obtain ⟨z1, z2, z3, z4⟩ := z
          exact ⟨s1.cl _ _ z1, z2, fun y => y.elim (fun y => by rw [cl_none y.2] at z1; cases z1) z3, z4⟩) hk
      have at1 : At fm' kp L σ H1 own := ⟨at_.same.trans s1, fun y hy => hy.elim (fun hy => F1n y hy.1) fun hy ea => at_.zin y hy (s1.free ea), ⟨Fs, sl1, heo⟩, at_.nd, fun y hy => ⟨fun z => (at_.new y hy).1 (s1.free z), (at_.new y hy).2.1, fun z => z.elim (fun z => (at_.new y hy).1 z.2) (at_.new y hy).2.2⟩, fun a o z => rdo a o (at_.kept a o z)⟩
      refine ⟨g', rfl, ok', kp, own, Fs, at1, sl1, heo, ?_⟩
      cases m2 with
      | ok e =>
        intro vs F2 H2 s2 nd2 n2 r2
        have dj : ∀ y ∈ F1, y ∉ F2 := fun y h1 h2 => by
          rcases n2 y h2 with h | ⟨i2, hi2, G2, eG2, hG2⟩
          · exact F1n y h1 h
          · rcases n1 y h1 with h | ⟨i1, hi1, G1, eG1, hG1⟩
            · exact (at_.new y (by rw [heo]; exact flat_mem eG2 y hG2)).1 h
            · have := flat_ij nd eG1 eG2 hG1 hG2
              subst this
              exact hd i1 hi1 hi2
        refine q (v :: vs) (F1 ++ F2) H2 (s1.trans s2) (List.nodup_append.mpr ⟨nd1, nd2, fun y h1 z h2 e => dj y h1 (by rw [e]; exact h2)⟩) (fun y hy => ?_) ⟨v, vs, F1, F2, rfl, rfl, O.st r1 (RD.more s2 fun y hy => ?_) fun y hy => ?_, A.st r2 (fun a o z => ?_) fun _ _ => rfl⟩
        · rcases List.mem_append.mp hy with hy | hy
          · exact (n1 y hy).imp id fun ⟨i1, h1, z⟩ => ⟨i1, List.mem_append_left _ h1, z⟩
          · exact (n2 y hy).imp s1.free fun ⟨i1, h1, z⟩ => ⟨i1, List.mem_append_right _ h1, z⟩
        · rcases List.mem_append.mp hy with hy | hy
          · rcases List.mem_append.mp hy with hy | hy
            · exact .inl (List.mem_append_left _ hy)
            · rcases n2 y hy with h | ⟨i2, hi2, G2, eG2, hG2⟩
              · exact .inr h
              · exact .inl (List.mem_append_right _ (by rw [heo]; exact flat_mem eG2 y hG2))
          · exact .inl (List.mem_append_right _ hy)
        · obtain ⟨o, ho, go⟩ := O.tb r1 y hy
          rw [ho]; exact s2.keep _ _ ho (gd_nt go)
        · rcases z with ⟨z1, z2, z3⟩ | z
          · refine .inl ⟨z1, fun hq => ?_, fun y => z3 (.inr y)⟩
            rcases List.mem_append.mp hq with hq | hq
            · rcases List.mem_append.mp hq with hq | hq
              · rcases n1 a hq with h | ⟨i1, hi1, G1, eG1, hG1⟩
                · exact z3 (.inl ⟨hq, h⟩)
                · exact z2 (List.mem_append_right _ (by rw [heo]; exact flat_mem eG1 a hG1))
              · exact z2 (List.mem_append_left _ hq)
            · exact z2 (List.mem_append_right _ hq)
          · exact .inr z
      | ex c => exact fun H' s => q H' (s1.trans s)
      | no => exact q
    | ex c => exact q
    | no => exact q
theorem evr_tup {m : M δ} {x1} (hl : ∀ d vs H R F, A.rep d vs H R F → vs.length ≤ 1000) (ha : EvRA g L is es A m) : EvR g L is (.Tuple es x1 pos) (wTup A) m := by
  refine PE.imp (pe_tup ha) fun σ H Q ⟨kp, own, Fs, at_, hsl, heo, q⟩ => ⟨kp, own, Fs, at_, hsl, heo, ?_⟩
  cases m with
  | ok d =>
    refine fun vs F H1 s1 nd n r1 => ⟨Nat.le_trans (hl _ _ _ _ _ r1) (by decide), fun p hp => q _ (p :: F) _ (s1.trans (newSame hp)) (List.nodup_cons.mpr ⟨fun h => ?_, nd⟩) (fun y hy => ?_) ⟨p, vs, F, rfl, rfl, upd_same, A.st r1 (RD.more (newSame hp) fun y hy => ?_) fun y hy => ?_⟩⟩
    · obtain ⟨o, ho, _⟩ := A.tb r1 p h
      rw [hp] at ho; cases ho
    · rcases List.mem_cons.mp hy with e | hy
      · rw [e]; exact .inl (s1.free hp)
      · exact n y hy
    · rcases List.mem_cons.mp hy with e | hy
      · rw [e]; exact .inr hp
      · exact .inl hy
    · obtain ⟨o, ho, _⟩ := A.tb r1 y hy
      exact upd_ne (ne_of_none ho hp)
  | ex c => exact q
  | no => exact q
theorem lenW0 {d : Unit} {vs : List V} {H : Hp} {R : RdR} {F : List Addr} (h : waNil.rep d vs H R F) : vs.length = 0 := by rw [h.1]; rfl
theorem lenWS {n : Nat} (h : ∀ d vs H R F, A.rep d vs H R F → vs.length = n) (d : α × δ) (vs : List V) (H : Hp) (R : RdR) (F : List Addr) (q : (waCons O A).rep d vs H R F) : vs.length = n + 1 := by
  obtain ⟨v, r, _, _, e, _, _, h2⟩ := q
  rw [e, List.length_cons, h _ _ _ _ _ h2]
theorem lenWl {n : Nat} (hn : n ≤ 1000) (h : ∀ d vs H R F, A.rep d vs H R F → vs.length = n) (d : δ) (vs : List V) (H : Hp) (R : RdR) (F : List Addr) (q : A.rep d vs H R F) : vs.length ≤ 1000 := by rw [h _ _ _ _ _ q]; exact hn
theorem evn_r {m : M α} (h : EvR g L [] e O m) : EvN g L e O m := PE.imp h fun σ H Q ⟨kp, own, at_, q⟩ => by
  obtain ⟨Fs, hsl, heo⟩ := at_.sl
  refine ⟨kp, own, Fs, at_, hsl, heo, ?_⟩
  cases m with
  | ok d => exact fun v F H' s nd n r => q v F H' s nd (fun p hp => (n p hp).resolve_right fun ⟨_, z, _⟩ => nomatch z) r
  | ex c => exact q
  | no => exact q
theorem evr_inl {m : M α} (h : EvR g L is e O m) : EvR g L is e (wSum O O2) (m.bind fun d => .ok (.inl d)) := PE.imp h fun σ H Q ⟨kp, own, Fs, at_, hsl, heo, q⟩ => by
  refine ⟨kp, own, Fs, at_, hsl, heo, ?_⟩
  cases m with
  | ok d => exact fun v F H' s nd n r => q v F H' s nd n r
  | ex c => exact q
  | no => exact q
theorem evr_inr {m : M β} (h : EvR g L is e O2 m) : EvR g L is e (wSum O O2) (m.bind fun d => .ok (.inr d)) := PE.imp h fun σ H Q ⟨kp, own, Fs, at_, hsl, heo, q⟩ => by
  refine ⟨kp, own, Fs, at_, hsl, heo, ?_⟩
  cases m with
  | ok d => exact fun v F H' s nd n r => q v F H' s nd n r
  | ex c => exact q
  | no => exact q
variable {st : List Stmt} {D : δ → Out}
/-- return e, of which slots are parts -/
theorem evb_retR {m : M α} {mk : α → δ} (wk : Wkx g L (NoEx m)) (hD : ∀ d, D (mk d) = oOut O d) (he : EvR g L is e O m) : EvB g L (.Return (some e) pos :: st) D (m.bind fun d => .ok (mk d)) := by
  refine PSs.imp (PSs.head (ps_ret he)) fun E σ H ⟨kp, own, at_, q⟩ => ?_
  obtain ⟨Fs, hsl, heo⟩ := at_.sl
  refine ⟨kp, own, Fs, at_, hsl, heo, ?_⟩
  cases m with
  | ok d =>
    have q : OutOk g.fm kp E (D (mk d)) := q
    rw [hD] at q
    refine fun v F H' s nd n r => q v H' F (at_.same.trans s) nd (fun a ha => ?_) (O.st r (RD.drop fun p hp => List.mem_append_left _ hp) fun _ _ => rfl)
    rcases n a ha with h | ⟨i, _, F', e, h⟩
    · exact ⟨at_.same.free h, fun z => at_.zin a z h⟩
    · exact (at_.new a (by rw [heo]; exact flat_mem e a h)).2
  | ex c => exact BOk.exx' wk (fun n => n c rfl) at_ q
  | no => exact q
def unlP {α β γ : Type} (q : (β ⊕ γ) × ((β ⊕ γ) → α)) : M (β × (β → α)) :=
  match q.1 with
  | .inl y => .ok (y, fun z => q.2 (.inl z))
  | .inr _ => .no
theorem evp_inl {m : M ((β ⊕ γ) × ((β ⊕ γ) → α))} (he : EvP g L e i px O d (wSum O2 O3) m) : EvP g L e i px O d O2 (m.bind fun q => unlP q) := PE.imp he fun σ H Q ⟨kp, own, Fs, at_, hsl, heo, q⟩ => by
  refine ⟨kp, own, Fs, at_, hsl, heo, ?_⟩
  cases m with
  | ok q0 =>
    obtain ⟨y0, put⟩ := q0
    cases y0 with
    | inr y => exact q.elim
    | inl y =>
      refine fun v2 F2 H1 s1 A1 => q v2 F2 H1 s1 ?_
      obtain ⟨v, F, hL, hs, e, e1, hx, e2, pl⟩ := A1
      exact ⟨v, F, hL, hs, e, e1, hx, e2, pl.rep, pl.sub, pl.nd, fun s k r nd n => pl.up (d2' := .inl _) s k r nd n⟩
  | ex c => exact q
  | no => exact q
end
end Hd
namespace Hd
open PySem PySem.Spec L2
section
end
end Hd
namespace Hd
open PySem PySem.Spec L2
/-- a list of one's own, its place and its values known -/
def wLv {α : Type} (a : Addr) (ws : List V) (O : WTy α) : WTy (List α) where
  T := tList O.T
  rep := fun ds v H R F => ∃ Fs, v = .ref a ∧ F = a :: Fs.flatten ∧ H a = some (.lst ws) ∧ RepsO O H R ds ws Fs
  st := by
    rintro d v H H' F R R' ⟨Fs, e1, e2, h, r⟩ s k
    exact ⟨Fs, e1, e2, by rw [k a (by rw [e2]; exact List.mem_cons_self)]; exact h, r.st s fun q hq => k q (by rw [e2]; exact List.mem_cons_of_mem _ hq)⟩
  tb := by
    rintro d v H F R ⟨Fs, e1, e2, h, r⟩ q hq
    rw [e2] at hq
    rcases List.mem_cons.mp hq with e | hq
    · subst e; exact ⟨_, h, rfl⟩
    · exact r.tb q hq
  fz := by
    rintro d v H F R R' ⟨Fs, e1, e2, h, r⟩ s k
    exact ⟨a, ws, e1, k a (by rw [e2]; exact List.mem_cons_self) _ h, r.fz s fun q hq => k q (by rw [e2]; exact List.mem_cons_of_mem _ hq)⟩
inductive WPin {γ : Type} (O3 : WTy γ) : {δ : Type} → WAr δ → Nat → (Addr → List V → WAr δ) → (δ → List γ) → (δ → List γ → δ) → Prop where
  | z {δ : Type} {A : WAr δ} : WPin O3 (waCons (wL O3) A) 0 (fun a ws => waCons (wLv a ws O3) A) (fun d => d.1) (fun d y => (y, d.2))
  | s {β δ : Type} {O' : WTy β} {A : WAr δ} {k : Nat} {A' : Addr → List V → WAr δ} {pr : δ → List γ} {stt : δ → List γ → δ} : WPin O3 A k A' pr stt → WPin O3 (waCons O' A) (k + 1) (fun a ws => waCons O' (A' a ws)) (fun d => pr d.2) (fun d y => (d.1, stt d.2 y))
section
variable {γ δ : Type} {O3 : WTy γ} {A : WAr δ} {kk : Nat} {A' : Addr → List V → WAr δ} {pr : δ → List γ} {stt : δ → List γ → δ} {H : Hp} {R : RdR}
theorem WPin.to (h : WPin O3 A kk A' pr stt) : ∀ {d vs G}, A.rep d vs H R G → ∃ a ws, vs[kk]? = some (.ref a) ∧ H a = some (.lst ws) ∧ ws.length = (pr d).length ∧ (A' a ws).rep d vs H R G := by
  induction h with
  | z =>
    rintro d vs G ⟨v, r, F1, F2, e1, e2, ⟨p, ws, Fs, e3, e4, h3, h4⟩, h2⟩
    subst e1; subst e3
    exact ⟨p, ws, rfl, h3, h4.length.symm, .ref p, r, F1, F2, rfl, e2, ⟨Fs, rfl, e4, h3, h4⟩, h2⟩
  | s _ ih =>
    rintro d vs G ⟨v, r, F1, F2, e1, e2, h1, h2⟩
    subst e1
    obtain ⟨a, ws, x1, x2, x3, x4⟩ := ih h2
    exact ⟨a, ws, by simpa using x1, x2, x3, v, r, F1, F2, rfl, e2, h1, x4⟩
theorem WPin.of (h : WPin O3 A kk A' pr stt) : ∀ {d vs G a ws}, (A' a ws).rep d vs H R G → A.rep d vs H R G := by
  induction h with
  | z =>
    rintro d vs G a ws ⟨v, r, F1, F2, e1, e2, ⟨Fs, e3, e4, h3, h4⟩, h2⟩
    exact ⟨v, r, F1, F2, e1, e2, ⟨a, ws, Fs, e3, e4, h3, h4⟩, h2⟩
  | s _ ih =>
    rintro d vs G a ws ⟨v, r, F1, F2, e1, e2, h1, h2⟩
    exact ⟨v, r, F1, F2, e1, e2, h1, ih h2⟩
theorem WPin.at_ (h : WPin O3 A kk A' pr stt) (a : Addr) (ws : List V) : WAt (A' a ws) kk (wLv a ws O3) pr stt := by
  induction h with
  | z => exact .z
  | s _ ih => exact .s ih
end
theorem Plc.itemV {α γ : Type} {O : WTy α} {O3 : WTy γ} {H : Hp} {R : RdR} {v v2 : V} {F F2 : List Addr} {p : Addr} {vs : List V} {ds : List γ} {put : List γ → α} (h : Plc H R O v F (wLv p vs O3) ds put v2 F2) {i : Nat} {x : γ} (e : ds[i]? = some x) :
    ∃ v3 F3, vs[i]? = some v3 ∧ H p = some (.lst vs) ∧ Plc H R O v F O3 x (fun y => put (ds.set i y)) v3 F3 := by
  obtain ⟨Fs, e1, e2, hp, rr⟩ := h.rep
  obtain ⟨v3, F3, e3, e4, r3⟩ := rr.get e
  have nd := h.nd
  rw [e2, List.nodup_cons] at nd
  have s3 : ∀ q ∈ F3, q ∈ Fs.flatten := flat_mem e4
  have s32 : ∀ q ∈ F3, q ∈ F2 := fun q hq => by rw [e2]; exact List.mem_cons_of_mem _ (s3 q hq)
  have pF2 : p ∈ F2 := by rw [e2]; exact List.mem_cons_self
  refine ⟨v3, F3, e3, hp, r3, fun q hq => h.sub q (s32 q hq), flat_nd nd.2 e4, fun {H' R' d3' F3'} s k r' nd' n' => ?_⟩
  have np3 : p ∉ F3 := fun hq => nd.1 (s3 p hq)
  have n3' : ∀ q ∈ F3', q ∈ F3 ∨ q ∉ Fs.flatten := fun q hq => (n' q hq).imp id fun hn hq' => hn (h.sub q (by rw [e2]; exact List.mem_cons_of_mem _ hq'))
  have np : p ∉ (Fs.set i F3').flatten := fun hq => by
    rcases flat_set_mem nd.2 e4 p hq with hq | ⟨hq, _⟩
    · rcases n' p hq with hq | hq
      · exact np3 hq
      · exact hq (h.sub p pF2)
    · exact nd.1 hq
  obtain ⟨F', r4, nd4, n4⟩ := h.up (d2' := ds.set i d3') (F2' := p :: (Fs.set i F3').flatten) s (fun q hq hn => k q hq fun hq' => hn (s32 q hq'))
    ⟨Fs.set i F3', e1, rfl, by rw [k p (h.sub p pF2) np3]; exact hp, rr.chg s nd.2 e4 e3 (fun q hq hn => k q (h.sub q (by rw [e2]; exact List.mem_cons_of_mem _ hq)) hn) r'⟩
    (List.nodup_cons.mpr ⟨np, flat_set_nd nd.2 e4 nd' n3'⟩) (fun q hq => by
      rcases List.mem_cons.mp hq with hq | hq
      · subst hq; exact .inl pF2
      · rcases flat_set_mem nd.2 e4 q hq with hq | ⟨hq, _⟩
        · exact (n' q hq).imp (s32 q) id
        · exact .inl (by rw [e2]; exact List.mem_cons_of_mem _ hq))
  refine ⟨F', r4, nd4, fun q hq => ?_⟩
  rcases n4 q hq with hq | ⟨hq, hn⟩
  · rcases List.mem_cons.mp hq with hq | hq
    · subst hq; exact .inr ⟨h.sub _ pF2, np3⟩
    · rcases flat_set_mem nd.2 e4 q hq with hq | ⟨hq, hn⟩
      · exact .inl hq
      · exact .inr ⟨h.sub q (by rw [e2]; exact List.mem_cons_of_mem _ hq), hn⟩
  · exact .inr ⟨hq, fun hq' => hn (s32 q hq')⟩
theorem wk_set : ∀ (L : List Slot) (i : Nat), Wk L (L.set i sAny)
  | [], _ => .n
  | _ :: L, 0 => .a (Wk.refl L)
  | _ :: L, i + 1 => .s (wk_set L i)
section
end
end Hd
namespace Hd
open PySem PySem.Spec L2
section
end
end Hd
namespace Hd
open PySem PySem.Spec L2
section
end
end Hd
namespace Hd
open PySem PySem.Spec L2
section
end
end Hd
namespace Hd
open PySem PySem.Spec L2
theorem NoEx.bind {α β : Type} {m : M α} {f : α → M β} (h : NoEx m) (k : ∀ a, NoEx (f a)) : NoEx (m.bind f) := fun c e => by
  cases m with
  | ok a => exact k a c e
  | ex c' => exact h c' rfl
  | no => cases e
section
end
end Hd
namespace Hd
open PySem PySem.Spec L2
section
variable {p : Pr} {sc : Scope} {NN VV GG : List Str} {k : Nat} {g : G} {L L' : List Slot} {a b c e e' : Expr} {es : List Expr} {md md' : Md} {α β γ δ ρ τ ω : Type} {S : Ty α} {T : Ty β} {Q : Ty γ} {pos pp : Pos} {i j : Nat} {x : Str} {d : α} {st : List Stmt} {D : δ → Out} {Lt : τ → List Slot} {O : WTy α} {op : CmpOp}
/-- values of two kinds, compared -/
def dSum {S : Ty α} {T : Ty β} (D : Deep S) (E : Deep T) (h1 : ∀ a b, PyData.eqv (D.pd a) (E.pd b) = false) (h2 : ∀ a b, PyData.eqv (E.pd b) (D.pd a) = false) : Deep (tSum S T) := ⟨fun d => match d with | .inl a => D.pd a | .inr b => E.pd b, max D.dp E.dp, fun {K d v R H} rb r => by
  cases d with
  | inl a => exact D.rep rb r
  | inr b => exact E.rep rb r, fun d => by
  cases d with
  | inl a => exact Nat.le_trans (D.dep a) (Nat.le_max_left _ _)
  | inr b => exact Nat.le_trans (E.dep b) (Nat.le_max_right _ _), fun d e => by
  cases d with
  | inl a => cases e with
    | inl a' => exact (D.eqv a a').trans ⟨fun h => by rw [h], fun h => Sum.inl.inj h⟩
    | inr b' => exact ⟨fun h => absurd ((h1 a b').symm.trans h) (by decide), fun h => nomatch h⟩
  | inr b => cases e with
    | inl a' => exact ⟨fun h => absurd ((h2 a' b).symm.trans h) (by decide), fun h => nomatch h⟩
    | inr b' => exact (E.eqv b b').trans ⟨fun h => by rw [h], fun h => Sum.inr.inj h⟩⟩
end
end Hd
namespace Hd
open PySem PySem.Spec L2
section
end
section
end
/-- a part taken out of written items -/
inductive WTk : {δ δ' : Type} → WAr δ → Nat → {α : Type} → WTy α → (δ → α) → WAr δ' → (δ → δ') → Prop where
  | z {α δ : Type} {O : WTy α} {A : WAr δ} : WTk (waCons O A) 0 O (fun d => d.1) (waCons (wV tAny) A) (fun d => ((), d.2))
  | s {α β δ δ' : Type} {O : WTy α} {O' : WTy β} {A : WAr δ} {A' : WAr δ'} {k : Nat} {pr : δ → α} {f : δ → δ'} : WTk A k O pr A' f → WTk (waCons O' A) (k + 1) O (fun d => pr d.2) (waCons O' A') (fun d => (d.1, f d.2))
theorem WTk.take {δ δ' γ : Type} {A : WAr δ} {A' : WAr δ'} {k : Nat} {O : WTy γ} {pr : δ → γ} {f : δ → δ'} (h : WTk A k O pr A' f) : ∀ {d : δ} {vs : List V} {H : Hp} {R : RdR} {G : List Addr}, A.rep d vs H R G → G.Nodup → ∃ v3 F3 G', vs[k]? = some v3 ∧ O.rep (pr d) v3 H R F3 ∧ A'.rep (f d) vs H R G' ∧ (∀ q ∈ G', q ∈ G ∧ q ∉ F3) ∧ (∀ q ∈ F3, q ∈ G) ∧ F3.Nodup ∧ G'.Nodup := by
  induction h with
  | z =>
    rintro d vs H R G ⟨v, r, F1, F2, e1, e2, h1, h2⟩ nd
    subst e1; subst e2
    rw [List.nodup_append] at nd
    exact ⟨v, F1, F2, rfl, h1, ⟨v, r, [], F2, rfl, rfl, ⟨rfl, trivial⟩, h2⟩, fun q hq => ⟨List.mem_append_right _ hq, fun hq' => nd.2.2 q hq' q hq rfl⟩, fun q hq => List.mem_append_left _ hq, nd.1, nd.2.1⟩
  | s _ ih =>
    rintro d vs H R G ⟨v, r, F1, F2, e1, e2, h1, h2⟩ nd
    subst e1; subst e2
    rw [List.nodup_append] at nd
    obtain ⟨v3, F3, G', e3, r3, rr, g1, g2, g3, g4⟩ := ih h2 nd.2.1
    refine ⟨v3, F3, F1 ++ G', by simpa using e3, r3, ⟨v, r, F1, G', rfl, rfl, h1, rr⟩, fun q hq => ?_, fun q hq => List.mem_append_right _ (g2 q hq), g3, List.nodup_append.mpr ⟨nd.1, g4, fun a ha b hb e => nd.2.2 a ha b (g1 b hb).1 e⟩⟩
    rcases List.mem_append.mp hq with hq | hq
    · exact ⟨List.mem_append_left _ hq, fun hq' => nd.2.2 q hq q (g2 q hq') rfl⟩
    · exact ⟨List.mem_append_right _ (g1 q hq).1, (g1 q hq).2⟩
section
end
section
end
section
end
section
end
section
end
def Fl.mg {α : Type} : Fl α α → α
  | .nx a => a
  | .rt a => a
section
end
section
end
section
end
end Hd
namespace Hd
open PySem PySem.Spec PyProof.Rows L2
section
end
section
end
end Hd
namespace Hd
open PySem PySem.Spec PyProof.Rows L2
section
end
end Hd
namespace Hd
open PySem PySem.Spec PyProof.Rows L2
section
end
end Hd
namespace Hd
open PySem PySem.Spec PyProof.Rows L2
section
variable {p : Pr} {α δ : Type} {S : Ty α} {A : Ar δ}
theorem c_notinT [DecidableEq α] {X : Cx} {f : δ → List α} (hX : X.K = p.K) (hf : FlatV S) (hA : HomA A S f) : CmpOk p X .NotIn S (tTup A) (fun x d => !memD x (f d)) := ⟨rIn p.K true, by rw [← hX]; exact op_notIn_seq, ⟨fun {d e x y R H Q} rb rx ⟨a, vs, ey, h, r⟩ q => by
  subst ey
  have r' := hA.r r
  exact ⟨a, vs, rfl, .inr ((rb _ _ h rfl).elim .inl .inr), hf.fl rx, r'.allFlat hf, q _ _ (Same.refl _) (by show _ = V.bl _; rw [r'.inV hf rx]; rfl)⟩⟩⟩
end
end Hd
namespace Hd
open PySem PySem.Spec PyProof.Rows L2
def encK : Key → Value
  | .inl i => .int i 0
  | .inr x => .str x 0
theorem dec_enc (ks : List Key) : ((ks.map encK).toArray.toList.map decV) = ks.map kV := by
  rw [List.toList_toArray, List.map_map]
  refine List.map_congr_left fun k _ => ?_
  cases k <;> rfl
def RN : RdR := fun _ _ => False
structure KyA {κ : Type} (A : Ar κ) (f : κ → List Key) : Prop where
  inj : ∀ {a b}, f a = f b → a = b
  to : ∀ {d vs R}, A.rep d vs R → vs = (f d).map kV
  flat : ∀ {d vs} {R R' : RdR}, A.rep d vs R → A.rep d vs R'
/-- a tuple that may be a key: ints and texts; made by the program -/
def tKy {κ : Type} (A : Ar κ) (f : κ → List Key) : Ty κ := ⟨fun d v R => ∃ a vs, v = .ref a ∧ R a (.tup vs) ∧ A.rep d vs R ∧ R a (.tbl ((f d).map encK).toArray), fun ⟨a, vs, e, r, h, m⟩ s => ⟨a, vs, e, s _ _ r, A.mono h s, s _ _ m⟩⟩
theorem nn_ky {κ : Type} {A : Ar κ} {f : κ → List Key} : NotNon (tKy A f) := ⟨fun ⟨a, vs, e, _⟩ => by subst e; exact fun z => nomatch z⟩
abbrev kIS (d : Int × Tx × Unit) : List Key := [.inl d.1, .inr (toS d.2.1)]
theorem ky_IS : KyA (aCons tInt (aCons tStr aNil)) kIS where
  inj := fun {a b} h => by
    obtain ⟨a1, a2, u⟩ := a
    obtain ⟨b1, b2, w⟩ := b
    simp only [kIS, List.cons.injEq, Sum.inl.injEq, Sum.inr.injEq, and_true] at h
    obtain ⟨h1, h2⟩ := h
    rw [h1, toS_inj h2]
  to := fun {d vs R} h => by
    obtain ⟨v, r, rfl, h1, v2, r2, rfl, h2, h3⟩ := h
    rw [show v = V.int d.1 from h1, h2.1, show r2 = [] from h3]
    rfl
  flat := fun {d vs R R'} h => by
    obtain ⟨v, r, e1, h1, v2, r2, e2, h2, h3⟩ := h
    exact ⟨v, r, e1, h1, v2, r2, e2, h2, h3⟩
section
variable {p : Pr} {sc : Scope} {NN VV GG : List Str} {k : Nat} {g : G} {L : List Slot} {α β δ κ : Type} {S : Ty α} {T : Ty β} {md md' : Md} {pos : Pos} {st : List Stmt} {D : δ → Out} {i j : Nat} {x : Str} {a b c e : Expr} {es : List Expr} {A : Ar κ} {f : κ → List Key}
/-- what is there, read raw -/
theorem key_raw {fm : Fm} {own : List Addr} {H H' : Hp} {d : κ} {y : V} (r : (tKy A f).rep d y (RX fm own H H' .sh)) : ∃ q, y = .ref q ∧ H' q = some (.tup ((f d).map kV)) := by
  obtain ⟨q, vs, e, _, _, m⟩ := r
  refine ⟨q, e, ?_⟩
  rcases (show RD fm own H' q _ from m) with ⟨m, _⟩ | m
  · have := Rd.mark m
    rw [dec_enc] at this
    exact this
  · exact (show False from m).elim
theorem ev_ky {m : M κ} {x1} (hk : KyA A f) (hl : ∀ d vs R, A.rep d vs R → vs.length ≤ 1000) (ha : EvA g L es .sh A m) : EvE g L (.Tuple es x1 pos) .sh (tKy A f) m := by
  refine PE.imp (pe_tup ha) fun σ H Q q => ?_
  obtain ⟨kp, own, at_, q⟩ := tE_iff.mp q
  refine tA_iff.mpr ⟨kp, own, at_, ?_⟩
  cases m with
  | ok d =>
    refine fun vs H1 s1 r1 => ⟨Nat.le_trans (hl _ _ _ r1) (by decide), fun p hp => q _ _ (s1.trans (newSame hp)) ?_⟩
    have a1 := at_.ext s1
    refine ⟨p, vs, rfl, newRX a1 s1 hp, A.mono r1 (RX.same (newSame hp)), ?_⟩
    refine .inl ⟨.inr ⟨⟨.tup vs, .inr ⟨_, rfl, ?_⟩⟩, cl_of upd_same⟩, fun z => (a1.new p z).1 hp, fun z => a1.zin p z hp⟩
    rw [dec_enc, hk.to r1]
  | ex c => exact q
  | no => exact q
theorem ky_tup {d : κ} {v : V} {R : RdR} (r : (tKy A f).rep d v R) : (tTup A).rep d v R := let ⟨a, vs, e, h1, h2, _⟩ := r; ⟨a, vs, e, h1, h2⟩
/-- as any tuple -/
theorem ev_kyT {m : M κ} (h : EvE g L e md (tKy A f) m) : EvE g L e md (tTup A) m := PE.imp h fun σ H Q q => by
  obtain ⟨kp, own, at_, q⟩ := tE_iff.mp q
  refine tE_iff.mpr ⟨kp, own, at_, ?_⟩
  cases m with
  | ok d => exact fun v H' s r => q v H' s (ky_tup r)
  | ex c => exact q
  | no => exact q
inductive TReps {κ α : Type} (A : Ar κ) (f : κ → List Key) (T : Ty α) (R : RdR) : List (κ × α) → List (List Key × V) → Prop where
  | nil : TReps A f T R [] []
  | cons {k d v ds vs} : A.rep k ((f k).map kV) RN → T.rep d v R → TReps A f T R ds vs → TReps A f T R ((k, d) :: ds) ((f k, v) :: vs)
theorem TReps.mono {R R' : RdR} {ds : List (κ × α)} {vs : List (List Key × V)} (h : TReps A f S R ds vs) (s : ∀ a o, R a o → R' a o) : TReps A f S R' ds vs := by
  induction h with
  | nil => exact .nil
  | cons a r _ ih => exact .cons a (S.mono r s) ih
theorem TReps.length {R : RdR} {ds : List (κ × α)} {vs : List (List Key × V)} (h : TReps A f S R ds vs) : ds.length = vs.length := by
  induction h with
  | nil => rfl
  | cons a r _ ih => simp [ih]
section
variable [DecidableEq κ]
def dgetT {κ α : Type} [DecidableEq κ] (ds : List (κ × α)) (k : κ) : Option α := (ds.find? fun kv => decide (kv.1 = k)).map (·.2)
def dputT {κ α : Type} [DecidableEq κ] (ds : List (κ × α)) (k : κ) (d : α) : List (κ × α) := if (ds.any fun kv => decide (kv.1 = k)) = true then ds.map (fun kv => if kv.1 = k then (kv.1, d) else kv) else ds ++ [(k, d)]
theorem TReps.get {R : RdR} {ds : List (κ × α)} {vs : List (List Key × V)} (hk : KyA A f) (h : TReps A f S R ds vs) (k : κ) : (dgetT ds k = none ∧ valV vs (f k) = none) ∨ ∃ d v, dgetT ds k = some d ∧ valV vs (f k) = some v ∧ S.rep d v R := by
  induction h with
  | nil => exact .inl ⟨rfl, rfl⟩
  | @cons k' d v ds vs a r _ ih =>
    by_cases e : k' = k
    · exact .inr ⟨d, v, by simp [dgetT, List.find?_cons, e], valV_pos (by rw [e]), r⟩
    · have e1 : dgetT ((k', d) :: ds) k = dgetT ds k := by simp [dgetT, List.find?_cons, e]
      rw [e1, valV_neg (fun z => e (hk.inj z))]
      exact ih
theorem TReps.some {R : RdR} {ds : List (κ × α)} {vs : List (List Key × V)} (hk : KyA A f) (h : TReps A f S R ds vs) (k : κ) : (valV vs (f k)).isSome = (dgetT ds k).isSome := by
  rcases h.get hk k with ⟨g1, g2⟩ | ⟨d, v, g1, g2, _⟩ <;> rw [g1, g2] <;> rfl
theorem TReps.map {R : RdR} {ds : List (κ × α)} {vs : List (List Key × V)} (hk : KyA A f) (h : TReps A f S R ds vs) (k : κ) {d : α} {v : V} (r : S.rep d v R) : TReps A f S R (ds.map (fun kv => if kv.1 = k then (kv.1, d) else kv)) (vs.map (fun kv => if kv.1 = f k then (kv.1, v) else kv)) := by
  induction h with
  | nil => exact .nil
  | @cons k' d' v' ds vs a r' _ ih =>
    rw [List.map_cons, List.map_cons]
    by_cases e : k' = k
    · have e' : f k' = f k := by rw [e]
      simp only [if_pos e, if_pos e']; exact .cons a r ih
    · have e' : ¬ f k' = f k := fun z => e (hk.inj z)
      simp only [if_neg e, if_neg e']; exact .cons a r' ih
theorem TReps.any {R : RdR} {ds : List (κ × α)} {vs : List (List Key × V)} (hk : KyA A f) (h : TReps A f S R ds vs) (k : κ) : (ds.any fun kv => decide (kv.1 = k)) = (vs.any fun kv => decide (kv.1 = f k)) := by
  induction h with
  | nil => rfl
  | @cons k' d' v' ds vs a r' _ ih =>
    rw [List.any_cons, List.any_cons, ih]
    congr 1
    by_cases e : k' = k
    · rw [decide_eq_true e, decide_eq_true (show f k' = f k by rw [e])]
    · rw [decide_eq_false e, decide_eq_false (fun z : f k' = f k => e (hk.inj z))]
theorem TReps.snoc {R : RdR} {ds : List (κ × α)} {vs : List (List Key × V)} (h : TReps A f S R ds vs) (k : κ) {d : α} {v : V} (a : A.rep k ((f k).map kV) RN) (r : S.rep d v R) : TReps A f S R (ds ++ [(k, d)]) (vs ++ [(f k, v)]) := by
  induction h with
  | nil => exact .cons a r .nil
  | cons a' r' _ ih => exact .cons a' r' ih
theorem TReps.put {R : RdR} {ds : List (κ × α)} {vs : List (List Key × V)} (hk : KyA A f) (h : TReps A f S R ds vs) (k : κ) {d : α} {v : V} (a : A.rep k ((f k).map kV) RN) (r : S.rep d v R) : TReps A f S R (dputT ds k d) (putK vs (f k) v) := by
  unfold dputT putK
  rw [h.any hk k]
  split
  · exact h.map hk k r
  · exact h.snoc k a r
end
def sDicT {κ α : Type} (b : Bool) (A : Ar κ) (f : κ → List Key) (T : Ty α) (ds : List (κ × α)) : Slot := ⟨fun v H R F => ∃ p xs, v = some (.ref p) ∧ F = [p] ∧ H p = some (.dT xs) ∧ TReps A f T (R b) ds xs,
  fun ⟨p, xs, e, f, h, r⟩ s k => ⟨p, xs, e, f, by rw [k p (by simp [f])]; exact h, r.mono (s b)⟩, fun ⟨p, xs, e, f, h, r⟩ q hq => by subst f; rw [List.mem_singleton.mp hq, cl_of h]; exact fun z => nomatch z⟩
/-- a dict that is shared -/
def tDicT {κ α : Type} (A : Ar κ) (f : κ → List Key) (T : Ty α) : Ty (List (κ × α)) := ⟨fun ds v R => ∃ a vs, v = .ref a ∧ R a (.dT vs) ∧ TReps A f T R ds vs, fun ⟨a, vs, e, r, h⟩ s => ⟨a, vs, e, s _ _ r, h.mono s⟩⟩
theorem At.mutT {fm : Fm} {kp : RdR} {σ : L2.St} {H : Hp} {own : List Addr} {b : Bool} {ds : List (κ × α)} {i : Nat} (h : At fm kp L σ H own) (hL : L[i]? = some (sDicT b A f S ds)) :
    ∃ p vs, σ[i]? = some (some (.ref p)) ∧ H p = some (.dT vs) ∧ TReps A f S (RB fm own H b) ds vs ∧ ∀ ds' vs', TReps A f S (RB fm own H b) ds' vs' → At fm kp (L.set i (sDicT b A f S ds')) σ (upd H p (.dT vs')) own := by
  obtain ⟨h1, h2, ⟨Fs, h3, rfl⟩, h4, h5, h6⟩ := h
  obtain ⟨v, F, e1, e2, q, vs, rfl, rfl, hp, r⟩ := h3.get hL
  have qin : q ∈ Fs.flatten := List.mem_flatten.mpr ⟨[q], List.mem_of_getElem? e2, by simp⟩
  refine ⟨q, vs, e1, hp, r, fun ds' vs' r' => ?_⟩
  have key : ∀ (md : Md) a o, RX fm Fs.flatten H H md a o → RX fm Fs.flatten (upd H q (.dT vs')) (upd H q (.dT vs')) md a o ∨ md = .fx := fun md a o z => by
    cases md with
    | sh =>
      rcases z with z | z
      · have n : a ≠ q := fun e => z.2.1 (by rw [e]; exact qin)
        refine .inl (.inl ⟨?_, z.2⟩)
        unfold Rd
        rw [cl_upd_ne n]
        exact z.1
      · exact .inl (.inr z)
    | f0 =>
      have n : a ≠ q := fun e => z.2.1 (by rw [e]; exact qin)
      exact .inl ⟨by rw [cl_upd_ne n]; exact z.1, z.2⟩
    | fx => exact .inr rfl
  have keyB : ∀ (b : Bool) a o, RB fm Fs.flatten H b a o → RB fm Fs.flatten (upd H q (.dT vs')) b a o := fun b a o z => by
    cases b with
    | false => exact (key .sh a o z).resolve_right (fun e => nomatch e)
    | true => exact (key .f0 a o z).resolve_right (fun e => nomatch e)
  have up : ∀ a, H a ≠ none → upd H q (.dT vs') a ≠ none := fun a n => by
    by_cases e : a = q
    · rw [e, upd_same]; exact fun z => by cases z
    · rw [upd_ne e]; exact n
  refine ⟨h1.wr (h5 q qin).2.1 hp (fun _ z => nomatch z) rfl, fun a z => up a (h2 a z), ⟨Fs, ?_, rfl⟩, h4, fun x hx => ⟨up x (h5 x hx).1, (h5 x hx).2⟩, fun a o z => (key .sh a o (h6 a o z)).resolve_right (fun e => nomatch e)⟩
  · -- the slots
    have gen : ∀ {L : List Slot} {σ : L2.St} {Fs' : List (List Addr)}, AllS H (RB fm Fs.flatten H) L σ Fs' → Fs'.flatten.Nodup → ∀ {i : Nat}, Fs'[i]? = some [q] → L[i]? = some (sDicT b A f S ds) → σ[i]? = some (some (V.ref q)) →
        AllS (upd H q (.dT vs')) (RB fm Fs.flatten (upd H q (.dT vs'))) (L.set i (sDicT b A f S ds')) σ Fs' := by
      intro L σ Fs' hA
      induction hA with
      | nil => intro _ i e _ _; simp at e
      | @cons sl L v σ F Fs' r t ih =>
        intro nd i e eL eσ
        rw [List.flatten_cons, List.nodup_append] at nd
        cases i with
        | zero =>
          simp at e eL eσ
          subst e; subst eL; subst eσ
          refine .cons ⟨q, vs', rfl, rfl, upd_same, r'.mono (keyB b)⟩ (t.st keyB fun x hx => ?_)
          exact upd_ne fun z => nd.2.2 q (by simp) x hx z.symm
        | succ i =>
          have e' : Fs'[i]? = some [q] := by simpa using e
          refine .cons (sl.st r keyB fun x hx => upd_ne fun z => nd.2.2 x hx q (List.mem_flatten.mpr ⟨[q], List.mem_of_getElem? e', by simp⟩) z) (ih nd.2.1 e' (by simpa using eL) (by simpa using eσ))
    exact gen h3 h4 e2 hL e1
theorem At.setOwnT {fm : Fm} {kp : RdR} {σ : L2.St} {H H' : Hp} {own : List Addr} {b : Bool} {ds : List (κ × α)} {vs : List (List Key × V)} {q : Addr} (h : At fm kp L σ H own) (s : Same H H') (hn : H q = none) (h' : H' q = some (.dT vs))
    (r : TReps A f S (RB fm (q :: own) H' b) ds vs) : ∃ own', At fm kp (L.set i (sDicT b A f S ds)) (σ.set i (some (.ref q))) H' own' := by
  obtain ⟨h1, h2, ⟨Fs, h3, rfl⟩, h4, h5, h6⟩ := h
  have hq : q ∉ Fs.flatten := fun z => (h5 q z).1 hn
  have sub : ∀ x ∈ (Fs.set i [q]).flatten, x ∈ q :: Fs.flatten := fun x hx => (set_own x hx).elim (fun e => by rw [e]; exact List.mem_cons_self) (List.mem_cons_of_mem _)
  have key : ∀ (md : Md) a o, RX fm Fs.flatten H H md a o → RX fm (Fs.set i [q]).flatten H H' md a o := fun md a o z => by
    refine RX.own sub a o ?_
    have z1 := RX.add (o' := .lst []) hn a o z
    have na : a ≠ q ∨ KObj fm.K a o := by
      rcases RX.sh a o z with z | z
      · exact .inl fun e => Rd.some z.1 (by rw [e]; exact cl_none hn)
      · exact .inr z
    cases md with
    | sh =>
      rcases z1 with z1 | z1
      · rcases z with z | z
        · exact .inl ⟨Rd.same s z.1, z1.2⟩
        · exact .inr z
      · exact .inr z1
    | f0 => exact ⟨s.cl _ _ z.1, z1.2⟩
    | fx => exact ⟨s.cl _ _ z.1, z1.2⟩
  have keyB : ∀ (b : Bool) a o, RB fm Fs.flatten H b a o → RB fm (Fs.set i [q]).flatten H' b a o := fun b a o z => by
    cases b with
    | false => exact key .sh a o z
    | true => exact key .f0 a o z
  refine ⟨_, h1.trans s, fun a z n => h2 a z (s.free n), ⟨Fs.set i [q], (h3.st (H' := H') keyB fun p hp => ?_).set (s := sDicT b A f S ds) ⟨q, vs, rfl, rfl, h', r.mono fun a o z => ?_⟩ i, rfl⟩, set_own_nd hq h4, fun p hp => ?_, fun a o z => key .sh a o (h6 a o z)⟩
  · cases e : cl H p with
    | none => exact absurd e (h3.tb p hp)
    | some u => rw [cl_raw e]; exact s.keep _ _ (cl_raw e) (cl_nt e)
  · cases b <;> exact RX.own sub a o z
  · rcases set_own p hp with rfl | hp
    · exact ⟨by rw [h']; exact (fun z => by cases z), h1.free hn, fun z => h2 _ z hn⟩
    · exact ⟨fun e => (h5 p hp).1 (s.free e), (h5 p hp).2⟩
theorem At.freezeT {fm : Fm} {kp : RdR} {σ : L2.St} {H : Hp} {own : List Addr} {b : Bool} {ds : List (κ × α)} (h : At fm kp L σ H own) (hL : L[i]? = some (sDicT b A f S ds)) : ∃ own', At fm kp (L.set i (sV false (tDicT A f S) ds)) σ H own' ∧ ∀ p ∈ own', p ∈ own := by
  obtain ⟨h1, h2, ⟨Fs, h3, rfl⟩, h4, h5, h6⟩ := h
  obtain ⟨v, F, e1, e2, q, vs, rfl, rfl, hp, r⟩ := h3.get hL
  have qin : q ∈ Fs.flatten := List.mem_flatten.mpr ⟨[q], List.mem_of_getElem? e2, by simp⟩
  have kk : ∀ p ∈ (Fs.set i []).flatten, p ∈ Fs.flatten := fun p hp => (set_sub (i := i)).subset hp
  have qn : q ∉ (Fs.set i []).flatten := by
    have nd := h4
    clear h3 h5 h6 qin kk r hp
    induction Fs generalizing i L σ with
    | nil => simp at e2
    | cons F Fs ih =>
      rw [List.flatten_cons, List.nodup_append] at nd
      cases i with
      | zero =>
        simp at e2
        subst e2
        simp only [List.set_cons_zero, List.flatten_cons, List.nil_append]
        exact fun z => nd.2.2 q (by simp) q z rfl
      | succ i =>
        simp only [List.set_cons_succ, List.flatten_cons, List.mem_append, not_or]
        have e2' : Fs[i]? = some [q] := by simpa using e2
        refine ⟨fun z => nd.2.2 q z q (List.mem_flatten.mpr ⟨[q], List.mem_of_getElem? e2', by simp⟩) rfl, ?_⟩
        cases σ with
        | nil => simp at e1
        | cons s σ =>
          cases L with
          | nil => simp at hL
          | cons l L => exact ih (i := i) (L := L) (σ := σ) (hL := by simpa using hL) (e1 := by simpa using e1) (e2 := e2') (h4 := nd.2.1) (nd := nd.2.1)
  have σe : σ.set i (some (V.ref q)) = σ := by
    apply List.ext_getElem?
    intro n
    by_cases hn : n = i
    · subst hn
      rw [e1]
      have := (List.getElem?_eq_some_iff.mp e1).1
      rw [List.getElem?_set_self this]
    · rw [List.getElem?_set_ne (Ne.symm hn)]
  refine ⟨_, ⟨h1, h2, ⟨Fs.set i [], ?_, rfl⟩, h4.sublist set_sub, fun p hp => h5 p (kk p hp), fun a o z => RX.own (md := .sh) (H := H) kk a o (h6 a o z)⟩, kk⟩
  rw [← σe]
  refine (h3.st (RB.own kk) fun _ _ => rfl).set (s := sV false (tDicT A f S) ds) ⟨rfl, .ref q, rfl, q, vs, rfl, ?_, ?_⟩ i
  · exact .inl ⟨.inl (cl_of hp), qn, (h5 q qin).2.2⟩
  · exact r.mono fun a o z => RX.sh (H := H) a o (RB.own kk b a o z)
theorem evb_freezeT {b : Bool} {ds : List (κ × α)} {m : M δ} (hL : L[i]? = some (sDicT b A f S ds)) (hr : EvB g (L.set i (sV false (tDicT A f S) ds)) st D m) : EvB g L st D m := PSs.imp hr fun E σ H ⟨kp, own, at_, q⟩ => by
  obtain ⟨own', a', _⟩ := at_.freezeT hL
  exact ⟨kp, own', a', q⟩
def tDispT1 (tk tv : TE) : TE := fun σ H Q => ∀ p, H p = none → tPairs [(tk, tv)] σ (upd H p (.dT [])) fun ps H2 => ∃ x y, ps = [(x, y)] ∧ H2 p = some (.dT []) ∧ ∃ k b, x = .ref b ∧ H2 b = some (.tup (k.map kV)) ∧ Q (.ref p) (upd H2 p (.dT [(k, y)]))
theorem pe_dispT1 {X : Cx} {tk tv : TE} (hu : X.A.units + 1 < cLine) (ha : PE X a tk) (hb : PE X b tv) : PE X (.Dict [some a] [b] pos) (tDispT1 tk tv) := by
  refine ⟨fun pins s σ H Q I q => ?_⟩
  have hn := I.hok.fresh (Nat.le_refl s.heap.objs.size)
  have I1 := I.laid (a := s.heap.objs.size) (o := .dT []) (h' := s.heap.push { cls := .type "dict", data := .dict #[] }) (t' := s.toks) (fun _ _ q => Heap.get?_push_of_some _ q) (Nat.le_refl _) (dt_empty s.heap I.big)
  have hroom : (tupleKind (mixKind X.prog X.w)).room X.A := Nat.lt_of_succ_lt hu
  rw [arm_eval_Dict, zip_pairTrees [some a] [b] X.env pos rfl rfl, dictDisplay_pairs (pairTrees [some a] [b] X.env pos) (by simp [pairTrees]) (by simp [pairTrees])]
  refine wpAny_bind (wpAny_standAt (wpAny_bind (wpAny_subDictH (knd := tupleKind (mixKind X.prog X.w)) hroom (by simp [pairTrees]) ?_)))
  refine thn ((pps_cons ha hb pps_nil).run pins _ σ _ _ I1 (q _ hn)) fun ws s2 ⟨ps, H2, I2, rel, x, y, ep, e, k, bb, ex, eb, q2⟩ => ?_
  subst ep ex
  cases rel with
  | @cons _ r0 _ _ h t =>
  cases t
  obtain ⟨r1, r2⟩ := r0
  obtain ⟨h1, h2⟩ := h
  obtain rfl : r1 = Value.ref bb := h1
  obtain ⟨z, hd, xs, rel, dd⟩ := dt_of I2.hok e
  cases rel
  refine ⟨[(k, bb, r2)], ⟨rfl, rfl, key_of I2.hok eb, trivial⟩, dd, fun h' tk' dd' hs => wpAny_pure ⟨.ref s.heap.objs.size, _, ?_, rfl, q2⟩⟩
  obtain ⟨qo, es, ep, hq, h2', h3, h4, _, h5⟩ := dd'
  refine d_write I2 (by rw [e]; exact True.intro) hs ⟨qo, hq⟩ ⟨by rw [sizeLine_eq, List.length_cons, List.length_nil]; omega, hd, [(k, bb, r2)], .cons ⟨rfl, ?_, h2⟩ .nil, qo, es, ep, hq, h2', h3, h4, h5⟩
  rw [upd_ne (ne_of eb e (fun z => nomatch z))]
  exact eb
section
variable [DecidableEq κ]
/-- x = {a: None}, a a tuple -/
theorem evb_newT1 {m1 : M κ} {h : List (κ × Option α) → M δ} {pos' pd p2 : Pos} {j2} (hk : KyA A f) (ok : OkS p sc NN VV GG k g) (wk : Wk L g.LX) (hN : NN[i]? = some x) (hV : VV[j]? = some x) (ha : EvE g L a .sh (tKy A f) m1) (hr : ∀ ds, EvB g (L.set i (sDicT false A f (tOpt S) ds)) st D (h ds))
    (hs : ∀ Y : Cx, swapsWith (.Dict [some a] [.Constant .none j2 p2] pd) (some (.Name x pos')) pos.line Y.env = pure false := by intro _; rfl) : EvB g L (.Assign [.Name x pos'] (.Dict [some a] [.Constant .none j2 p2] pd) pos :: st) D (m1.bind fun n => (M.ok [(n, (none : Option α))]).bind h) := by
  refine PSs.imp (pss_cons (ps_set (i := i) (by rw [ok.N]; exact ok.nd) (by rw [ok.N]; exact hN) (ok.loc hV) (pe_dispT1 (by have := ok.toOk.room.un; omega) ha pe_non) (hs _) (okS_fn ok)) (PSs.ex hr)) fun E σ H ⟨kp, own, at_, q⟩ => ?_
  intro q' hq'
  refine tE_iff.mpr ⟨kp, own, at_.ext (newSame hq'), ?_⟩
  cases m1 with
  | ok n =>
    intro y H1 s1 r1
    obtain ⟨kq, rfl, hkq⟩ := key_raw r1
    have hd1 := s1.keep _ _ upd_same rfl
    refine ⟨_, _, rfl, hd1, f n, kq, rfl, hkq, ?_⟩
    obtain ⟨_, vs, _, _, hA, _⟩ := r1
    have hA' : A.rep n ((f n).map kV) RN := by rw [hk.to hA] at hA; exact hk.flat hA
    obtain ⟨own', a'⟩ := at_.setOwnT (A := A) (f := f) (S := tOpt S) (i := i) (b := false) (ds := [(n, none)]) (vs := [(f n, V.non)]) (H' := upd H1 q' (.dT [(f n, V.non)])) (((newSame hq').trans s1).wr hq' hd1 (fun _ z => nomatch z) rfl) hq' upd_same (.cons hA' rfl .nil)
    exact ⟨_, kp, own', a', q⟩
  | ex c => exact BOk.exx wk (at_.ext (newSame hq')) q
  | no => exact q
def dputTM {κ α : Type} [DecidableEq κ] (ds : List (κ × α)) (k : κ) (d : α) : M (List (κ × α)) := if ds.length < sizeLine then .ok (dputT ds k d) else .no
theorem evb_putT {ds : List (κ × α)} {m : M α} {mi : M κ} {h : List (κ × α) → M δ} {ix : Expr} {p1 p2 : Pos} (hk : KyA A f) (ok : OkS p sc NN VV GG k g) (wk : Wk L g.LX) (hN : NN[i]? = some x) (hV : VV[j]? = some x) (hL : L[i]? = some (sDicT false A f S ds))
    (he : EvE g L e .sh S m) (hi : EvE g L ix .sh (tKy A f) mi) (hr : ∀ ds', EvB g (L.set i (sDicT false A f S ds')) st D (h ds'))
    (hs : swapsWith e (some (.Subscript (.Name x p1) ix p2)) pos.line g.X.env = pure false := by rfl) :
    EvB g L (.Assign [.Subscript (.Name x p1) ix p2] e pos :: st) D (m.bind fun d => mi.bind fun n => (dputTM ds n d).bind h) := by
  obtain ⟨hv, ho⟩ := ok.vis hV
  obtain ⟨h1, h2, _⟩ := okName_d ho
  refine PSs.imp (pss_cons (ps_dput (by have := ok.toOk.room.un; omega) (pe_var (i := i) (by rw [ok.N]; exact hN) hv h1 h2) hi he hs) (PSs.ex hr)) fun E σ H ⟨kp, own, at_, q⟩ => ?_
  refine tE_iff.mpr ⟨kp, own, at_, ?_⟩
  cases m with
  | ok d =>
    intro v H1 s1 r1
    have a1 := at_.ext s1
    obtain ⟨p', vs, e1, hp, r, mu⟩ := a1.mutT hL
    refine ⟨_, e1, tE_iff.mpr ⟨kp, own, a1, ?_⟩⟩
    cases mi with
    | ok n =>
      intro y H2 s2 r2
      obtain ⟨kq, rfl, hkq⟩ := key_raw r2
      obtain ⟨_, us, _, _, hA, _⟩ := r2
      have hA' : A.rep n ((f n).map kV) RN := by rw [hk.to hA] at hA; exact hk.flat hA
      have a2 := a1.ext s2
      obtain ⟨p2', vs2, e12, hp2, rr2, mu2⟩ := a2.mutT hL
      rw [e1] at e12
      cases e12
      have q : BOk g kp E D ((dputTM ds n d).bind h) := q
      unfold dputTM at q
      split at q
      · rename_i hlt
        exact ⟨p', _, rfl, DPut.t (k := f n) hp2 hkq (by rw [← rr2.length]; exact hlt), dputT ds n d, kp, own, mu2 _ _ (rr2.put hk n hA' (S.mono r1 fun a o z => RD.same s2 a o z)), q⟩
      · exact q.elim
    | ex c => exact BOk.exx wk a1 q
    | no => exact q
  | ex c => exact BOk.exx wk at_ q
  | no => exact q
/-- a in x, a dict of one's own -/
theorem evt_inT {bb : Bool} {ds : List (κ × α)} {m1 : M κ} {npos : Pos} (hk : KyA A f) (ok : Ok p sc NN VV GG k g) (hN : NN[i]? = some x) (hV : VV[j]? = some x) (hL : L[i]? = some (sDicT bb A f S ds)) (ha : EvE g L a .sh (tKy A f) m1)
    (hk2 : behindInMarks .In (.Name x npos) = false := by first | exact nobehind _ (by decide) (by decide) | rfl) : EvT g L (.Compare a [.In] [.Name x npos] pos) (m1.bind fun n => .ok (dgetT ds n).isSome) := by
  obtain ⟨hv, ho⟩ := ok.vis hV
  obtain ⟨h1, h2, _⟩ := okName_d ho
  refine PT.imp (pt_cmp (pc_din (by have := ok.room.un; omega) ha (pe_var (i := i) (by rw [ok.N]; exact hN) hv h1 h2)) hk2) fun σ H Q q => ?_
  obtain ⟨kp, own, at_, q⟩ := tT_iff.mp q
  obtain ⟨Fs, hA, rfl⟩ := at_.sl
  obtain ⟨v, F, e1, e2, pp, vs, rfl, rfl, hp, r⟩ := hA.get hL
  refine sub finT (Same.refl H) at_ q fun n y H2 s2 r2 at2 q2 => ?_
  obtain ⟨kq, rfl, hkq⟩ := key_raw r2
  refine ⟨_, e1, pp, _, rfl, DGet.t (k := f n) (s2.keep _ _ hp rfl) hkq, _, rfl, ?_⟩
  rw [r.some hk]
  exact q2 H2 s2
def getTM {κ α : Type} [DecidableEq κ] (ds : List (κ × α)) (k : κ) : M α := match dgetT ds k with
  | some d => .ok d
  | none => .no
/-- a[b], a a shared dict -/
theorem ev_subTV {ma : M (List (κ × α))} {m1 : M κ} (hk : KyA A f) (ok : Ok p sc NN VV GG k g) (ha : EvE g L a .sh (tDicT A f S) ma) (hb : EvE g L b .sh (tKy A f) m1)
    (hs : NoSl b := by intro _ _; rfl) : EvE g L (.Subscript a b pos) .sh S (ma.bind fun ds => m1.bind fun n => getTM ds n) := by
  refine PE.imp (pe_dget (by have := ok.room.un; omega) ha hb hs) fun σ H Q q => ?_
  obtain ⟨kp, own, at_, q⟩ := tE_iff.mp q
  refine sub finE (Same.refl H) at_ q fun ds v H1 s1 r1 at1 q1 => sub finE s1 at1 q1 fun n y H2 s2 r2 at2 q2 => ?_
  obtain ⟨kq, rfl, hkq⟩ := key_raw r2
  obtain ⟨ad, vs, rfl, hR, r⟩ := (tDicT A f S).mono r1 (RX.same s2)
  have hR' : L2.Rd H2 ad (.dT vs) := (RX.rdb (md := .sh) _ _ hR rfl).resolve_right fun z => z
  unfold getTM at q2
  rcases r.get hk n with ⟨g1, g2⟩ | ⟨d', v', g1, g2, g3⟩
  · rw [g1] at q2
    exact q2.elim
  · rw [g1] at q2
    exact ⟨ad, v', rfl, by rw [← g2]; exact .inr ⟨vs, f n, kq, hR', rfl, hkq, rfl⟩, q2 v' H2 (s1.trans s2) g3⟩
end
end
end Hd
namespace Hd
open PySem PySem.Spec PyProof.Rows L2
theorem ps_orLock {X : Cx} {st : Stmt} {t : TS} (h : PS X st t) : PS X st (fun D σ H => t D σ H ∨ tLock t D σ H) := ⟨fun pins s σ H D I q => q.elim (fun q => h.run pins s σ H D I q) fun q => (ps_lock h).run pins s σ H D I q⟩
theorem upd_id {H : Hp} {a : Addr} {o : HO} (h : H a = some o) : upd H a o = H := by
  funext b
  unfold upd
  split
  · rename_i e; rw [e, h]
  · rfl
theorem set_id {α : Type} {l : List α} {i : Nat} {x : α} (h : l[i]? = some x) : l.set i x = l := by
  apply List.ext_getElem?
  intro n
  by_cases hn : n = i
  · subst hn
    rw [h, List.getElem?_set_self (List.getElem?_eq_some_iff.mp h).1]
  · rw [List.getElem?_set_ne (Ne.symm hn)]
section
variable {p : Pr} {sc : Scope} {NN VV GG : List Str} {k : Nat} {g : G} {L : List Slot} {α β δ κ : Type} {S : Ty α} {T : Ty β} {md md' : Md} {pos : Pos} {st : List Stmt} {D : δ → Out} {i j : Nat} {x : Str} {a b c e : Expr} {es : List Expr} {A : Ar κ} {f : κ → List Key}
theorem At.anyset {fm : Fm} {kp : RdR} {σ : L2.St} {H : Hp} {own : List Addr} {v : Option V} (h : At fm kp L σ H own) (hL : L[i]? = some sAny) : At fm kp L (σ.set i v) H own := by
  obtain ⟨h1, h2, ⟨Fs, h3, rfl⟩, h4, h5, h6⟩ := h
  obtain ⟨w, F, e1, e2, e3⟩ := h3.get hL
  have e3 : F = [] := e3
  subst e3
  refine ⟨h1, h2, ⟨Fs, ?_, rfl⟩, h4, h5, h6⟩
  have h7 := h3.set (s := sAny) (v := v) (F := []) rfl i
  rwa [set_id hL, set_id e2] at h7
theorem trep_ix {R : RdR} {ds : List (κ × α)} {vs : List (List Key × V)} (h : TReps A f S R ds vs) : ∀ {i : Nat} {k : List Key} {v : V}, vs[i]? = some (k, v) → ∃ d, ds[i]? = some d ∧ k = f d.1 ∧ A.rep d.1 ((f d.1).map kV) RN := by
  induction h with
  | nil => intro i k v e; simp at e
  | @cons k' d' v' ds vs a r _ ih =>
    intro i k v e
    cases i with
    | zero => simp at e; exact ⟨_, rfl, e.1.symm, a⟩
    | succ i => obtain ⟨d, e1, e2⟩ := ih (i := i) (by simpa using e); exact ⟨d, by simpa using e1, e2⟩
def keyed {β α : Type} (ds : List (Key × β)) (ks : List ((Int × β × Unit) × α)) : M (List (Key × β)) := forM (fun ds kv => dputM ds (.inl kv.1.1) kv.1.2.1) ds ks
theorem evb_forKD {f : Int × β × Unit → List Key} {ks : List ((Int × β × Unit) × α)} {bb : Bool} {ds : List (Key × β)} {h : List (Key × β) → M δ} {ix ic id jx jc jd : Nat} {x c d : Str} {p1 p2 p3 p4 p5 p6 p7 p8 p9 p10 p11 : Pos} {i0 i1} {L1 : List Slot} (ok : OkS p sc NN VV GG k g)
    (hT : Flat T) (wx : Wk L L1) (hNx : NN[ix]? = some x) (hVx : VV[jx]? = some x) (hLx : L1[ix]? = some sAny) (hNc : NN[ic]? = some c) (hVc : VV[jc]? = some c) (hLc : L1[ic]? = some (sV false (tDicT (aCons tInt (aCons T aNil)) f S) ks))
    (hNd : NN[id]? = some d) (hVd : VV[jd]? = some d) (hLd : L1[id]? = some (sDict bb T ds)) (hdx : id ≠ ix) (hcx : ic ≠ ix)
    (hr : ∀ ds', EvB g (L1.set id (sDict bb T ds')) st D (h ds'))
    (hs : ∀ y, foldedSetIterable (.Name c p1) g.X.env y = pure y := by intro _; rfl) (hsw : swapsWith (.Subscript (.Name x p2) (.Constant (.int 1) i1 p3) p4) (some (.Subscript (.Name d p5) (.Subscript (.Name x p6) (.Constant (.int 0) i0 p7) p8) p9)) p10.line g.X.env = pure false := by rfl) :
    EvB g L (.For (.Name x p11) (.Name c p1) [.Assign [.Subscript (.Name d p5) (.Subscript (.Name x p6) (.Constant (.int 0) i0 p7) p8) p9] (.Subscript (.Name x p2) (.Constant (.int 1) i1 p3) p4) p10] [] pos :: st) D ((keyed ds ks).bind h) := by
  obtain ⟨vx, ox⟩ := ok.vis hVx
  obtain ⟨x1, x2, _⟩ := okName_d ox
  obtain ⟨vc, oc⟩ := ok.vis hVc
  obtain ⟨c1, c2, _⟩ := okName_d oc
  obtain ⟨vd, od⟩ := ok.vis hVd
  obtain ⟨d1, d2, _⟩ := okName_d od
  have ex := pe_var (X := g.X) (i := ix) (x := x) (pos := p6) (by rw [ok.N]; exact hNx) vx x1 x2
  have ex' := pe_var (X := g.X) (i := ix) (x := x) (pos := p2) (by rw [ok.N]; exact hNx) vx x1 x2
  have ec := pe_var (X := g.X) (i := ic) (x := c) (pos := p1) (by rw [ok.N]; exact hNc) vc c1 c2
  have ed := pe_var (X := g.X) (i := id) (x := d) (pos := p5) (by rw [ok.N]; exact hNd) vd d1 d2
  have e0 := pe_ix (pos := p8) (r := rIxT g.X.K) ix_tup ex (pe_int (i := 0) (j := i0) (pos := p7)) (by exact fun _ _ => rfl)
  have e1 := pe_ix (pos := p4) (r := rIxT g.X.K) ix_tup ex' (pe_int (i := 1) (j := i1) (pos := p3)) (by exact fun _ _ => rfl)
  have hb := pss_cons (ps_dput (pos := p10) (pos' := p9) (by have := ok.toOk.room.un; omega) ed e0 e1 hsw) (pss_nil (X := g.X))
  have hG := pg_name (X := g.X) (pos := p11) (i := ix) (x := x) (by rw [ok.N]; exact ok.nd) (by rw [ok.N]; exact hNx) (ok.loc hVx) (okS_fn ok)
  refine PSs.imp (pss_cons (ps_orLock (ps_for (pos := pos) ok.psO ok.calm (pi_keys ec) hG hb hs)) (PSs.ex hr)) fun E σ H ⟨kp, own, at_, q⟩ => ?_
  have q : BOk g kp E D ((keyed ds ks).bind h) := q
  obtain ⟨own1, a1, _⟩ := at_.weak wx
  obtain ⟨Fs, hA, he⟩ := a1.sl
  obtain ⟨vc0, Fc, ec0, _, rfl, vcv, rfl, ac, ws, rfl, hR, rK⟩ := hA.get hLc
  obtain ⟨vx0, Fx, ex0, _, _⟩ := hA.get hLx
  have hR' : L2.Rd H ac (.dT ws) := by
    rcases (show RD g.fm own1 H ac _ from by rw [he]; rw [he] at hR; exact hR) with z | z
    · exact Rd.raw z.1
    · exact (show False from z).elim
  obtain ⟨qd, vs, ed0, hqd, rD, mu⟩ := a1.mutD hLd
  have ncd : ac ≠ qd := fun z => by
    rcases hR' with r | ⟨_, r⟩ <;> rw [z, hqd] at r <;> cases r
  -- the walk, the dict being locked
  have key : ∀ (D' : Ends) (Hf : Hp) (o : Obj), Hf ac = some (.frz o (.dT ws)) → Hf qd = some (.dK vs) → (∀ b ks', H b = some (.tup ks') ∨ True → True) →
      (∀ ds' vs' v, KReps T (RB g.fm own1 H bb) ds' vs' → BOk g kp E D (h ds') → D'.nx (σ.set ix v) (upd Hf qd (.dK vs'))) → tFor (iKeys (tVar ic)) (gName ix) (tSeq (sDPut (tVar id) (tOp (rIxT g.X.K) (tVar ix) (tC (.int 0))) (tOp (rIxT g.X.K) (tVar ix) (tC (.int 1)))) tNext) D' σ Hf := by
    intro D' Hf o hf hq _ fin
    refine ⟨_, ec0, ac, o, rfl, .inr ⟨ws, hf, ?_⟩⟩
    refine ⟨fun i m σ' H' => m = ks.length - i ∧ i ≤ ks.length ∧ ∃ ds' vs' v, σ' = σ.set ix v ∧ H' = upd Hf qd (.dK vs') ∧ KReps T (RB g.fm own1 H bb) ds' vs' ∧ BOk g kp E D ((keyed ds' (ks.drop i)).bind h), ⟨_, rfl, Nat.zero_le _, ds, vs, _, (set_id ex0).symm, (upd_id hq).symm, rD, q⟩, ?_⟩
    rintro i m σ' H' ⟨rfl, hi, ds', vs', v, rfl, rfl, r', q'⟩
    have hfr : upd Hf qd (.dK vs') ac = some (.frz o (.dT ws)) := by rw [upd_ne ncd]; exact hf
    have hlen : ks.length = ws.length := rK.length
    by_cases hlt : i < ks.length
    · refine .inr ⟨⟨hfr, by omega⟩, fun σ2 H2 => ∃ ds' vs' v, σ2 = σ.set ix v ∧ H2 = upd Hf qd (.dK vs') ∧ KReps T (RB g.fm own1 H bb) ds' vs' ∧ BOk g kp E D ((keyed ds' (ks.drop (i + 1))).bind h), fun σ2 H2 z => ⟨ks.length - (i + 1), by omega, rfl, hlt, z⟩, ?_⟩
      rintro y H2 ⟨rfl, kk, vv, qk, e1, rfl, e3⟩
      obtain ⟨kd, k1, rfl, k3⟩ := trep_ix rK e1
      have hl : ix < σ.length := (List.getElem?_eq_some_iff.mp ex0).1
      have hx : ((σ.set ix v).set ix (some (V.ref qk)))[ix]? = some (some (V.ref qk)) := List.getElem?_set_self (by simpa using hl)
      have hd' : ((σ.set ix v).set ix (some (V.ref qk)))[id]? = some (some (V.ref qd)) := by rw [List.getElem?_set_ne hdx.symm, List.getElem?_set_ne hdx.symm]; exact ed0
      obtain ⟨w1, r1, t1, t2, w2, r2, t3, t4, t5⟩ := k3
      have t2 : w1 = V.int kd.1.1 := t2
      have t5 : r2 = [] := t5
      subst t2 t5 t3
      rw [t1] at e3
      have hst : SqT g.X.K (upd Hf qd (.dK vs')) qk [V.int kd.1.1, w2] := .inl (.inl e3)
      rw [List.drop_eq_getElem_cons hlt] at q'
      have ek : ks[i] = kd := by
        have := List.getElem?_eq_getElem hlt
        rw [k1] at this
        exact (Option.some.inj this).symm
      rw [ek] at q'
      have q2 : BOk g kp E D (((dputM ds' (.inl kd.1.1) kd.1.2.1).bind fun s' => keyed s' (ks.drop (i + 1))).bind h) := q'
      unfold dputM at q2
      split at q2
      · rename_i hlt2
        refine ⟨_, hx, qk, _, 1, w2, rfl, rfl, hst, rfl, _, hd', _, hx, qk, _, 0, V.int kd.1.1, rfl, rfl, hst, rfl, qd, _, rfl, DPut.k (k := .inl kd.1.1) upd_same (by rw [← r'.length]; exact hlt2), ?_⟩
        rw [upd_upd, List.set_set]
        exact ⟨_, _, _, rfl, rfl, r'.put (.inl kd.1.1) (hT t4), q2⟩
      · exact q2.elim
    · have e : i = ks.length := by omega
      subst e
      rw [List.drop_length] at q'
      exact .inl ⟨⟨hfr, by omega⟩, fin ds' vs' v r' q'⟩
  have fin : ∀ ds' vs' v, KReps T (RB g.fm own1 H bb) ds' vs' → BOk g kp E D (h ds') → ∃ ds', tB g (L1.set id (sDict bb T ds')) D (h ds') E (σ.set ix v) (upd H qd (.dK vs')) := fun ds' vs' v r' q' =>
    ⟨ds', kp, own1, (mu ds' vs' r').anyset (by rw [List.getElem?_set_ne hdx]; exact hLx), q'⟩
  rcases hR' with hc | ⟨o, hc⟩
  · refine .inr ⟨ac, .dT ws, hc, True.intro, fun od => key _ _ od upd_same (by rw [upd_ne ncd.symm]; exact hqd) (fun _ _ _ => trivial) fun ds' vs' v r' q' => ?_⟩
    refine ⟨by rw [upd_ne ncd]; exact upd_same, ?_⟩
    have e : upd (upd (upd H ac (.frz od (.dT ws))) qd (.dK vs')) ac (.dT ws) = upd H qd (.dK vs') := by
      funext b
      unfold upd
      by_cases hb : b = ac
      · rw [if_pos hb, hb, if_neg ncd, hc]
      · rw [if_neg hb]
        by_cases hb2 : b = qd
        · rw [if_pos hb2, if_pos hb2]
        · rw [if_neg hb2, if_neg hb2, if_neg hb]
    rw [e]
    exact fin ds' vs' v r' q'
  · exact .inl (key _ _ o hc hqd (fun _ _ _ => trivial) fin)
end
end Hd
namespace Hd
open PySem PySem.Spec PyProof.Rows L2
section
variable {δ : Type} {p : Pr} {sc : Scope} {NN VV GG : List Str} {k : Nat} {g : G} {L : List Slot} {md md' : Md} {pos : Pos} {st : List Stmt} {D : δ → Out} {i j : Nat} {x : Str} {e : Expr}
theorem evb_augN {b : Bool} {v : Int} {m : M Int} {f : Int → M δ} {p1 : Pos} (ok : OkS p sc NN VV GG k g) (wk : Wk L g.LX) (hN : NN[i]? = some x) (hV : VV[j]? = some x) (hL : L[i]? = some (sV b tInt v))
    (he : EvE g L e md tInt m) (hr : ∀ y, EvB g (L.set i (sV false tInt y)) st D (f y)) : EvB g L (.AugAssign (.Name x p1) .Add e pos :: st) D (m.bind fun d => (M.ok (v + d)).bind f) := by
  refine PSs.imp (pss_cons (ps_aug (i := i) (by rw [ok.N]; exact ok.nd) (by rw [ok.N]; exact hN) (ok.loc hV) he ip_add (okS_fn ok)) (PSs.ex hr)) fun E σ H ⟨kp, own, at_, q⟩ => ?_
  obtain ⟨Fs, hA, he'⟩ := at_.sl
  obtain ⟨v0, F, e1, e2, rfl, w, rfl, rw'⟩ := hA.get hL
  cases (show w = .int v from rw')
  refine ⟨_, e1, tE_iff.mpr ⟨kp, own, at_, ?_⟩⟩
  cases m with
  | ok d =>
    intro y H' s r
    cases (show y = .int d from r)
    obtain ⟨own', a'⟩ := (at_.ext s).setV (T := tInt) (d := v + d) (v := .int (v + d)) (i := i) (b := false) rfl
    exact ⟨v, d, rfl, rfl, v + d, kp, own', a', q⟩
  | ex c => exact BOk.exx wk at_ q
  | no => exact q
end
end Hd
namespace Hd
open PySem PySem.Spec PyProof.Rows L2
section
variable {α : Type}
/-- (text, int, x) and (text, text, text) -/
def dSIS {U : Ty α} (F : Deep U) : Deep (tSum (tTup (aCons tStr (aCons tInt (aCons U aNil)))) (tTup (aCons tStr (aCons tStr (aCons tStr aNil))))) := dSum (dTup (dCons dStr (dCons dInt (dCons F dNil)))) (dTup (dCons dStr (dCons dStr (dCons dStr dNil)))) (fun a b => by
  show PyData.eqvAll [PyData.str _, PyData.int _, _] [PyData.str _, PyData.str _, _] = false
  simp [PyData.eqvAll, PyData.eqv]) (fun a b => by
  show PyData.eqvAll [PyData.str _, PyData.str _, _] [PyData.str _, PyData.int _, _] = false
  simp [PyData.eqvAll, PyData.eqv])
end
/-- the slots told anew -/
theorem evb_lit {δ : Type} {g : G} {L L' : List Slot} {st : List Stmt} {D : δ → Out} {m : M δ} (e : L = L') (h : EvB g L' st D m) : EvB g L st D m := e ▸ h
section
end
end Hd
namespace Hd
open PySem PySem.Spec PyProof.Rows L2
section
end
section
end
end Hd
namespace Hd
open PySem PySem.Spec L2
inductive Pc where
  | Given (ends picks : Int) (texts : List Tx)
  | Named (ends picks : Int) (texts : List Tx) (name : Tx)
  | Twill (ends picks : Int) (many : Int) (more : Int)
  | Satin (ends picks : Int) (step : Int)
  | Beside (ends picks : Int) (left : Pc) (right : Pc)
  | Above (ends picks : Int) (first : Pc) (later : Pc)
  | Mirrored (ends picks : Int) (inner : Pc)
  | Backed (ends picks : Int) (inner : Pc)
  | Upended (ends picks : Int) (inner : Pc)
  | Quartered (ends picks : Int) (inner : Pc)
  | Repeated (ends picks : Int) (inner : Pc) (across : Int) (along : Int)
  | Blocked (ends picks : Int) (profile : Pc) (unit : Pc) (other : Pc)
  | Covered (ends picks : Int) (upper_one : Pc) (lower_one : Pc)
inductive PK where
  | Given | Named | Twill | Satin | Beside | Above | Mirrored | Backed | Upended | Quartered | Repeated | Blocked | Covered
  deriving DecidableEq
def PK.nm : PK → Str
  | .Given => "Given"
  | .Named => "Named"
  | .Twill => "Twill"
  | .Satin => "Satin"
  | .Beside => "Beside"
  | .Above => "Above"
  | .Mirrored => "Mirrored"
  | .Backed => "Backed"
  | .Upended => "Upended"
  | .Quartered => "Quartered"
  | .Repeated => "Repeated"
  | .Blocked => "Blocked"
  | .Covered => "Covered"
def PK.all : List PK := [.Given, .Named, .Twill, .Satin, .Beside, .Above, .Mirrored, .Backed, .Upended, .Quartered, .Repeated, .Blocked, .Covered]
def Pc.k : Pc → PK
  | .Given _ _ _ => .Given
  | .Named _ _ _ _ => .Named
  | .Twill _ _ _ _ => .Twill
  | .Satin _ _ _ => .Satin
  | .Beside _ _ _ _ => .Beside
  | .Above _ _ _ _ => .Above
  | .Mirrored _ _ _ => .Mirrored
  | .Backed _ _ _ => .Backed
  | .Upended _ _ _ => .Upended
  | .Quartered _ _ _ => .Quartered
  | .Repeated _ _ _ _ _ => .Repeated
  | .Blocked _ _ _ _ _ => .Blocked
  | .Covered _ _ _ _ => .Covered
def pcRep (p : Pr) (R : RdR) : Pc → V → Prop
  | .Given e q d0, v => ∃ (a dx : Addr) (w0 : V), v = .ref a ∧ R a (.ins (cA p "Given") dx [("ends", .int e), ("picks", .int q), ("texts", w0)]) ∧ (tList tStr).rep d0 w0 R
  | .Named e q d0 d1, v => ∃ (a dx : Addr) (w0 : V), v = .ref a ∧ R a (.ins (cA p "Named") dx [("ends", .int e), ("picks", .int q), ("texts", w0), ("name", .str (toS d1))]) ∧ (tList tStr).rep d0 w0 R ∧ OkTx d1
  | .Twill e q d0 d1, v => ∃ (a dx : Addr), v = .ref a ∧ R a (.ins (cA p "Twill") dx [("ends", .int e), ("picks", .int q), ("many", .int d0), ("more", .int d1)])
  | .Satin e q d0, v => ∃ (a dx : Addr), v = .ref a ∧ R a (.ins (cA p "Satin") dx [("ends", .int e), ("picks", .int q), ("step", .int d0)])
  | .Beside e q d0 d1, v => ∃ (a dx : Addr) (w0 : V) (w1 : V), v = .ref a ∧ R a (.ins (cA p "Beside") dx [("ends", .int e), ("picks", .int q), ("left", w0), ("right", w1)]) ∧ pcRep p R d0 w0 ∧ pcRep p R d1 w1
  | .Above e q d0 d1, v => ∃ (a dx : Addr) (w0 : V) (w1 : V), v = .ref a ∧ R a (.ins (cA p "Above") dx [("ends", .int e), ("picks", .int q), ("first", w0), ("later", w1)]) ∧ pcRep p R d0 w0 ∧ pcRep p R d1 w1
  | .Mirrored e q d0, v => ∃ (a dx : Addr) (w0 : V), v = .ref a ∧ R a (.ins (cA p "Mirrored") dx [("ends", .int e), ("picks", .int q), ("inner", w0)]) ∧ pcRep p R d0 w0
  | .Backed e q d0, v => ∃ (a dx : Addr) (w0 : V), v = .ref a ∧ R a (.ins (cA p "Backed") dx [("ends", .int e), ("picks", .int q), ("inner", w0)]) ∧ pcRep p R d0 w0
  | .Upended e q d0, v => ∃ (a dx : Addr) (w0 : V), v = .ref a ∧ R a (.ins (cA p "Upended") dx [("ends", .int e), ("picks", .int q), ("inner", w0)]) ∧ pcRep p R d0 w0
  | .Quartered e q d0, v => ∃ (a dx : Addr) (w0 : V), v = .ref a ∧ R a (.ins (cA p "Quartered") dx [("ends", .int e), ("picks", .int q), ("inner", w0)]) ∧ pcRep p R d0 w0
  | .Repeated e q d0 d1 d2, v => ∃ (a dx : Addr) (w0 : V), v = .ref a ∧ R a (.ins (cA p "Repeated") dx [("ends", .int e), ("picks", .int q), ("inner", w0), ("across", .int d1), ("along", .int d2)]) ∧ pcRep p R d0 w0
  | .Blocked e q d0 d1 d2, v => ∃ (a dx : Addr) (w0 : V) (w1 : V) (w2 : V), v = .ref a ∧ R a (.ins (cA p "Blocked") dx [("ends", .int e), ("picks", .int q), ("profile", w0), ("unit", w1), ("other", w2)]) ∧ pcRep p R d0 w0 ∧ pcRep p R d1 w1 ∧ pcRep p R d2 w2
  | .Covered e q d0 d1, v => ∃ (a dx : Addr) (w0 : V) (w1 : V), v = .ref a ∧ R a (.ins (cA p "Covered") dx [("ends", .int e), ("picks", .int q), ("upper_one", w0), ("lower_one", w1)]) ∧ pcRep p R d0 w0 ∧ pcRep p R d1 w1
theorem pcRep_mono {p : Pr} {R R' : RdR} (s : ∀ a o, R a o → R' a o) : ∀ (d : Pc) {v : V}, pcRep p R d v → pcRep p R' d v
  | .Given e q d0, v, ⟨a, dx, w0, e1, h, r0⟩ => ⟨a, dx, w0,  e1, s _ _ h, (tList tStr).mono r0 s⟩
  | .Named e q d0 d1, v, ⟨a, dx, w0, e1, h, r0, r1⟩ => ⟨a, dx, w0,  e1, s _ _ h, (tList tStr).mono r0 s, r1⟩
  | .Twill e q d0 d1, v, ⟨a, dx, e1, h⟩ => ⟨a, dx,  e1, s _ _ h⟩
  | .Satin e q d0, v, ⟨a, dx, e1, h⟩ => ⟨a, dx,  e1, s _ _ h⟩
  | .Beside e q d0 d1, v, ⟨a, dx, w0, w1, e1, h, r0, r1⟩ => ⟨a, dx, w0, w1,  e1, s _ _ h, pcRep_mono s d0 r0, pcRep_mono s d1 r1⟩
  | .Above e q d0 d1, v, ⟨a, dx, w0, w1, e1, h, r0, r1⟩ => ⟨a, dx, w0, w1,  e1, s _ _ h, pcRep_mono s d0 r0, pcRep_mono s d1 r1⟩
  | .Mirrored e q d0, v, ⟨a, dx, w0, e1, h, r0⟩ => ⟨a, dx, w0,  e1, s _ _ h, pcRep_mono s d0 r0⟩
  | .Backed e q d0, v, ⟨a, dx, w0, e1, h, r0⟩ => ⟨a, dx, w0,  e1, s _ _ h, pcRep_mono s d0 r0⟩
  | .Upended e q d0, v, ⟨a, dx, w0, e1, h, r0⟩ => ⟨a, dx, w0,  e1, s _ _ h, pcRep_mono s d0 r0⟩
  | .Quartered e q d0, v, ⟨a, dx, w0, e1, h, r0⟩ => ⟨a, dx, w0,  e1, s _ _ h, pcRep_mono s d0 r0⟩
  | .Repeated e q d0 d1 d2, v, ⟨a, dx, w0, e1, h, r0⟩ => ⟨a, dx, w0,  e1, s _ _ h, pcRep_mono s d0 r0⟩
  | .Blocked e q d0 d1 d2, v, ⟨a, dx, w0, w1, w2, e1, h, r0, r1, r2⟩ => ⟨a, dx, w0, w1, w2,  e1, s _ _ h, pcRep_mono s d0 r0, pcRep_mono s d1 r1, pcRep_mono s d2 r2⟩
  | .Covered e q d0 d1, v, ⟨a, dx, w0, w1, e1, h, r0, r1⟩ => ⟨a, dx, w0, w1,  e1, s _ _ h, pcRep_mono s d0 r0, pcRep_mono s d1 r1⟩
def tPc (p : Pr) : Ty Pc := ⟨fun d v R => pcRep p R d v, fun {d v R R'} h s => pcRep_mono s d h⟩
/-- just this one -/
def tOnly (p : Pr) (d : Pc) : Ty Unit := ⟨fun _ v R => pcRep p R d v, fun h s => pcRep_mono s d h⟩
section
end
section
variable {p : Pr} {δ δ' ρ : Type} {A : Ar δ} {A' : Ar δ'} {D : ρ → Out} {F : δ → M ρ} {φ : δ' → δ} {k k' : Nat} {c m : Str} {ps : List Str}
theorem spM_as (h : ∀ d vs R, A'.rep d vs R → A.rep (φ d) vs R) {vs : List V} {H : Hp} {Q : VK} {E : XK} : spM p A' D (fun d => F (φ d)) vs H Q E → spM p A D F vs H Q E := fun ⟨d, z, h1, h2, h3⟩ => ⟨φ d, z, h1, h _ _ _ h2, h3⟩
/-- a method that no class of pieces has of its own -/
structure MuF (p : Pr) (k : Nat) (m : Str) (ps : List Str) (sp : Sp) : Prop where
  ex : ∃ (f : Addr) (fd : FuncData), FnOk p.P p.w p.K p.mg p.base (L2.CX p.P p.w) k f fd ("self" :: ps) sp ∧ (∀ c : PK, Cls p.K (cA p c.nm) ∧ Meth p.K (cA p c.nm) m f) ∧ Binds p.K fd ("self" :: ps) []
theorem MuF.at {A : Ar δ} {F : Pc × δ → M ρ} (hf : MuF p k m ps (spM p (aCons (tPc p) A) D F)) (d : Pc) : MeF p k d.k.nm m ps (spM p (aCons (tOnly p d) A) D (fun a => F (d, a.2))) := by
  obtain ⟨f, fd, h1, h2, h3⟩ := hf.ex
  exact ⟨f, fd, h1.imp fun vs H Q E => spM_as (A := aCons (tPc p) A) (A' := aCons (tOnly p d) A) (φ := fun a : Unit × δ => (d, a.2)) (fun a vs R ⟨v, r, e, r1, r2⟩ => ⟨v, r, e, r1, r2⟩), (h2 d.k).1, (h2 d.k).2, h3⟩
end
section
end
section
end
end Hd
namespace Hd
open PySem PySem.Spec L2
section
end
end Hd
namespace Hd
open PySem PySem.Spec L2
inductive PV where
  | num (n : Int)
  | text (t : Tx)
  | tree (w : Tx) (its : List PV)
inductive PVR (R : RdR) : PV → V → Prop where
  | num {n : Int} : PVR R (.num n) (.int n)
  | text {t : Tx} : OkTx t → PVR R (.text t) (.str (toS t))
  | tree {w : Tx} {its : List PV} {a b : Addr} {vs : List V} : OkTx w → R a (.tup [.str (toS w), .ref b]) → R b (.lst vs) → its.length = vs.length → (∀ (i : Nat) x v, its[i]? = some x → vs[i]? = some v → PVR R x v) → PVR R (.tree w its) (.ref a)
theorem PVR.mono {R R' : RdR} (s : ∀ a o, R a o → R' a o) {x : PV} {v : V} (h : PVR R x v) : PVR R' x v := by
  induction h with
  | num => exact .num
  | text h => exact .text h
  | tree h0 h1 h2 h3 _ ih => exact .tree h0 (s _ _ h1) (s _ _ h2) h3 ih
section
end
end Hd
namespace Hd
open PySem PySem.Spec L2
section
end
end Hd
set_option maxHeartbeats 1000000
namespace Hd
open PySem PySem.Spec PyProof.Rows L2 RT
section
end
section
end
end Hd
namespace Hd
open PySem PySem.Spec L2
def lOf {β : Type} (p : Pr) (iC : Nat) : List (Ec × β) → List V → List (Value × (Addr → Value → Option Addr → TS))
  | (d, _) :: r, v :: vs => (.ref (p.C d), fun _ _ _ => tAsg (fun σ H Q => Q v H) (gName iC)) :: lOf p iC r vs
  | _, _ => []
inductive Hds (p : Pr) (kn : List Ec) (GG : List Str) (L : List Slot) {α : Type} (S : Ty α) (y : Str) (iC : Nat) {β : Type} (LJ : β → List Slot) : List ExceptHandler → List (Ec × β) → List V → Prop
  | nil : Hds p kn GG L S y iC LJ [] [] []
  | cons {x : Str} {cx : Ec} {j : Nat} {np pos' p2 p3 : Pos} {e : Expr} {v : V} {dv : α} {h : β} {hs cl vs} (hcx : cx ∈ kn) (hx : p.mg x = some (.ref (p.C cx))) (hG : GG[j]? = some x) (he : ∀ Y : Cx, PE Y e (fun σ H Q => Q v H)) (hrep : ∀ R, S.rep dv v R)
      (hh : Wk (L.set iC (sV false S dv)) (LJ h)) (r : Hds p kn GG L S y iC LJ hs cl vs) (hsw : ∀ Y : Cx, swapsWith e (some (.Name y p2)) p3.line Y.env = pure false := by intro _; rfl) :
      Hds p kn GG L S y iC LJ (.ExceptHandler (some (.Name x np)) none [.Assign [.Name y p2] e p3] pos' :: hs) ((cx, h) :: cl) (v :: vs)
section
variable {p : Pr} {sc : Scope} {NN VV GG : List Str} {k : Nat} {g : G} {L L' : List Slot} {α β γ δ : Type} {S : Ty α} {pos : Pos} {st : List Stmt} {D : δ → Out}
theorem Hds.ok {kn : List Ec} {y : Str} {iC jC : Nat} {LJ : β → List Slot} {hs : List ExceptHandler} {cl : List (Ec × β)} {vs : List V} (ok : OkS p sc NN VV GG k g) (hNC : NN[iC]? = some y) (hVC : VV[jC]? = some y) (r : Hds p kn GG L S y iC LJ hs cl vs) : HdsOk g.X hs (lOf p iC cl vs) := by
  induction r with
  | nil => exact .nil
  | cons hcx hx hG he hrep hh r hsw ih =>
    obtain ⟨hg, ho⟩ := ok.gl hG
    refine .cons ⟨hg, (okName_d ho).1, .inl (by rw [ok.mg]; exact hx)⟩ (fun ad oE cl dd pn _ _ => ?_) ih
    exact pss_one (ps_set (i := iC) (by show g.X.N.Nodup; rw [ok.N]; exact ok.nd) (by show g.X.N[iC]? = _; rw [ok.N]; exact hNC) (ok.loc hVC) (he _) (hsw _) (.inl (ok.fnT y)))
end
end Hd
namespace Hd
open PySem PySem.Spec L2
section
end
end Hd
namespace Hd
open PySem PySem.Spec L2
section
end
end Hd
namespace Hd
open PySem PySem.Spec L2
section
end
section
end
end Hd
namespace Hd
open PySem PySem.Spec PyProof.Rows L2
section
end
end Hd
noncomputable section
namespace Hd
open PySem PySem.Spec PySem.W PySem.Calls PyProof.Rows HandSHeadRun
section
end
end Hd
namespace Hd
open PySem PySem.Spec L2
section
variable {α β γ δ ε : Type} {S : Ty α} {T : Ty β} {U : Ty γ} {W : Ty ε} {A : Ar δ}
/-- never the same -/
structure Apart (D : Deep S) (E : Deep T) : Prop where
  l : ∀ a b, PyData.eqv (D.pd a) (E.pd b) = false
  r : ∀ a b, PyData.eqv (E.pd b) (D.pd a) = false
end
section
end
end Hd
namespace Hd
open PySem PySem.Spec L2
section
variable {α β γ δ ε : Type} {S : Ty α} {T : Ty β} {S' : Ty γ} {A : Ar δ} {B : Ar ε}
theorem Apart.symm {D : Deep S} {E : Deep T} (h : Apart D E) : Apart E D := ⟨fun a b => h.r b a, fun a b => h.l b a⟩
end
section
end
end Hd
namespace Hd
open PySem PySem.Spec L2
section
end
end Hd
namespace Hd
open PySem PySem.Spec L2
theorem Plc.lv {α γ : Type} {O : WTy α} {O3 : WTy γ} {H : Hp} {R : RdR} {v v2 : V} {F F2 : List Addr} {ds : List γ} {put : List γ → α} (h : Plc H R O v F (wL O3) ds put v2 F2) :
    ∃ a ws, v2 = .ref a ∧ H a = some (.lst ws) ∧ ws.length = ds.length ∧ Plc H R O v F (wLv a ws O3) ds put (.ref a) F2 := by
  obtain ⟨a, ws, Fs, e1, e2, hp, rr⟩ := h.rep
  subst e1
  refine ⟨a, ws, rfl, hp, rr.length.symm, ⟨Fs, rfl, e2, hp, rr⟩, h.sub, h.nd, fun {H' R' d2' F2'} s k r' nd' n' => ?_⟩
  obtain ⟨Fs', x1, x2, x3, x4⟩ := r'
  exact h.up s k ⟨a, ws, Fs', rfl, x2, x3, x4⟩ nd' n'
/-- a thing of one's own told by the items of one list in it -/
def wCx {α γ : Type} (O : WTy α) (O3 : WTy γ) (put : List γ → α) (a : Addr) (ws : List V) : WTy (List γ) where
  T := { O.T with rep := fun ds v R => O.T.rep (put ds) v R, mono := fun r s => O.T.mono r s }
  rep := fun ds v H R F => ∃ F2, Plc H R O v F (wLv a ws O3) ds put (.ref a) F2 ∧ ∀ p ∈ F, ∃ o, H p = some o ∧ gd o = true
  st := by
    rintro ds v H H' F R R' ⟨F2, h, t⟩ s k
    exact ⟨F2, h.ext s k, fun p hp => by rw [k p hp]; exact t p hp⟩
  tb := fun ⟨_, _, t⟩ p hp => t p hp
  fz := by
    rintro ds v H F R R' ⟨F2, h, t⟩ s k
    obtain ⟨F', r, nd, n⟩ := h.up (R' := R) (H' := H) (fun _ _ z => z) (fun _ _ _ => rfl) h.rep h.nd (fun p hp => .inl hp)
    exact O.fz r s fun p hp o ho => k p ((n p hp).elim (h.sub p) (·.1)) o ho
theorem ex_nd (P : Addr → Prop) : ∀ F : List Addr, ∃ G : List Addr, G.Nodup ∧ ∀ p, p ∈ G ↔ p ∈ F ∧ P p
  | [] => ⟨[], List.nodup_nil, fun p => by simp⟩
  | a :: F => by
    obtain ⟨G, h1, h2⟩ := ex_nd P F
    by_cases c : P a ∧ a ∉ G
    · exact ⟨a :: G, List.nodup_cons.mpr ⟨c.2, h1⟩, fun p => by
        rw [List.mem_cons, List.mem_cons, h2]
        constructor
        · rintro (e | e)
          · subst e; exact ⟨.inl rfl, c.1⟩
          · exact ⟨.inr e.1, e.2⟩
        · rintro ⟨e | e, z⟩
          · exact .inl e
          · exact .inr ⟨e, z⟩⟩
    · exact ⟨G, h1, fun p => by
        rw [List.mem_cons, h2]
        constructor
        · exact fun e => ⟨.inr e.1, e.2⟩
        · rintro ⟨e | e, z⟩
          · subst e
            by_cases q : p ∈ G
            · exact (h2 p).mp q
            · exact absurd ⟨z, q⟩ c
          · exact ⟨e, z⟩⟩
theorem Plc.cx {α γ : Type} {O : WTy α} {O3 : WTy γ} {put : List γ → α} {a : Addr} {ws : List V} {H : Hp} {R : RdR} {v : V} {F : List Addr} {ds : List γ} (r : (wCx O O3 put a ws).rep ds v H R F) : ∃ F2, Plc H R (wCx O O3 put a ws) v F (wLv a ws O3) ds (fun d => d) (.ref a) F2 := by
  obtain ⟨F2, pl, tb⟩ := r
  refine ⟨F2, pl.rep, pl.sub, pl.nd, fun {H' R' d2' F2'} s k r' nd' n' => ?_⟩
  obtain ⟨G, g1, g2⟩ := ex_nd (fun p => p ∉ F2) F
  have nd2 : (F2' ++ G).Nodup := by
    refine List.nodup_append.mpr ⟨nd', g1, fun p hp q hq e => ?_⟩
    subst e
    obtain ⟨q1, q2⟩ := (g2 p).mp hq
    exact (n' p hp).elim q2 fun z => z q1
  have mem : ∀ p, p ∈ F2' ++ G ↔ p ∈ F2' ∨ (p ∈ F ∧ p ∉ F2) := fun p => by
    rw [List.mem_append, g2]
  refine ⟨F2' ++ G, ⟨F2', ⟨r', fun p hp => (mem p).mpr (.inl hp), nd', fun {H'' R'' d'' F2''} s2 k2 r2 nd3 n3 => ?_⟩, fun p hp => ?_⟩, nd2, fun p hp => (mem p).mp hp⟩
  · have dj : ∀ p, p ∈ F → p ∉ F2 → p ∉ F2' := fun p h1 h2 h3 => (n' p h3).elim h2 fun z => z h1
    obtain ⟨F', x1, x2, x3⟩ := pl.up (H' := H'') (R' := R'') (d2' := d'') (F2' := F2'') (fun b o z => s2 b o (s b o z)) (fun p hp hn => (k2 p ((mem p).mpr (.inr ⟨hp, hn⟩)) (dj p hp hn)).trans (k p hp hn)) r2 nd3 (fun p hp => by
      by_cases z : p ∈ F2
      · exact .inl z
      · refine .inr fun z2 => ?_
        rcases n3 p hp with q | q
        · exact dj p z2 z q
        · exact q ((mem p).mpr (.inr ⟨z2, z⟩)))
    exact ⟨F', x1, x2, fun p hp => (x3 p hp).imp id fun ⟨q1, q2⟩ => ⟨(mem p).mpr (.inr ⟨q1, q2⟩), dj p q1 q2⟩⟩
  · rcases (mem p).mp hp with z | ⟨z1, z2⟩
    · exact (wLv a ws O3).tb r' p z
    · rw [k p z1 z2]; exact tb p z1
/-- a slot whose value is known, and nothing else of it -/
def sIs (w : V) : Slot := ⟨fun v _ _ F => F = [] ∧ v = some w, fun h _ _ => h, fun ⟨e, _⟩ p hp => by subst e; exact nomatch hp⟩
theorem At.setIs {fm : Fm} {kp : RdR} {L : List Slot} {i : Nat} {σ : L2.St} {H : Hp} {own : List Addr} {v : V} (h : At fm kp L σ H own) : ∃ own', At fm kp (L.set i (sIs v)) (σ.set i (some v)) H own' ∧ ∀ p ∈ own', p ∈ own := by
  obtain ⟨h1, h2, ⟨Fs, h3, rfl⟩, h4, h5, h6⟩ := h
  have kk : ∀ p ∈ (Fs.set i []).flatten, p ∈ Fs.flatten := fun p hp => (set_sub (i := i)).subset hp
  exact ⟨_, ⟨h1, h2, ⟨Fs.set i [], (h3.st (RB.own kk) fun _ _ => rfl).set (s := sIs v) (v := some v) ⟨rfl, rfl⟩ i, rfl⟩, h4.sublist set_sub, fun p hp => h5 p (kk p hp), fun a o q => RX.own (md := .sh) (H := H) kk a o (h6 a o q)⟩, kk⟩
/-- a slot's own thing, told otherwise, with less of one's own -/
theorem At.reshape {fm : Fm} {kp : RdR} {L : List Slot} {i : Nat} {σ : L2.St} {H : Hp} {own : List Addr} {s s' : Slot} (h : At fm kp L σ H own) (hL : L[i]? = some s)
    (c : ∀ v F (R : Bool → RdR), s.ok v H R F → ∃ F', s'.ok v H R F' ∧ F'.Nodup ∧ ∀ p ∈ F', p ∈ F) : ∃ own', At fm kp (L.set i s') σ H own' := by
  obtain ⟨h1, h2, ⟨Fs, h3, rfl⟩, h4, h5, h6⟩ := h
  obtain ⟨v, F, e1, e2, r⟩ := h3.get hL
  obtain ⟨F', r', nd', sub'⟩ := c v F _ r
  have kk : ∀ p ∈ (Fs.set i F').flatten, p ∈ Fs.flatten := fun p hp => by
    rcases flat_set_mem h4 e2 p hp with z | ⟨z, _⟩
    · exact flat_mem e2 p (sub' p z)
    · exact z
  exact ⟨_, h1, h2, ⟨Fs.set i F', (h3.chg h4 e2 e1 (RB.own kk) (fun _ _ _ => rfl) (s'.st r' (RB.own kk) fun _ _ => rfl)), rfl⟩, flat_set_nd h4 e2 nd' (fun p hp => .inl (sub' p hp)), fun p hp => h5 p (kk p hp), fun a o q => RX.own (md := .sh) (H := H) kk a o (h6 a o q)⟩
/-- each item, one after the other -/
def walkF {γ : Type} (F : γ → M γ) : List γ → M (List γ)
  | [] => .ok []
  | x :: r => (F x).bind fun y => (walkF F r).bind fun l => .ok (y :: l)
section
variable {p : Pr} {sc : Scope} {NN VV GG : List Str} {k : Nat} {g : G} {L L' : List Slot} {a b c e e' ix it : Expr} {md md' : Md} {α β γ δ ρ τ : Type} {S : Ty α} {T : Ty β} {O : WTy α} {O2 : WTy β} {O3 : WTy γ} {A : WAr ρ} {pos pp pos' : Pos} {i j : Nat} {x y : Str} {px : V → Prop} {st body : List Stmt} {D : δ → Out} {d : α}
/-- the name that walks is a name of the item -/
theorem evp_alias {put : List γ → α} {q : Addr} {ws : List V} {ds : List γ} {n i2 j2 : Nat} {v : V} {z : γ} (ok : Ok p sc NN VV GG k g) (hN : NN[i2]? = some x) (hV : VV[j2]? = some x) (hL : L[i]? = some (sP px (wCx O O3 put q ws) ds)) (hL2 : L[i2]? = some (sIs v)) (hw : ws[n]? = some v) (hz : ds[n]? = some z) :
    EvP g L (.Name x pos) i px (wCx O O3 put q ws) ds O3 (.ok (z, fun r => ds.set n r)) := by
  obtain ⟨hv, ho⟩ := ok.vis hV
  obtain ⟨h1, h2, _⟩ := okName_d ho
  refine PE.imp (pe_var (i := i2) (by rw [ok.N]; exact hN) hv h1 h2) fun σ H Q ⟨kp, own, Fs, at_, hsl, heo, r⟩ => ?_
  obtain ⟨v1, F1, e1, e2, e3, e4⟩ := hsl.get hL2
  subst e4
  obtain ⟨v0, F0, x1, x2, v3, x3, hx, rr⟩ := hsl.get hL
  subst x3
  obtain ⟨F2, pl⟩ := Plc.cx rr
  obtain ⟨v4, F4, y1, y2, pl4⟩ := pl.itemV hz
  rw [hw] at y1
  cases y1
  exact ⟨v, e1, r v F4 H (Same.refl H) ⟨v3, F0, hL, hsl, heo, x1, hx, x2, pl4⟩⟩
/-- for x in PLACE: body, where the body changes the item -/
theorem evb_forPl {mp : M (List γ × (List γ → α))} {FB : γ → M γ} {h : α → M δ} {i2 j2 : Nat} {tp : Pos} (ok : OkS p sc NN VV GG k g) (hX : g.LX = List.replicate L.length sAny)
    (hp : EvP g L it i px O d (wL O3) mp) (hN2 : NN[i2]? = some x) (hV2 : VV[j2]? = some x) (hij : i ≠ i2) {s2 : Slot} (hL2 : L[i2]? = some s2)
    (hb : ∀ (put : List γ → α) (q : Addr) (ws : List V) (ds : List γ) (n : Nat) (v : V) (z : γ), ws[n]? = some v → ds[n]? = some z → EvB g ((L.set i2 (sIs v)).set i (sP px (wCx O O3 put q ws) ds)) body (fun d' => .go ((L.set i2 sAny).set i (sP px (wCx O O3 put q ws) d'))) ((FB z).bind fun r => .ok (ds.set n r)))
    (hr : ∀ d', EvB g ((L.set i2 sAny).set i (sP px O d')) st D (h d')) (hfs : ∀ v, foldedSetIterable it g.X.env v = pure v := by intro _; rfl) :
    EvB g L (.For (.Name x tp) it body [] pos :: st) D (mp.bind fun q => (walkF FB q.1).bind fun l => M.bind (.ok (q.2 l)) h) := by
  let Z := { z : (List γ → α) × Addr × List V × List γ × Nat × V × γ // z.2.2.1[z.2.2.2.2.1]? = some z.2.2.2.2.2.1 ∧ z.2.2.2.1[z.2.2.2.2.1]? = some z.2.2.2.2.2.2 }
  have hb' : ∀ z : Z, PSs g.X body (tB g ((L.set i2 (sIs z.1.2.2.2.2.2.1)).set i (sP px (wCx O O3 z.1.1 z.1.2.1 z.1.2.2.1) z.1.2.2.2.1)) (fun d' => .go ((L.set i2 sAny).set i (sP px (wCx O O3 z.1.1 z.1.2.1 z.1.2.2.1) d'))) ((FB z.1.2.2.2.2.2.2).bind fun r => .ok (z.1.2.2.2.1.set z.1.2.2.2.2.1 r))) := fun z => hb _ _ _ _ _ _ _ z.2.1 z.2.2
  refine PSs.imp (pss_cons (ps_for ok.psO ok.calm (pi_list hp) (pg_name (i := i2) (by rw [ok.N]; exact ok.nd) (by rw [ok.N]; exact hN2) (ok.loc hV2) (okS_fn ok)) (PSs.ex hb') hfs) (PSs.ex hr)) fun E σ H ⟨kp, own, at_, q⟩ => ?_
  obtain ⟨Fs, hsl, heo⟩ := at_.sl
  refine ⟨kp, own, Fs, at_, hsl, heo, ?_⟩
  cases mp with
  | ex c => exact fun H' s => BOk.exx (by rw [hX]; exact Wk.anys rfl) at_ q H' s
  | no => exact q.elim
  | ok q0 =>
  intro v2 F2 H1 s1 A1
  have q : BOk g kp E D ((walkF FB q0.1).bind fun l => M.bind (.ok (q0.2 l)) h) := q
  have at1 := at_.ext s1
  obtain ⟨v, F, hL, hs, e, e1, hx, e2, pl⟩ := A1
  obtain ⟨a0, ws, rfl, ha1, hwl, plv⟩ := pl.lv
  refine ⟨a0, rfl, ⟨ws, SqL.of ha1⟩, ?_⟩
  let L1 : List γ → List Slot := fun ds => (L.set i2 sAny).set i (sP px (wCx O O3 q0.2 a0 ws) ds)
  have hlt : i < (L.set i2 sAny).length := by rw [List.length_set]; exact (List.getElem?_eq_some_iff.mp hL).1
  have at0 : ∃ own0, At g.fm kp (L1 q0.1) σ H1 own0 := by
    have atc : At g.fm kp (L.set i (sP px (wCx O O3 q0.2 a0 ws) q0.1)) σ H1 own := by
      refine ⟨at1.same, at1.zin, ⟨Fs, ?_, e⟩, at1.nd, at1.new, at1.kept⟩
      have hpw := hs.pw
      refine Pw.all ⟨by rw [List.length_set]; exact hpw.l1, by rw [List.length_set]; exact hpw.l2, fun j _ s3 v' F' x1 x2 x3 => ?_⟩
      by_cases hj : i = j
      · subst hj
        rw [List.getElem?_set_self (List.getElem?_eq_some_iff.mp hL).1] at x1
        cases x1
        rw [e1] at x2; cases x2
        rw [e2] at x3; cases x3
        obtain ⟨v9, y1, y2, y3⟩ := hpw.ok i (fun z => z) _ _ _ hL e1 e2
        exact ⟨v, rfl, hx, F2, plv, fun p hp => by cases y1; exact O.tb y3 p hp⟩
      · rw [List.getElem?_set_ne hj] at x1
        exact hpw.ok j (fun z => z) s3 v' F' x1 x2 x3
    obtain ⟨own0, b0, _⟩ := At.weak atc (wk_set _ i2)
    refine ⟨own0, ?_⟩
    show At g.fm kp ((L.set i2 sAny).set i _) σ H1 own0
    rw [← List.set_comm _ _ hij]
    exact b0
  obtain ⟨own0, at0⟩ := at0
  have nth : ∀ {ds : List γ} {σ : L2.St} {H : Hp} {own : List Addr}, At g.fm kp (L1 ds) σ H own → H a0 = some (.lst ws) := fun {ds σ H own} at_ => by
    obtain ⟨Fs, hsl, heo⟩ := at_.sl
    obtain ⟨v0, F0, _, _, v3, _, _, F9, pl9, _⟩ := hsl.get (i := i) (List.getElem?_set_self hlt)
    obtain ⟨_, _, _, y7, _⟩ := pl9.rep
    exact y7
  have nth2 : ∀ {ds : List γ} {σ : L2.St} {H : Hp} {own : List Addr}, At g.fm kp (L1 ds) σ H own → ws.length = ds.length := fun {ds σ H own} at_ => by
    obtain ⟨Fs, hsl, heo⟩ := at_.sl
    obtain ⟨v0, F0, _, _, v3, _, _, F9, pl9, _⟩ := hsl.get (i := i) (List.getElem?_set_self hlt)
    obtain ⟨_, _, _, _, rr⟩ := pl9.rep
    exact rr.length.symm
  refine ⟨fun n m σ H => m = ws.length - n ∧ n ≤ ws.length ∧ ∃ dn own', dn.length = n ∧ At g.fm kp (L1 (dn ++ q0.1.drop n)) σ H own' ∧ BOk g kp E D ((walkF FB (q0.1.drop n)).bind fun l => M.bind (.ok (q0.2 (dn ++ l))) h), ⟨_, rfl, Nat.zero_le _, [], own0, rfl, by rw [List.drop_zero, List.nil_append]; exact at0, by rw [List.drop_zero]; exact q⟩, ?_⟩
  rintro n m σ2 H2 ⟨rfl, hn, dn, own', hdn, a', q'⟩
  have ha2 := nth a'
  by_cases hnl : n < ws.length
  · have hnp : n < q0.1.length := by omega
    have hd : q0.1.drop n = q0.1[n] :: q0.1.drop (n + 1) := List.drop_eq_getElem_cons hnp
    rw [hd] at a' q'
    refine .inr ⟨⟨ws, ws[n], SqL.of ha2, by simp [hnl]⟩, fun σ' H' => ∃ dn own', dn.length = n + 1 ∧ At g.fm kp (L1 (dn ++ q0.1.drop (n + 1))) σ' H' own' ∧ BOk g kp E D ((walkF FB (q0.1.drop (n + 1))).bind fun l => M.bind (.ok (q0.2 (dn ++ l))) h), fun σ' H' z => ⟨ws.length - (n + 1), by omega, rfl, hnl, z⟩, fun x3 H3 ⟨eH, yx⟩ => ?_⟩
    subst eH
    have ex3 : x3 = ws[n] := by
      have := yx ws (SqL.of ha2)
      rw [List.getElem?_eq_getElem hnl] at this
      cases this; rfl
    subst ex3
    obtain ⟨own3, b3, _⟩ := a'.setIs (i := i2) (v := ws[n])
    have eL : (L1 (dn ++ (q0.1[n] :: q0.1.drop (n + 1)))).set i2 (sIs ws[n]) = (L.set i2 (sIs ws[n])).set i (sP px (wCx O O3 q0.2 a0 ws) (dn ++ (q0.1[n] :: q0.1.drop (n + 1)))) := by
      show ((L.set i2 sAny).set i _).set i2 _ = _
      rw [List.set_comm _ _ hij, List.set_set]
    rw [eL] at b3
    refine ⟨⟨(q0.2, a0, ws, dn ++ (q0.1[n] :: q0.1.drop (n + 1)), n, ws[n], q0.1[n]), List.getElem?_eq_getElem hnl, by show (dn ++ (q0.1[n] :: q0.1.drop (n + 1)))[n]? = _; rw [List.getElem?_append_right (by omega), hdn, Nat.sub_self]; rfl⟩, kp, own3, b3, ?_⟩
    have q2 : BOk g kp E D (((FB q0.1[n]).bind fun y => (walkF FB (q0.1.drop (n + 1))).bind fun l => .ok (y :: l)).bind fun l => M.bind (.ok (q0.2 (dn ++ l))) h) := q'
    show BOk g kp _ _ ((FB q0.1[n]).bind fun r => .ok ((dn ++ (q0.1[n] :: q0.1.drop (n + 1))).set n r))
    cases hF : FB q0.1[n] with
    | ok r =>
      rw [hF] at q2
      have e9 : (dn ++ (q0.1[n] :: q0.1.drop (n + 1))).set n r = dn ++ [r] ++ q0.1.drop (n + 1) := by
        rw [List.set_append_right _ _ (by omega), hdn, Nat.sub_self, List.set_cons_zero, List.append_assoc]; rfl
      have q3 : BOk g kp E D ((walkF FB (q0.1.drop (n + 1))).bind fun l => M.bind (.ok (q0.2 (dn ++ [r] ++ l))) h) := by
        have e : (((walkF FB (q0.1.drop (n + 1))).bind fun l => M.ok (r :: l)).bind fun l => M.bind (.ok (q0.2 (dn ++ l))) h) = (walkF FB (q0.1.drop (n + 1))).bind fun l => M.bind (.ok (q0.2 (dn ++ [r] ++ l))) h := by
          rw [M.bind_assoc]
          congr 1
          funext l
          show h (q0.2 (dn ++ (r :: l))) = h (q0.2 (dn ++ [r] ++ l))
          rw [List.append_assoc]; rfl
        rw [← e]
        exact q2
      show OutOk g.fm kp _ (.go (L1 ((dn ++ (q0.1[n] :: q0.1.drop (n + 1))).set n r)))
      rw [e9]
      exact fun σ3 H3 own4 a4 => ⟨⟨dn ++ [r], own4, by simp [hdn], a4, q3⟩, ⟨dn ++ [r], own4, by simp [hdn], a4, q3⟩⟩
    | ex c =>
      rw [hF] at q2
      exact fun σ3 H3 own4 a4 => q2 σ3 H3 own4 a4
    | no => rw [hF] at q2; exact q2
  · have e : n = ws.length := by omega
    subst e
    refine .inl ⟨⟨ws, SqL.of ha2, Nat.le_refl _⟩, ?_⟩
    have hdl : q0.1.drop ws.length = [] := List.drop_eq_nil_of_le (by omega)
    rw [hdl] at a' q'
    obtain ⟨own5, a5⟩ := a'.reshape (i := i) (List.getElem?_set_self hlt) (s' := sP px O (q0.2 (dn ++ []))) (fun v F R ⟨x, e, hx, F2, pl, tb⟩ => by
      obtain ⟨F', r, nd, n⟩ := pl.up (R' := R false) (H' := _) (fun _ _ z => z) (fun _ _ _ => rfl) pl.rep pl.nd (fun p hp => .inl hp)
      exact ⟨F', ⟨x, e, hx, r⟩, nd, fun p hp => (n p hp).elim (pl.sub p) (·.1)⟩)
    have e2 : (L1 (dn ++ [])).set i (sP px O (q0.2 (dn ++ []))) = (L.set i2 sAny).set i (sP px O (q0.2 (dn ++ []))) := List.set_set ..
    rw [e2] at a5
    exact ⟨q0.2 (dn ++ []), kp, own5, a5, q'⟩
theorem wk_al {L : List Slot} {i i2 : Nat} {s P P' : Slot} (hij : i ≠ i2) : Wk (((L.set i2 s).set i P').set i P) ((L.set i2 sAny).set i P) := by
  have e : ((L.set i2 s).set i P').set i P = (L.set i2 s).set i P := List.set_set ..
  rw [e]
  have h := wk_set ((L.set i2 s).set i P) i2
  rwa [List.set_comm _ _ hij, List.set_set] at h
/-- for x in PLACE: x[kk].append(c) -/
theorem evb_forB {O3 : WTy γ} {mp : M (List ρ × (List ρ → α))} {kk : Nat} {pr : ρ → List γ} {stt : ρ → List γ → ρ} {cst : γ} {h : α → M δ} {i2 j2 : Nat} {tp xp ip ap cp ep : Pos} (ok : OkS p sc NN VV GG k g) (hX : g.LX = List.replicate L.length sAny)
    (hp : EvP g L it i px O d (wL (wTup A)) mp) (hA : WAt A kk (wL O3) pr stt) (hN2 : NN[i2]? = some x) (hV2 : VV[j2]? = some x) (hij : i ≠ i2) {s2 : Slot} (hL2 : L[i2]? = some s2) (hi : L[i]? = some (sP px O d))
    (hk : ∀ L', EvE g L' ix md tInt (.ok (kk : Int))) (he : ∀ L', EvN g L' e O3 (.ok cst)) (hr : ∀ d', EvB g ((L.set i2 sAny).set i (sP px O d')) st D (h d')) (hfs : ∀ v, foldedSetIterable it g.X.env v = pure v := by intro _; rfl) (hsI : PlainIx ix := by exact fun _ _ => rfl)
    (hs : swapsWith (.Call (.Attribute (.Subscript (.Name x xp) ix ip) "append" ap) [e] [] cp) none ep.line g.X.env = pure false := by rfl)
    (hbase : attributeBase (.Subscript (.Name x xp) ix ip) "append" g.X.env (eval (.Subscript (.Name x xp) ix ip) g.X.env) = eval (.Subscript (.Name x xp) ix ip) g.X.env := by rfl)
    (hfew : ((backTo cp (starEach [e] g.X.env)).all (fun x => !x.1) && (backToKw cp (keywordEach [] g.X.env)).all (fun x => x.1.isSome)
      && decide (([e] : List Expr).length + ([] : List Keyword).length + (if ([] : List Keyword).isEmpty then 0 else 1) < 30)) = true := by rfl)
    (hline : (ap.endLine == cp.line) = true := by rfl) (hst : starEach [e] g.X.env = (false, eval e g.X.env) :: starEach [] g.X.env := by rfl) (hpl : (backTo cp (starEach [] g.X.env)).any (·.1) = false := by rfl) :
    EvB g L (.For (.Name x tp) it [.Expr (.Call (.Attribute (.Subscript (.Name x xp) ix ip) "append" ap) [e] [] cp) ep] [] pos :: st) D (mp.bind fun q => (walkF (fun z => (pushM (pr z) cst).bind fun l => .ok (stt z l)) q.1).bind fun l => M.bind (.ok (q.2 l)) h) := by
  have l2 : i2 < L.length := (List.getElem?_eq_some_iff.mp hL2).1
  have l1 : i < L.length := (List.getElem?_eq_some_iff.mp hi).1
  refine evb_forPl (FB := fun z => (pushM (pr z) cst).bind fun l => .ok (stt z l)) ok hX hp hN2 hV2 hij hL2 (fun put q ws ds n v z hw hz => ?_) hr hfs
  have hL' : ((L.set i2 (sIs v)).set i (sP px (wCx O (wTup A) put q ws) ds))[i]? = some (sP px (wCx O (wTup A) put q ws) ds) := List.getElem?_set_self (by rw [List.length_set]; exact l1)
  have hL2' : ((L.set i2 (sIs v)).set i (sP px (wCx O (wTup A) put q ws) ds))[i2]? = some (sIs v) := by rw [List.getElem?_set_ne hij, List.getElem?_set_self l2]
  have hb := evb_qAppend (h := fun d' => (.ok d' : M (List ρ))) (D := fun d' => .go ((L.set i2 sAny).set i (sP px (wCx O (wTup A) put q ws) d'))) (st := []) (pos := ep) ok (by rw [hX]; have := Wk.anys (L := (L.set i2 (sIs v)).set i (sP px (wCx O (wTup A) put q ws) ds)) rfl; rwa [List.length_set, List.length_set] at this) (evp_tup (pos := ip) ok.toOk hA (evp_alias (pos := xp) ok.toOk hN2 hV2 hL' hL2' hw hz) (hk _) hsI) (he _) (fun d' => evb_go rfl (wk_al hij)) hs hbase hfew hline hst hpl
  have e : (M.bind (M.bind (.ok (z, fun r => ds.set n r)) fun q => M.ok (pr q.1, fun y => q.2 (stt q.1 y))) fun q => (M.ok cst).bind fun x => (pushM q.1 x).bind fun l => M.bind (.ok (q.2 l)) fun d' => (.ok d' : M (List ρ))) = (((pushM (pr z) cst).bind fun l => .ok (stt z l)).bind fun r => .ok (ds.set n r)) := by
    show ((pushM (pr z) cst).bind fun l => M.ok (ds.set n (stt z l))) = _
    cases pushM (pr z) cst <;> rfl
  rw [← e]
  exact hb
end
end Hd
namespace Hd
open PySem PySem.Spec L2
def Okm {α : Type} (m : M α) (P : α → Prop) : Prop := ∃ a, m = .ok a ∧ P a
section
variable {α β γ ρ : Type} {m : M α} {f : α → M β} {P P' : α → Prop} {Q : β → Prop}
theorem okv {a : α} (h : P a) : Okm (.ok a) P := ⟨a, rfl, h⟩
theorem okb (h : Okm m P) (k : ∀ a, P a → Okm (f a) Q) : Okm (m.bind f) Q := by
  obtain ⟨a, rfl, ha⟩ := h
  exact k a ha
theorem okmono (h : Okm m P) (k : ∀ a, P a → P' a) : Okm m P' := by
  obtain ⟨a, e, ha⟩ := h
  exact ⟨a, e, k a ha⟩
theorem okif {c : Bool} {a b : M α} (h1 : c = true → Okm a P) (h2 : c = false → Okm b P) : Okm (if c = true then a else b) P := by
  cases c with
  | true => exact h1 rfl
  | false => exact h2 rfl
theorem oke {a : α} (h : Okm m (· = a)) : m = .ok a := by
  obtain ⟨b, e, rfl⟩ := h
  exact e
theorem ok_mod {x y : Int} (h : 0 < y) : Okm (modM x y) (· = x % y) := by unfold modM; rw [if_pos h]; exact okv rfl
theorem ok_div {x y : Int} (h : 0 < y) (h2 : y < 2 ^ 64) : Okm (divM x y) (· = x / y) := by
  unfold divM
  rw [if_pos ⟨h, Nat.lt_of_lt_of_le (show y.natAbs < 2 ^ 64 by omega) (Nat.pow_le_pow_right (by decide) (by decide))⟩]
  exact okv rfl
theorem ok_mul {x y : Int} (n m : Nat) (h : x.natAbs < 2 ^ n) (h2 : y.natAbs < 2 ^ m) (hn : n ≤ 10000 := by decide) (hm : m ≤ 10000 := by decide) : Okm (mulM x y) (· = x * y) := by
  unfold mulM
  rw [if_pos ⟨Nat.lt_of_lt_of_le h (Nat.pow_le_pow_right (by decide) hn), Nat.lt_of_lt_of_le h2 (Nat.pow_le_pow_right (by decide) hm)⟩]
  exact okv rfl
theorem getM_at {xs : List α} {i : Int} {v : α} (h0 : 0 ≤ i) (h : xs[i.toNat]? = some v) : getM xs i = .ok v := by
  have hl : i.toNat < xs.length := (List.getElem?_eq_some_iff.mp h).1
  unfold getM L2.atI L2.ixN
  rw [if_pos h0, if_pos (by omega)]
  show (match xs[i.toNat]? with | some d => M.ok d | none => .no) = _
  rw [h]
theorem getM_nat {xs : List α} {i : Nat} {v : α} (h : xs[i]? = some v) : getM xs (i : Int) = .ok v := getM_at (by omega) (by rw [Int.toNat_natCast]; exact h)
theorem ok_get {xs : List α} {i : Int} (h0 : 0 ≤ i) (h1 : i < xs.length) : Okm (getM xs i) (fun v => xs[i.toNat]? = some v) := by
  have hl : i.toNat < xs.length := by omega
  exact ⟨xs[i.toNat], getM_at h0 (by simp [hl]), by simp [hl]⟩
theorem getM_last {xs : List α} {v : α} (h : xs.getLast? = some v) : getM xs (-1) = .ok v := by
  have hne : xs ≠ [] := fun e => by rw [e] at h; cases h
  have hl : 0 < xs.length := List.length_pos_iff.mpr hne
  unfold getM L2.atI L2.ixN
  rw [if_neg (by decide), if_pos (by omega)]
  show (match xs[(-1 + (xs.length : Int)).toNat]? with | some d => M.ok d | none => .no) = _
  rw [show (-1 + (xs.length : Int)).toNat = xs.length - 1 by omega, ← List.getLast?_eq_getElem?, h]
theorem getS_at {x : Tx} {i : Int} {c : Nat} (h0 : 0 ≤ i) (h : x[i.toNat]? = some c) : getS x i = .ok [c] := by
  have hl : i.toNat < x.length := (List.getElem?_eq_some_iff.mp h).1
  unfold getS L2.atI L2.ixN
  rw [if_pos h0, if_pos (by omega)]
  show (match x[i.toNat]? with | some d => M.ok [d] | none => .no) = _
  rw [h]
theorem getS_nat {x : Tx} {i : Nat} {c : Nat} (h : x[i]? = some c) : getS x (i : Int) = .ok [c] := getS_at (by omega) (by rw [Int.toNat_natCast]; exact h)
theorem ok_getS {x : Tx} {i : Int} (h0 : 0 ≤ i) (h1 : i < x.length) : Okm (getS x i) (fun v => ∃ c, x[i.toNat]? = some c ∧ v = [c]) := by
  have hl : i.toNat < x.length := by omega
  exact ⟨[x[i.toNat]], getS_at h0 (by simp [hl]), _, by simp [hl], rfl⟩
theorem ok_push {xs : List α} {d : α} (h : xs.length < 1000000) : Okm (pushM xs d) (· = xs ++ [d]) := by
  unfold pushM
  rw [if_pos (Nat.lt_trans h (by decide))]
  exact okv rfl
theorem ok_set {xs : List α} {i : Int} {d : α} (h0 : 0 ≤ i) (h1 : i < xs.length) : Okm (setM xs i d) (· = xs.set i.toNat d) := by
  unfold setM L2.ixN
  rw [if_pos h0, if_pos h1]
  exact okv rfl
theorem ok_cat {x y : Tx} (h : x.length + y.length ≤ 1000000) : Okm (catS x y) (· = x ++ y) := by
  unfold catS
  rw [if_pos (Nat.le_trans h (by decide))]
  exact okv rfl
theorem ok_catL {x y : List α} (h : x.length + y.length ≤ 1000000) : Okm (catL x y) (· = x ++ y) := by
  unfold catL
  rw [if_pos (Nat.le_trans h (by decide))]
  exact okv rfl
theorem ok_range {lo hi : Int} (h1 : -(2 ^ 62) ≤ lo := by omega) (h2 : lo < 2 ^ 62 := by omega) (h3 : -(2 ^ 62) ≤ hi := by omega) (h4 : hi < 2 ^ 62 := by omega) : Okm (rangeM lo hi) (· = upFrom lo (hi - lo).toNat) := by
  unfold rangeM
  rw [if_pos ⟨h1, h2, h3, h4⟩]
  exact okv rfl
theorem range_eq {lo hi : Int} (h1 : -(2 ^ 62) ≤ lo := by omega) (h2 : lo < 2 ^ 62 := by omega) (h3 : -(2 ^ 62) ≤ hi := by omega) (h4 : hi < 2 ^ 62 := by omega) : rangeM lo hi = .ok (upFrom lo (hi - lo).toNat) := oke (ok_range h1 h2 h3 h4)
theorem upFrom_mem {lo x : Int} {n : Nat} : x ∈ upFrom lo n ↔ lo ≤ x ∧ x < lo + n := by
  induction n generalizing lo with
  | zero => simp [upFrom]
  | succ n ih => rw [upFrom, List.mem_cons, ih]; push_cast; omega
theorem upFrom_succ' {lo : Int} {n : Nat} : upFrom lo (n + 1) = upFrom lo n ++ [lo + n] := by
  induction n generalizing lo with
  | zero => simp [upFrom]
  | succ n ih => rw [upFrom, ih, upFrom]; simp; omega
theorem ok_for {f : β → α → M β} {s0 : β} {xs : List α} (I : Nat → β → Prop) (h0 : I 0 s0) (hs : ∀ i x s, xs[i]? = some x → I i s → Okm (f s x) (I (i + 1))) : Okm (forM f s0 xs) (I xs.length) := by
  induction xs generalizing s0 I with
  | nil => exact okv h0
  | cons x r ih =>
    refine okb (hs 0 x s0 rfl h0) fun s1 h1 => ?_
    exact ih (fun i => I (i + 1)) h1 fun i y s e h => hs (i + 1) y s (by simpa using e) h
theorem ok_forR {f : β → Int → M β} {s0 : β} {lo : Int} {n : Nat} (I : Nat → β → Prop) (h0 : I 0 s0) (hs : ∀ i s, i < n → I i s → Okm (f s (lo + i)) (I (i + 1))) : Okm (forM f s0 (upFrom lo n)) (I n) := by
  have h := ok_for (f := f) (xs := upFrom lo n) I h0 fun i x s e h => by
    rw [upFrom_get] at e
    by_cases hi : i < n
    · rw [if_pos hi] at e
      cases e
      exact hs i s hi h
    · rw [if_neg hi] at e; cases e
  rwa [upFrom_len] at h
/-- an invariant without a place -/
theorem ok_forI {f : β → α → M β} {s0 : β} {xs : List α} (I : β → Prop) (h0 : I s0) (hs : ∀ x ∈ xs, ∀ s, I s → Okm (f s x) I) : Okm (forM f s0 xs) I := ok_for (fun _ => I) h0 fun _ x s e h => hs x (List.mem_of_getElem? e) s h
def FlP {β ρ : Type} (N : β → Prop) (R : ρ → Prop) : Fl β ρ → Prop
  | .nx s => N s
  | .rt r => R r
theorem ok_forF {f : β → α → M (Fl β ρ)} {s0 : β} {xs : List α} (I : Nat → β → Prop) (R : ρ → Prop) (h0 : I 0 s0) (hs : ∀ i x s, xs[i]? = some x → I i s → Okm (f s x) (FlP (I (i + 1)) R)) : Okm (forF f s0 xs) (FlP (I xs.length) R) := by
  induction xs generalizing s0 I with
  | nil => exact okv h0
  | cons x r ih =>
    refine okb (hs 0 x s0 rfl h0) fun s1 h1 => ?_
    cases s1 with
    | nx s1 => exact ih (fun i => I (i + 1)) h1 fun i y s e h => hs (i + 1) y s (by simpa using e) h
    | rt q => exact okv h1
theorem ok_forFR {f : β → Int → M (Fl β ρ)} {s0 : β} {lo : Int} {n : Nat} (I : Nat → β → Prop) (R : ρ → Prop) (h0 : I 0 s0) (hs : ∀ i s, i < n → I i s → Okm (f s (lo + i)) (FlP (I (i + 1)) R)) : Okm (forF f s0 (upFrom lo n)) (FlP (I n) R) := by
  have h := ok_forF (f := f) (xs := upFrom lo n) I R h0 fun i x s e h => by
    rw [upFrom_get] at e
    by_cases hi : i < n
    · rw [if_pos hi] at e
      cases e
      exact hs i s hi h
    · rw [if_neg hi] at e; cases e
  rwa [upFrom_len] at h
/-- a law's loop that leaves with no False: all its turns go on -/
theorem okel {g : β → M γ} {h : ρ → M γ} {m : M (Fl β ρ)} {N : β → Prop} {R : ρ → Prop} {Q : γ → Prop} (hm : Okm m (FlP N R)) (h1 : ∀ s, N s → Okm (g s) Q) (h2 : ∀ r, R r → Okm (h r) Q) : Okm (m.bind (Fl.el g h)) Q :=
  okb hm fun a ha => by
    cases a with
    | nx s => exact h1 s ha
    | rt r => exact h2 r ha
theorem ok_while {t : β → M Bool} {f : β → M β} {s0 : β} (I : β → Prop) (μ : β → Nat) (h0 : I s0) (hm : μ s0 < 1000000) (ht : ∀ s, I s → Okm (t s) (fun c => c = true → Okm (f s) (fun s' => I s' ∧ μ s' < μ s))) : Okm (whileM t f fuel s0) (fun s => I s ∧ t s = .ok false) := by
  have key : ∀ n s, I s → μ s < n → Okm (whileM t f n s) (fun s => I s ∧ t s = .ok false) := by
    intro n
    induction n with
    | zero => intro s _ h; omega
    | succ n ih =>
      intro s hI hμ
      obtain ⟨c, e, hc⟩ := ht s hI
      show Okm ((t s).bind fun c => if c = true then (f s).bind (whileM t f n) else .ok s) _
      rw [e]
      show Okm (if c = true then (f s).bind (whileM t f n) else .ok s) _
      cases c with
      | true =>
        rw [if_pos rfl]
        exact okb (hc rfl) fun s' h' => ih s' h'.1 (by omega)
      | false => exact okv ⟨hI, e⟩
  exact key fuel s0 h0 (Nat.lt_trans hm (by decide))
theorem ok_whileF {t : β → M Bool} {f : β → M (Fl β ρ)} {s0 : β} (I : β → Prop) (R : ρ → Prop) (μ : β → Nat) (h0 : I s0) (hm : μ s0 < 1000000) (ht : ∀ s, I s → Okm (t s) (fun c => c = true → Okm (f s) (FlP (fun s' => I s' ∧ μ s' < μ s) R))) : Okm (whileF t f fuel s0) (FlP (fun s => I s ∧ t s = .ok false) R) := by
  have key : ∀ n s, I s → μ s < n → Okm (whileF t f n s) (FlP (fun s => I s ∧ t s = .ok false) R) := by
    intro n
    induction n with
    | zero => intro s _ h; omega
    | succ n ih =>
      intro s hI hμ
      obtain ⟨c, e, hc⟩ := ht s hI
      show Okm ((t s).bind fun c => if c = true then (f s).bind (Fl.el (whileF t f n) fun r => .ok (.rt r)) else .ok (.nx s)) _
      rw [e]
      show Okm (if c = true then (f s).bind (Fl.el (whileF t f n) fun r => .ok (.rt r)) else .ok (.nx s)) _
      cases c with
      | true =>
        rw [if_pos rfl]
        exact okel (hc rfl) (fun s' h' => ih s' h'.1 (by omega)) fun r hr => okv hr
      | false => exact okv ⟨hI, e⟩
  exact key fuel s0 h0 (Nat.lt_trans hm (by decide))
theorem comp_eq {h : α → M (Option β)} {g : α → Option β} {xs : List α} (hl : xs.length ≤ 1000000) (hs : ∀ x ∈ xs, h x = .ok (g x)) : compM h xs = .ok (xs.filterMap g) := by
  unfold compM
  rw [if_pos (Nat.le_trans hl (by decide))]
  clear hl
  induction xs with
  | nil => rfl
  | cons x r ih =>
    show ((h x).nox.bind fun o => (compG h r).bind fun l => M.ok (o.toList ++ l)) = _
    rw [hs x List.mem_cons_self, ih fun y hy => hs y (List.mem_cons_of_mem _ hy)]
    show M.ok ((g x).toList ++ r.filterMap g) = _
    rw [List.filterMap_cons]
    cases g x <;> rfl
theorem comp_map {h : α → M (Option β)} {g : α → β} {xs : List α} (hl : xs.length ≤ 1000000) (hs : ∀ x ∈ xs, h x = .ok (some (g x))) : compM h xs = .ok (xs.map g) := by
  rw [comp_eq (g := fun x => some (g x)) hl hs]
  congr 1
  induction xs with
  | nil => rfl
  | cons x r ih => rw [List.filterMap_cons]; simp only [List.map_cons]; rw [ih (by simp at hl; omega) fun y hy => hs y (List.mem_cons_of_mem _ hy)]
theorem ok_comp {h : α → M (Option β)} {xs : List α} (R : α → β → Prop) (hl : xs.length ≤ 1000000) (hs : ∀ x ∈ xs, Okm (h x) (fun o => ∃ y, o = some y ∧ R x y)) : Okm (compM h xs) (fun ys => ys.length = xs.length ∧ ∀ (i : Nat) (x : α) (y : β), xs[i]? = some x → ys[i]? = some y → R x y) := by
  unfold compM
  rw [if_pos (Nat.le_trans hl (by decide))]
  clear hl
  induction xs with
  | nil => exact okv ⟨rfl, fun i x y e => by simp at e⟩
  | cons x r ih =>
    obtain ⟨o, e, y, rfl, hy⟩ := hs x List.mem_cons_self
    obtain ⟨ys, e2, h2, h3⟩ := ih fun z hz => hs z (List.mem_cons_of_mem _ hz)
    show Okm ((h x).nox.bind fun o => (compG h r).bind fun l => M.ok (o.toList ++ l)) _
    rw [e, e2]
    refine okv ⟨by simp [h2], fun i a b ea eb => ?_⟩
    cases i with
    | zero => simp at ea eb; subst ea; subst eb; exact hy
    | succ i => exact h3 i a b (by simpa using ea) (by simpa using eb)
end
theorem tx_hash : tx "#" = [35] := by decide +kernel
theorem tx_nil : tx "" = [] := by decide +kernel
theorem sIx_at {n d : Nat} {i : Int} (h0 : 0 ≤ i) (h : i ≤ n) : HT.sIx n d (some i) = i.toNat := by
  simp only [HT.sIx]
  split <;> omega
theorem cut_from {α : Type} {xs : List α} {a : Int} (h0 : 0 ≤ a) (h1 : a ≤ xs.length) : cutL xs (some a) none = xs.drop a.toNat := by
  unfold cutL; rw [sIx_at h0 (by omega)]
  show (xs.drop a.toNat).take (xs.length - a.toNat) = _
  rw [List.take_of_length_le (by rw [List.length_drop]; exact Nat.le_refl _)]
theorem cut_to {α : Type} {xs : List α} {b : Int} (h0 : 0 ≤ b) (h1 : b ≤ xs.length) : cutL xs none (some b) = xs.take b.toNat := by
  unfold cutL; rw [sIx_at h0 (by omega)]
  rfl
theorem join_nil_eq : ∀ xs : List Tx, TL.joinL [] xs = xs.flatten
  | [] => rfl
  | [x] => by simp [TL.joinL]
  | x :: y :: r => by rw [TL.joinL, join_nil_eq (y :: r)]; simp
theorem ok_join {xs : List Tx} (h : (xs.map List.length).sum ≤ 1000000) : Okm (joinM [] xs) (· = xs.flatten) := by
  unfold joinM
  rw [if_pos (by simp; omega), join_nil_eq]
  exact okv rfl
/-- a cloth's rows -/
structure Cloth (rows : List Tx) (w h : Nat) : Prop where
  hh : rows.length = h
  ww : ∀ r ∈ rows, r.length = w
  sg : ∀ r ∈ rows, ∀ c ∈ r, c = 35 ∨ c = 46
  w1 : 1 ≤ w
  w2 : w ≤ 40
  h1 : 1 ≤ h
  h2 : h ≤ 40
end Hd
set_option maxHeartbeats 0
namespace Hd
open PySem PySem.Spec L2
def topS (i : Nat) : Stmt := PySem.Challenge.pw_heddle_k48_whole_colours_or_chains.main.body.getD i (.Pass ⟨0, 0, 0, 0⟩)
def dds : List He.DefD := ([⟨("_law_numbers", none), "_law_numbers", "_law_numbers", defArgs (topS 16), defBody (topS 16), defScope (topS 16), [], []⟩, ⟨("_law_threads", none), "_law_threads", "_law_threads", defArgs (topS 18), defBody (topS 18), defScope (topS 18), [], []⟩, ⟨("_law_bits", none), "_law_bits", "_law_bits", defArgs (topS 17), defBody (topS 17), defScope (topS 17), [], []⟩, ⟨("_law_shows", none), "_law_shows", "_law_shows", defArgs (topS 19), defBody (topS 19), defScope (topS 19), [], []⟩, ⟨("_law_picture", none), "_law_picture", "_law_picture", defArgs (topS 20), defBody (topS 20), defScope (topS 20), [], []⟩, ⟨("_law_told", none), "_law_told", "_law_told", defArgs (topS 21), defBody (topS 21), defScope (topS 21), [], []⟩, ⟨("seen_picture", none), "seen_picture", "seen_picture", defArgs (topS 6), defBody (topS 6), defScope (topS 6), [], []⟩, ⟨("seen_threads", none), "seen_threads", "seen_threads", defArgs (topS 7), defBody (topS 7), defScope (topS 7), [], []⟩, ⟨("crossed_by", none), "crossed_by", "crossed_by", defArgs (topS 10), defBody (topS 10), defScope (topS 10), [], []⟩, ⟨("seen_at", none), "seen_at", "seen_at", defArgs (topS 9), defBody (topS 9), defScope (topS 9), [], []⟩, ⟨("runs_amiss", none), "runs_amiss", "runs_amiss", defArgs (topS 11), defBody (topS 11), defScope (topS 11), [], []⟩, ⟨("spread_from", none), "spread_from", "spread_from", defArgs (topS 12), defBody (topS 12), defScope (topS 12), [], []⟩, ⟨("chain_back", none), "chain_back", "chain_back", defArgs (topS 13), defBody (topS 13), defScope (topS 13), [], []⟩, ⟨("first_colouring", none), "first_colouring", "first_colouring", defArgs (topS 14), defBody (topS 14), defScope (topS 14), [], []⟩, ⟨("_law_fits", none), "_law_fits", "_law_fits", defArgs (topS 26), defBody (topS 26), defScope (topS 26), [], []⟩, ⟨("_law_whole_number", none), "_law_whole_number", "_law_whole_number", defArgs (topS 22), defBody (topS 22), defScope (topS 22), [], []⟩, ⟨("_law_seen", none), "_law_seen", "_law_seen", defArgs (topS 23), defBody (topS 23), defScope (topS 23), [], []⟩, ⟨("_law_chain_right", none), "_law_chain_right", "_law_chain_right", defArgs (topS 24), defBody (topS 24), defScope (topS 24), [], []⟩, ⟨("_law_none_right", none), "_law_none_right", "_law_none_right", defArgs (topS 25), defBody (topS 25), defScope (topS 25), [], []⟩, ⟨("law", none), "law", "law", defArgs (topS 27), defBody (topS 27), defScope (topS 27), [], []⟩] : List He.DefD)
def fas : List He.Fa := ([.glo "_law_numbers", .glo "_law_threads", .glo "_law_bits", .glo "_law_shows", .glo "_law_picture", .glo "_law_told", .glo "seen_picture", .glo "seen_threads", .glo "crossed_by", .glo "seen_at", .glo "runs_amiss", .glo "spread_from", .glo "chain_back", .glo "first_colouring", .glo "_law_fits", .glo "_law_whole_number", .glo "_law_seen", .glo "_law_chain_right", .glo "_law_none_right", .glo "law", .free "bool", .free "int", .free "isinstance", .free "len", .free "list", .free "range", .free "reversed", .free "str", .free "tuple", .str "COLOURS" (Str.ofString "abcdef")] : List He.Fa) ++ ([.glo "NoColour", .exc "NoColour"] : List He.Fa)
def loose : List Str := (["_wall", "WeaveError", "NoColour", "COLOURS", "seen_picture", "seen_threads", "seen_at", "crossed_by", "runs_amiss", "spread_from", "chain_back", "first_colouring", "_law_numbers", "_law_bits", "_law_threads", "_law_shows", "_law_picture", "_law_told", "_law_whole_number", "_law_seen", "_law_chain_right", "_law_none_right", "_law_fits"] : List Str)
abbrev hdR : PySem.W.OpenRow := PySem.W.OpenLaw.row PySem.Challenge.rw_heddle_k48_whole_colours_or_chains
abbrev hk : PySem.W.Hook := He.hookD 5 fas dds
def ob (s : PySem.W.SharedT) : He.AlD := He.obsDG 5 fas dds (HandSHeadRun.getT s)
theorem ob_eq (s : PySem.W.SharedT) : ob s = hk.obs s.abs := He.obsDG_eq (HandSHeadRun.getT_eq s)
theorem run (w : World) : HandSHeadRun.RunEq hdR (PySem.W.view hdR.prog [27]) hk ob 3000 loose w := by intro os; kernel_rfl
structure Facts (p : Pr) : Prop where
  g_bool : p.mg "bool" = none
  g_int : p.mg "int" = none
  g_isinstance : p.mg "isinstance" = none
  g_len : p.mg "len" = none
  g_list : p.mg "list" = none
  g_range : p.mg "range" = none
  g_reversed : p.mg "reversed" = none
  g_str : p.mg "str" = none
  g_tuple : p.mg "tuple" = none
  c_COLOURS : ∃ t, p.mg "COLOURS" = some (.str (Str.ofString "abcdef") t)
  x_NoColour : ExF p "NoColour" .noColour
  d__law_numbers : ∃ f fd, FunD p.K "_law_numbers" "_law_numbers" (defArgs (topS 16)) (defBody (topS 16)) (defScope (topS 16)) [] [] f fd ∧ p.mg "_law_numbers" = some (.ref f)
  d__law_threads : ∃ f fd, FunD p.K "_law_threads" "_law_threads" (defArgs (topS 18)) (defBody (topS 18)) (defScope (topS 18)) [] [] f fd ∧ p.mg "_law_threads" = some (.ref f)
  d__law_bits : ∃ f fd, FunD p.K "_law_bits" "_law_bits" (defArgs (topS 17)) (defBody (topS 17)) (defScope (topS 17)) [] [] f fd ∧ p.mg "_law_bits" = some (.ref f)
  d__law_shows : ∃ f fd, FunD p.K "_law_shows" "_law_shows" (defArgs (topS 19)) (defBody (topS 19)) (defScope (topS 19)) [] [] f fd ∧ p.mg "_law_shows" = some (.ref f)
  d__law_picture : ∃ f fd, FunD p.K "_law_picture" "_law_picture" (defArgs (topS 20)) (defBody (topS 20)) (defScope (topS 20)) [] [] f fd ∧ p.mg "_law_picture" = some (.ref f)
  d__law_told : ∃ f fd, FunD p.K "_law_told" "_law_told" (defArgs (topS 21)) (defBody (topS 21)) (defScope (topS 21)) [] [] f fd ∧ p.mg "_law_told" = some (.ref f)
  d_seen_picture : ∃ f fd, FunD p.K "seen_picture" "seen_picture" (defArgs (topS 6)) (defBody (topS 6)) (defScope (topS 6)) [] [] f fd ∧ p.mg "seen_picture" = some (.ref f)
  d_seen_threads : ∃ f fd, FunD p.K "seen_threads" "seen_threads" (defArgs (topS 7)) (defBody (topS 7)) (defScope (topS 7)) [] [] f fd ∧ p.mg "seen_threads" = some (.ref f)
  d_crossed_by : ∃ f fd, FunD p.K "crossed_by" "crossed_by" (defArgs (topS 10)) (defBody (topS 10)) (defScope (topS 10)) [] [] f fd ∧ p.mg "crossed_by" = some (.ref f)
  d_seen_at : ∃ f fd, FunD p.K "seen_at" "seen_at" (defArgs (topS 9)) (defBody (topS 9)) (defScope (topS 9)) [] [] f fd ∧ p.mg "seen_at" = some (.ref f)
  d_runs_amiss : ∃ f fd, FunD p.K "runs_amiss" "runs_amiss" (defArgs (topS 11)) (defBody (topS 11)) (defScope (topS 11)) [] [] f fd ∧ p.mg "runs_amiss" = some (.ref f)
  d_spread_from : ∃ f fd, FunD p.K "spread_from" "spread_from" (defArgs (topS 12)) (defBody (topS 12)) (defScope (topS 12)) [] [] f fd ∧ p.mg "spread_from" = some (.ref f)
  d_chain_back : ∃ f fd, FunD p.K "chain_back" "chain_back" (defArgs (topS 13)) (defBody (topS 13)) (defScope (topS 13)) [] [] f fd ∧ p.mg "chain_back" = some (.ref f)
  d_first_colouring : ∃ f fd, FunD p.K "first_colouring" "first_colouring" (defArgs (topS 14)) (defBody (topS 14)) (defScope (topS 14)) [] [] f fd ∧ p.mg "first_colouring" = some (.ref f)
  d__law_fits : ∃ f fd, FunD p.K "_law_fits" "_law_fits" (defArgs (topS 26)) (defBody (topS 26)) (defScope (topS 26)) [] [] f fd ∧ p.mg "_law_fits" = some (.ref f)
  d__law_whole_number : ∃ f fd, FunD p.K "_law_whole_number" "_law_whole_number" (defArgs (topS 22)) (defBody (topS 22)) (defScope (topS 22)) [] [] f fd ∧ p.mg "_law_whole_number" = some (.ref f)
  d__law_seen : ∃ f fd, FunD p.K "_law_seen" "_law_seen" (defArgs (topS 23)) (defBody (topS 23)) (defScope (topS 23)) [] [] f fd ∧ p.mg "_law_seen" = some (.ref f)
  d__law_chain_right : ∃ f fd, FunD p.K "_law_chain_right" "_law_chain_right" (defArgs (topS 24)) (defBody (topS 24)) (defScope (topS 24)) [] [] f fd ∧ p.mg "_law_chain_right" = some (.ref f)
  d__law_none_right : ∃ f fd, FunD p.K "_law_none_right" "_law_none_right" (defArgs (topS 25)) (defBody (topS 25)) (defScope (topS 25)) [] [] f fd ∧ p.mg "_law_none_right" = some (.ref f)
  d_law : ∃ f fd, FunD p.K "law" "law" (defArgs (topS 27)) (defBody (topS 27)) (defScope (topS 27)) [] [] f fd ∧ p.mg "law" = some (.ref f)
abbrev s__law_numbers : Stmt := (topS 16)
abbrev N__law_numbers : List Str := ["script", "many", "found", "step", "k"]
abbrev V__law_numbers : List Str := ["script", "many", "found", "step", "k"]
abbrev G__law_numbers : List Str := ["len", "range"]
theorem sc__law_numbers : Sc s__law_numbers N__law_numbers V__law_numbers ["script", "many"] G__law_numbers := ⟨⟨rfl, rfl, rfl, by decide +kernel, rfl, by decide +kernel, by decide +kernel⟩, by decide +kernel, by decide +kernel, by decide +kernel⟩
def r_f_law_numbers_l1  : ((List Int) × Int) → Int → M ((List Int) × Int) := fun s17 k18 => M.bind (M.bind (M.bind (M.ok s17.2) fun y20 => M.ok (y20 * (48271 : Int))) fun y21 => M.ok (y21 % (2147483647 : Int))) fun step19 => M.bind (M.bind (M.bind (M.ok step19) fun y23 => M.ok (y23 / (16 : Int))) fun y24 => M.ok (y24 % (1000000 : Int))) fun y25 => M.bind (pushM s17.1 y25) fun found22 => M.ok (found22, step19)
def f_law_numbers_l1  : ((List Int) × Int) → Int → M ((List Int) × Int) := fun s17 k18 => let step19 : Int := ((s17.2 * (48271 : Int)) % (2147483647 : Int)); M.bind (pushM s17.1 ((step19 / (16 : Int)) % (1000000 : Int))) fun found22 => M.ok (found22, step19)
theorem eq_f_law_numbers_l1  : r_f_law_numbers_l1  = f_law_numbers_l1  := by funext s17 k18; first | (simp only [r_f_law_numbers_l1, f_law_numbers_l1, M.bind_assoc, M.bok]; done) | (simp only [r_f_law_numbers_l1, f_law_numbers_l1, M.bind_assoc, M.bok]; rfl)
def r_f_law_numbers_l2 (script1 : (List Int)) (many2 : Int) : ((List Int)) → Int → M ((List Int)) := fun s30 k31 => M.bind (M.bind (M.bind (M.bind (M.ok s30) fun y34 => M.bind (M.bind (M.ok k31) fun y32 => M.bind (M.ok many2) fun y33 => modM y32 y33) fun y35 => getM y34 y35) fun y38 => M.bind (M.bind (M.ok script1) fun y36 => M.bind (M.ok k31) fun y37 => getM y36 y37) fun y39 => M.ok (y38 + y39)) fun y40 => M.ok (y40 % (1000000 : Int))) fun y43 => M.bind (M.bind (M.ok k31) fun y41 => M.bind (M.ok many2) fun y42 => modM y41 y42) fun i44 => M.bind (setM s30 i44 y43) fun found45 => M.ok found45
def f_law_numbers_l2 (script1 : (List Int)) (many2 : Int) : ((List Int)) → Int → M ((List Int)) := fun s30 k31 => M.bind (M.bind (M.bind (M.bind (modM k31 many2) fun y35 => getM s30 y35) fun y38 => M.bind (getM script1 k31) fun y39 => M.ok (y38 + y39)) fun y40 => M.ok (y40 % (1000000 : Int))) fun y43 => M.bind (modM k31 many2) fun i44 => M.bind (setM s30 i44 y43) fun found45 => M.ok found45
theorem eq_f_law_numbers_l2 (script1 : (List Int)) (many2 : Int) : r_f_law_numbers_l2 script1 many2 = f_law_numbers_l2 script1 many2 := by funext s30 k31; first | (simp only [r_f_law_numbers_l2, f_law_numbers_l2, M.bind_assoc, M.bok, eq_f_law_numbers_l1]; done) | (simp only [r_f_law_numbers_l2, f_law_numbers_l2, M.bind_assoc, M.bok, eq_f_law_numbers_l1]; rfl)
def q__law_numbers (script1 : (List Int)) (many2 : Int) : M (List Int) := M.bind (M.ok []) fun found3 => M.bind (M.ok (1 : Int)) fun step4 => M.bind (M.bind (M.bind (M.ok script1) fun y5 => M.ok (y5.length : Int)) fun y6 => M.bind (M.ok (0 : Int)) fun y7 => M.ok (decide (y7 < y6))) fun c8 => M.bind (if c8 = true then M.bind (M.bind (M.ok (1 : Int)) fun y13 => M.bind (M.bind (M.bind (M.ok script1) fun y10 => M.bind (M.ok (0 : Int)) fun y11 => getM y10 y11) fun y12 => M.ok (y12 % (2147483646 : Int))) fun y14 => M.ok (y13 + y14)) fun step9 => M.ok step9 else M.ok step4) fun (s15 : (Int)) => M.bind (M.bind (M.ok many2) fun y16 => rangeM 0 y16) fun xs26 => M.bind (forM r_f_law_numbers_l1 (found3, s15) xs26) fun (s27 : ((List Int) × Int)) => M.bind (M.bind (M.bind (M.ok script1) fun y28 => M.ok (y28.length : Int)) fun y29 => rangeM 0 y29) fun xs46 => M.bind (forM (r_f_law_numbers_l2 script1 many2) s27.1 xs46) fun (s47 : ((List Int))) => M.ok s47
def f_law_numbers (script1 : (List Int)) (many2 : Int) : M (List Int) := let found3 : (List Int) := []; let step4 : Int := (1 : Int); M.bind (if (decide ((0 : Int) < (script1.length : Int))) = true then M.bind (M.bind (M.bind (getM script1 (0 : Int)) fun y12 => M.ok (y12 % (2147483646 : Int))) fun y14 => M.ok ((1 : Int) + y14)) fun step9 => M.ok step9 else M.ok step4) fun (s15 : (Int)) => M.bind (rangeM 0 many2) fun xs26 => M.bind (forM f_law_numbers_l1 (found3, s15) xs26) fun (s27 : ((List Int) × Int)) => M.bind (rangeM 0 (script1.length : Int)) fun xs46 => M.bind (forM (f_law_numbers_l2 script1 many2) s27.1 xs46) fun (s47 : ((List Int))) => M.ok s47
def r__law_numbers (d : ((List Int) × Int × Unit)) : M (List Int) := q__law_numbers d.1 d.2.1
def c__law_numbers (d : ((List Int) × Int × Unit)) : M (List Int) := f_law_numbers d.1 d.2.1
theorem eq__law_numbers : r__law_numbers = c__law_numbers := by funext d; first | (simp only [r__law_numbers, c__law_numbers, q__law_numbers, f_law_numbers, M.bind_assoc, M.bok, eq_f_law_numbers_l1, eq_f_law_numbers_l2]; done) | (simp only [r__law_numbers, c__law_numbers, q__law_numbers, f_law_numbers, M.bind_assoc, M.bok, eq_f_law_numbers_l1, eq_f_law_numbers_l2]; rfl)
theorem bb__law_numbers {p : Pr} (X : Facts p) {g : G} (ok : OkS p (defScope s__law_numbers) N__law_numbers V__law_numbers G__law_numbers 0 g) (hX : g.LX = List.replicate N__law_numbers.length sAny) (script1 : (List Int)) (many2 : Int) : EvB g [(sV false (tListK p.K tInt) script1), (sV false tInt many2), sAny, sAny, sAny] (defBody s__law_numbers) (fun r => .rtL false tInt r) (q__law_numbers script1 many2) := (evb_own ok (i := 2) (j := 2) rfl rfl (wkX hX rfl) .sh (evl_nil (md := .sh) (S := tInt)) fun found3 => (evb_set ok (i := 3) (j := 3) rfl rfl (wkX hX rfl) .sh (ev_int (md := .sh)) fun step4 => (evb_if (LJ := (fun (s15 : (Int)) => [(sV false (tListK p.K tInt) script1), (sV false tInt many2), (sOwn false tInt found3), (sV false tInt s15), sAny])) (wkX hX rfl) (evt_c ok.toOk c_gt (ev_lenQ (md' := .sh) ok.toOk sq_k (j := 0) rfl X.g_len (ev_vsh ok.toOk (i := 0) (j := 0) rfl rfl rfl)) (ev_int (md := .sh))) (evb_set ok (i := 3) (j := 3) rfl rfl (wkX hX rfl) .sh (ev_add (md' := .sh) ok.toOk (ev_int (md := .sh)) (ev_modC (md' := .sh) ok.toOk (by decide) (ev_ixQ ok.toOk sq_k (ev_vsh ok.toOk (i := 0) (j := 0) rfl rfl rfl) (ev_int (md := .sh))) (ev_int (md := .sh)))) fun step9 => (evb_nx (by rfl) (Wk.s (Wk.s (Wk.s (Wk.s (Wk.s Wk.n))))))) (evb_nx (by rfl) (Wk.s (Wk.s (Wk.s (Wk.s (Wk.s Wk.n)))))) fun s15 => (evb_for (LF := (fun (s17 : ((List Int) × Int)) => [(sV false (tListK p.K tInt) script1), (sV false tInt many2), (sOwn false tInt s17.1), (sV false tInt s17.2), sAny])) (s0 := (found3, s15)) ok (wkX hX rfl) (evi_range1 ok.toOk (j := 1) rfl X.g_range (ev_vsh ok.toOk (i := 1) (j := 1) rfl rfl rfl)) (Wk.s (Wk.s (Wk.s (Wk.s (Wk.s Wk.n))))) (fun _ => evg_name ok (i := 4) (j := 4) rfl rfl) (fun s17 k18 => (evb_set ok (i := 3) (j := 3) rfl rfl (wkX hX rfl) .sh (ev_modC (md' := .sh) ok.toOk (by decide) (ev_mulC (md' := .sh) ok.toOk (by decide) (ev_vsh ok.toOk (i := 3) (j := 3) rfl rfl rfl) (ev_int (md := .sh))) (ev_int (md := .sh))) fun step19 => (evb_append ok (wkX hX rfl) (i := 2) (j := 2) rfl rfl rfl .sh (ev_modC (md' := .sh) ok.toOk (by decide) (ev_divC (md' := .sh) ok.toOk (by decide) (by decide) (ev_vsh ok.toOk (i := 3) (j := 3) rfl rfl rfl) (ev_int (md := .sh))) (ev_int (md := .sh))) fun found22 => (evb_go (by rfl) (Wk.s (Wk.s (Wk.s (Wk.s (Wk.a Wk.n))))))))) fun s27 => (evb_for (LF := (fun (s30 : ((List Int))) => [(sV false (tListK p.K tInt) script1), (sV false tInt many2), (sOwn false tInt s30), (sV false tInt s27.2), sAny])) (s0 := s27.1) ok (wkX hX rfl) (evi_range1 ok.toOk (j := 1) rfl X.g_range (ev_lenQ (md' := .sh) ok.toOk sq_k (j := 0) rfl X.g_len (ev_vsh ok.toOk (i := 0) (j := 0) rfl rfl rfl))) (Wk.s (Wk.s (Wk.s (Wk.s (Wk.s Wk.n))))) (fun _ => evg_name ok (i := 4) (j := 4) rfl rfl) (fun s30 k31 => (evb_setitem ok (wkX hX rfl) (i := 2) (j := 2) rfl rfl rfl .sh (ev_borrow (i := 2) (.inl flInt) rfl (ev_modC (md' := .sh) ok.toOk (by decide) (ev_add (md' := .sh) ok.toOk (ev_ixQ ok.toOk sq_l (ev_vsh ok.toOk (i := 2) (j := 2) rfl rfl rfl) (ev_mod (md' := .sh) ok.toOk (ev_vsh ok.toOk (i := 4) (j := 4) rfl rfl rfl) (ev_vsh ok.toOk (i := 1) (j := 1) rfl rfl rfl))) (ev_ixQ ok.toOk sq_k (ev_vsh ok.toOk (i := 0) (j := 0) rfl rfl rfl) (ev_vsh ok.toOk (i := 4) (j := 4) rfl rfl rfl))) (ev_int (md := .sh)))) (ev_mod (md' := .sh) ok.toOk (ev_vsh ok.toOk (i := 4) (j := 4) rfl rfl rfl) (ev_vsh ok.toOk (i := 1) (j := 1) rfl rfl rfl)) fun found45 => (evb_go (by rfl) (Wk.s (Wk.s (Wk.s (Wk.s (Wk.a Wk.n)))))))) fun s47 => (evb_retOwn ok.toOk (i := 2) (j := 2) rfl rfl rfl (.inl rfl) (by rfl)))))))
theorem b__law_numbers {p : Pr} (X : Facts p) : Body p s__law_numbers N__law_numbers V__law_numbers G__law_numbers 0 (fun (d : ((List Int) × Int × Unit)) => [(sV false (tListK p.K tInt) d.1), (sV false tInt d.2.1), sAny, sAny, sAny]) (fun r => .rtL false tInt r) r__law_numbers := fun g ok hX d => bb__law_numbers X ok hX d.1 d.2.1
theorem fn__law_numbers {p : Pr} (X : Facts p) : Fn p 1 "_law_numbers" ["script", "many"] (spM p (aCons (tListK p.K tInt) (aCons tInt aNil)) (fun r => .rtL false tInt r) c__law_numbers) := by
  obtain ⟨f, fd, hF, hm⟩ := X.d__law_numbers
  exact ⟨f, fd, eq__law_numbers ▸ fn_rtL (m := 3) hF sc__law_numbers (.cons (.cons .nil)) rfl rfl (b__law_numbers X), hm, hF.kp, hF.bindsN fun _ _ _ _ _ _ us hl => match us, hl with | [_, _], _ => rfl⟩
abbrev s__law_threads : Stmt := (topS 18)
abbrev N__law_threads : List Str := ["numbers", "first", "count", "span", "letters", "k"]
abbrev V__law_threads : List Str := ["numbers", "first", "count", "span", "letters"]
abbrev G__law_threads : List Str := ["range"]
theorem sc__law_threads : Sc s__law_threads N__law_threads V__law_threads ["numbers", "first", "count", "span"] G__law_threads := ⟨⟨rfl, rfl, rfl, by decide +kernel, rfl, by decide +kernel, by decide +kernel⟩, by decide +kernel, by decide +kernel, by decide +kernel⟩
def q__law_threads (numbers1 : (List Int)) (first2 : Int) (count3 : Int) (span4 : Int) : M Tx := M.bind (M.bind (M.bind (M.ok count3) fun y6 => rangeM 0 y6) fun xs23 => compM (fun k7 => M.bind (M.ok true) fun c21 => if c21 = true then M.bind (M.bind (M.ok (tx "abcdef")) fun y19 => M.bind (M.bind (M.bind (M.bind (M.ok numbers1) fun y14 => M.bind (M.bind (M.ok (8 : Int)) fun y12 => M.bind (M.bind (M.bind (M.ok first2) fun y9 => M.bind (M.bind (M.ok k7) fun y8 => M.ok ((3 : Int) * y8)) fun y10 => M.ok (y9 + y10)) fun y11 => M.ok (y11 % (55 : Int))) fun y13 => M.ok (y12 + y13)) fun y15 => getM y14 y15) fun y16 => M.ok (y16 / (7 : Int))) fun y17 => M.bind (M.ok span4) fun y18 => modM y17 y18) fun y20 => getS y19 y20) fun y22 => M.ok (some y22) else M.ok none) xs23) fun letters5 => M.bind (M.ok (tx "")) fun y24 => M.bind (M.ok letters5) fun y25 => joinM y24 y25
def f_law_threads (numbers1 : (List Int)) (first2 : Int) (count3 : Int) (span4 : Int) : M Tx := M.bind (M.bind (rangeM 0 count3) fun xs23 => compM (fun k7 => M.bind (M.bind (M.bind (M.bind (getM numbers1 ((8 : Int) + ((first2 + ((3 : Int) * k7)) % (55 : Int)))) fun y16 => M.ok (y16 / (7 : Int))) fun y17 => modM y17 span4) fun y20 => getS (tx "abcdef") y20) fun y22 => M.ok (some y22)) xs23) fun letters5 => joinM (tx "") letters5
def r__law_threads (d : ((List Int) × Int × Int × Int × Unit)) : M Tx := q__law_threads d.1 d.2.1 d.2.2.1 d.2.2.2.1
def c__law_threads (d : ((List Int) × Int × Int × Int × Unit)) : M Tx := f_law_threads d.1 d.2.1 d.2.2.1 d.2.2.2.1
theorem eq__law_threads : r__law_threads = c__law_threads := by funext d; first | (simp only [r__law_threads, c__law_threads, q__law_threads, f_law_threads, M.bind_assoc, M.bok]; done) | (simp only [r__law_threads, c__law_threads, q__law_threads, f_law_threads, M.bind_assoc, M.bok]; rfl)
theorem bb__law_threads {p : Pr} (X : Facts p) {g : G} (ok : OkS p (defScope s__law_threads) N__law_threads V__law_threads G__law_threads 0 g) (hX : g.LX = List.replicate N__law_threads.length sAny) (numbers1 : (List Int)) (first2 : Int) (count3 : Int) (span4 : Int) : EvB g [(sV false (tList tInt) numbers1), (sV false tInt first2), (sV false tInt count3), (sV false tInt span4), sAny, sAny] (defBody s__law_threads) (fun r => .rt false tStr r) (q__law_threads numbers1 first2 count3 span4) := (evb_setC (md := .sh) (VV' := ["numbers", "first", "k", "span"]) (GG' := []) (i := 5) (i2 := 4) ok rfl (wkX hX rfl) (by decide +kernel) (by rfl) (by decide +kernel) (evi_range1 ok.toOk (j := 0) rfl X.g_range (ev_vsh ok.toOk (i := 2) (j := 2) rfl rfl rfl)) rfl rfl no_any (by decide +kernel) (by decide +kernel) (by decide +kernel) (by decide +kernel) (fun g' okc k7 => evpts_nil) (fun g' okc k7 => (ev_ixS (md' := .sh) okc (ev_str (md := .sh) (by decide +kernel)) (ev_mod (md' := .sh) okc (ev_divC (md' := .sh) okc (by decide) (by decide) (ev_ixQ okc sq_l (ev_vsh okc (i := 0) (j := 0) rfl rfl rfl) (ev_add (md' := .sh) okc (ev_int (md := .sh)) (ev_modC (md' := .sh) okc (by decide) (ev_add (md' := .sh) okc (ev_vsh okc (i := 1) (j := 1) rfl rfl rfl) (ev_mulL (md' := .sh) okc (by decide) (ev_int (md := .sh)) (ev_vsh okc (i := 5) (j := 2) rfl rfl rfl))) (ev_int (md := .sh))))) (ev_int (md := .sh))) (ev_vsh okc (i := 3) (j := 3) rfl rfl rfl)))) fun letters5 => (evb_ret (wkX hX rfl) .sh (by intro _; rfl) (ev_join (md' := .sh) ok.toOk (ev_str (md := .sh) (by decide +kernel)) (ev_vsh ok.toOk (i := 4) (j := 4) rfl rfl rfl))))
theorem b__law_threads {p : Pr} (X : Facts p) : Body p s__law_threads N__law_threads V__law_threads G__law_threads 0 (fun (d : ((List Int) × Int × Int × Int × Unit)) => [(sV false (tList tInt) d.1), (sV false tInt d.2.1), (sV false tInt d.2.2.1), (sV false tInt d.2.2.2.1), sAny, sAny]) (fun r => .rt false tStr r) r__law_threads := fun g ok hX d => bb__law_threads X ok hX d.1 d.2.1 d.2.2.1 d.2.2.2.1
theorem fn__law_threads {p : Pr} (X : Facts p) : Fn p 1 "_law_threads" ["numbers", "first", "count", "span"] (spM p (aCons (tList tInt) (aCons tInt (aCons tInt (aCons tInt aNil)))) (fun r => .rt false tStr r) c__law_threads) := by
  obtain ⟨f, fd, hF, hm⟩ := X.d__law_threads
  exact ⟨f, fd, eq__law_threads ▸ fn_rt (m := 2) hF sc__law_threads (.cons (.cons (.cons (.cons .nil)))) rfl rfl (b__law_threads X), hm, hF.kp, hF.bindsN fun _ _ _ _ _ _ us hl => match us, hl with | [_, _, _, _], _ => rfl⟩
abbrev s__law_bits : Stmt := (topS 17)
abbrev N__law_bits : List Str := ["numbers", "wide", "high", "rows", "j", "row", "k", "at"]
abbrev V__law_bits : List Str := ["numbers", "wide", "high", "rows", "j", "row", "k", "at"]
abbrev G__law_bits : List Str := ["range"]
theorem sc__law_bits : Sc s__law_bits N__law_bits V__law_bits ["numbers", "wide", "high"] G__law_bits := ⟨⟨rfl, rfl, rfl, by decide +kernel, rfl, by decide +kernel, by decide +kernel⟩, by decide +kernel, by decide +kernel, by decide +kernel⟩
def r_f_law_bits_l1 (numbers1 : (List Int)) (j7 : Int) : (Tx) → Int → M (Tx) := fun s10 k11 => M.bind (M.bind (M.bind (M.ok j7) fun y13 => M.ok (y13 * (40 : Int))) fun y14 => M.bind (M.ok k11) fun y15 => M.ok (y14 + y15)) fun at12 => M.bind (M.bind (M.ok s10) fun y31 => M.bind (M.bind (M.ok (tx ".#")) fun y29 => M.bind (M.bind (M.bind (M.bind (M.ok numbers1) fun y20 => M.bind (M.bind (M.ok (8 : Int)) fun y18 => M.bind (M.bind (M.ok at12) fun y17 => M.ok (y17 % (55 : Int))) fun y19 => M.ok (y18 + y19)) fun y21 => getM y20 y21) fun y26 => M.bind (M.bind (M.ok (1 : Int)) fun y24 => M.bind (M.bind (M.bind (M.ok at12) fun y22 => M.ok (y22 / (55 : Int))) fun y23 => M.ok ((2 : Int) * y23)) fun y25 => M.ok (y24 + y25)) fun y27 => divM y26 y27) fun y28 => M.ok (y28 % (2 : Int))) fun y30 => getS y29 y30) fun y32 => catS y31 y32) fun row16 => M.ok row16
def f_law_bits_l1 (numbers1 : (List Int)) (j7 : Int) : (Tx) → Int → M (Tx) := fun s10 k11 => let at12 : Int := ((j7 * (40 : Int)) + k11); M.bind (M.bind (M.bind (M.bind (M.bind (getM numbers1 ((8 : Int) + (at12 % (55 : Int)))) fun y26 => divM y26 ((1 : Int) + ((2 : Int) * (at12 / (55 : Int))))) fun y28 => M.ok (y28 % (2 : Int))) fun y30 => getS (tx ".#") y30) fun y32 => catS s10 y32) fun row16 => M.ok row16
theorem eq_f_law_bits_l1 (numbers1 : (List Int)) (j7 : Int) : r_f_law_bits_l1 numbers1 j7 = f_law_bits_l1 numbers1 j7 := by funext s10 k11; first | (simp only [r_f_law_bits_l1, f_law_bits_l1, M.bind_assoc, M.bok]; done) | (simp only [r_f_law_bits_l1, f_law_bits_l1, M.bind_assoc, M.bok]; rfl)
def r_f_law_bits_l2 (numbers1 : (List Int)) (wide2 : Int) : ((List Tx)) → Int → M ((List Tx)) := fun s6 j7 => M.bind (M.ok (tx "")) fun row8 => M.bind (M.bind (M.ok wide2) fun y9 => rangeM 0 y9) fun xs33 => M.bind (forM (r_f_law_bits_l1 numbers1 j7) row8 xs33) fun (s34 : (Tx)) => M.bind (M.ok s34) fun y36 => M.bind (pushM s6 y36) fun rows35 => M.ok rows35
def f_law_bits_l2 (numbers1 : (List Int)) (wide2 : Int) : ((List Tx)) → Int → M ((List Tx)) := fun s6 j7 => let row8 : Tx := (tx ""); M.bind (rangeM 0 wide2) fun xs33 => M.bind (forM (f_law_bits_l1 numbers1 j7) row8 xs33) fun (s34 : (Tx)) => M.bind (pushM s6 s34) fun rows35 => M.ok rows35
theorem eq_f_law_bits_l2 (numbers1 : (List Int)) (wide2 : Int) : r_f_law_bits_l2 numbers1 wide2 = f_law_bits_l2 numbers1 wide2 := by funext s6 j7; first | (simp only [r_f_law_bits_l2, f_law_bits_l2, M.bind_assoc, M.bok, eq_f_law_bits_l1]; done) | (simp only [r_f_law_bits_l2, f_law_bits_l2, M.bind_assoc, M.bok, eq_f_law_bits_l1]; rfl)
def q__law_bits (numbers1 : (List Int)) (wide2 : Int) (high3 : Int) : M (List Tx) := M.bind (M.ok []) fun rows4 => M.bind (M.bind (M.ok high3) fun y5 => rangeM 0 y5) fun xs37 => M.bind (forM (r_f_law_bits_l2 numbers1 wide2) rows4 xs37) fun (s38 : ((List Tx))) => M.ok s38
def f_law_bits (numbers1 : (List Int)) (wide2 : Int) (high3 : Int) : M (List Tx) := let rows4 : (List Tx) := []; M.bind (rangeM 0 high3) fun xs37 => M.bind (forM (f_law_bits_l2 numbers1 wide2) rows4 xs37) fun (s38 : ((List Tx))) => M.ok s38
def r__law_bits (d : ((List Int) × Int × Int × Unit)) : M (List Tx) := q__law_bits d.1 d.2.1 d.2.2.1
def c__law_bits (d : ((List Int) × Int × Int × Unit)) : M (List Tx) := f_law_bits d.1 d.2.1 d.2.2.1
theorem eq__law_bits : r__law_bits = c__law_bits := by funext d; first | (simp only [r__law_bits, c__law_bits, q__law_bits, f_law_bits, M.bind_assoc, M.bok, eq_f_law_bits_l1, eq_f_law_bits_l2]; done) | (simp only [r__law_bits, c__law_bits, q__law_bits, f_law_bits, M.bind_assoc, M.bok, eq_f_law_bits_l1, eq_f_law_bits_l2]; rfl)
theorem bb__law_bits {p : Pr} (X : Facts p) {g : G} (ok : OkS p (defScope s__law_bits) N__law_bits V__law_bits G__law_bits 0 g) (hX : g.LX = List.replicate N__law_bits.length sAny) (numbers1 : (List Int)) (wide2 : Int) (high3 : Int) : EvB g [(sV false (tList tInt) numbers1), (sV false tInt wide2), (sV false tInt high3), sAny, sAny, sAny, sAny, sAny] (defBody s__law_bits) (fun r => .rtL false tStr r) (q__law_bits numbers1 wide2 high3) := (evb_own ok (i := 3) (j := 3) rfl rfl (wkX hX rfl) .sh (evl_nil (md := .sh) (S := tStr)) fun rows4 => (evb_for (LF := (fun (s6 : ((List Tx))) => [(sV false (tList tInt) numbers1), (sV false tInt wide2), (sV false tInt high3), (sOwn false tStr s6), sAny, sAny, sAny, sAny])) (s0 := rows4) ok (wkX hX rfl) (evi_range1 ok.toOk (j := 0) rfl X.g_range (ev_vsh ok.toOk (i := 2) (j := 2) rfl rfl rfl)) (Wk.s (Wk.s (Wk.s (Wk.s (Wk.s (Wk.s (Wk.s (Wk.s Wk.n)))))))) (fun _ => evg_name ok (i := 4) (j := 4) rfl rfl) (fun s6 j7 => (evb_set ok (i := 5) (j := 5) rfl rfl (wkX hX rfl) .sh (ev_str (md := .sh) (by decide +kernel)) fun row8 => (evb_for (LF := (fun (s10 : (Tx)) => [(sV false (tList tInt) numbers1), (sV false tInt wide2), (sV false tInt high3), (sOwn false tStr s6), (sV false tInt j7), (sV false tStr s10), sAny, sAny])) (s0 := row8) ok (wkX hX rfl) (evi_range1 ok.toOk (j := 0) rfl X.g_range (ev_vsh ok.toOk (i := 1) (j := 1) rfl rfl rfl)) (Wk.s (Wk.s (Wk.s (Wk.s (Wk.s (Wk.s (Wk.s (Wk.s Wk.n)))))))) (fun _ => evg_name ok (i := 6) (j := 6) rfl rfl) (fun s10 k11 => (evb_set ok (i := 7) (j := 7) rfl rfl (wkX hX rfl) .sh (ev_add (md' := .sh) ok.toOk (ev_mulC (md' := .sh) ok.toOk (by decide) (ev_vsh ok.toOk (i := 4) (j := 4) rfl rfl rfl) (ev_int (md := .sh))) (ev_vsh ok.toOk (i := 6) (j := 6) rfl rfl rfl)) fun at12 => (evb_set ok (i := 5) (j := 5) rfl rfl (wkX hX rfl) .sh (ev_catS (md' := .sh) ok.toOk (ev_vsh ok.toOk (i := 5) (j := 5) rfl rfl rfl) (ev_ixS (md' := .sh) ok.toOk (ev_str (md := .sh) (by decide +kernel)) (ev_modC (md' := .sh) ok.toOk (by decide) (ev_div (md' := .sh) ok.toOk (ev_ixQ ok.toOk sq_l (ev_vsh ok.toOk (i := 0) (j := 0) rfl rfl rfl) (ev_add (md' := .sh) ok.toOk (ev_int (md := .sh)) (ev_modC (md' := .sh) ok.toOk (by decide) (ev_vsh ok.toOk (i := 7) (j := 7) rfl rfl rfl) (ev_int (md := .sh))))) (ev_add (md' := .sh) ok.toOk (ev_int (md := .sh)) (ev_mulL (md' := .sh) ok.toOk (by decide) (ev_int (md := .sh)) (ev_divC (md' := .sh) ok.toOk (by decide) (by decide) (ev_vsh ok.toOk (i := 7) (j := 7) rfl rfl rfl) (ev_int (md := .sh)))))) (ev_int (md := .sh))))) fun row16 => (evb_go (by rfl) (Wk.s (Wk.s (Wk.s (Wk.s (Wk.s (Wk.s (Wk.a (Wk.a Wk.n)))))))))))) fun s34 => (evb_append ok (wkX hX rfl) (i := 3) (j := 3) rfl rfl rfl .sh (ev_vsh ok.toOk (i := 5) (j := 5) rfl rfl rfl) fun rows35 => (evb_go (by rfl) (Wk.s (Wk.s (Wk.s (Wk.s (Wk.a (Wk.a (Wk.s (Wk.s Wk.n))))))))))))) fun s38 => (evb_retOwn ok.toOk (i := 3) (j := 3) rfl rfl rfl (.inl rfl) (by rfl))))
theorem b__law_bits {p : Pr} (X : Facts p) : Body p s__law_bits N__law_bits V__law_bits G__law_bits 0 (fun (d : ((List Int) × Int × Int × Unit)) => [(sV false (tList tInt) d.1), (sV false tInt d.2.1), (sV false tInt d.2.2.1), sAny, sAny, sAny, sAny, sAny]) (fun r => .rtL false tStr r) r__law_bits := fun g ok hX d => bb__law_bits X ok hX d.1 d.2.1 d.2.2.1
theorem fn__law_bits {p : Pr} (X : Facts p) : Fn p 1 "_law_bits" ["numbers", "wide", "high"] (spM p (aCons (tList tInt) (aCons tInt (aCons tInt aNil))) (fun r => .rtL false tStr r) c__law_bits) := by
  obtain ⟨f, fd, hF, hm⟩ := X.d__law_bits
  exact ⟨f, fd, eq__law_bits ▸ fn_rtL (m := 5) hF sc__law_bits (.cons (.cons (.cons .nil))) rfl rfl (b__law_bits X), hm, hF.kp, hF.bindsN fun _ _ _ _ _ _ us hl => match us, hl with | [_, _, _], _ => rfl⟩
abbrev s__law_shows : Stmt := (topS 19)
abbrev N__law_shows : List Str := ["given", "warp", "weft", "rows", "j", "row", "k"]
abbrev V__law_shows : List Str := ["given", "warp", "weft", "rows", "j", "row", "k"]
abbrev G__law_shows : List Str := ["len", "range"]
theorem sc__law_shows : Sc s__law_shows N__law_shows V__law_shows ["given", "warp", "weft"] G__law_shows := ⟨⟨rfl, rfl, rfl, by decide +kernel, rfl, by decide +kernel, by decide +kernel⟩, by decide +kernel, by decide +kernel, by decide +kernel⟩
def r_f_law_shows_l1 (given1 : (List Tx)) (warp2 : Tx) (weft3 : Tx) (j8 : Int) : (Tx) → Int → M (Tx) := fun s12 k13 => M.bind (M.bind (M.bind (M.bind (M.ok given1) fun y14 => M.bind (M.ok j8) fun y15 => getM y14 y15) fun y16 => M.bind (M.ok k13) fun y17 => getS y16 y17) fun y18 => M.bind (M.ok (tx "#")) fun y19 => M.ok (decide (y18 = y19))) fun c20 => if c20 = true then M.bind (M.bind (M.ok s12) fun y24 => M.bind (M.bind (M.ok warp2) fun y22 => M.bind (M.ok k13) fun y23 => getS y22 y23) fun y25 => catS y24 y25) fun row21 => M.ok row21 else M.bind (M.bind (M.ok s12) fun y29 => M.bind (M.bind (M.ok weft3) fun y27 => M.bind (M.ok j8) fun y28 => getS y27 y28) fun y30 => catS y29 y30) fun row26 => M.ok row26
def f_law_shows_l1 (given1 : (List Tx)) (warp2 : Tx) (weft3 : Tx) (j8 : Int) : (Tx) → Int → M (Tx) := fun s12 k13 => M.bind (M.bind (M.bind (getM given1 j8) fun y16 => getS y16 k13) fun y18 => M.ok (decide (y18 = (tx "#")))) fun c31 => if c31 = true then M.bind (M.bind (getS warp2 k13) fun y25 => catS s12 y25) fun row21 => M.ok row21 else M.bind (M.bind (getS weft3 j8) fun y30 => catS s12 y30) fun row26 => M.ok row26
theorem eq_f_law_shows_l1 (given1 : (List Tx)) (warp2 : Tx) (weft3 : Tx) (j8 : Int) : r_f_law_shows_l1 given1 warp2 weft3 j8 = f_law_shows_l1 given1 warp2 weft3 j8 := by funext s12 k13; first | (simp only [r_f_law_shows_l1, f_law_shows_l1, M.bind_assoc, M.bok]; done) | (simp only [r_f_law_shows_l1, f_law_shows_l1, M.bind_assoc, M.bok]; rfl)
def r_f_law_shows_l2 (given1 : (List Tx)) (warp2 : Tx) (weft3 : Tx) : ((List Tx)) → Int → M ((List Tx)) := fun s7 j8 => M.bind (M.ok (tx "")) fun row9 => M.bind (M.bind (M.bind (M.ok warp2) fun y10 => M.ok (y10.length : Int)) fun y11 => rangeM 0 y11) fun xs32 => M.bind (forM (r_f_law_shows_l1 given1 warp2 weft3 j8) row9 xs32) fun (s33 : (Tx)) => M.bind (M.ok s33) fun y35 => M.bind (pushM s7 y35) fun rows34 => M.ok rows34
def f_law_shows_l2 (given1 : (List Tx)) (warp2 : Tx) (weft3 : Tx) : ((List Tx)) → Int → M ((List Tx)) := fun s7 j8 => let row9 : Tx := (tx ""); M.bind (rangeM 0 (warp2.length : Int)) fun xs32 => M.bind (forM (f_law_shows_l1 given1 warp2 weft3 j8) row9 xs32) fun (s33 : (Tx)) => M.bind (pushM s7 s33) fun rows34 => M.ok rows34
theorem eq_f_law_shows_l2 (given1 : (List Tx)) (warp2 : Tx) (weft3 : Tx) : r_f_law_shows_l2 given1 warp2 weft3 = f_law_shows_l2 given1 warp2 weft3 := by funext s7 j8; first | (simp only [r_f_law_shows_l2, f_law_shows_l2, M.bind_assoc, M.bok, eq_f_law_shows_l1]; done) | (simp only [r_f_law_shows_l2, f_law_shows_l2, M.bind_assoc, M.bok, eq_f_law_shows_l1]; rfl)
def q__law_shows (given1 : (List Tx)) (warp2 : Tx) (weft3 : Tx) : M (List Tx) := M.bind (M.ok []) fun rows4 => M.bind (M.bind (M.bind (M.ok given1) fun y5 => M.ok (y5.length : Int)) fun y6 => rangeM 0 y6) fun xs36 => M.bind (forM (r_f_law_shows_l2 given1 warp2 weft3) rows4 xs36) fun (s37 : ((List Tx))) => M.ok s37
def f_law_shows (given1 : (List Tx)) (warp2 : Tx) (weft3 : Tx) : M (List Tx) := let rows4 : (List Tx) := []; M.bind (rangeM 0 (given1.length : Int)) fun xs36 => M.bind (forM (f_law_shows_l2 given1 warp2 weft3) rows4 xs36) fun (s37 : ((List Tx))) => M.ok s37
def r__law_shows (d : ((List Tx) × Tx × Tx × Unit)) : M (List Tx) := q__law_shows d.1 d.2.1 d.2.2.1
def c__law_shows (d : ((List Tx) × Tx × Tx × Unit)) : M (List Tx) := f_law_shows d.1 d.2.1 d.2.2.1
theorem eq__law_shows : r__law_shows = c__law_shows := by funext d; first | (simp only [r__law_shows, c__law_shows, q__law_shows, f_law_shows, M.bind_assoc, M.bok, eq_f_law_shows_l1, eq_f_law_shows_l2]; done) | (simp only [r__law_shows, c__law_shows, q__law_shows, f_law_shows, M.bind_assoc, M.bok, eq_f_law_shows_l1, eq_f_law_shows_l2]; rfl)
theorem bb__law_shows {p : Pr} (X : Facts p) {g : G} (ok : OkS p (defScope s__law_shows) N__law_shows V__law_shows G__law_shows 0 g) (hX : g.LX = List.replicate N__law_shows.length sAny) (given1 : (List Tx)) (warp2 : Tx) (weft3 : Tx) : EvB g [(sV false (tList tStr) given1), (sV false tStr warp2), (sV false tStr weft3), sAny, sAny, sAny, sAny] (defBody s__law_shows) (fun r => .rtL false tStr r) (q__law_shows given1 warp2 weft3) := (evb_own ok (i := 3) (j := 3) rfl rfl (wkX hX rfl) .sh (evl_nil (md := .sh) (S := tStr)) fun rows4 => (evb_for (LF := (fun (s7 : ((List Tx))) => [(sV false (tList tStr) given1), (sV false tStr warp2), (sV false tStr weft3), (sOwn false tStr s7), sAny, sAny, sAny])) (s0 := rows4) ok (wkX hX rfl) (evi_range1 ok.toOk (j := 1) rfl X.g_range (ev_lenQ (md' := .sh) ok.toOk sq_l (j := 0) rfl X.g_len (ev_vsh ok.toOk (i := 0) (j := 0) rfl rfl rfl))) (Wk.s (Wk.s (Wk.s (Wk.s (Wk.s (Wk.s (Wk.s Wk.n))))))) (fun _ => evg_name ok (i := 4) (j := 4) rfl rfl) (fun s7 j8 => (evb_set ok (i := 5) (j := 5) rfl rfl (wkX hX rfl) .sh (ev_str (md := .sh) (by decide +kernel)) fun row9 => (evb_for (LF := (fun (s12 : (Tx)) => [(sV false (tList tStr) given1), (sV false tStr warp2), (sV false tStr weft3), (sOwn false tStr s7), (sV false tInt j8), (sV false tStr s12), sAny])) (s0 := row9) ok (wkX hX rfl) (evi_range1 ok.toOk (j := 1) rfl X.g_range (ev_lenS (md' := .sh) ok.toOk (j := 0) rfl X.g_len (ev_vsh ok.toOk (i := 1) (j := 1) rfl rfl rfl))) (Wk.s (Wk.s (Wk.s (Wk.s (Wk.s (Wk.s (Wk.s Wk.n))))))) (fun _ => evg_name ok (i := 6) (j := 6) rfl rfl) (fun s12 k13 => (evb_ifl (wkX hX rfl) (evt_c ok.toOk (c_eq s_str) (ev_ixS (md' := .sh) ok.toOk (ev_ixQ ok.toOk sq_l (ev_vsh ok.toOk (i := 0) (j := 0) rfl rfl rfl) (ev_vsh ok.toOk (i := 4) (j := 4) rfl rfl rfl)) (ev_vsh ok.toOk (i := 6) (j := 6) rfl rfl rfl)) (ev_str (md := .sh) (by decide +kernel))) (evb_set ok (i := 5) (j := 5) rfl rfl (wkX hX rfl) .sh (ev_catS (md' := .sh) ok.toOk (ev_vsh ok.toOk (i := 5) (j := 5) rfl rfl rfl) (ev_ixS (md' := .sh) ok.toOk (ev_vsh ok.toOk (i := 1) (j := 1) rfl rfl rfl) (ev_vsh ok.toOk (i := 6) (j := 6) rfl rfl rfl))) fun row21 => (evb_go (by rfl) (Wk.s (Wk.s (Wk.s (Wk.s (Wk.s (Wk.s (Wk.a Wk.n))))))))) (evb_set ok (i := 5) (j := 5) rfl rfl (wkX hX rfl) .sh (ev_catS (md' := .sh) ok.toOk (ev_vsh ok.toOk (i := 5) (j := 5) rfl rfl rfl) (ev_ixS (md' := .sh) ok.toOk (ev_vsh ok.toOk (i := 2) (j := 2) rfl rfl rfl) (ev_vsh ok.toOk (i := 4) (j := 4) rfl rfl rfl))) fun row26 => (evb_go (by rfl) (Wk.s (Wk.s (Wk.s (Wk.s (Wk.s (Wk.s (Wk.a Wk.n))))))))))) fun s33 => (evb_append ok (wkX hX rfl) (i := 3) (j := 3) rfl rfl rfl .sh (ev_vsh ok.toOk (i := 5) (j := 5) rfl rfl rfl) fun rows34 => (evb_go (by rfl) (Wk.s (Wk.s (Wk.s (Wk.s (Wk.a (Wk.a (Wk.s Wk.n)))))))))))) fun s37 => (evb_retOwn ok.toOk (i := 3) (j := 3) rfl rfl rfl (.inl rfl) (by rfl))))
theorem b__law_shows {p : Pr} (X : Facts p) : Body p s__law_shows N__law_shows V__law_shows G__law_shows 0 (fun (d : ((List Tx) × Tx × Tx × Unit)) => [(sV false (tList tStr) d.1), (sV false tStr d.2.1), (sV false tStr d.2.2.1), sAny, sAny, sAny, sAny]) (fun r => .rtL false tStr r) r__law_shows := fun g ok hX d => bb__law_shows X ok hX d.1 d.2.1 d.2.2.1
theorem fn__law_shows {p : Pr} (X : Facts p) : Fn p 1 "_law_shows" ["given", "warp", "weft"] (spM p (aCons (tList tStr) (aCons tStr (aCons tStr aNil))) (fun r => .rtL false tStr r) c__law_shows) := by
  obtain ⟨f, fd, hF, hm⟩ := X.d__law_shows
  exact ⟨f, fd, eq__law_shows ▸ fn_rtL (m := 4) hF sc__law_shows (.cons (.cons (.cons .nil))) rfl rfl (b__law_shows X), hm, hF.kp, hF.bindsN fun _ _ _ _ _ _ us hl => match us, hl with | [_, _, _], _ => rfl⟩
abbrev s__law_picture : Stmt := (topS 20)
abbrev N__law_picture : List Str := ["numbers", "wide", "high", "span", "warp", "weft", "rows", "made", "j", "row", "k", "number", "sign"]
abbrev V__law_picture : List Str := ["numbers", "wide", "high", "span", "warp", "weft", "rows", "made", "j", "row", "k", "number", "sign"]
abbrev G__law_picture : List Str := ["_law_bits", "_law_shows", "range"]
theorem sc__law_picture : Sc s__law_picture N__law_picture V__law_picture ["numbers", "wide", "high", "span", "warp", "weft"] G__law_picture := ⟨⟨rfl, rfl, rfl, by decide +kernel, rfl, by decide +kernel, by decide +kernel⟩, by decide +kernel, by decide +kernel, by decide +kernel⟩
def r_f_law_picture_l1 (numbers1 : (List Int)) (wide2 : Int) (high3 : Int) (span4 : Int) (rows7 : (List Tx)) (j29 : Int) : (Tx) → Int → M (Tx) := fun s32 k33 => M.bind (M.bind (M.ok numbers1) fun y46 => M.bind (M.bind (M.ok (8 : Int)) fun y44 => M.bind (M.bind (M.bind (M.bind (M.bind (M.ok k33) fun y35 => M.ok ((5 : Int) * y35)) fun y37 => M.bind (M.bind (M.ok j29) fun y36 => M.ok ((11 : Int) * y36)) fun y38 => M.ok (y37 + y38)) fun y41 => M.bind (M.bind (M.ok j29) fun y39 => M.bind (M.ok k33) fun y40 => mulM y39 y40) fun y42 => M.ok (y41 + y42)) fun y43 => M.ok (y43 % (55 : Int))) fun y45 => M.ok (y44 + y45)) fun y47 => getM y46 y47) fun number34 => M.bind (M.bind (M.bind (M.ok rows7) fun y49 => M.bind (M.ok j29) fun y50 => getM y49 y50) fun y51 => M.bind (M.ok k33) fun y52 => getS y51 y52) fun sign48 => M.bind (M.bind (M.bind (M.bind (M.bind (M.ok numbers1) fun y53 => M.bind (M.ok (3 : Int)) fun y54 => getM y53 y54) fun y55 => M.ok (y55 % (4 : Int))) fun y56 => M.bind (M.ok (1 : Int)) fun y57 => M.ok (decide (y56 = y57))) fun c72 => if c72 = true then M.ok true else M.bind (M.bind (M.bind (M.bind (M.ok numbers1) fun y58 => M.bind (M.ok (3 : Int)) fun y59 => getM y58 y59) fun y60 => M.ok (y60 % (4 : Int))) fun y61 => M.bind (M.ok (2 : Int)) fun y62 => M.ok (decide (y61 = y62))) fun c70 => if c70 = true then M.bind (M.bind (M.bind (M.ok number34) fun y63 => M.ok (y63 / (7 : Int))) fun y66 => M.bind (M.bind (M.ok wide2) fun y64 => M.bind (M.ok high3) fun y65 => mulM y64 y65) fun y67 => modM y66 y67) fun y68 => M.bind (M.ok (0 : Int)) fun y69 => M.ok (decide (y68 = y69)) else M.ok false) fun c74 => M.bind (if c74 = true then M.bind (M.bind (M.ok (tx "abcdef")) fun y79 => M.bind (M.bind (M.bind (M.ok number34) fun y76 => M.ok (y76 / (5 : Int))) fun y77 => M.bind (M.ok span4) fun y78 => modM y77 y78) fun y80 => getS y79 y80) fun sign75 => M.ok sign75 else M.ok sign48) fun (s81 : (Tx)) => M.bind (M.bind (M.ok s32) fun y83 => M.bind (M.ok s81) fun y84 => catS y83 y84) fun row82 => M.ok row82
def f_law_picture_l1 (numbers1 : (List Int)) (wide2 : Int) (high3 : Int) (span4 : Int) (rows7 : (List Tx)) (j29 : Int) : (Tx) → Int → M (Tx) := fun s32 k33 => M.bind (M.bind (M.bind (M.bind (M.bind (mulM j29 k33) fun y42 => M.ok ((((5 : Int) * k33) + ((11 : Int) * j29)) + y42)) fun y43 => M.ok (y43 % (55 : Int))) fun y45 => M.ok ((8 : Int) + y45)) fun y47 => getM numbers1 y47) fun number34 => M.bind (M.bind (getM rows7 j29) fun y51 => getS y51 k33) fun sign48 => M.bind (M.bind (M.bind (M.bind (getM numbers1 (3 : Int)) fun y55 => M.ok (y55 % (4 : Int))) fun y56 => M.ok (decide (y56 = (1 : Int)))) fun c73 => if c73 = true then M.ok true else M.bind (M.bind (M.bind (getM numbers1 (3 : Int)) fun y60 => M.ok (y60 % (4 : Int))) fun y61 => M.ok (decide (y61 = (2 : Int)))) fun c71 => if c71 = true then M.bind (M.bind (mulM wide2 high3) fun y67 => modM (number34 / (7 : Int)) y67) fun y68 => M.ok (decide (y68 = (0 : Int))) else M.ok false) fun c74 => M.bind (if c74 = true then M.bind (M.bind (modM (number34 / (5 : Int)) span4) fun y80 => getS (tx "abcdef") y80) fun sign75 => M.ok sign75 else M.ok sign48) fun (s81 : (Tx)) => M.bind (catS s32 s81) fun row82 => M.ok row82
theorem eq_f_law_picture_l1 (numbers1 : (List Int)) (wide2 : Int) (high3 : Int) (span4 : Int) (rows7 : (List Tx)) (j29 : Int) : r_f_law_picture_l1 numbers1 wide2 high3 span4 rows7 j29 = f_law_picture_l1 numbers1 wide2 high3 span4 rows7 j29 := by funext s32 k33; first | (simp only [r_f_law_picture_l1, f_law_picture_l1, M.bind_assoc, M.bok, c__law_bits, c__law_shows]; done) | (simp only [r_f_law_picture_l1, f_law_picture_l1, M.bind_assoc, M.bok, c__law_bits, c__law_shows]; rfl)
def r_f_law_picture_l2 (numbers1 : (List Int)) (wide2 : Int) (high3 : Int) (span4 : Int) (rows7 : (List Tx)) : ((List Tx)) → Int → M ((List Tx)) := fun s28 j29 => M.bind (M.ok (tx "")) fun row30 => M.bind (M.bind (M.ok wide2) fun y31 => rangeM 0 y31) fun xs85 => M.bind (forM (r_f_law_picture_l1 numbers1 wide2 high3 span4 rows7 j29) row30 xs85) fun (s86 : (Tx)) => M.bind (M.ok s86) fun y88 => M.bind (pushM s28 y88) fun made87 => M.ok made87
def f_law_picture_l2 (numbers1 : (List Int)) (wide2 : Int) (high3 : Int) (span4 : Int) (rows7 : (List Tx)) : ((List Tx)) → Int → M ((List Tx)) := fun s28 j29 => let row30 : Tx := (tx ""); M.bind (rangeM 0 wide2) fun xs85 => M.bind (forM (f_law_picture_l1 numbers1 wide2 high3 span4 rows7 j29) row30 xs85) fun (s86 : (Tx)) => M.bind (pushM s28 s86) fun made87 => M.ok made87
theorem eq_f_law_picture_l2 (numbers1 : (List Int)) (wide2 : Int) (high3 : Int) (span4 : Int) (rows7 : (List Tx)) : r_f_law_picture_l2 numbers1 wide2 high3 span4 rows7 = f_law_picture_l2 numbers1 wide2 high3 span4 rows7 := by funext s28 j29; first | (simp only [r_f_law_picture_l2, f_law_picture_l2, M.bind_assoc, M.bok, eq_f_law_picture_l1, c__law_bits, c__law_shows]; done) | (simp only [r_f_law_picture_l2, f_law_picture_l2, M.bind_assoc, M.bok, eq_f_law_picture_l1, c__law_bits, c__law_shows]; rfl)
def q__law_picture (numbers1 : (List Int)) (wide2 : Int) (high3 : Int) (span4 : Int) (warp5 : Tx) (weft6 : Tx) : M (List Tx) := M.bind (M.bind (M.bind (M.bind (M.bind (M.ok numbers1) fun y12 => M.bind (M.bind (M.ok wide2) fun y10 => M.bind (M.bind (M.ok high3) fun y8 => M.bind (M.ok ()) fun y9 => M.ok (y8, y9)) fun y11 => M.ok (y10, y11)) fun y13 => M.ok (y12, y13)) c__law_bits) fun y21 => M.bind (M.bind (M.ok warp5) fun y19 => M.bind (M.bind (M.ok weft6) fun y17 => M.bind (M.ok ()) fun y18 => M.ok (y17, y18)) fun y20 => M.ok (y19, y20)) fun y22 => M.ok (y21, y22)) c__law_shows) fun rows7 => M.bind (M.ok []) fun made26 => M.bind (M.bind (M.ok high3) fun y27 => rangeM 0 y27) fun xs89 => M.bind (forM (r_f_law_picture_l2 numbers1 wide2 high3 span4 rows7) made26 xs89) fun (s90 : ((List Tx))) => M.ok s90
def f_law_picture (numbers1 : (List Int)) (wide2 : Int) (high3 : Int) (span4 : Int) (warp5 : Tx) (weft6 : Tx) : M (List Tx) := M.bind (M.bind (f_law_bits numbers1 wide2 high3) fun y23 => f_law_shows y23 warp5 weft6) fun rows7 => let made26 : (List Tx) := []; M.bind (rangeM 0 high3) fun xs89 => M.bind (forM (f_law_picture_l2 numbers1 wide2 high3 span4 rows7) made26 xs89) fun (s90 : ((List Tx))) => M.ok s90
def r__law_picture (d : ((List Int) × Int × Int × Int × Tx × Tx × Unit)) : M (List Tx) := q__law_picture d.1 d.2.1 d.2.2.1 d.2.2.2.1 d.2.2.2.2.1 d.2.2.2.2.2.1
def c__law_picture (d : ((List Int) × Int × Int × Int × Tx × Tx × Unit)) : M (List Tx) := f_law_picture d.1 d.2.1 d.2.2.1 d.2.2.2.1 d.2.2.2.2.1 d.2.2.2.2.2.1
theorem eq__law_picture : r__law_picture = c__law_picture := by funext d; first | (simp only [r__law_picture, c__law_picture, q__law_picture, f_law_picture, M.bind_assoc, M.bok, eq_f_law_picture_l1, eq_f_law_picture_l2, c__law_bits, c__law_shows]; done) | (simp only [r__law_picture, c__law_picture, q__law_picture, f_law_picture, M.bind_assoc, M.bok, eq_f_law_picture_l1, eq_f_law_picture_l2, c__law_bits, c__law_shows]; rfl)
theorem bb__law_picture {p : Pr} (X : Facts p) {g : G} (ok : OkS p (defScope s__law_picture) N__law_picture V__law_picture G__law_picture 1 g) (hX : g.LX = List.replicate N__law_picture.length sAny) (numbers1 : (List Int)) (wide2 : Int) (high3 : Int) (span4 : Int) (warp5 : Tx) (weft6 : Tx) : EvB g [(sV false (tList tInt) numbers1), (sV false tInt wide2), (sV false tInt high3), (sV false tInt span4), (sV false tStr warp5), (sV false tStr weft6), sAny, sAny, sAny, sAny, sAny, sAny, sAny] (defBody s__law_picture) (fun r => .rtL false tStr r) (q__law_picture numbers1 wide2 high3 span4 warp5 weft6) := (evb_set ok (i := 6) (j := 6) rfl rfl (wkX hX rfl) .sh (ev_ofL (evl_call (md' := .sh) ok.toOk (fn__law_shows X) (by decide) (j := 1) rfl .sh (eva_cons (md := .sh) (ev_ofL (evl_call (md' := .sh) ok.toOk (fn__law_bits X) (by decide) (j := 0) rfl .sh (eva_cons (md := .sh) (ev_vsh ok.toOk (i := 0) (j := 0) rfl rfl rfl) (eva_cons (md := .sh) (ev_vsh ok.toOk (i := 1) (j := 1) rfl rfl rfl) (eva_cons (md := .sh) (ev_vsh ok.toOk (i := 2) (j := 2) rfl rfl rfl) eva_nil))))) (eva_cons (md := .sh) (ev_vsh ok.toOk (i := 4) (j := 4) rfl rfl rfl) (eva_cons (md := .sh) (ev_vsh ok.toOk (i := 5) (j := 5) rfl rfl rfl) eva_nil))))) fun rows7 => (evb_own ok (i := 7) (j := 7) rfl rfl (wkX hX rfl) .sh (evl_nil (md := .sh) (S := tStr)) fun made26 => (evb_for (LF := (fun (s28 : ((List Tx))) => [(sV false (tList tInt) numbers1), (sV false tInt wide2), (sV false tInt high3), (sV false tInt span4), (sV false tStr warp5), (sV false tStr weft6), (sV false (tList tStr) rows7), (sOwn false tStr s28), sAny, sAny, sAny, sAny, sAny])) (s0 := made26) ok (wkX hX rfl) (evi_range1 ok.toOk (j := 2) rfl X.g_range (ev_vsh ok.toOk (i := 2) (j := 2) rfl rfl rfl)) (Wk.s (Wk.s (Wk.s (Wk.s (Wk.s (Wk.s (Wk.s (Wk.s (Wk.s (Wk.s (Wk.s (Wk.s (Wk.s Wk.n))))))))))))) (fun _ => evg_name ok (i := 8) (j := 8) rfl rfl) (fun s28 j29 => (evb_set ok (i := 9) (j := 9) rfl rfl (wkX hX rfl) .sh (ev_str (md := .sh) (by decide +kernel)) fun row30 => (evb_for (LF := (fun (s32 : (Tx)) => [(sV false (tList tInt) numbers1), (sV false tInt wide2), (sV false tInt high3), (sV false tInt span4), (sV false tStr warp5), (sV false tStr weft6), (sV false (tList tStr) rows7), (sOwn false tStr s28), (sV false tInt j29), (sV false tStr s32), sAny, sAny, sAny])) (s0 := row30) ok (wkX hX rfl) (evi_range1 ok.toOk (j := 2) rfl X.g_range (ev_vsh ok.toOk (i := 1) (j := 1) rfl rfl rfl)) (Wk.s (Wk.s (Wk.s (Wk.s (Wk.s (Wk.s (Wk.s (Wk.s (Wk.s (Wk.s (Wk.s (Wk.s (Wk.s Wk.n))))))))))))) (fun _ => evg_name ok (i := 10) (j := 10) rfl rfl) (fun s32 k33 => (evb_set ok (i := 11) (j := 11) rfl rfl (wkX hX rfl) .sh (ev_ixQ ok.toOk sq_l (ev_vsh ok.toOk (i := 0) (j := 0) rfl rfl rfl) (ev_add (md' := .sh) ok.toOk (ev_int (md := .sh)) (ev_modC (md' := .sh) ok.toOk (by decide) (ev_add (md' := .sh) ok.toOk (ev_add (md' := .sh) ok.toOk (ev_mulL (md' := .sh) ok.toOk (by decide) (ev_int (md := .sh)) (ev_vsh ok.toOk (i := 10) (j := 10) rfl rfl rfl)) (ev_mulL (md' := .sh) ok.toOk (by decide) (ev_int (md := .sh)) (ev_vsh ok.toOk (i := 8) (j := 8) rfl rfl rfl))) (ev_mul (md' := .sh) ok.toOk (ev_vsh ok.toOk (i := 8) (j := 8) rfl rfl rfl) (ev_vsh ok.toOk (i := 10) (j := 10) rfl rfl rfl))) (ev_int (md := .sh))))) fun number34 => (evb_set ok (i := 12) (j := 12) rfl rfl (wkX hX rfl) .sh (ev_ixS (md' := .sh) ok.toOk (ev_ixQ ok.toOk sq_l (ev_vsh ok.toOk (i := 6) (j := 6) rfl rfl rfl) (ev_vsh ok.toOk (i := 8) (j := 8) rfl rfl rfl)) (ev_vsh ok.toOk (i := 10) (j := 10) rfl rfl rfl)) fun sign48 => (evb_if (LJ := (fun (s81 : (Tx)) => [(sV false (tList tInt) numbers1), (sV false tInt wide2), (sV false tInt high3), (sV false tInt span4), (sV false tStr warp5), (sV false tStr weft6), (sV false (tList tStr) rows7), (sOwn false tStr s28), (sV false tInt j29), (sV false tStr s32), (sV false tInt k33), (sV false tInt number34), (sV false tStr s81)])) (wkX hX rfl) (EvW.t (evw_or (evt_c ok.toOk (c_eq s_int) (ev_modC (md' := .sh) ok.toOk (by decide) (ev_ixQ ok.toOk sq_l (ev_vsh ok.toOk (i := 0) (j := 0) rfl rfl rfl) (ev_int (md := .sh))) (ev_int (md := .sh))) (ev_int (md := .sh))) (evw_or1 (EvW.t (evw_and (evt_c ok.toOk (c_eq s_int) (ev_modC (md' := .sh) ok.toOk (by decide) (ev_ixQ ok.toOk sq_l (ev_vsh ok.toOk (i := 0) (j := 0) rfl rfl rfl) (ev_int (md := .sh))) (ev_int (md := .sh))) (ev_int (md := .sh))) (evw_and1 (evt_c ok.toOk (c_eq s_int) (ev_mod (md' := .sh) ok.toOk (ev_divC (md' := .sh) ok.toOk (by decide) (by decide) (ev_vsh ok.toOk (i := 11) (j := 11) rfl rfl rfl) (ev_int (md := .sh))) (ev_mul (md' := .sh) ok.toOk (ev_vsh ok.toOk (i := 1) (j := 1) rfl rfl rfl) (ev_vsh ok.toOk (i := 2) (j := 2) rfl rfl rfl))) (ev_int (md := .sh))))))))) (evb_set ok (i := 12) (j := 12) rfl rfl (wkX hX rfl) .sh (ev_ixS (md' := .sh) ok.toOk (ev_str (md := .sh) (by decide +kernel)) (ev_mod (md' := .sh) ok.toOk (ev_divC (md' := .sh) ok.toOk (by decide) (by decide) (ev_vsh ok.toOk (i := 11) (j := 11) rfl rfl rfl) (ev_int (md := .sh))) (ev_vsh ok.toOk (i := 3) (j := 3) rfl rfl rfl))) fun sign75 => (evb_nx (by rfl) (Wk.s (Wk.s (Wk.s (Wk.s (Wk.s (Wk.s (Wk.s (Wk.s (Wk.s (Wk.s (Wk.s (Wk.s (Wk.s Wk.n))))))))))))))) (evb_nx (by rfl) (Wk.s (Wk.s (Wk.s (Wk.s (Wk.s (Wk.s (Wk.s (Wk.s (Wk.s (Wk.s (Wk.s (Wk.s (Wk.s Wk.n)))))))))))))) fun s81 => (evb_set ok (i := 9) (j := 9) rfl rfl (wkX hX rfl) .sh (ev_catS (md' := .sh) ok.toOk (ev_vsh ok.toOk (i := 9) (j := 9) rfl rfl rfl) (ev_vsh ok.toOk (i := 12) (j := 12) rfl rfl rfl)) fun row82 => (evb_go (by rfl) (Wk.s (Wk.s (Wk.s (Wk.s (Wk.s (Wk.s (Wk.s (Wk.s (Wk.s (Wk.s (Wk.a (Wk.a (Wk.a Wk.n))))))))))))))))))) fun s86 => (evb_append ok (wkX hX rfl) (i := 7) (j := 7) rfl rfl rfl .sh (ev_vsh ok.toOk (i := 9) (j := 9) rfl rfl rfl) fun made87 => (evb_go (by rfl) (Wk.s (Wk.s (Wk.s (Wk.s (Wk.s (Wk.s (Wk.s (Wk.s (Wk.a (Wk.a (Wk.s (Wk.s (Wk.s Wk.n)))))))))))))))))) fun s90 => (evb_retOwn ok.toOk (i := 7) (j := 7) rfl rfl rfl (.inl rfl) (by rfl)))))
theorem b__law_picture {p : Pr} (X : Facts p) : Body p s__law_picture N__law_picture V__law_picture G__law_picture 1 (fun (d : ((List Int) × Int × Int × Int × Tx × Tx × Unit)) => [(sV false (tList tInt) d.1), (sV false tInt d.2.1), (sV false tInt d.2.2.1), (sV false tInt d.2.2.2.1), (sV false tStr d.2.2.2.2.1), (sV false tStr d.2.2.2.2.2.1), sAny, sAny, sAny, sAny, sAny, sAny, sAny]) (fun r => .rtL false tStr r) r__law_picture := fun g ok hX d => bb__law_picture X ok hX d.1 d.2.1 d.2.2.1 d.2.2.2.1 d.2.2.2.2.1 d.2.2.2.2.2.1
theorem fn__law_picture {p : Pr} (X : Facts p) : Fn p 2 "_law_picture" ["numbers", "wide", "high", "span", "warp", "weft"] (spM p (aCons (tList tInt) (aCons tInt (aCons tInt (aCons tInt (aCons tStr (aCons tStr aNil)))))) (fun r => .rtL false tStr r) c__law_picture) := by
  obtain ⟨f, fd, hF, hm⟩ := X.d__law_picture
  exact ⟨f, fd, eq__law_picture ▸ fn_rtL (m := 7) hF sc__law_picture (.cons (.cons (.cons (.cons (.cons (.cons .nil)))))) rfl rfl (b__law_picture X), hm, hF.kp, hF.bindsN fun _ _ _ _ _ _ us hl => match us, hl with | [_, _, _, _, _, _], _ => rfl⟩
abbrev s__law_told : Stmt := (topS 21)
abbrev N__law_told : List Str := ["threads", "numbers", "first", "way", "span", "row", "k", "number", "sign"]
abbrev V__law_told : List Str := ["threads", "numbers", "first", "way", "span", "row", "k", "number", "sign"]
abbrev G__law_told : List Str := ["len", "range"]
theorem sc__law_told : Sc s__law_told N__law_told V__law_told ["threads", "numbers", "first", "way", "span"] G__law_told := ⟨⟨rfl, rfl, rfl, by decide +kernel, rfl, by decide +kernel, by decide +kernel⟩, by decide +kernel, by decide +kernel, by decide +kernel⟩
def r_f_law_told_l1 (threads1 : Tx) (numbers2 : (List Int)) (first3 : Int) (way4 : Int) (span5 : Int) : (Tx) → Int → M (Tx) := fun s9 k10 => M.bind (M.bind (M.bind (M.ok numbers2) fun y18 => M.bind (M.bind (M.ok (8 : Int)) fun y16 => M.bind (M.bind (M.bind (M.ok first3) fun y13 => M.bind (M.bind (M.ok k10) fun y12 => M.ok ((3 : Int) * y12)) fun y14 => M.ok (y13 + y14)) fun y15 => M.ok (y15 % (55 : Int))) fun y17 => M.ok (y16 + y17)) fun y19 => getM y18 y19) fun y20 => M.ok (y20 / (7 : Int))) fun number11 => M.bind (M.bind (M.ok threads1) fun y22 => M.bind (M.ok k10) fun y23 => getS y22 y23) fun sign21 => M.bind (M.ok ((decide (way4 = (0 : Int))) || ((decide (way4 < (3 : Int))) && (decide ((0 : Int) < (number11 % (3 : Int))))))) fun c33 => M.bind (if c33 = true then M.bind (M.ok (tx "?")) fun sign34 => M.ok sign34 else M.ok sign21) fun (s35 : (Tx)) => M.bind (M.ok ((decide (way4 = (2 : Int))) && (decide (((number11 / (3 : Int)) % (8 : Int)) = (1 : Int))))) fun c43 => M.bind (if c43 = true then M.bind (M.bind (M.ok (tx "abcdef")) fun y48 => M.bind (M.bind (M.bind (M.ok number11) fun y45 => M.ok (y45 / (24 : Int))) fun y46 => M.bind (M.ok span5) fun y47 => modM y46 y47) fun y49 => getS y48 y49) fun sign44 => M.ok sign44 else M.ok s35) fun (s50 : (Tx)) => M.bind (M.bind (M.ok s9) fun y52 => M.bind (M.ok s50) fun y53 => catS y52 y53) fun row51 => M.ok row51
def f_law_told_l1 (threads1 : Tx) (numbers2 : (List Int)) (first3 : Int) (way4 : Int) (span5 : Int) : (Tx) → Int → M (Tx) := fun s9 k10 => M.bind (M.bind (getM numbers2 ((8 : Int) + ((first3 + ((3 : Int) * k10)) % (55 : Int)))) fun y20 => M.ok (y20 / (7 : Int))) fun number11 => M.bind (getS threads1 k10) fun sign21 => M.bind (if ((decide (way4 = (0 : Int))) || ((decide (way4 < (3 : Int))) && (decide ((0 : Int) < (number11 % (3 : Int)))))) = true then let sign34 : Tx := (tx "?"); M.ok sign34 else M.ok sign21) fun (s35 : (Tx)) => M.bind (if ((decide (way4 = (2 : Int))) && (decide (((number11 / (3 : Int)) % (8 : Int)) = (1 : Int)))) = true then M.bind (M.bind (modM (number11 / (24 : Int)) span5) fun y49 => getS (tx "abcdef") y49) fun sign44 => M.ok sign44 else M.ok s35) fun (s50 : (Tx)) => M.bind (catS s9 s50) fun row51 => M.ok row51
theorem eq_f_law_told_l1 (threads1 : Tx) (numbers2 : (List Int)) (first3 : Int) (way4 : Int) (span5 : Int) : r_f_law_told_l1 threads1 numbers2 first3 way4 span5 = f_law_told_l1 threads1 numbers2 first3 way4 span5 := by funext s9 k10; first | (simp only [r_f_law_told_l1, f_law_told_l1, M.bind_assoc, M.bok]; done) | (simp only [r_f_law_told_l1, f_law_told_l1, M.bind_assoc, M.bok]; rfl)
def q__law_told (threads1 : Tx) (numbers2 : (List Int)) (first3 : Int) (way4 : Int) (span5 : Int) : M Tx := M.bind (M.ok (tx "")) fun row6 => M.bind (M.bind (M.bind (M.ok threads1) fun y7 => M.ok (y7.length : Int)) fun y8 => rangeM 0 y8) fun xs54 => M.bind (forM (r_f_law_told_l1 threads1 numbers2 first3 way4 span5) row6 xs54) fun (s55 : (Tx)) => M.ok s55
def f_law_told (threads1 : Tx) (numbers2 : (List Int)) (first3 : Int) (way4 : Int) (span5 : Int) : M Tx := let row6 : Tx := (tx ""); M.bind (rangeM 0 (threads1.length : Int)) fun xs54 => M.bind (forM (f_law_told_l1 threads1 numbers2 first3 way4 span5) row6 xs54) fun (s55 : (Tx)) => M.ok s55
def r__law_told (d : (Tx × (List Int) × Int × Int × Int × Unit)) : M Tx := q__law_told d.1 d.2.1 d.2.2.1 d.2.2.2.1 d.2.2.2.2.1
def c__law_told (d : (Tx × (List Int) × Int × Int × Int × Unit)) : M Tx := f_law_told d.1 d.2.1 d.2.2.1 d.2.2.2.1 d.2.2.2.2.1
theorem eq__law_told : r__law_told = c__law_told := by funext d; first | (simp only [r__law_told, c__law_told, q__law_told, f_law_told, M.bind_assoc, M.bok, eq_f_law_told_l1]; done) | (simp only [r__law_told, c__law_told, q__law_told, f_law_told, M.bind_assoc, M.bok, eq_f_law_told_l1]; rfl)
theorem bb__law_told {p : Pr} (X : Facts p) {g : G} (ok : OkS p (defScope s__law_told) N__law_told V__law_told G__law_told 0 g) (hX : g.LX = List.replicate N__law_told.length sAny) (threads1 : Tx) (numbers2 : (List Int)) (first3 : Int) (way4 : Int) (span5 : Int) : EvB g [(sV false tStr threads1), (sV false (tList tInt) numbers2), (sV false tInt first3), (sV false tInt way4), (sV false tInt span5), sAny, sAny, sAny, sAny] (defBody s__law_told) (fun r => .rt false tStr r) (q__law_told threads1 numbers2 first3 way4 span5) := (evb_set ok (i := 5) (j := 5) rfl rfl (wkX hX rfl) .sh (ev_str (md := .sh) (by decide +kernel)) fun row6 => (evb_for (LF := (fun (s9 : (Tx)) => [(sV false tStr threads1), (sV false (tList tInt) numbers2), (sV false tInt first3), (sV false tInt way4), (sV false tInt span5), (sV false tStr s9), sAny, sAny, sAny])) (s0 := row6) ok (wkX hX rfl) (evi_range1 ok.toOk (j := 1) rfl X.g_range (ev_lenS (md' := .sh) ok.toOk (j := 0) rfl X.g_len (ev_vsh ok.toOk (i := 0) (j := 0) rfl rfl rfl))) (Wk.s (Wk.s (Wk.s (Wk.s (Wk.s (Wk.s (Wk.s (Wk.s (Wk.s Wk.n))))))))) (fun _ => evg_name ok (i := 6) (j := 6) rfl rfl) (fun s9 k10 => (evb_set ok (i := 7) (j := 7) rfl rfl (wkX hX rfl) .sh (ev_divC (md' := .sh) ok.toOk (by decide) (by decide) (ev_ixQ ok.toOk sq_l (ev_vsh ok.toOk (i := 1) (j := 1) rfl rfl rfl) (ev_add (md' := .sh) ok.toOk (ev_int (md := .sh)) (ev_modC (md' := .sh) ok.toOk (by decide) (ev_add (md' := .sh) ok.toOk (ev_vsh ok.toOk (i := 2) (j := 2) rfl rfl rfl) (ev_mulL (md' := .sh) ok.toOk (by decide) (ev_int (md := .sh)) (ev_vsh ok.toOk (i := 6) (j := 6) rfl rfl rfl))) (ev_int (md := .sh))))) (ev_int (md := .sh))) fun number11 => (evb_set ok (i := 8) (j := 8) rfl rfl (wkX hX rfl) .sh (ev_ixS (md' := .sh) ok.toOk (ev_vsh ok.toOk (i := 0) (j := 0) rfl rfl rfl) (ev_vsh ok.toOk (i := 6) (j := 6) rfl rfl rfl)) fun sign21 => (evb_if (LJ := (fun (s35 : (Tx)) => [(sV false tStr threads1), (sV false (tList tInt) numbers2), (sV false tInt first3), (sV false tInt way4), (sV false tInt span5), (sV false tStr s9), (sV false tInt k10), (sV false tInt number11), (sV false tStr s35)])) (wkX hX rfl) (EvW.t (evw_orP (pureT (m := M.bind (M.ok way4) fun y24 => M.bind (M.ok (0 : Int)) fun y25 => M.ok (decide (y24 = y25))) (evt_c ok.toOk (c_eq s_int) (ev_vsh ok.toOk (i := 3) (j := 3) rfl rfl rfl) (ev_int (md := .sh))) rfl) (pureW (m := M.ok ((decide (way4 < (3 : Int))) && (decide ((0 : Int) < (number11 % (3 : Int)))))) (evw_or1 (EvW.t (evw_andP (pureT (m := M.bind (M.ok way4) fun y26 => M.bind (M.ok (3 : Int)) fun y27 => M.ok (decide (y26 < y27))) (evt_c ok.toOk c_lt (ev_vsh ok.toOk (i := 3) (j := 3) rfl rfl rfl) (ev_int (md := .sh))) rfl) (pureW (m := M.bind (M.bind (M.ok number11) fun y28 => M.ok (y28 % (3 : Int))) fun y29 => M.bind (M.ok (0 : Int)) fun y30 => M.ok (decide (y30 < y29))) (evw_and1 (evt_c ok.toOk c_gt (ev_modC (md' := .sh) ok.toOk (by decide) (ev_vsh ok.toOk (i := 7) (j := 7) rfl rfl rfl) (ev_int (md := .sh))) (ev_int (md := .sh)))) rfl)))) rfl))) (evb_set ok (i := 8) (j := 8) rfl rfl (wkX hX rfl) .sh (ev_str (md := .sh) (by decide +kernel)) fun sign34 => (evb_nx (by rfl) (Wk.s (Wk.s (Wk.s (Wk.s (Wk.s (Wk.s (Wk.s (Wk.s (Wk.s Wk.n))))))))))) (evb_nx (by rfl) (Wk.s (Wk.s (Wk.s (Wk.s (Wk.s (Wk.s (Wk.s (Wk.s (Wk.s Wk.n)))))))))) fun s35 => (evb_if (LJ := (fun (s50 : (Tx)) => [(sV false tStr threads1), (sV false (tList tInt) numbers2), (sV false tInt first3), (sV false tInt way4), (sV false tInt span5), (sV false tStr s9), (sV false tInt k10), (sV false tInt number11), (sV false tStr s50)])) (wkX hX rfl) (EvW.t (evw_andP (pureT (m := M.bind (M.ok way4) fun y36 => M.bind (M.ok (2 : Int)) fun y37 => M.ok (decide (y36 = y37))) (evt_c ok.toOk (c_eq s_int) (ev_vsh ok.toOk (i := 3) (j := 3) rfl rfl rfl) (ev_int (md := .sh))) rfl) (pureW (m := M.bind (M.bind (M.bind (M.ok number11) fun y38 => M.ok (y38 / (3 : Int))) fun y39 => M.ok (y39 % (8 : Int))) fun y40 => M.bind (M.ok (1 : Int)) fun y41 => M.ok (decide (y40 = y41))) (evw_and1 (evt_c ok.toOk (c_eq s_int) (ev_modC (md' := .sh) ok.toOk (by decide) (ev_divC (md' := .sh) ok.toOk (by decide) (by decide) (ev_vsh ok.toOk (i := 7) (j := 7) rfl rfl rfl) (ev_int (md := .sh))) (ev_int (md := .sh))) (ev_int (md := .sh)))) rfl))) (evb_set ok (i := 8) (j := 8) rfl rfl (wkX hX rfl) .sh (ev_ixS (md' := .sh) ok.toOk (ev_str (md := .sh) (by decide +kernel)) (ev_mod (md' := .sh) ok.toOk (ev_divC (md' := .sh) ok.toOk (by decide) (by decide) (ev_vsh ok.toOk (i := 7) (j := 7) rfl rfl rfl) (ev_int (md := .sh))) (ev_vsh ok.toOk (i := 4) (j := 4) rfl rfl rfl))) fun sign44 => (evb_nx (by rfl) (Wk.s (Wk.s (Wk.s (Wk.s (Wk.s (Wk.s (Wk.s (Wk.s (Wk.s Wk.n))))))))))) (evb_nx (by rfl) (Wk.s (Wk.s (Wk.s (Wk.s (Wk.s (Wk.s (Wk.s (Wk.s (Wk.s Wk.n)))))))))) fun s50 => (evb_set ok (i := 5) (j := 5) rfl rfl (wkX hX rfl) .sh (ev_catS (md' := .sh) ok.toOk (ev_vsh ok.toOk (i := 5) (j := 5) rfl rfl rfl) (ev_vsh ok.toOk (i := 8) (j := 8) rfl rfl rfl)) fun row51 => (evb_go (by rfl) (Wk.s (Wk.s (Wk.s (Wk.s (Wk.s (Wk.s (Wk.a (Wk.a (Wk.a Wk.n)))))))))))))))) fun s55 => (evb_ret (wkX hX rfl) .sh (by intro _; rfl) (ev_vsh ok.toOk (i := 5) (j := 5) rfl rfl rfl))))
theorem b__law_told {p : Pr} (X : Facts p) : Body p s__law_told N__law_told V__law_told G__law_told 0 (fun (d : (Tx × (List Int) × Int × Int × Int × Unit)) => [(sV false tStr d.1), (sV false (tList tInt) d.2.1), (sV false tInt d.2.2.1), (sV false tInt d.2.2.2.1), (sV false tInt d.2.2.2.2.1), sAny, sAny, sAny, sAny]) (fun r => .rt false tStr r) r__law_told := fun g ok hX d => bb__law_told X ok hX d.1 d.2.1 d.2.2.1 d.2.2.2.1 d.2.2.2.2.1
theorem fn__law_told {p : Pr} (X : Facts p) : Fn p 1 "_law_told" ["threads", "numbers", "first", "way", "span"] (spM p (aCons tStr (aCons (tList tInt) (aCons tInt (aCons tInt (aCons tInt aNil))))) (fun r => .rt false tStr r) c__law_told) := by
  obtain ⟨f, fd, hF, hm⟩ := X.d__law_told
  exact ⟨f, fd, eq__law_told ▸ fn_rt (m := 4) hF sc__law_told (.cons (.cons (.cons (.cons (.cons .nil))))) rfl rfl (b__law_told X), hm, hF.kp, hF.bindsN fun _ _ _ _ _ _ us hl => match us, hl with | [_, _, _, _, _], _ => rfl⟩
abbrev s_seen_picture : Stmt := (topS 6)
abbrev N_seen_picture : List Str := ["picture", "wide", "row", "sign"]
abbrev V_seen_picture : List Str := ["picture", "wide", "row", "sign"]
abbrev G_seen_picture : List Str := ["len", "COLOURS", "NoColour"]
theorem sc_seen_picture : Sc s_seen_picture N_seen_picture V_seen_picture ["picture"] G_seen_picture := ⟨⟨rfl, rfl, rfl, by decide +kernel, rfl, by decide +kernel, by decide +kernel⟩, by decide +kernel, by decide +kernel, by decide +kernel⟩
def r_f_seen_picture_l1  : Unit → Tx → M Unit := fun s15 sign16 => M.bind (M.bind (M.ok sign16) fun y17 => M.bind (M.ok (tx "abcdef")) fun y18 => notinSM y17 y18) fun c19 => if c19 = true then M.ex .noColour else M.ok ()
def f_seen_picture_l1  : Unit → Tx → M Unit := fun s15 sign16 => M.bind (notinSM sign16 (tx "abcdef")) fun c20 => if c20 = true then M.ex .noColour else M.ok ()
theorem eq_f_seen_picture_l1  : r_f_seen_picture_l1  = f_seen_picture_l1  := by funext s15 sign16; first | (simp only [r_f_seen_picture_l1, f_seen_picture_l1, M.bind_assoc, M.bok]; done) | (simp only [r_f_seen_picture_l1, f_seen_picture_l1, M.bind_assoc, M.bok]; rfl)
def r_f_seen_picture_l2 (wide4 : Int) : Unit → Tx → M Unit := fun s9 row10 => M.bind (M.bind (M.bind (M.ok row10) fun y11 => M.ok (y11.length : Int)) fun y12 => M.bind (M.ok wide4) fun y13 => M.ok (!decide (y12 = y13))) fun c23 => if c23 = true then M.ex .noColour else M.bind (M.bind (M.ok row10) fun y14 => M.ok (y14.map fun c => [c])) fun xs21 => M.bind (forM r_f_seen_picture_l1 () xs21) fun (s22 : Unit) => M.ok ()
def f_seen_picture_l2 (wide4 : Int) : Unit → Tx → M Unit := fun s9 row10 => if (!decide ((row10.length : Int) = wide4)) = true then M.ex .noColour else M.bind (forM f_seen_picture_l1 () (row10.map fun c => [c])) fun (s22 : Unit) => M.ok ()
theorem eq_f_seen_picture_l2 (wide4 : Int) : r_f_seen_picture_l2 wide4 = f_seen_picture_l2 wide4 := by funext s9 row10; first | (simp only [r_f_seen_picture_l2, f_seen_picture_l2, M.bind_assoc, M.bok, eq_f_seen_picture_l1]; done) | (simp only [r_f_seen_picture_l2, f_seen_picture_l2, M.bind_assoc, M.bok, eq_f_seen_picture_l1]; rfl)
def q_seen_picture (picture1 : (List Tx)) : M (Int × Int × Unit) := M.bind (M.bind (M.ok ((decide ((1 : Int) ≤ (picture1.length : Int))) && (decide ((picture1.length : Int) ≤ (40 : Int))))) fun y3 => M.ok (!y3)) fun c37 => if c37 = true then M.ex .noColour else M.bind (M.bind (M.bind (M.ok picture1) fun y5 => M.bind (M.ok (0 : Int)) fun y6 => getM y5 y6) fun y7 => M.ok (y7.length : Int)) fun wide4 => M.bind (M.bind (M.ok ((decide ((1 : Int) ≤ wide4)) && (decide (wide4 ≤ (40 : Int))))) fun y8 => M.ok (!y8)) fun c35 => if c35 = true then M.ex .noColour else M.bind (M.ok picture1) fun xs25 => M.bind (forM (r_f_seen_picture_l2 wide4) () xs25) fun (s26 : Unit) => (M.bind (M.ok wide4) fun y30 => M.bind (M.bind (M.bind (M.ok picture1) fun y27 => M.ok (y27.length : Int)) fun y28 => M.bind (M.ok ()) fun y29 => M.ok (y28, y29)) fun y31 => M.ok (y30, y31))
def f_seen_picture (picture1 : (List Tx)) : M (Int × Int × Unit) := if (!((decide ((1 : Int) ≤ (picture1.length : Int))) && (decide ((picture1.length : Int) ≤ (40 : Int))))) = true then M.ex .noColour else M.bind (M.bind (getM picture1 (0 : Int)) fun y7 => M.ok (y7.length : Int)) fun wide4 => if (!((decide ((1 : Int) ≤ wide4)) && (decide (wide4 ≤ (40 : Int))))) = true then M.ex .noColour else M.bind (forM (f_seen_picture_l2 wide4) () picture1) fun (s26 : Unit) => M.ok (wide4, (picture1.length : Int), ())
def r_seen_picture (d : ((List Tx) × Unit)) : M (Int × Int × Unit) := q_seen_picture d.1
def c_seen_picture (d : ((List Tx) × Unit)) : M (Int × Int × Unit) := f_seen_picture d.1
theorem eq_seen_picture : r_seen_picture = c_seen_picture := by funext d; first | (simp only [r_seen_picture, c_seen_picture, q_seen_picture, f_seen_picture, M.bind_assoc, M.bok, eq_f_seen_picture_l1, eq_f_seen_picture_l2]; done) | (simp only [r_seen_picture, c_seen_picture, q_seen_picture, f_seen_picture, M.bind_assoc, M.bok, eq_f_seen_picture_l1, eq_f_seen_picture_l2]; rfl)
theorem bb_seen_picture {p : Pr} (X : Facts p) {g : G} (ok : OkS p (defScope s_seen_picture) N_seen_picture V_seen_picture G_seen_picture 0 g) (hX : g.LX = List.replicate N_seen_picture.length sAny) (picture1 : (List Tx)) : EvB g [(sV false (tList tStr) picture1), sAny, sAny, sAny] (defBody s_seen_picture) (fun r => .rt false (tTup (aCons tInt (aCons tInt aNil))) r) (q_seen_picture picture1) := (evb_ifr ok (wkX hX rfl) X.x_NoColour (jj := 0) (j := 2) rfl (evt_not (evt_chainI ok.toOk ch_le ch_le (ev_int (md := .sh)) (ev_lenQ (md' := .sh) ok.toOk sq_l (j := 0) rfl X.g_len (ev_vsh ok.toOk (i := 0) (j := 0) rfl rfl rfl)) (ev_int (md := .sh)) rfl rfl rfl)) (evb_set ok (i := 1) (j := 1) rfl rfl (wkX hX rfl) .sh (ev_lenS (md' := .sh) ok.toOk (j := 0) rfl X.g_len (ev_ixQ ok.toOk sq_l (ev_vsh ok.toOk (i := 0) (j := 0) rfl rfl rfl) (ev_int (md := .sh)))) fun wide4 => (evb_ifr ok (wkX hX rfl) X.x_NoColour (jj := 0) (j := 2) rfl (evt_not (evt_chainI ok.toOk ch_le ch_le (ev_int (md := .sh)) (ev_vsh ok.toOk (i := 1) (j := 1) rfl rfl rfl) (ev_int (md := .sh)) rfl rfl rfl)) (evb_for (LF := (fun (s9 : Unit) => [(sV false (tList tStr) picture1), (sV false tInt wide4), sAny, sAny])) (s0 := ()) ok (wkX hX rfl) (evi_seq ok.toOk sq_l (ev_vsh ok.toOk (i := 0) (j := 0) rfl rfl rfl)) (Wk.s (Wk.s (Wk.s (Wk.s Wk.n)))) (fun _ => evg_name ok (i := 2) (j := 2) rfl rfl) (fun s9 row10 => (evb_ifr ok (wkX hX rfl) X.x_NoColour (jj := 0) (j := 2) rfl (evt_c ok.toOk (c_ne s_int) (ev_lenS (md' := .sh) ok.toOk (j := 0) rfl X.g_len (ev_vsh ok.toOk (i := 2) (j := 2) rfl rfl rfl)) (ev_vsh ok.toOk (i := 1) (j := 1) rfl rfl rfl)) (evb_for (LF := (fun (s15 : Unit) => [(sV false (tList tStr) picture1), (sV false tInt wide4), (sV false tStr row10), sAny])) (s0 := ()) ok (wkX hX rfl) (evi_str (ev_vsh ok.toOk (i := 2) (j := 2) rfl rfl rfl)) (Wk.s (Wk.s (Wk.s (Wk.s Wk.n)))) (fun _ => evg_name ok (i := 3) (j := 3) rfl rfl) (fun s15 sign16 => (evb_ifr ok (wkX hX rfl) X.x_NoColour (jj := 0) (j := 2) rfl (evt_notinS ok.toOk (ev_vsh ok.toOk (i := 3) (j := 3) rfl rfl rfl) (ev_gstr (md := .sh) ok.toOk (j := 1) rfl X.c_COLOURS (by decide +kernel))) (evb_go (by rfl) (Wk.s (Wk.s (Wk.s (Wk.a Wk.n))))))) fun s22 => (evb_go (by rfl) (Wk.s (Wk.s (Wk.a (Wk.s Wk.n)))))))) fun s26 => (evb_ret (wkX hX rfl) .sh (by intro _; rfl) (ev_tup (fun d vs R h => by rw [(lenS (lenS len0)) h]; decide) (eva_cons (ev_vsh ok.toOk (i := 1) (j := 1) rfl rfl rfl) (eva_cons (ev_lenQ (md' := .sh) ok.toOk sq_l (j := 0) rfl X.g_len (ev_vsh ok.toOk (i := 0) (j := 0) rfl rfl rfl)) eva_nil))))))))
theorem b_seen_picture {p : Pr} (X : Facts p) : Body p s_seen_picture N_seen_picture V_seen_picture G_seen_picture 0 (fun (d : ((List Tx) × Unit)) => [(sV false (tList tStr) d.1), sAny, sAny, sAny]) (fun r => .rt false (tTup (aCons tInt (aCons tInt aNil))) r) r_seen_picture := fun g ok hX d => bb_seen_picture X ok hX d.1
theorem fn_seen_picture {p : Pr} (X : Facts p) : Fn p 1 "seen_picture" ["picture"] (spM p (aCons (tList tStr) aNil) (fun r => .rt false (tTup (aCons tInt (aCons tInt aNil))) r) c_seen_picture) := by
  obtain ⟨f, fd, hF, hm⟩ := X.d_seen_picture
  exact ⟨f, fd, eq_seen_picture ▸ fn_rt (m := 3) hF sc_seen_picture (.cons .nil) rfl rfl (b_seen_picture X), hm, hF.kp, hF.bindsN fun _ _ _ _ _ _ us hl => match us, hl with | [_], _ => rfl⟩
abbrev s_seen_threads : Stmt := (topS 7)
abbrev N_seen_threads : List Str := ["threads", "many", "signs", "sign"]
abbrev V_seen_threads : List Str := ["threads", "many", "signs", "sign"]
abbrev G_seen_threads : List Str := ["len", "NoColour"]
theorem sc_seen_threads : Sc s_seen_threads N_seen_threads V_seen_threads ["threads", "many", "signs"] G_seen_threads := ⟨⟨rfl, rfl, rfl, by decide +kernel, rfl, by decide +kernel, by decide +kernel⟩, by decide +kernel, by decide +kernel, by decide +kernel⟩
def r_f_seen_threads_l1 (signs3 : Tx) : Unit → Tx → M Unit := fun s8 sign9 => M.bind (M.bind (M.ok sign9) fun y10 => M.bind (M.ok signs3) fun y11 => notinSM y10 y11) fun c12 => if c12 = true then M.ex .noColour else M.ok ()
def f_seen_threads_l1 (signs3 : Tx) : Unit → Tx → M Unit := fun s8 sign9 => M.bind (notinSM sign9 signs3) fun c13 => if c13 = true then M.ex .noColour else M.ok ()
theorem eq_f_seen_threads_l1 (signs3 : Tx) : r_f_seen_threads_l1 signs3 = f_seen_threads_l1 signs3 := by funext s8 sign9; first | (simp only [r_f_seen_threads_l1, f_seen_threads_l1, M.bind_assoc, M.bok]; done) | (simp only [r_f_seen_threads_l1, f_seen_threads_l1, M.bind_assoc, M.bok]; rfl)
def q_seen_threads (threads1 : Tx) (many2 : Int) (signs3 : Tx) : M Unit := M.bind (M.bind (M.bind (M.ok threads1) fun y4 => M.ok (y4.length : Int)) fun y5 => M.bind (M.ok many2) fun y6 => M.ok (!decide (y5 = y6))) fun c16 => if c16 = true then M.ex .noColour else M.bind (M.bind (M.ok threads1) fun y7 => M.ok (y7.map fun c => [c])) fun xs14 => M.bind (forM (r_f_seen_threads_l1 signs3) () xs14) fun (s15 : Unit) => M.ok ()
def f_seen_threads (threads1 : Tx) (many2 : Int) (signs3 : Tx) : M Unit := if (!decide ((threads1.length : Int) = many2)) = true then M.ex .noColour else M.bind (forM (f_seen_threads_l1 signs3) () (threads1.map fun c => [c])) fun (s15 : Unit) => M.ok ()
def r_seen_threads (d : (Tx × Int × Tx × Unit)) : M Unit := q_seen_threads d.1 d.2.1 d.2.2.1
def c_seen_threads (d : (Tx × Int × Tx × Unit)) : M Unit := f_seen_threads d.1 d.2.1 d.2.2.1
theorem eq_seen_threads : r_seen_threads = c_seen_threads := by funext d; first | (simp only [r_seen_threads, c_seen_threads, q_seen_threads, f_seen_threads, M.bind_assoc, M.bok, eq_f_seen_threads_l1]; done) | (simp only [r_seen_threads, c_seen_threads, q_seen_threads, f_seen_threads, M.bind_assoc, M.bok, eq_f_seen_threads_l1]; rfl)
theorem bb_seen_threads {p : Pr} (X : Facts p) {g : G} (ok : OkS p (defScope s_seen_threads) N_seen_threads V_seen_threads G_seen_threads 0 g) (hX : g.LX = List.replicate N_seen_threads.length sAny) (threads1 : Tx) (many2 : Int) (signs3 : Tx) : EvB g [(sV false tStr threads1), (sV false tInt many2), (sV false tStr signs3), sAny] (defBody s_seen_threads) (fun _ => .nx (List.replicate 4 sAny)) (q_seen_threads threads1 many2 signs3) := (evb_ifr ok (wkX hX rfl) X.x_NoColour (jj := 0) (j := 1) rfl (evt_c ok.toOk (c_ne s_int) (ev_lenS (md' := .sh) ok.toOk (j := 0) rfl X.g_len (ev_vsh ok.toOk (i := 0) (j := 0) rfl rfl rfl)) (ev_vsh ok.toOk (i := 1) (j := 1) rfl rfl rfl)) (evb_for (LF := (fun (s8 : Unit) => [(sV false tStr threads1), (sV false tInt many2), (sV false tStr signs3), sAny])) (s0 := ()) ok (wkX hX rfl) (evi_str (ev_vsh ok.toOk (i := 0) (j := 0) rfl rfl rfl)) (Wk.s (Wk.s (Wk.s (Wk.s Wk.n)))) (fun _ => evg_name ok (i := 3) (j := 3) rfl rfl) (fun s8 sign9 => (evb_ifr ok (wkX hX rfl) X.x_NoColour (jj := 0) (j := 1) rfl (evt_notinS ok.toOk (ev_vsh ok.toOk (i := 3) (j := 3) rfl rfl rfl) (ev_vsh ok.toOk (i := 2) (j := 2) rfl rfl rfl)) (evb_go (by rfl) (Wk.s (Wk.s (Wk.s (Wk.a Wk.n))))))) fun s15 => (evb_nx (by rfl) (Wk.a (Wk.a (Wk.a (Wk.s Wk.n)))))))
theorem b_seen_threads {p : Pr} (X : Facts p) : Body p s_seen_threads N_seen_threads V_seen_threads G_seen_threads 0 (fun (d : (Tx × Int × Tx × Unit)) => [(sV false tStr d.1), (sV false tInt d.2.1), (sV false tStr d.2.2.1), sAny]) (fun _ => .nx (List.replicate 4 sAny)) r_seen_threads := fun g ok hX d => bb_seen_threads X ok hX d.1 d.2.1 d.2.2.1
theorem fn_seen_threads {p : Pr} (X : Facts p) : Fn p 1 "seen_threads" ["threads", "many", "signs"] (spM p (aCons tStr (aCons tInt (aCons tStr aNil))) (fun r => .rt false tNone r) c_seen_threads) := by
  obtain ⟨f, fd, hF, hm⟩ := X.d_seen_threads
  exact ⟨f, fd, eq_seen_threads ▸ fn_nx (m := 1) hF sc_seen_threads (.cons (.cons (.cons .nil))) rfl rfl (b_seen_threads X), hm, hF.kp, hF.bindsN fun _ _ _ _ _ _ us hl => match us, hl with | [_, _, _], _ => rfl⟩
abbrev s_crossed_by : Stmt := (topS 10)
abbrev N_crossed_by : List Str := ["picture", "wide", "strand"]
abbrev V_crossed_by : List Str := ["picture", "wide", "strand"]
abbrev G_crossed_by : List Str := ["len", "list", "range"]
theorem sc_crossed_by : Sc s_crossed_by N_crossed_by V_crossed_by ["picture", "wide", "strand"] G_crossed_by := ⟨⟨rfl, rfl, rfl, by decide +kernel, rfl, by decide +kernel, by decide +kernel⟩, by decide +kernel, by decide +kernel, by decide +kernel⟩
def q_crossed_by (picture1 : (List Tx)) (wide2 : Int) (strand3 : Int) : M (List Int) := M.bind (M.bind (M.ok strand3) fun y4 => M.bind (M.ok wide2) fun y5 => M.ok (decide (y4 < y5))) fun c6 => if c6 = true then M.bind (M.ok wide2) fun y10 => M.bind (M.bind (M.ok wide2) fun y8 => M.bind (M.bind (M.ok picture1) fun y7 => M.ok (y7.length : Int)) fun y9 => M.ok (y8 + y9)) fun y11 => rangeL y10 y11 else M.bind (M.ok wide2) fun y13 => rangeL 0 y13
def f_crossed_by (picture1 : (List Tx)) (wide2 : Int) (strand3 : Int) : M (List Int) := if (decide (strand3 < wide2)) = true then rangeL wide2 (wide2 + (picture1.length : Int)) else rangeL 0 wide2
def r_crossed_by (d : ((List Tx) × Int × Int × Unit)) : M (List Int) := q_crossed_by d.1 d.2.1 d.2.2.1
def c_crossed_by (d : ((List Tx) × Int × Int × Unit)) : M (List Int) := f_crossed_by d.1 d.2.1 d.2.2.1
theorem eq_crossed_by : r_crossed_by = c_crossed_by := by funext d; first | (simp only [r_crossed_by, c_crossed_by, q_crossed_by, f_crossed_by, M.bind_assoc, M.bok]; done) | (simp only [r_crossed_by, c_crossed_by, q_crossed_by, f_crossed_by, M.bind_assoc, M.bok]; rfl)
theorem bb_crossed_by {p : Pr} (X : Facts p) {g : G} (ok : OkS p (defScope s_crossed_by) N_crossed_by V_crossed_by G_crossed_by 0 g) (hX : g.LX = List.replicate N_crossed_by.length sAny) (picture1 : (List Tx)) (wide2 : Int) (strand3 : Int) : EvB g [(sV false (tList tStr) picture1), (sV false tInt wide2), (sV false tInt strand3)] (defBody s_crossed_by) (fun r => .rtL false tInt r) (q_crossed_by picture1 wide2 strand3) := (evb_ifx (wkX hX rfl) (evt_c ok.toOk c_lt (ev_vsh ok.toOk (i := 2) (j := 2) rfl rfl rfl) (ev_vsh ok.toOk (i := 1) (j := 1) rfl rfl rfl)) (evb_retL (wkX hX rfl) .sh (by intro _; rfl) (evl_listRg2 (md' := .sh) ok.toOk (j := 1) rfl X.g_list (j2 := 2) rfl X.g_range (ev_vsh ok.toOk (i := 1) (j := 1) rfl rfl rfl) (ev_add (md' := .sh) ok.toOk (ev_vsh ok.toOk (i := 1) (j := 1) rfl rfl rfl) (ev_lenQ (md' := .sh) ok.toOk sq_l (j := 0) rfl X.g_len (ev_vsh ok.toOk (i := 0) (j := 0) rfl rfl rfl))))) (evb_retL (wkX hX rfl) .sh (by intro _; rfl) (evl_listRg1 (md' := .sh) ok.toOk (j := 1) rfl X.g_list (j2 := 2) rfl X.g_range (ev_vsh ok.toOk (i := 1) (j := 1) rfl rfl rfl))))
theorem b_crossed_by {p : Pr} (X : Facts p) : Body p s_crossed_by N_crossed_by V_crossed_by G_crossed_by 0 (fun (d : ((List Tx) × Int × Int × Unit)) => [(sV false (tList tStr) d.1), (sV false tInt d.2.1), (sV false tInt d.2.2.1)]) (fun r => .rtL false tInt r) r_crossed_by := fun g ok hX d => bb_crossed_by X ok hX d.1 d.2.1 d.2.2.1
theorem fn_crossed_by {p : Pr} (X : Facts p) : Fn p 1 "crossed_by" ["picture", "wide", "strand"] (spM p (aCons (tList tStr) (aCons tInt (aCons tInt aNil))) (fun r => .rtL false tInt r) c_crossed_by) := by
  obtain ⟨f, fd, hF, hm⟩ := X.d_crossed_by
  exact ⟨f, fd, eq_crossed_by ▸ fn_rtL (m := 0) hF sc_crossed_by (.cons (.cons (.cons .nil))) rfl rfl (b_crossed_by X), hm, hF.kp, hF.bindsN fun _ _ _ _ _ _ us hl => match us, hl with | [_, _, _], _ => rfl⟩
abbrev s_seen_at : Stmt := (topS 9)
abbrev N_seen_at : List Str := ["picture", "wide", "one", "other"]
abbrev V_seen_at : List Str := ["picture", "wide", "one", "other"]
abbrev G_seen_at : List Str := []
theorem sc_seen_at : Sc s_seen_at N_seen_at V_seen_at ["picture", "wide", "one", "other"] G_seen_at := ⟨⟨rfl, rfl, rfl, by decide +kernel, rfl, by decide +kernel, by decide +kernel⟩, by decide +kernel, by decide +kernel, by decide +kernel⟩
def q_seen_at (picture1 : (List Tx)) (wide2 : Int) (one3 : Int) (other4 : Int) : M Tx := M.bind (M.bind (M.ok one3) fun y5 => M.bind (M.ok wide2) fun y6 => M.ok (decide (y5 < y6))) fun c7 => if c7 = true then M.bind (M.bind (M.ok picture1) fun y10 => M.bind (M.bind (M.ok other4) fun y8 => M.bind (M.ok wide2) fun y9 => M.ok (y8 - y9)) fun y11 => getM y10 y11) fun y12 => M.bind (M.ok one3) fun y13 => getS y12 y13 else M.bind (M.bind (M.ok picture1) fun y17 => M.bind (M.bind (M.ok one3) fun y15 => M.bind (M.ok wide2) fun y16 => M.ok (y15 - y16)) fun y18 => getM y17 y18) fun y19 => M.bind (M.ok other4) fun y20 => getS y19 y20
def f_seen_at (picture1 : (List Tx)) (wide2 : Int) (one3 : Int) (other4 : Int) : M Tx := if (decide (one3 < wide2)) = true then M.bind (getM picture1 (other4 - wide2)) fun y12 => getS y12 one3 else M.bind (getM picture1 (one3 - wide2)) fun y19 => getS y19 other4
def r_seen_at (d : ((List Tx) × Int × Int × Int × Unit)) : M Tx := q_seen_at d.1 d.2.1 d.2.2.1 d.2.2.2.1
def c_seen_at (d : ((List Tx) × Int × Int × Int × Unit)) : M Tx := f_seen_at d.1 d.2.1 d.2.2.1 d.2.2.2.1
theorem eq_seen_at : r_seen_at = c_seen_at := by funext d; first | (simp only [r_seen_at, c_seen_at, q_seen_at, f_seen_at, M.bind_assoc, M.bok]; done) | (simp only [r_seen_at, c_seen_at, q_seen_at, f_seen_at, M.bind_assoc, M.bok]; rfl)
theorem bb_seen_at {p : Pr} (X : Facts p) {g : G} (ok : OkS p (defScope s_seen_at) N_seen_at V_seen_at G_seen_at 0 g) (hX : g.LX = List.replicate N_seen_at.length sAny) (picture1 : (List Tx)) (wide2 : Int) (one3 : Int) (other4 : Int) : EvB g [(sV false (tList tStr) picture1), (sV false tInt wide2), (sV false tInt one3), (sV false tInt other4)] (defBody s_seen_at) (fun r => .rt false tStr r) (q_seen_at picture1 wide2 one3 other4) := (evb_ifx (wkX hX rfl) (evt_c ok.toOk c_lt (ev_vsh ok.toOk (i := 2) (j := 2) rfl rfl rfl) (ev_vsh ok.toOk (i := 1) (j := 1) rfl rfl rfl)) (evb_ret (wkX hX rfl) .sh (by intro _; rfl) (ev_ixS (md' := .sh) ok.toOk (ev_ixQ ok.toOk sq_l (ev_vsh ok.toOk (i := 0) (j := 0) rfl rfl rfl) (ev_subt (md' := .sh) ok.toOk (ev_vsh ok.toOk (i := 3) (j := 3) rfl rfl rfl) (ev_vsh ok.toOk (i := 1) (j := 1) rfl rfl rfl))) (ev_vsh ok.toOk (i := 2) (j := 2) rfl rfl rfl))) (evb_ret (wkX hX rfl) .sh (by intro _; rfl) (ev_ixS (md' := .sh) ok.toOk (ev_ixQ ok.toOk sq_l (ev_vsh ok.toOk (i := 0) (j := 0) rfl rfl rfl) (ev_subt (md' := .sh) ok.toOk (ev_vsh ok.toOk (i := 2) (j := 2) rfl rfl rfl) (ev_vsh ok.toOk (i := 1) (j := 1) rfl rfl rfl))) (ev_vsh ok.toOk (i := 3) (j := 3) rfl rfl rfl))))
theorem b_seen_at {p : Pr} (X : Facts p) : Body p s_seen_at N_seen_at V_seen_at G_seen_at 0 (fun (d : ((List Tx) × Int × Int × Int × Unit)) => [(sV false (tList tStr) d.1), (sV false tInt d.2.1), (sV false tInt d.2.2.1), (sV false tInt d.2.2.2.1)]) (fun r => .rt false tStr r) r_seen_at := fun g ok hX d => bb_seen_at X ok hX d.1 d.2.1 d.2.2.1 d.2.2.2.1
theorem fn_seen_at {p : Pr} (X : Facts p) : Fn p 1 "seen_at" ["picture", "wide", "one", "other"] (spM p (aCons (tList tStr) (aCons tInt (aCons tInt (aCons tInt aNil)))) (fun r => .rt false tStr r) c_seen_at) := by
  obtain ⟨f, fd, hF, hm⟩ := X.d_seen_at
  exact ⟨f, fd, eq_seen_at ▸ fn_rt (m := 0) hF sc_seen_at (.cons (.cons (.cons (.cons .nil)))) rfl rfl (b_seen_at X), hm, hF.kp, hF.bindsN fun _ _ _ _ _ _ us hl => match us, hl with | [_, _, _, _], _ => rfl⟩
abbrev s_runs_amiss : Stmt := (topS 11)
abbrev N_runs_amiss : List Str := ["told", "start", "bearing"]
abbrev V_runs_amiss : List Str := ["told", "start", "bearing"]
abbrev G_runs_amiss : List Str := []
theorem sc_runs_amiss : Sc s_runs_amiss N_runs_amiss V_runs_amiss ["told", "start", "bearing"] G_runs_amiss := ⟨⟨rfl, rfl, rfl, by decide +kernel, rfl, by decide +kernel, by decide +kernel⟩, by decide +kernel, by decide +kernel, by decide +kernel⟩
def q_runs_amiss (told1 : Tx) (start2 : (Int × Tx × Unit)) (bearing3 : (Int × Tx × Unit)) : M Bool := M.bind (M.bind (M.bind (M.ok bearing3) fun y4 => M.ok y4.1) fun y6 => M.bind (M.bind (M.ok start2) fun y5 => M.ok y5.1) fun y7 => M.ok (decide (y6 = y7))) fun c8 => if c8 = true then M.bind (M.bind (M.ok bearing3) fun y9 => M.ok y9.2.1) fun y11 => M.bind (M.bind (M.ok start2) fun y10 => M.ok y10.2.1) fun y12 => M.ok (!decide (y11 = y12)) else M.bind (M.bind (M.bind (M.ok told1) fun y15 => M.bind (M.bind (M.ok bearing3) fun y14 => M.ok y14.1) fun y16 => getS y15 y16) fun y17 => M.bind (M.ok (tx "?")) fun y18 => M.ok (!decide (y17 = y18))) fun c25 => if c25 = true then M.bind (M.bind (M.ok told1) fun y20 => M.bind (M.bind (M.ok bearing3) fun y19 => M.ok y19.1) fun y21 => getS y20 y21) fun y23 => M.bind (M.bind (M.ok bearing3) fun y22 => M.ok y22.2.1) fun y24 => M.ok (!decide (y23 = y24)) else M.ok false
def f_runs_amiss (told1 : Tx) (start2 : (Int × Tx × Unit)) (bearing3 : (Int × Tx × Unit)) : M Bool := if (decide (bearing3.1 = start2.1)) = true then M.ok (!decide (bearing3.2.1 = start2.2.1)) else M.bind (M.bind (getS told1 bearing3.1) fun y17 => M.ok (!decide (y17 = (tx "?")))) fun c26 => if c26 = true then M.bind (getS told1 bearing3.1) fun y23 => M.ok (!decide (y23 = bearing3.2.1)) else M.ok false
def r_runs_amiss (d : (Tx × (Int × Tx × Unit) × (Int × Tx × Unit) × Unit)) : M Bool := q_runs_amiss d.1 d.2.1 d.2.2.1
def c_runs_amiss (d : (Tx × (Int × Tx × Unit) × (Int × Tx × Unit) × Unit)) : M Bool := f_runs_amiss d.1 d.2.1 d.2.2.1
theorem eq_runs_amiss : r_runs_amiss = c_runs_amiss := by funext d; first | (simp only [r_runs_amiss, c_runs_amiss, q_runs_amiss, f_runs_amiss, M.bind_assoc, M.bok]; done) | (simp only [r_runs_amiss, c_runs_amiss, q_runs_amiss, f_runs_amiss, M.bind_assoc, M.bok]; rfl)
theorem bb_runs_amiss {p : Pr} (X : Facts p) {g : G} (ok : OkS p (defScope s_runs_amiss) N_runs_amiss V_runs_amiss G_runs_amiss 0 g) (hX : g.LX = List.replicate N_runs_amiss.length sAny) (told1 : Tx) (start2 : (Int × Tx × Unit)) (bearing3 : (Int × Tx × Unit)) : EvB g [(sV false tStr told1), (sV false (tKy (aCons tInt (aCons tStr aNil)) kIS) start2), (sV false (tKy (aCons tInt (aCons tStr aNil)) kIS) bearing3)] (defBody s_runs_amiss) (fun r => .rt false tBool r) (q_runs_amiss told1 start2 bearing3) := (evb_ifx (wkX hX rfl) (evt_c ok.toOk (c_eq s_int) (ev_ixA (n := 0) ok.toOk .z (ev_kyT (ev_vsh ok.toOk (i := 2) (j := 2) rfl rfl rfl)) (ev_int (md := .sh))) (ev_ixA (n := 0) ok.toOk .z (ev_kyT (ev_vsh ok.toOk (i := 1) (j := 1) rfl rfl rfl)) (ev_int (md := .sh)))) (evb_ret (wkX hX rfl) .sh (by intro _; rfl) (ev_c (md' := .sh) ok.toOk (c_ne s_str) (ev_ixA (n := 1) ok.toOk (.s .z) (ev_kyT (ev_vsh ok.toOk (i := 2) (j := 2) rfl rfl rfl)) (ev_int (md := .sh))) (ev_ixA (n := 1) ok.toOk (.s .z) (ev_kyT (ev_vsh ok.toOk (i := 1) (j := 1) rfl rfl rfl)) (ev_int (md := .sh))))) (evb_ret (wkX hX rfl) .sh (by intro _; rfl) (ev_and (ev_c (md' := .sh) ok.toOk (c_ne s_str) (ev_ixS (md' := .sh) ok.toOk (ev_vsh ok.toOk (i := 0) (j := 0) rfl rfl rfl) (ev_ixA (n := 0) ok.toOk .z (ev_kyT (ev_vsh ok.toOk (i := 2) (j := 2) rfl rfl rfl)) (ev_int (md := .sh)))) (ev_str (md := .sh) (by decide +kernel))) (ev_one (ev_c (md' := .sh) ok.toOk (c_ne s_str) (ev_ixS (md' := .sh) ok.toOk (ev_vsh ok.toOk (i := 0) (j := 0) rfl rfl rfl) (ev_ixA (n := 0) ok.toOk .z (ev_kyT (ev_vsh ok.toOk (i := 2) (j := 2) rfl rfl rfl)) (ev_int (md := .sh)))) (ev_ixA (n := 1) ok.toOk (.s .z) (ev_kyT (ev_vsh ok.toOk (i := 2) (j := 2) rfl rfl rfl)) (ev_int (md := .sh))))))))
theorem b_runs_amiss {p : Pr} (X : Facts p) : Body p s_runs_amiss N_runs_amiss V_runs_amiss G_runs_amiss 0 (fun (d : (Tx × (Int × Tx × Unit) × (Int × Tx × Unit) × Unit)) => [(sV false tStr d.1), (sV false (tKy (aCons tInt (aCons tStr aNil)) kIS) d.2.1), (sV false (tKy (aCons tInt (aCons tStr aNil)) kIS) d.2.2.1)]) (fun r => .rt false tBool r) r_runs_amiss := fun g ok hX d => bb_runs_amiss X ok hX d.1 d.2.1 d.2.2.1
theorem fn_runs_amiss {p : Pr} (X : Facts p) : Fn p 1 "runs_amiss" ["told", "start", "bearing"] (spM p (aCons tStr (aCons (tKy (aCons tInt (aCons tStr aNil)) kIS) (aCons (tKy (aCons tInt (aCons tStr aNil)) kIS) aNil))) (fun r => .rt false tBool r) c_runs_amiss) := by
  obtain ⟨f, fd, hF, hm⟩ := X.d_runs_amiss
  exact ⟨f, fd, eq_runs_amiss ▸ fn_rt (m := 0) hF sc_runs_amiss (.cons (.cons (.cons .nil))) rfl rfl (b_runs_amiss X), hm, hF.kp, hF.bindsN fun _ _ _ _ _ _ us hl => match us, hl with | [_, _, _], _ => rfl⟩
abbrev s_spread_from : Stmt := (topS 12)
abbrev N_spread_from : List Str := ["picture", "told", "start", "wide", "came", "line", "at", "strand", "colour", "other", "seen", "bearing"]
abbrev V_spread_from : List Str := ["picture", "told", "start", "wide", "came", "line", "at", "strand", "colour", "other", "seen", "bearing"]
abbrev G_spread_from : List Str := ["len", "crossed_by", "seen_at", "runs_amiss"]
theorem sc_spread_from : Sc s_spread_from N_spread_from V_spread_from ["picture", "told", "start"] G_spread_from := ⟨⟨rfl, rfl, rfl, by decide +kernel, rfl, by decide +kernel, by decide +kernel⟩, by decide +kernel, by decide +kernel, by decide +kernel⟩
def r_f_spread_from_l1 (picture1 : (List Tx)) (told2 : Tx) (start3 : (Int × Tx × Unit)) (wide4 : Int) (s15 : ((List ((Int × Tx × Unit) × (Option (Int × Tx × Unit)))) × (List (Int × Tx × Unit)) × Int)) (t20 : (Int × Tx × Unit)) : ((List ((Int × Tx × Unit) × (Option (Int × Tx × Unit)))) × (List (Int × Tx × Unit))) → Int → M (Fl ((List ((Int × Tx × Unit) × (Option (Int × Tx × Unit)))) × (List (Int × Tx × Unit))) ((List ((Int × Tx × Unit) × (Option (Int × Tx × Unit)))) × (Option (Int × Tx × Unit)) × Unit)) := fun s30 other31 => M.bind (M.bind (M.bind (M.ok picture1) fun y39 => M.bind (M.bind (M.ok wide4) fun y37 => M.bind (M.bind (M.ok t20.1) fun y35 => M.bind (M.bind (M.ok other31) fun y33 => M.bind (M.ok ()) fun y34 => M.ok (y33, y34)) fun y36 => M.ok (y35, y36)) fun y38 => M.ok (y37, y38)) fun y40 => M.ok (y39, y40)) c_seen_at) fun seen32 => M.bind (M.bind (M.ok other31) fun y48 => M.bind (M.bind (M.ok seen32) fun y46 => M.bind (M.ok ()) fun y47 => M.ok (y46, y47)) fun y49 => M.ok (y48, y49)) fun bearing45 => M.bind (M.ok ((decide (seen32 = t20.2.1)) || (dgetT s30.1 bearing45).isSome)) fun c56 => if c56 = true then M.ok (Fl.nx (s30.1, s30.2)) else M.bind (M.bind (M.bind (M.ok s15.2.2) fun y57 => getM s30.2 y57) fun y58 => M.ok (some y58)) fun y59 => M.bind (M.ok bearing45) fun i60 => M.bind (dputTM s30.1 i60 y59) fun came61 => M.bind (M.bind (M.bind (M.ok told2) fun y66 => M.bind (M.bind (M.ok start3) fun y64 => M.bind (M.bind (M.ok bearing45) fun y62 => M.bind (M.ok ()) fun y63 => M.ok (y62, y63)) fun y65 => M.ok (y64, y65)) fun y67 => M.ok (y66, y67)) c_runs_amiss) fun c71 => if c71 = true then M.bind (M.bind (M.ok came61) fun y75 => M.bind (M.bind (M.bind (M.ok bearing45) fun y72 => M.ok (some y72)) fun y73 => M.bind (M.ok ()) fun y74 => M.ok (y73, y74)) fun y76 => M.ok (y75, y76)) fun r79 => M.ok (Fl.rt r79) else M.bind (M.ok bearing45) fun y81 => M.bind (pushM s30.2 y81) fun line80 => M.ok (Fl.nx (came61, line80))
def f_spread_from_l1 (picture1 : (List Tx)) (told2 : Tx) (start3 : (Int × Tx × Unit)) (wide4 : Int) (s15 : ((List ((Int × Tx × Unit) × (Option (Int × Tx × Unit)))) × (List (Int × Tx × Unit)) × Int)) (t20 : (Int × Tx × Unit)) : ((List ((Int × Tx × Unit) × (Option (Int × Tx × Unit)))) × (List (Int × Tx × Unit))) → Int → M (Fl ((List ((Int × Tx × Unit) × (Option (Int × Tx × Unit)))) × (List (Int × Tx × Unit))) ((List ((Int × Tx × Unit) × (Option (Int × Tx × Unit)))) × (Option (Int × Tx × Unit)) × Unit)) := fun s30 other31 => M.bind (f_seen_at picture1 wide4 t20.1 other31) fun seen32 => let bearing45 : (Int × Tx × Unit) := (other31, seen32, ()); if ((decide (seen32 = t20.2.1)) || (dgetT s30.1 bearing45).isSome) = true then M.ok (Fl.nx (s30.1, s30.2)) else M.bind (M.bind (getM s30.2 s15.2.2) fun y58 => M.ok (some y58)) fun y59 => M.bind (dputTM s30.1 bearing45 y59) fun came61 => M.bind (f_runs_amiss told2 start3 bearing45) fun c82 => if c82 = true then M.ok (Fl.rt (came61, (some bearing45), ())) else M.bind (pushM s30.2 bearing45) fun line80 => M.ok (Fl.nx (came61, line80))
theorem eq_f_spread_from_l1 (picture1 : (List Tx)) (told2 : Tx) (start3 : (Int × Tx × Unit)) (wide4 : Int) (s15 : ((List ((Int × Tx × Unit) × (Option (Int × Tx × Unit)))) × (List (Int × Tx × Unit)) × Int)) (t20 : (Int × Tx × Unit)) : r_f_spread_from_l1 picture1 told2 start3 wide4 s15 t20 = f_spread_from_l1 picture1 told2 start3 wide4 s15 t20 := by funext s30 other31; first | (simp only [r_f_spread_from_l1, f_spread_from_l1, M.bind_assoc, M.bok, c_crossed_by, c_runs_amiss, c_seen_at]; done) | (simp only [r_f_spread_from_l1, f_spread_from_l1, M.bind_assoc, M.bok, c_crossed_by, c_runs_amiss, c_seen_at]; rfl)
def r_f_spread_from_t2  : ((List ((Int × Tx × Unit) × (Option (Int × Tx × Unit)))) × (List (Int × Tx × Unit)) × Int) → M Bool := fun s15 => M.bind (M.ok s15.2.2) fun y17 => M.bind (M.bind (M.ok s15.2.1) fun y16 => M.ok (y16.length : Int)) fun y18 => M.ok (decide (y17 < y18))
def f_spread_from_t2  : ((List ((Int × Tx × Unit) × (Option (Int × Tx × Unit)))) × (List (Int × Tx × Unit)) × Int) → M Bool := fun s15 => M.ok (decide (s15.2.2 < (s15.2.1.length : Int)))
theorem eq_f_spread_from_t2  : r_f_spread_from_t2  = f_spread_from_t2  := by funext s15; first | (simp only [r_f_spread_from_t2, f_spread_from_t2, M.bind_assoc, M.bok, eq_f_spread_from_l1, c_crossed_by, c_runs_amiss, c_seen_at]; done) | (simp only [r_f_spread_from_t2, f_spread_from_t2, M.bind_assoc, M.bok, eq_f_spread_from_l1, c_crossed_by, c_runs_amiss, c_seen_at]; rfl)
def r_f_spread_from_w3 (picture1 : (List Tx)) (told2 : Tx) (start3 : (Int × Tx × Unit)) (wide4 : Int) : ((List ((Int × Tx × Unit) × (Option (Int × Tx × Unit)))) × (List (Int × Tx × Unit)) × Int) → M (Fl ((List ((Int × Tx × Unit) × (Option (Int × Tx × Unit)))) × (List (Int × Tx × Unit)) × Int) ((List ((Int × Tx × Unit) × (Option (Int × Tx × Unit)))) × (Option (Int × Tx × Unit)) × Unit)) := fun s15 => M.bind (M.bind (M.ok s15.2.2) fun y19 => getM s15.2.1 y19) fun t20 => M.bind (M.bind (M.bind (M.ok picture1) fun y25 => M.bind (M.bind (M.ok wide4) fun y23 => M.bind (M.bind (M.ok t20.1) fun y21 => M.bind (M.ok ()) fun y22 => M.ok (y21, y22)) fun y24 => M.ok (y23, y24)) fun y26 => M.ok (y25, y26)) c_crossed_by) fun xs84 => M.bind (forF (r_f_spread_from_l1 picture1 told2 start3 wide4 s15 t20) (s15.1, s15.2.1) xs84) (Fl.el (fun (s85 : ((List ((Int × Tx × Unit) × (Option (Int × Tx × Unit)))) × (List (Int × Tx × Unit)))) => M.bind (M.ok (1 : Int)) fun y86 => M.bind (M.ok (s15.2.2 + y86)) fun at87 => M.ok (Fl.nx (s85.1, s85.2, at87))) fun r88 => M.ok (Fl.rt r88))
def f_spread_from_w3 (picture1 : (List Tx)) (told2 : Tx) (start3 : (Int × Tx × Unit)) (wide4 : Int) : ((List ((Int × Tx × Unit) × (Option (Int × Tx × Unit)))) × (List (Int × Tx × Unit)) × Int) → M (Fl ((List ((Int × Tx × Unit) × (Option (Int × Tx × Unit)))) × (List (Int × Tx × Unit)) × Int) ((List ((Int × Tx × Unit) × (Option (Int × Tx × Unit)))) × (Option (Int × Tx × Unit)) × Unit)) := fun s15 => M.bind (getM s15.2.1 s15.2.2) fun t20 => M.bind (f_crossed_by picture1 wide4 t20.1) fun xs84 => M.bind (forF (f_spread_from_l1 picture1 told2 start3 wide4 s15 t20) (s15.1, s15.2.1) xs84) (Fl.el (fun (s85 : ((List ((Int × Tx × Unit) × (Option (Int × Tx × Unit)))) × (List (Int × Tx × Unit)))) => let at87 : Int := s15.2.2 + (1 : Int); M.ok (Fl.nx (s85.1, s85.2, at87))) fun r88 => M.ok (Fl.rt r88))
theorem eq_f_spread_from_w3 (picture1 : (List Tx)) (told2 : Tx) (start3 : (Int × Tx × Unit)) (wide4 : Int) : r_f_spread_from_w3 picture1 told2 start3 wide4 = f_spread_from_w3 picture1 told2 start3 wide4 := by funext s15; first | (simp only [r_f_spread_from_w3, f_spread_from_w3, M.bind_assoc, M.bok, eq_f_spread_from_l1, eq_f_spread_from_t2, c_crossed_by, c_runs_amiss, c_seen_at]; done) | (simp only [r_f_spread_from_w3, f_spread_from_w3, M.bind_assoc, M.bok, eq_f_spread_from_l1, eq_f_spread_from_t2, c_crossed_by, c_runs_amiss, c_seen_at]; rfl)
def q_spread_from (picture1 : (List Tx)) (told2 : Tx) (start3 : (Int × Tx × Unit)) : M ((List ((Int × Tx × Unit) × (Option (Int × Tx × Unit)))) × (Option (Int × Tx × Unit)) × Unit) := M.bind (M.bind (M.bind (M.ok picture1) fun y5 => M.bind (M.ok (0 : Int)) fun y6 => getM y5 y6) fun y7 => M.ok (y7.length : Int)) fun wide4 => M.bind (M.ok start3) fun i9 => M.bind (M.ok [(i9, none)]) fun (came8 : (List ((Int × Tx × Unit) × (Option (Int × Tx × Unit))))) => M.bind (M.bind (M.ok start3) fun y11 => M.bind (M.ok []) fun y12 => M.ok (y11 :: y12)) fun line10 => M.bind (M.ok (0 : Int)) fun at14 => M.bind (whileF r_f_spread_from_t2 (r_f_spread_from_w3 picture1 told2 start3 wide4) fuel (came8, line10, at14)) (Fl.el (fun (s89 : ((List ((Int × Tx × Unit) × (Option (Int × Tx × Unit)))) × (List (Int × Tx × Unit)) × Int)) => (M.bind (M.ok s89.1) fun y92 => M.bind (M.bind (M.ok none) fun y90 => M.bind (M.ok ()) fun y91 => M.ok (y90, y91)) fun y93 => M.ok (y92, y93))) fun r97 => M.ok r97)
def f_spread_from (picture1 : (List Tx)) (told2 : Tx) (start3 : (Int × Tx × Unit)) : M ((List ((Int × Tx × Unit) × (Option (Int × Tx × Unit)))) × (Option (Int × Tx × Unit)) × Unit) := M.bind (M.bind (getM picture1 (0 : Int)) fun y7 => M.ok (y7.length : Int)) fun wide4 => let came8 : (List ((Int × Tx × Unit) × (Option (Int × Tx × Unit)))) := [(start3, none)]; let line10 : (List (Int × Tx × Unit)) := [start3]; let at14 : Int := (0 : Int); M.bind (whileF f_spread_from_t2 (f_spread_from_w3 picture1 told2 start3 wide4) fuel (came8, line10, at14)) (Fl.el (fun (s89 : ((List ((Int × Tx × Unit) × (Option (Int × Tx × Unit)))) × (List (Int × Tx × Unit)) × Int)) => M.ok (s89.1, none, ())) fun r97 => M.ok r97)
def r_spread_from (d : ((List Tx) × Tx × (Int × Tx × Unit) × Unit)) : M ((List ((Int × Tx × Unit) × (Option (Int × Tx × Unit)))) × (Option (Int × Tx × Unit)) × Unit) := q_spread_from d.1 d.2.1 d.2.2.1
def c_spread_from (d : ((List Tx) × Tx × (Int × Tx × Unit) × Unit)) : M ((List ((Int × Tx × Unit) × (Option (Int × Tx × Unit)))) × (Option (Int × Tx × Unit)) × Unit) := f_spread_from d.1 d.2.1 d.2.2.1
theorem eq_spread_from : r_spread_from = c_spread_from := by funext d; first | (simp only [r_spread_from, c_spread_from, q_spread_from, f_spread_from, M.bind_assoc, M.bok, eq_f_spread_from_l1, eq_f_spread_from_t2, eq_f_spread_from_w3, c_crossed_by, c_runs_amiss, c_seen_at]; done) | (simp only [r_spread_from, c_spread_from, q_spread_from, f_spread_from, M.bind_assoc, M.bok, eq_f_spread_from_l1, eq_f_spread_from_t2, eq_f_spread_from_w3, c_crossed_by, c_runs_amiss, c_seen_at]; rfl)
theorem bb_spread_from {p : Pr} (X : Facts p) {g : G} (ok : OkS p (defScope s_spread_from) N_spread_from V_spread_from G_spread_from 1 g) (hX : g.LX = List.replicate N_spread_from.length sAny) (picture1 : (List Tx)) (told2 : Tx) (start3 : (Int × Tx × Unit)) : EvB g [(sV false (tList tStr) picture1), (sV false tStr told2), (sV false (tKy (aCons tInt (aCons tStr aNil)) kIS) start3), sAny, sAny, sAny, sAny, sAny, sAny, sAny, sAny, sAny] (defBody s_spread_from) (fun r => .rt false (tTup (aCons (tDicT (aCons tInt (aCons tStr aNil)) kIS (tOpt (tKy (aCons tInt (aCons tStr aNil)) kIS))) (aCons (tOpt (tKy (aCons tInt (aCons tStr aNil)) kIS)) aNil))) r) (q_spread_from picture1 told2 start3) := (evb_set ok (i := 3) (j := 3) rfl rfl (wkX hX rfl) .sh (ev_lenS (md' := .sh) ok.toOk (j := 0) rfl X.g_len (ev_ixQ ok.toOk sq_l (ev_vsh ok.toOk (i := 0) (j := 0) rfl rfl rfl) (ev_int (md := .sh)))) fun wide4 => (evb_newT1 (S := (tKy (aCons tInt (aCons tStr aNil)) kIS)) ky_IS ok (wkX hX rfl) (i := 4) (j := 4) rfl rfl (ev_vsh ok.toOk (i := 2) (j := 2) rfl rfl rfl) fun came8 => (evb_own ok (i := 5) (j := 5) rfl rfl (wkX hX rfl) .sh (evl_lstN (n := 1) (lnS ln0) (by decide) (evs_cons (ev_vsh ok.toOk (i := 2) (j := 2) rfl rfl rfl) evs_nil)) fun line10 => (evb_set ok (i := 6) (j := 6) rfl rfl (wkX hX rfl) .sh (ev_int (md := .sh)) fun at14 => (evb_whileF (LF := (fun (s15 : ((List ((Int × Tx × Unit) × (Option (Int × Tx × Unit)))) × (List (Int × Tx × Unit)) × Int)) => [(sV false (tList tStr) picture1), (sV false tStr told2), (sV false (tKy (aCons tInt (aCons tStr aNil)) kIS) start3), (sV false tInt wide4), (sDicT false (aCons tInt (aCons tStr aNil)) kIS (tOpt (tKy (aCons tInt (aCons tStr aNil)) kIS)) s15.1), (sOwn false (tKy (aCons tInt (aCons tStr aNil)) kIS) s15.2.1), (sV false tInt s15.2.2), sAny, sAny, sAny, sAny, sAny])) (s0 := (came8, line10, at14)) (dr := fun r97 => r97) ok (fun _ => wkX hX rfl) (Wk.s (Wk.s (Wk.s (Wk.s (Wk.s (Wk.s (Wk.s (Wk.s (Wk.s (Wk.s (Wk.s (Wk.s Wk.n)))))))))))) (fun s15 => (evt_borrow (i := 5) rfl (evt_c ok.toOk c_lt (ev_vsh ok.toOk (i := 6) (j := 6) rfl rfl rfl) (ev_lenQ (md' := .sh) ok.toOk sq_l (j := 0) rfl X.g_len (ev_vsh ok.toOk (i := 5) (j := 5) rfl rfl rfl))))) (fun s15 => (evb_asg ok (wkX hX rfl) (ev_kyT (ev_ixOwn ok.toOk (i := 5) (j := 5) rfl rfl rfl (ev_vsh ok.toOk (i := 6) (j := 6) rfl rfl rfl))) (evg_tup ok.toOk (lenS (lenS len0)) (evgs_cons (evg_name ok (i := 7) (j := 7) rfl rfl) fun _ => (evgs_cons (evg_name ok (i := 8) (j := 8) rfl rfl) fun _ => evgs_nil))) fun t20 => (evb_forF (LF := (fun (s30 : ((List ((Int × Tx × Unit) × (Option (Int × Tx × Unit)))) × (List (Int × Tx × Unit)))) => [(sV false (tList tStr) picture1), (sV false tStr told2), (sV false (tKy (aCons tInt (aCons tStr aNil)) kIS) start3), (sV false tInt wide4), (sDicT false (aCons tInt (aCons tStr aNil)) kIS (tOpt (tKy (aCons tInt (aCons tStr aNil)) kIS)) s30.1), (sOwn false (tKy (aCons tInt (aCons tStr aNil)) kIS) s30.2), (sV false tInt s15.2.2), (sV false tInt t20.1), (sV false tStr t20.2.1), sAny, sAny, sAny])) (s0 := (s15.1, s15.2.1)) (dr := fun r88 => Fl.rt r88) ok (wkX hX rfl) (evi_seq ok.toOk sq_l (ev_ofL (evl_call (md' := .sh) ok.toOk (fn_crossed_by X) (by decide) (j := 1) rfl .sh (eva_cons (md := .sh) (ev_vsh ok.toOk (i := 0) (j := 0) rfl rfl rfl) (eva_cons (md := .sh) (ev_vsh ok.toOk (i := 3) (j := 3) rfl rfl rfl) (eva_cons (md := .sh) (ev_vsh ok.toOk (i := 7) (j := 7) rfl rfl rfl) eva_nil)))))) (Wk.s (Wk.s (Wk.s (Wk.s (Wk.s (Wk.s (Wk.s (Wk.s (Wk.s (Wk.s (Wk.s (Wk.s Wk.n)))))))))))) (fun _ => evg_name ok (i := 9) (j := 9) rfl rfl) (fun s30 other31 => (evb_set ok (i := 10) (j := 10) rfl rfl (wkX hX rfl) .sh (ev_call (md' := .sh) ok.toOk (fn_seen_at X) (by decide) (j := 2) rfl .sh (eva_cons (md := .sh) (ev_vsh ok.toOk (i := 0) (j := 0) rfl rfl rfl) (eva_cons (md := .sh) (ev_vsh ok.toOk (i := 3) (j := 3) rfl rfl rfl) (eva_cons (md := .sh) (ev_vsh ok.toOk (i := 7) (j := 7) rfl rfl rfl) (eva_cons (md := .sh) (ev_vsh ok.toOk (i := 9) (j := 9) rfl rfl rfl) eva_nil))))) fun seen32 => (evb_set ok (i := 11) (j := 11) rfl rfl (wkX hX rfl) .sh (ev_ky ky_IS (fun d vs R h => by rw [(lenS (lenS len0)) h]; decide) (eva_cons (ev_vsh ok.toOk (i := 9) (j := 9) rfl rfl rfl) (eva_cons (ev_vsh ok.toOk (i := 10) (j := 10) rfl rfl rfl) eva_nil))) fun bearing45 => (evb_ifx (wkX hX rfl) (EvW.t (evw_orP (pureT (m := M.bind (M.ok seen32) fun y52 => M.bind (M.ok t20.2.1) fun y53 => M.ok (decide (y52 = y53))) (evt_c ok.toOk (c_eq s_str) (ev_vsh ok.toOk (i := 10) (j := 10) rfl rfl rfl) (ev_vsh ok.toOk (i := 8) (j := 8) rfl rfl rfl)) rfl) (pureW (m := M.bind (M.ok bearing45) fun y54 => M.ok ((dgetT s30.1 y54).isSome)) (evw_or1 (evt_inT ky_IS ok.toOk (i := 4) (j := 4) rfl rfl rfl (ev_vsh ok.toOk (i := 11) (j := 11) rfl rfl rfl))) rfl))) (evb_cont (L' := ((fun (s30 : ((List ((Int × Tx × Unit) × (Option (Int × Tx × Unit)))) × (List (Int × Tx × Unit)))) => [(sV false (tList tStr) picture1), (sV false tStr told2), (sV false (tKy (aCons tInt (aCons tStr aNil)) kIS) start3), (sV false tInt wide4), (sDicT false (aCons tInt (aCons tStr aNil)) kIS (tOpt (tKy (aCons tInt (aCons tStr aNil)) kIS)) s30.1), (sOwn false (tKy (aCons tInt (aCons tStr aNil)) kIS) s30.2), (sV false tInt s15.2.2), (sV false tInt t20.1), (sV false tStr t20.2.1), sAny, sAny, sAny]) (s30.1, s30.2))) (.inr rfl) (Wk.s (Wk.s (Wk.s (Wk.s (Wk.s (Wk.s (Wk.s (Wk.s (Wk.s (Wk.a (Wk.a (Wk.a Wk.n))))))))))))) (evb_putT ky_IS ok (wkX hX rfl) (i := 4) (j := 4) rfl rfl rfl (ev_some nn_ky (ev_ixOwn ok.toOk (i := 5) (j := 5) rfl rfl rfl (ev_vsh ok.toOk (i := 6) (j := 6) rfl rfl rfl))) (ev_vsh ok.toOk (i := 11) (j := 11) rfl rfl rfl) fun came61 => (evb_ifx (wkX hX rfl) (evt_of (ev_call (md' := .sh) ok.toOk (fn_runs_amiss X) (by decide) (j := 3) rfl .sh (eva_cons (md := .sh) (ev_vsh ok.toOk (i := 1) (j := 1) rfl rfl rfl) (eva_cons (md := .sh) (ev_vsh ok.toOk (i := 2) (j := 2) rfl rfl rfl) (eva_cons (md := .sh) (ev_vsh ok.toOk (i := 11) (j := 11) rfl rfl rfl) eva_nil))))) (evb_freezeT (i := 4) rfl (evb_retF (mk := fun r79 => Fl.rt r79) (wkX hX rfl) .sh (by intro _; rfl) (ev_tup (fun d vs R h => by rw [(lenS (lenS len0)) h]; decide) (eva_cons (ev_vsh ok.toOk (i := 4) (j := 4) rfl rfl rfl) (eva_cons (ev_some nn_ky (ev_vsh ok.toOk (i := 11) (j := 11) rfl rfl rfl)) eva_nil))))) (evb_append ok (wkX hX rfl) (i := 5) (j := 5) rfl rfl rfl .sh (ev_vsh ok.toOk (i := 11) (j := 11) rfl rfl rfl) fun line80 => (evb_go (by rfl) (Wk.s (Wk.s (Wk.s (Wk.s (Wk.s (Wk.s (Wk.s (Wk.s (Wk.s (Wk.a (Wk.a (Wk.a Wk.n)))))))))))))))))))) fun s85 => (evb_augN ok (wkX hX rfl) (i := 6) (j := 6) rfl rfl rfl (ev_int (md := .sh)) fun at87 => (evb_go (by rfl) (Wk.s (Wk.s (Wk.s (Wk.s (Wk.s (Wk.s (Wk.s (Wk.a (Wk.a (Wk.s (Wk.s (Wk.s Wk.n))))))))))))))))) fun s89 => (evb_freezeT (i := 4) rfl (evb_ret (wkX hX rfl) .sh (by intro _; rfl) (ev_tup (fun d vs R h => by rw [(lenS (lenS len0)) h]; decide) (eva_cons (ev_vsh ok.toOk (i := 4) (j := 4) rfl rfl rfl) (eva_cons (ev_optN (md := .sh)) eva_nil))))))))))
theorem b_spread_from {p : Pr} (X : Facts p) : Body p s_spread_from N_spread_from V_spread_from G_spread_from 1 (fun (d : ((List Tx) × Tx × (Int × Tx × Unit) × Unit)) => [(sV false (tList tStr) d.1), (sV false tStr d.2.1), (sV false (tKy (aCons tInt (aCons tStr aNil)) kIS) d.2.2.1), sAny, sAny, sAny, sAny, sAny, sAny, sAny, sAny, sAny]) (fun r => .rt false (tTup (aCons (tDicT (aCons tInt (aCons tStr aNil)) kIS (tOpt (tKy (aCons tInt (aCons tStr aNil)) kIS))) (aCons (tOpt (tKy (aCons tInt (aCons tStr aNil)) kIS)) aNil))) r) r_spread_from := fun g ok hX d => bb_spread_from X ok hX d.1 d.2.1 d.2.2.1
theorem fn_spread_from {p : Pr} (X : Facts p) : Fn p 2 "spread_from" ["picture", "told", "start"] (spM p (aCons (tList tStr) (aCons tStr (aCons (tKy (aCons tInt (aCons tStr aNil)) kIS) aNil))) (fun r => .rt false (tTup (aCons (tDicT (aCons tInt (aCons tStr aNil)) kIS (tOpt (tKy (aCons tInt (aCons tStr aNil)) kIS))) (aCons (tOpt (tKy (aCons tInt (aCons tStr aNil)) kIS)) aNil))) r) c_spread_from) := by
  obtain ⟨f, fd, hF, hm⟩ := X.d_spread_from
  exact ⟨f, fd, eq_spread_from ▸ fn_rt (m := 9) hF sc_spread_from (.cons (.cons (.cons .nil))) rfl rfl (b_spread_from X), hm, hF.kp, hF.bindsN fun _ _ _ _ _ _ us hl => match us, hl with | [_, _, _], _ => rfl⟩
abbrev s_chain_back : Stmt := (topS 13)
abbrev N_chain_back : List Str := ["came", "last", "chain"]
abbrev V_chain_back : List Str := ["came", "last", "chain"]
abbrev G_chain_back : List Str := ["list", "reversed"]
theorem sc_chain_back : Sc s_chain_back N_chain_back V_chain_back ["came", "last"] G_chain_back := ⟨⟨rfl, rfl, rfl, by decide +kernel, rfl, by decide +kernel, by decide +kernel⟩, by decide +kernel, by decide +kernel, by decide +kernel⟩
def r_f_chain_back_t1  : ((Option (Int × Tx × Unit)) × (List Int)) → M Bool := fun s4 => M.bind (M.ok s4.1) fun y5 => M.ok y5.isSome
def f_chain_back_t1  : ((Option (Int × Tx × Unit)) × (List Int)) → M Bool := fun s4 => M.ok s4.1.isSome
theorem eq_f_chain_back_t1  : r_f_chain_back_t1  = f_chain_back_t1  := by funext s4; first | (simp only [r_f_chain_back_t1, f_chain_back_t1, M.bind_assoc, M.bok]; done) | (simp only [r_f_chain_back_t1, f_chain_back_t1, M.bind_assoc, M.bok]; rfl)
def r_f_chain_back_w2 (came1 : (List ((Int × Tx × Unit) × (Option (Int × Tx × Unit))))) : ((Option (Int × Tx × Unit)) × (List Int)) → M ((Option (Int × Tx × Unit)) × (List Int)) := fun s4 => M.bind (M.bind (M.bind (M.ok s4.1) fun y7 => unM y7) fun y8 => M.ok y8.1) fun y9 => M.bind (pushM s4.2 y9) fun chain6 => M.bind (M.bind (M.ok came1) fun y12 => M.bind (M.bind (M.ok s4.1) fun y11 => unM y11) fun y13 => getTM y12 y13) fun last10 => M.ok (last10, chain6)
def f_chain_back_w2 (came1 : (List ((Int × Tx × Unit) × (Option (Int × Tx × Unit))))) : ((Option (Int × Tx × Unit)) × (List Int)) → M ((Option (Int × Tx × Unit)) × (List Int)) := fun s4 => M.bind (M.bind (unM s4.1) fun y8 => M.ok y8.1) fun y9 => M.bind (pushM s4.2 y9) fun chain6 => M.bind (M.bind (unM s4.1) fun y13 => getTM came1 y13) fun last10 => M.ok (last10, chain6)
theorem eq_f_chain_back_w2 (came1 : (List ((Int × Tx × Unit) × (Option (Int × Tx × Unit))))) : r_f_chain_back_w2 came1 = f_chain_back_w2 came1 := by funext s4; first | (simp only [r_f_chain_back_w2, f_chain_back_w2, M.bind_assoc, M.bok, eq_f_chain_back_t1]; done) | (simp only [r_f_chain_back_w2, f_chain_back_w2, M.bind_assoc, M.bok, eq_f_chain_back_t1]; rfl)
def q_chain_back (came1 : (List ((Int × Tx × Unit) × (Option (Int × Tx × Unit))))) (last2 : (Option (Int × Tx × Unit))) : M (List Int) := M.bind (M.ok []) fun chain3 => M.bind (whileM r_f_chain_back_t1 (r_f_chain_back_w2 came1) fuel (last2, chain3)) fun (s14 : ((Option (Int × Tx × Unit)) × (List Int))) => M.bind (M.bind (M.ok s14.2) fun y15 => M.ok y15.reverse) fun r16 => M.ok r16
def f_chain_back (came1 : (List ((Int × Tx × Unit) × (Option (Int × Tx × Unit))))) (last2 : (Option (Int × Tx × Unit))) : M (List Int) := let chain3 : (List Int) := []; M.bind (whileM f_chain_back_t1 (f_chain_back_w2 came1) fuel (last2, chain3)) fun (s14 : ((Option (Int × Tx × Unit)) × (List Int))) => M.ok s14.2.reverse
def r_chain_back (d : ((List ((Int × Tx × Unit) × (Option (Int × Tx × Unit)))) × (Option (Int × Tx × Unit)) × Unit)) : M (List Int) := q_chain_back d.1 d.2.1
def c_chain_back (d : ((List ((Int × Tx × Unit) × (Option (Int × Tx × Unit)))) × (Option (Int × Tx × Unit)) × Unit)) : M (List Int) := f_chain_back d.1 d.2.1
theorem eq_chain_back : r_chain_back = c_chain_back := by funext d; first | (simp only [r_chain_back, c_chain_back, q_chain_back, f_chain_back, M.bind_assoc, M.bok, eq_f_chain_back_t1, eq_f_chain_back_w2]; done) | (simp only [r_chain_back, c_chain_back, q_chain_back, f_chain_back, M.bind_assoc, M.bok, eq_f_chain_back_t1, eq_f_chain_back_w2]; rfl)
theorem bb_chain_back {p : Pr} (X : Facts p) {g : G} (ok : OkS p (defScope s_chain_back) N_chain_back V_chain_back G_chain_back 0 g) (hX : g.LX = List.replicate N_chain_back.length sAny) (came1 : (List ((Int × Tx × Unit) × (Option (Int × Tx × Unit))))) (last2 : (Option (Int × Tx × Unit))) : EvB g [(sV false (tDicT (aCons tInt (aCons tStr aNil)) kIS (tOpt (tKy (aCons tInt (aCons tStr aNil)) kIS))) came1), (sV false (tOpt (tKy (aCons tInt (aCons tStr aNil)) kIS)) last2), sAny] (defBody s_chain_back) (fun r => oOut (wL (wV tInt)) r) (q_chain_back came1 last2) := (evb_own ok (i := 2) (j := 2) rfl rfl (wkX hX rfl) .sh (evl_nil (md := .sh) (S := tInt)) fun chain3 => (evb_while (LF := (fun (s4 : ((Option (Int × Tx × Unit)) × (List Int))) => [(sV false (tDicT (aCons tInt (aCons tStr aNil)) kIS (tOpt (tKy (aCons tInt (aCons tStr aNil)) kIS))) came1), (sV false (tOpt (tKy (aCons tInt (aCons tStr aNil)) kIS)) s4.1), (sOwn false tInt s4.2)])) (s0 := (last2, chain3)) ok (fun _ => wkX hX rfl) (Wk.s (Wk.s (Wk.s Wk.n))) (fun s4 => (evt_notN ok.toOk (ev_vsh ok.toOk (i := 1) (j := 1) rfl rfl rfl))) (fun s4 => (evb_append ok (wkX hX rfl) (i := 2) (j := 2) rfl rfl rfl .sh (ev_ixA (n := 0) ok.toOk .z (ev_kyT (ev_un1 (ev_vsh ok.toOk (i := 1) (j := 1) rfl rfl rfl))) (ev_int (md := .sh))) fun chain6 => (evb_set ok (i := 1) (j := 1) rfl rfl (wkX hX rfl) .sh (ev_subTV ky_IS ok.toOk (ev_vsh ok.toOk (i := 0) (j := 0) rfl rfl rfl) (ev_un1 (ev_vsh ok.toOk (i := 1) (j := 1) rfl rfl rfl))) fun last10 => (evb_go (by rfl) (Wk.s (Wk.s (Wk.s Wk.n))))))) fun s14 => (evb_retR (mk := fun r16 => r16) (.inl (wkX hX rfl)) (by intro _; rfl) (evr_n (evn_l (evl_borrow (i := 2) (.inl flInt) rfl (evl_listRev (md := .sh) ok.toOk sq_l sqL_list (j := 0) rfl X.g_list (j2 := 1) rfl X.g_reversed (ev_vsh ok.toOk (i := 2) (j := 2) rfl rfl rfl))))))))
theorem b_chain_back {p : Pr} (X : Facts p) : Body p s_chain_back N_chain_back V_chain_back G_chain_back 0 (fun (d : ((List ((Int × Tx × Unit) × (Option (Int × Tx × Unit)))) × (Option (Int × Tx × Unit)) × Unit)) => [(sV false (tDicT (aCons tInt (aCons tStr aNil)) kIS (tOpt (tKy (aCons tInt (aCons tStr aNil)) kIS))) d.1), (sV false (tOpt (tKy (aCons tInt (aCons tStr aNil)) kIS)) d.2.1), sAny]) (fun r => oOut (wL (wV tInt)) r) r_chain_back := fun g ok hX d => bb_chain_back X ok hX d.1 d.2.1
theorem fn_chain_back {p : Pr} (X : Facts p) : Fn p 1 "chain_back" ["came", "last"] (spM p (aCons (tDicT (aCons tInt (aCons tStr aNil)) kIS (tOpt (tKy (aCons tInt (aCons tStr aNil)) kIS))) (aCons (tOpt (tKy (aCons tInt (aCons tStr aNil)) kIS)) aNil)) (fun r => oOut (wL (wV tInt)) r) c_chain_back) := by
  obtain ⟨f, fd, hF, hm⟩ := X.d_chain_back
  exact ⟨f, fd, eq_chain_back ▸ fn_rtN (m := 1) hF sc_chain_back (.cons (.cons .nil)) rfl rfl (b_chain_back X), hm, hF.kp, hF.bindsN fun _ _ _ _ _ _ us hl => match us, hl with | [_, _], _ => rfl⟩
abbrev s_first_colouring : Stmt := (topS 14)
abbrev N_first_colouring : List Str := ["picture", "warp", "weft", "wide", "high", "told", "bears", "strands", "strand", "chains", "colour", "came", "amiss", "bearing", "found"]
abbrev V_first_colouring : List Str := ["picture", "warp", "weft", "wide", "high", "told", "bears", "strands", "strand", "chains", "colour", "came", "amiss", "bearing", "found"]
abbrev G_first_colouring : List Str := ["seen_picture", "COLOURS", "seen_threads", "range", "spread_from", "chain_back"]
theorem sc_first_colouring : Sc s_first_colouring N_first_colouring V_first_colouring ["picture", "warp", "weft"] G_first_colouring := ⟨⟨rfl, rfl, rfl, by decide +kernel, rfl, by decide +kernel, by decide +kernel⟩, by decide +kernel, by decide +kernel, by decide +kernel⟩
def r_f_first_colouring_l1 (picture1 : (List Tx)) (told32 : Tx) (strand62 : Int) : ((List (Key × Tx)) × (List (Tx × (List Int) × Unit))) → Tx → M ((List (Key × Tx)) × (List (Tx × (List Int) × Unit))) := fun s65 colour66 => M.bind (M.bind (M.bind (M.ok strand62) fun y67 => M.ok ((dgetL s65.1 (.inl y67)).isSome)) fun c78 => if c78 = true then M.ok true else M.bind (M.bind (M.ok told32) fun y68 => M.bind (M.ok strand62) fun y69 => getS y68 y69) fun y76 => M.bind (M.bind (M.ok (tx "?")) fun y72 => M.bind (M.bind (M.ok colour66) fun y70 => M.bind (M.ok ()) fun y71 => M.ok (y70, y71)) fun y73 => M.ok (y72, y73)) fun y77 => M.ok (!memD y76 [y77.1, y77.2.1])) fun c80 => if c80 = true then M.ok (s65.1, s65.2) else M.bind (M.bind (M.bind (M.ok picture1) fun y91 => M.bind (M.bind (M.ok told32) fun y89 => M.bind (M.bind (M.bind (M.ok strand62) fun y83 => M.bind (M.bind (M.ok colour66) fun y81 => M.bind (M.ok ()) fun y82 => M.ok (y81, y82)) fun y84 => M.ok (y83, y84)) fun y87 => M.bind (M.ok ()) fun y88 => M.ok (y87, y88)) fun y90 => M.ok (y89, y90)) fun y92 => M.ok (y91, y92)) c_spread_from) fun t96 => M.bind (M.bind (M.ok t96.2.1) fun y97 => M.ok y97.isNone) fun c98 => if c98 = true then M.bind (keyed s65.1 t96.1) fun bears99 => M.ok (bears99, s65.2) else M.bind (M.bind (M.ok colour66) fun y109 => M.bind (M.bind (M.bind (M.bind (M.ok t96.1) fun y103 => M.bind (M.bind (M.ok t96.2.1) fun y101 => M.bind (M.ok ()) fun y102 => M.ok (y101, y102)) fun y104 => M.ok (y103, y104)) c_chain_back) fun y107 => M.bind (M.ok ()) fun y108 => M.ok (y107, y108)) fun y110 => M.ok (y109, y110)) fun y113 => M.bind (pushM s65.2 y113) fun chains100 => M.ok (s65.1, chains100)
def f_first_colouring_l1 (picture1 : (List Tx)) (told32 : Tx) (strand62 : Int) : ((List (Key × Tx)) × (List (Tx × (List Int) × Unit))) → Tx → M ((List (Key × Tx)) × (List (Tx × (List Int) × Unit))) := fun s65 colour66 => M.bind (if (dgetL s65.1 (.inl strand62)).isSome = true then M.ok true else M.bind (getS told32 strand62) fun y76 => M.ok (!memD y76 [((tx "?"), colour66, ()).1, ((tx "?"), colour66, ()).2.1])) fun c115 => if c115 = true then M.ok (s65.1, s65.2) else M.bind (f_spread_from picture1 told32 (strand62, colour66, ())) fun t96 => if t96.2.1.isNone = true then M.bind (keyed s65.1 t96.1) fun bears99 => M.ok (bears99, s65.2) else M.bind (M.bind (f_chain_back t96.1 t96.2.1) fun y112 => M.ok (colour66, y112, ())) fun y113 => M.bind (pushM s65.2 y113) fun chains100 => M.ok (s65.1, chains100)
theorem eq_f_first_colouring_l1 (picture1 : (List Tx)) (told32 : Tx) (strand62 : Int) : r_f_first_colouring_l1 picture1 told32 strand62 = f_first_colouring_l1 picture1 told32 strand62 := by funext s65 colour66; first | (simp only [r_f_first_colouring_l1, f_first_colouring_l1, M.bind_assoc, M.bok, c_chain_back, c_seen_picture, c_seen_threads, c_spread_from]; done) | (simp only [r_f_first_colouring_l1, f_first_colouring_l1, M.bind_assoc, M.bok, c_chain_back, c_seen_picture, c_seen_threads, c_spread_from]; rfl)
def r_f_first_colouring_l2 (picture1 : (List Tx)) (told32 : Tx) : ((List (Key × Tx))) → Int → M (Fl ((List (Key × Tx))) ((Tx × Int × (List (Tx × (List Int) × Unit)) × Unit) ⊕ (Tx × Tx × Tx × Unit))) := fun s61 strand62 => M.bind (M.ok []) fun chains63 => M.bind (M.bind (M.ok (tx "abcdef")) fun y64 => M.ok (y64.map fun c => [c])) fun xs116 => M.bind (forM (r_f_first_colouring_l1 picture1 told32 strand62) (s61, chains63) xs116) fun (s117 : ((List (Key × Tx)) × (List (Tx × (List Int) × Unit)))) => M.bind (M.bind (M.ok strand62) fun y118 => M.ok (!(dgetL s117.1 (.inl y118)).isSome)) fun c119 => if c119 = true then M.bind (M.bind (M.bind (M.ok (tx "none")) fun y124 => M.bind (M.bind (M.ok strand62) fun y122 => M.bind (M.bind (M.ok s117.2) fun y120 => M.bind (M.ok ()) fun y121 => M.ok (y120, y121)) fun y123 => M.ok (y122, y123)) fun y125 => M.ok (y124, y125)) fun y129 => M.ok (Sum.inl y129)) fun r130 => M.ok (Fl.rt r130) else M.ok (Fl.nx s117.1)
def f_first_colouring_l2 (picture1 : (List Tx)) (told32 : Tx) : ((List (Key × Tx))) → Int → M (Fl ((List (Key × Tx))) ((Tx × Int × (List (Tx × (List Int) × Unit)) × Unit) ⊕ (Tx × Tx × Tx × Unit))) := fun s61 strand62 => let chains63 : (List (Tx × (List Int) × Unit)) := []; M.bind (forM (f_first_colouring_l1 picture1 told32 strand62) (s61, chains63) ((tx "abcdef").map fun c => [c])) fun (s117 : ((List (Key × Tx)) × (List (Tx × (List Int) × Unit)))) => if (!(dgetL s117.1 (.inl strand62)).isSome) = true then M.ok (Fl.rt (Sum.inl ((tx "none"), strand62, s117.2, ()))) else M.ok (Fl.nx s117.1)
theorem eq_f_first_colouring_l2 (picture1 : (List Tx)) (told32 : Tx) : r_f_first_colouring_l2 picture1 told32 = f_first_colouring_l2 picture1 told32 := by funext s61 strand62; first | (simp only [r_f_first_colouring_l2, f_first_colouring_l2, M.bind_assoc, M.bok, eq_f_first_colouring_l1, c_chain_back, c_seen_picture, c_seen_threads, c_spread_from]; done) | (simp only [r_f_first_colouring_l2, f_first_colouring_l2, M.bind_assoc, M.bok, eq_f_first_colouring_l1, c_chain_back, c_seen_picture, c_seen_threads, c_spread_from]; rfl)
def q_first_colouring (picture1 : (List Tx)) (warp2 : Tx) (weft3 : Tx) : M ((Tx × Int × (List (Tx × (List Int) × Unit)) × Unit) ⊕ (Tx × Tx × Tx × Unit)) := M.bind (M.bind (M.bind (M.ok picture1) fun y4 => M.bind (M.ok ()) fun y5 => M.ok (y4, y5)) c_seen_picture) fun t7 => M.bind (M.bind (M.bind (M.ok warp2) fun y14 => M.bind (M.bind (M.ok t7.1) fun y12 => M.bind (M.bind (M.bind (M.ok (tx "abcdef")) fun y8 => M.bind (M.ok (tx "?")) fun y9 => catS y8 y9) fun y10 => M.bind (M.ok ()) fun y11 => M.ok (y10, y11)) fun y13 => M.ok (y12, y13)) fun y15 => M.ok (y14, y15)) c_seen_threads) fun u19 => M.bind (M.bind (M.bind (M.ok weft3) fun y26 => M.bind (M.bind (M.ok t7.2.1) fun y24 => M.bind (M.bind (M.bind (M.ok (tx "abcdef")) fun y20 => M.bind (M.ok (tx "?")) fun y21 => catS y20 y21) fun y22 => M.bind (M.ok ()) fun y23 => M.ok (y22, y23)) fun y25 => M.ok (y24, y25)) fun y27 => M.ok (y26, y27)) c_seen_threads) fun u31 => M.bind (M.bind (M.ok warp2) fun y33 => M.bind (M.ok weft3) fun y34 => catS y33 y34) fun told32 => M.bind (M.ok ([] : (List (Key × Tx)))) fun bears35 => M.bind (M.bind (M.bind (M.bind (M.ok t7.1) fun y37 => M.bind (M.ok t7.2.1) fun y38 => M.ok (y37 + y38)) fun y39 => rangeM 0 y39) fun xs47 => compM (fun strand40 => M.bind (M.bind (M.bind (M.ok told32) fun y41 => M.bind (M.ok strand40) fun y42 => getS y41 y42) fun y43 => M.bind (M.ok (tx "?")) fun y44 => M.ok (!decide (y43 = y44))) fun c45 => if c45 = true then M.bind (M.ok strand40) fun y46 => M.ok (some y46) else M.ok none) xs47) fun strands36 => M.bind (M.bind (M.bind (M.bind (M.ok t7.1) fun y49 => M.bind (M.ok t7.2.1) fun y50 => M.ok (y49 + y50)) fun y51 => rangeM 0 y51) fun xs59 => compM (fun strand52 => M.bind (M.bind (M.bind (M.ok told32) fun y53 => M.bind (M.ok strand52) fun y54 => getS y53 y54) fun y55 => M.bind (M.ok (tx "?")) fun y56 => M.ok (decide (y55 = y56))) fun c57 => if c57 = true then M.bind (M.ok strand52) fun y58 => M.ok (some y58) else M.ok none) xs59) fun y60 => M.bind (catL strands36 y60) fun strands48 => M.bind (M.ok strands48) fun xs132 => M.bind (forF (r_f_first_colouring_l2 picture1 told32) bears35 xs132) (Fl.el (fun (s133 : ((List (Key × Tx)))) => M.bind (M.bind (M.ok (tx "")) fun y143 => M.bind (M.bind (M.bind (M.bind (M.ok t7.1) fun y135 => M.bind (M.ok t7.2.1) fun y136 => M.ok (y135 + y136)) fun y137 => rangeM 0 y137) fun xs142 => compM (fun strand138 => M.bind (M.ok true) fun c140 => if c140 = true then M.bind (M.bind (M.ok strand138) fun y139 => getDM s133 (.inl y139)) fun y141 => M.ok (some y141) else M.ok none) xs142) fun y144 => joinM y143 y144) fun found134 => M.bind (M.bind (M.bind (M.ok (tx "threads")) fun y157 => M.bind (M.bind (M.bind (M.ok found134) fun y146 => M.bind (M.ok (none : Option Int)) fun y147 => M.bind (M.bind (M.ok t7.1) fun y145 => M.ok (some y145)) fun y148 => M.ok (cutL y146 y147 y148)) fun y155 => M.bind (M.bind (M.bind (M.ok found134) fun y150 => M.bind (M.bind (M.ok t7.1) fun y149 => M.ok (some y149)) fun y151 => M.bind (M.ok (none : Option Int)) fun y152 => M.ok (cutL y150 y151 y152)) fun y153 => M.bind (M.ok ()) fun y154 => M.ok (y153, y154)) fun y156 => M.ok (y155, y156)) fun y158 => M.ok (y157, y158)) fun y162 => M.ok (Sum.inr y162)) fun r163 => M.ok r163) fun r164 => M.ok r164)
def f_first_colouring (picture1 : (List Tx)) (warp2 : Tx) (weft3 : Tx) : M ((Tx × Int × (List (Tx × (List Int) × Unit)) × Unit) ⊕ (Tx × Tx × Tx × Unit)) := M.bind (f_seen_picture picture1) fun t7 => M.bind (M.bind (catS (tx "abcdef") (tx "?")) fun y18 => f_seen_threads warp2 t7.1 y18) fun u19 => M.bind (M.bind (catS (tx "abcdef") (tx "?")) fun y30 => f_seen_threads weft3 t7.2.1 y30) fun u31 => M.bind (catS warp2 weft3) fun told32 => let bears35 : (List (Key × Tx)) := []; M.bind (M.bind (rangeM 0 (t7.1 + t7.2.1)) fun xs47 => compM (fun strand40 => M.bind (M.bind (getS told32 strand40) fun y43 => M.ok (!decide (y43 = (tx "?")))) fun c45 => if c45 = true then M.ok (some strand40) else M.ok none) xs47) fun strands36 => M.bind (M.bind (rangeM 0 (t7.1 + t7.2.1)) fun xs59 => compM (fun strand52 => M.bind (M.bind (getS told32 strand52) fun y55 => M.ok (decide (y55 = (tx "?")))) fun c57 => if c57 = true then M.ok (some strand52) else M.ok none) xs59) fun y60 => M.bind (catL strands36 y60) fun strands48 => M.bind (forF (f_first_colouring_l2 picture1 told32) bears35 strands48) (Fl.el (fun (s133 : ((List (Key × Tx)))) => M.bind (M.bind (M.bind (rangeM 0 (t7.1 + t7.2.1)) fun xs142 => compM (fun strand138 => M.bind (getDM s133 (.inl strand138)) fun y141 => M.ok (some y141)) xs142) fun y144 => joinM (tx "") y144) fun found134 => M.ok (Sum.inr ((tx "threads"), (cutL found134 none (some t7.1)), (cutL found134 (some t7.1) none), ()))) fun r164 => M.ok r164)
def r_first_colouring (d : ((List Tx) × Tx × Tx × Unit)) : M ((Tx × Int × (List (Tx × (List Int) × Unit)) × Unit) ⊕ (Tx × Tx × Tx × Unit)) := q_first_colouring d.1 d.2.1 d.2.2.1
def c_first_colouring (d : ((List Tx) × Tx × Tx × Unit)) : M ((Tx × Int × (List (Tx × (List Int) × Unit)) × Unit) ⊕ (Tx × Tx × Tx × Unit)) := f_first_colouring d.1 d.2.1 d.2.2.1
theorem eq_first_colouring : r_first_colouring = c_first_colouring := by funext d; first | (simp only [r_first_colouring, c_first_colouring, q_first_colouring, f_first_colouring, M.bind_assoc, M.bok, eq_f_first_colouring_l1, eq_f_first_colouring_l2, c_chain_back, c_seen_picture, c_seen_threads, c_spread_from]; done) | (simp only [r_first_colouring, c_first_colouring, q_first_colouring, f_first_colouring, M.bind_assoc, M.bok, eq_f_first_colouring_l1, eq_f_first_colouring_l2, c_chain_back, c_seen_picture, c_seen_threads, c_spread_from]; rfl)
theorem bb_first_colouring {p : Pr} (X : Facts p) {g : G} (ok : OkS p (defScope s_first_colouring) N_first_colouring V_first_colouring G_first_colouring 2 g) (hX : g.LX = List.replicate N_first_colouring.length sAny) (picture1 : (List Tx)) (warp2 : Tx) (weft3 : Tx) : EvB g [(sV false (tList tStr) picture1), (sV false tStr warp2), (sV false tStr weft3), sAny, sAny, sAny, sAny, sAny, sAny, sAny, sAny, sAny, sAny, sAny, sAny] (defBody s_first_colouring) (fun r => oOut (wSum (wTup (waCons (wV tStr) (waCons (wV tInt) (waCons (wL (wTup (waCons (wV tStr) (waCons (wL (wV tInt)) waNil)))) waNil)))) (wV (tTup (aCons tStr (aCons tStr (aCons tStr aNil)))))) r) (q_first_colouring picture1 warp2 weft3) := (evb_asg ok (wkX hX rfl) (ev_call (md' := .sh) ok.toOk (fn_seen_picture X) (by decide) (j := 0) rfl .sh (eva_cons (md := .sh) (ev_vsh ok.toOk (i := 0) (j := 0) rfl rfl rfl) eva_nil)) (evg_tup ok.toOk (lenS (lenS len0)) (evgs_cons (evg_name ok (i := 3) (j := 3) rfl rfl) fun _ => (evgs_cons (evg_name ok (i := 4) (j := 4) rfl rfl) fun _ => evgs_nil))) fun t7 => (evb_expr (wkX hX rfl) (ev_call (md' := .sh) ok.toOk (fn_seen_threads X) (by decide) (j := 2) rfl .sh (eva_cons (md := .sh) (ev_vsh ok.toOk (i := 1) (j := 1) rfl rfl rfl) (eva_cons (md := .sh) (ev_vsh ok.toOk (i := 3) (j := 3) rfl rfl rfl) (eva_cons (md := .sh) (ev_catS (md' := .sh) ok.toOk (ev_gstr (md := .sh) ok.toOk (j := 1) rfl X.c_COLOURS (by decide +kernel)) (ev_str (md := .sh) (by decide +kernel))) eva_nil)))) fun u19 => (evb_expr (wkX hX rfl) (ev_call (md' := .sh) ok.toOk (fn_seen_threads X) (by decide) (j := 2) rfl .sh (eva_cons (md := .sh) (ev_vsh ok.toOk (i := 2) (j := 2) rfl rfl rfl) (eva_cons (md := .sh) (ev_vsh ok.toOk (i := 4) (j := 4) rfl rfl rfl) (eva_cons (md := .sh) (ev_catS (md' := .sh) ok.toOk (ev_gstr (md := .sh) ok.toOk (j := 1) rfl X.c_COLOURS (by decide +kernel)) (ev_str (md := .sh) (by decide +kernel))) eva_nil)))) fun u31 => (evb_set ok (i := 5) (j := 5) rfl rfl (wkX hX rfl) .sh (ev_catS (md' := .sh) ok.toOk (ev_vsh ok.toOk (i := 1) (j := 1) rfl rfl rfl) (ev_vsh ok.toOk (i := 2) (j := 2) rfl rfl rfl)) fun told32 => (evb_newD (S := tStr) ok (i := 6) (j := 6) rfl rfl fun bears35 => (evb_ownC (md := .sh) (VV' := ["told", "strand"]) (GG' := []) (i := 8) (i2 := 7) ok rfl (wkX hX rfl) .sh (by decide +kernel) (by rfl) (by decide +kernel) (evi_range1 ok.toOk (j := 3) rfl X.g_range (ev_add (md' := .sh) ok.toOk (ev_vsh ok.toOk (i := 3) (j := 3) rfl rfl rfl) (ev_vsh ok.toOk (i := 4) (j := 4) rfl rfl rfl))) rfl rfl no_any (by decide +kernel) (by decide +kernel) (by decide +kernel) (by decide +kernel) (fun g' okc strand40 => (evpts_one (evt_c okc (c_ne s_str) (ev_ixS (md' := .sh) okc (ev_vsh okc (i := 5) (j := 0) rfl rfl rfl) (ev_vsh okc (i := 8) (j := 1) rfl rfl rfl)) (ev_str (md := .sh) (by decide +kernel))))) (fun g' okc strand40 => (ev_vsh okc (i := 8) (j := 1) rfl rfl rfl)) fun strands36 => (evb_extend ok (wkX hX rfl) (i := 7) (j := 7) rfl rfl rfl .sh (ev_ofL (evl_lc (md := .sh) (VV' := ["told", "strand"]) (GG' := []) (i := 8) ok.toOk (evi_range1 ok.toOk (j := 3) rfl X.g_range (ev_add (md' := .sh) ok.toOk (ev_vsh ok.toOk (i := 3) (j := 3) rfl rfl rfl) (ev_vsh ok.toOk (i := 4) (j := 4) rfl rfl rfl))) rfl rfl no_any (by decide +kernel) (by decide +kernel) (by decide +kernel) (by decide +kernel) (fun g' okc strand52 => (evpts_one (evt_c okc (c_eq s_str) (ev_ixS (md' := .sh) okc (ev_vsh okc (i := 5) (j := 0) rfl rfl rfl) (ev_vsh okc (i := 8) (j := 1) rfl rfl rfl)) (ev_str (md := .sh) (by decide +kernel))))) (fun g' okc strand52 => (ev_vsh okc (i := 8) (j := 1) rfl rfl rfl)))) fun strands48 => (evb_freeze (i := 7) rfl (evb_forF (LF := (fun (s61 : ((List (Key × Tx)))) => [(sV false (tList tStr) picture1), (sV false tStr warp2), (sV false tStr weft3), (sV false tInt t7.1), (sV false tInt t7.2.1), (sV false tStr told32), (sDict false tStr s61), (sV false (tList tInt) strands48), sAny, sAny, sAny, sAny, sAny, sAny, sAny])) (s0 := bears35) (dr := fun r164 => r164) ok (wkX hX rfl) (evi_seq ok.toOk sq_l (ev_vsh ok.toOk (i := 7) (j := 7) rfl rfl rfl)) (Wk.s (Wk.s (Wk.s (Wk.s (Wk.s (Wk.s (Wk.s (Wk.s (Wk.s (Wk.s (Wk.s (Wk.s (Wk.s (Wk.s (Wk.s Wk.n))))))))))))))) (fun _ => evg_name ok (i := 8) (j := 8) rfl rfl) (fun s61 strand62 => (evb_setN ok (i := 9) (j := 9) rfl rfl (.inl (wkX hX rfl)) evn_lnil fun chains63 => (evb_for (LF := (fun (s65 : ((List (Key × Tx)) × (List (Tx × (List Int) × Unit)))) => [(sV false (tList tStr) picture1), (sV false tStr warp2), (sV false tStr weft3), (sV false tInt t7.1), (sV false tInt t7.2.1), (sV false tStr told32), (sDict false tStr s65.1), (sV false (tList tInt) strands48), (sV false tInt strand62), (sO (wL (wTup (waCons (wV tStr) (waCons (wL (wV tInt)) waNil)))) s65.2), sAny, sAny, sAny, sAny, sAny])) (s0 := (s61, chains63)) ok (wkX hX rfl) (evi_str (ev_gstr (md := .sh) ok.toOk (j := 1) rfl X.c_COLOURS (by decide +kernel))) (Wk.s (Wk.s (Wk.s (Wk.s (Wk.s (Wk.s (Wk.s (Wk.s (Wk.s (Wk.s (Wk.s (Wk.s (Wk.s (Wk.s (Wk.s Wk.n))))))))))))))) (fun _ => evg_name ok (i := 10) (j := 10) rfl rfl) (fun s65 colour66 => (evb_ifx (wkX hX rfl) (EvW.t (evw_or (evt_inOwn ok.toOk (i := 6) (j := 6) rfl rfl rfl (ev_vsh ok.toOk (i := 8) (j := 8) rfl rfl rfl)) (evw_or1 (evt_c ok.toOk (c_notinT ok.toOk.K f_str (homS (homS hom0))) (ev_ixS (md' := .sh) ok.toOk (ev_vsh ok.toOk (i := 5) (j := 5) rfl rfl rfl) (ev_vsh ok.toOk (i := 8) (j := 8) rfl rfl rfl)) (ev_tup (fun d vs R h => by rw [(lenS (lenS len0)) h]; decide) (eva_cons (ev_str (md := .sh) (by decide +kernel)) (eva_cons (ev_vsh ok.toOk (i := 10) (j := 10) rfl rfl rfl) eva_nil))))))) (evb_cont (L' := ((fun (s65 : ((List (Key × Tx)) × (List (Tx × (List Int) × Unit)))) => [(sV false (tList tStr) picture1), (sV false tStr warp2), (sV false tStr weft3), (sV false tInt t7.1), (sV false tInt t7.2.1), (sV false tStr told32), (sDict false tStr s65.1), (sV false (tList tInt) strands48), (sV false tInt strand62), (sO (wL (wTup (waCons (wV tStr) (waCons (wL (wV tInt)) waNil)))) s65.2), sAny, sAny, sAny, sAny, sAny]) (s65.1, s65.2))) (.inr rfl) (Wk.s (Wk.s (Wk.s (Wk.s (Wk.s (Wk.s (Wk.s (Wk.s (Wk.s (Wk.s (Wk.a (Wk.s (Wk.s (Wk.s (Wk.s Wk.n)))))))))))))))) (evb_asg ok (wkX hX rfl) (ev_call (md' := .sh) ok.toOk (fn_spread_from X) (by decide) (j := 4) rfl .sh (eva_cons (md := .sh) (ev_vsh ok.toOk (i := 0) (j := 0) rfl rfl rfl) (eva_cons (md := .sh) (ev_vsh ok.toOk (i := 5) (j := 5) rfl rfl rfl) (eva_cons (md := .sh) (ev_ky ky_IS (fun d vs R h => by rw [(lenS (lenS len0)) h]; decide) (eva_cons (ev_vsh ok.toOk (i := 8) (j := 8) rfl rfl rfl) (eva_cons (ev_vsh ok.toOk (i := 10) (j := 10) rfl rfl rfl) eva_nil))) eva_nil)))) (evg_tup ok.toOk (lenS (lenS len0)) (evgs_cons (evg_name ok (i := 11) (j := 11) rfl rfl) fun _ => (evgs_cons (evg_name ok (i := 12) (j := 12) rfl rfl) fun _ => evgs_nil))) fun t96 => (evb_ifl (wkX hX rfl) (evt_isN ok.toOk (ev_vsh ok.toOk (i := 12) (j := 12) rfl rfl rfl)) (evb_forKD ok flStr (Wk.s (Wk.s (Wk.s (Wk.s (Wk.s (Wk.s (Wk.s (Wk.s (Wk.s (Wk.s (Wk.s (Wk.s (Wk.s (Wk.s (Wk.s Wk.n))))))))))))))) (ix := 13) (jx := 13) (ic := 11) (jc := 11) (id := 6) (jd := 6) rfl rfl rfl rfl rfl rfl rfl rfl rfl (by decide) (by decide) fun bears99 => (evb_go (by rfl) (Wk.s (Wk.s (Wk.s (Wk.s (Wk.s (Wk.s (Wk.s (Wk.s (Wk.s (Wk.s (Wk.a (Wk.a (Wk.a (Wk.s (Wk.s Wk.n))))))))))))))))) (evb_nAppend ok (i := 9) (j := 9) rfl rfl rfl (wkX hX rfl) (evn_r (evr_tup (lenWl (n := 2) (by decide) (lenWS (lenWS @lenW0))) (evra_cons ok.toOk (evr_n (evn_v (ev_vsh ok.toOk (i := 10) (j := 10) rfl rfl rfl))) (fun g okr => (evra_cons okr (evr_n (evn_call okr (fn_chain_back X) (by decide) (j := 5) rfl (eva_cons (md := .sh) (ev_vsh okr (i := 11) (j := 11) rfl rfl rfl) (eva_cons (md := .sh) (ev_vsh okr (i := 12) (j := 12) rfl rfl rfl) eva_nil)))) (fun g okr => evra_nil) (by decide))) (by decide)))) fun chains100 => (evb_go (by rfl) (Wk.s (Wk.s (Wk.s (Wk.s (Wk.s (Wk.s (Wk.s (Wk.s (Wk.s (Wk.s (Wk.a (Wk.a (Wk.a (Wk.s (Wk.s Wk.n))))))))))))))))))))) fun s117 => (evb_ifl (wkX hX rfl) (evt_notinOwn ok.toOk (i := 6) (j := 6) rfl rfl rfl (ev_vsh ok.toOk (i := 8) (j := 8) rfl rfl rfl)) (evb_retR (mk := fun r130 => Fl.rt r130) (.inl (wkX hX rfl)) (by intro _; rfl) (evr_inl (evr_tup (lenWl (n := 3) (by decide) (lenWS (lenWS (lenWS @lenW0)))) (evra_cons ok.toOk (evr_n (evn_v (ev_str (md := .sh) (by decide +kernel)))) (fun g okr => (evra_cons okr (evr_n (evn_v (ev_vsh okr (i := 8) (j := 8) rfl rfl rfl))) (fun g okr => (evra_cons okr (evr_mv okr (i := 9) (j := 9) rfl rfl rfl) (fun g okr => evra_nil) (by decide))) (by decide))) (by decide))))) (evb_go (by rfl) (Wk.s (Wk.s (Wk.s (Wk.s (Wk.s (Wk.s (Wk.s (Wk.s (Wk.a (Wk.a (Wk.s (Wk.s (Wk.s (Wk.s (Wk.s Wk.n)))))))))))))))))))) fun s133 => (evb_set ok (i := 14) (j := 14) rfl rfl (wkX hX rfl) .sh (ev_join (md' := .sh) ok.toOk (ev_str (md := .sh) (by decide +kernel)) (ev_ofL (evl_lc (md := .sh) (VV' := ["strand", "bears"]) (GG' := []) (i := 8) ok.toOk (evi_range1 ok.toOk (j := 3) rfl X.g_range (ev_add (md' := .sh) ok.toOk (ev_vsh ok.toOk (i := 3) (j := 3) rfl rfl rfl) (ev_vsh ok.toOk (i := 4) (j := 4) rfl rfl rfl))) rfl rfl no_any (by decide +kernel) (by decide +kernel) (by decide +kernel) (by decide +kernel) (fun g' okc strand138 => evpts_nil) (fun g' okc strand138 => (ev_subOwn okc (i := 6) (j := 1) rfl rfl rfl (ev_vsh okc (i := 8) (j := 0) rfl rfl rfl)))))) fun found134 => (evb_retR (mk := fun r163 => r163) (.inl (wkX hX rfl)) (by intro _; rfl) (evr_inr (evr_n (evn_v (ev_tup (fun d vs R h => by rw [(lenS (lenS (lenS len0))) h]; decide) (eva_cons (ev_str (md := .sh) (by decide +kernel)) (eva_cons (ev_slS (md' := .sh) ok.toOk (ev_vsh ok.toOk (i := 14) (j := 14) rfl rfl rfl) evo_none (evo_some (ev_vsh ok.toOk (i := 3) (j := 3) rfl rfl rfl))) (eva_cons (ev_slS (md' := .sh) ok.toOk (ev_vsh ok.toOk (i := 14) (j := 14) rfl rfl rfl) (evo_some (ev_vsh ok.toOk (i := 3) (j := 3) rfl rfl rfl)) evo_none) eva_nil))))))))))))))))))
theorem b_first_colouring {p : Pr} (X : Facts p) : Body p s_first_colouring N_first_colouring V_first_colouring G_first_colouring 2 (fun (d : ((List Tx) × Tx × Tx × Unit)) => [(sV false (tList tStr) d.1), (sV false tStr d.2.1), (sV false tStr d.2.2.1), sAny, sAny, sAny, sAny, sAny, sAny, sAny, sAny, sAny, sAny, sAny, sAny]) (fun r => oOut (wSum (wTup (waCons (wV tStr) (waCons (wV tInt) (waCons (wL (wTup (waCons (wV tStr) (waCons (wL (wV tInt)) waNil)))) waNil)))) (wV (tTup (aCons tStr (aCons tStr (aCons tStr aNil)))))) r) r_first_colouring := fun g ok hX d => bb_first_colouring X ok hX d.1 d.2.1 d.2.2.1
theorem fn_first_colouring {p : Pr} (X : Facts p) : Fn p 3 "first_colouring" ["picture", "warp", "weft"] (spM p (aCons (tList tStr) (aCons tStr (aCons tStr aNil))) (fun r => oOut (wSum (wTup (waCons (wV tStr) (waCons (wV tInt) (waCons (wL (wTup (waCons (wV tStr) (waCons (wL (wV tInt)) waNil)))) waNil)))) (wV (tTup (aCons tStr (aCons tStr (aCons tStr aNil)))))) r) c_first_colouring) := by
  obtain ⟨f, fd, hF, hm⟩ := X.d_first_colouring
  exact ⟨f, fd, eq_first_colouring ▸ fn_rtN (m := 12) hF sc_first_colouring (.cons (.cons (.cons .nil))) rfl rfl (b_first_colouring X), hm, hF.kp, hF.bindsN fun _ _ _ _ _ _ us hl => match us, hl with | [_, _, _], _ => rfl⟩
abbrev s__law_fits : Stmt := (topS 26)
abbrev N__law_fits : List Str := ["picture", "told", "warp", "weft", "both", "k", "j"]
abbrev V__law_fits : List Str := ["picture", "told", "warp", "weft", "both", "k", "j"]
abbrev G__law_fits : List Str := ["str", "isinstance", "len", "range"]
theorem sc__law_fits : Sc s__law_fits N__law_fits V__law_fits ["picture", "told", "warp", "weft"] G__law_fits := ⟨⟨rfl, rfl, rfl, by decide +kernel, rfl, by decide +kernel, by decide +kernel⟩, by decide +kernel, by decide +kernel, by decide +kernel⟩
def r_f_law_fits_l1 (told2 : Tx) (both26 : Tx) : Unit → Int → M (Fl Unit Bool) := fun s31 k32 => M.bind (M.bind (M.bind (M.bind (M.ok both26) fun y33 => M.bind (M.ok k32) fun y34 => getS y33 y34) fun y35 => M.bind (M.ok (tx "abcdef")) fun y36 => notinSM y35 y36) fun c49 => if c49 = true then M.ok true else M.bind (M.bind (M.bind (M.ok told2) fun y37 => M.bind (M.ok k32) fun y38 => getS y37 y38) fun y39 => M.bind (M.ok (tx "?")) fun y40 => M.ok (!decide (y39 = y40))) fun c47 => if c47 = true then M.bind (M.bind (M.ok told2) fun y41 => M.bind (M.ok k32) fun y42 => getS y41 y42) fun y45 => M.bind (M.bind (M.ok both26) fun y43 => M.bind (M.ok k32) fun y44 => getS y43 y44) fun y46 => M.ok (!decide (y45 = y46)) else M.ok false) fun c51 => if c51 = true then M.bind (M.ok false) fun r52 => M.ok (Fl.rt r52) else M.ok (Fl.nx ())
def f_law_fits_l1 (told2 : Tx) (both26 : Tx) : Unit → Int → M (Fl Unit Bool) := fun s31 k32 => M.bind (M.bind (M.bind (getS both26 k32) fun y35 => notinSM y35 (tx "abcdef")) fun c50 => if c50 = true then M.ok true else M.bind (M.bind (getS told2 k32) fun y39 => M.ok (!decide (y39 = (tx "?")))) fun c48 => if c48 = true then M.bind (getS told2 k32) fun y45 => M.bind (getS both26 k32) fun y46 => M.ok (!decide (y45 = y46)) else M.ok false) fun c53 => if c53 = true then M.ok (Fl.rt false) else M.ok (Fl.nx ())
theorem eq_f_law_fits_l1 (told2 : Tx) (both26 : Tx) : r_f_law_fits_l1 told2 both26 = f_law_fits_l1 told2 both26 := by funext s31 k32; first | (simp only [r_f_law_fits_l1, f_law_fits_l1, M.bind_assoc, M.bok]; done) | (simp only [r_f_law_fits_l1, f_law_fits_l1, M.bind_assoc, M.bok]; rfl)
def r_f_law_fits_l2 (picture1 : (List Tx)) (warp3 : Tx) (weft4 : Tx) (j59 : Int) : Unit → Int → M (Fl Unit Bool) := fun s62 k63 => M.bind (M.bind (M.bind (M.bind (M.ok warp3) fun y64 => M.bind (M.ok k63) fun y65 => getS y64 y65) fun y70 => M.bind (M.bind (M.bind (M.ok picture1) fun y66 => M.bind (M.ok j59) fun y67 => getM y66 y67) fun y68 => M.bind (M.ok k63) fun y69 => getS y68 y69) fun y71 => M.ok (!decide (y70 = y71))) fun c80 => if c80 = true then M.bind (M.bind (M.ok weft4) fun y72 => M.bind (M.ok j59) fun y73 => getS y72 y73) fun y78 => M.bind (M.bind (M.bind (M.ok picture1) fun y74 => M.bind (M.ok j59) fun y75 => getM y74 y75) fun y76 => M.bind (M.ok k63) fun y77 => getS y76 y77) fun y79 => M.ok (!decide (y78 = y79)) else M.ok false) fun c82 => if c82 = true then M.bind (M.ok false) fun r83 => M.ok (Fl.rt r83) else M.ok (Fl.nx ())
def f_law_fits_l2 (picture1 : (List Tx)) (warp3 : Tx) (weft4 : Tx) (j59 : Int) : Unit → Int → M (Fl Unit Bool) := fun s62 k63 => M.bind (M.bind (M.bind (getS warp3 k63) fun y70 => M.bind (M.bind (getM picture1 j59) fun y68 => getS y68 k63) fun y71 => M.ok (!decide (y70 = y71))) fun c81 => if c81 = true then M.bind (getS weft4 j59) fun y78 => M.bind (M.bind (getM picture1 j59) fun y76 => getS y76 k63) fun y79 => M.ok (!decide (y78 = y79)) else M.ok false) fun c84 => if c84 = true then M.ok (Fl.rt false) else M.ok (Fl.nx ())
theorem eq_f_law_fits_l2 (picture1 : (List Tx)) (warp3 : Tx) (weft4 : Tx) (j59 : Int) : r_f_law_fits_l2 picture1 warp3 weft4 j59 = f_law_fits_l2 picture1 warp3 weft4 j59 := by funext s62 k63; first | (simp only [r_f_law_fits_l2, f_law_fits_l2, M.bind_assoc, M.bok, eq_f_law_fits_l1]; done) | (simp only [r_f_law_fits_l2, f_law_fits_l2, M.bind_assoc, M.bok, eq_f_law_fits_l1]; rfl)
def r_f_law_fits_l3 (picture1 : (List Tx)) (warp3 : Tx) (weft4 : Tx) : Unit → Int → M (Fl Unit Bool) := fun s58 j59 => M.bind (M.bind (M.bind (M.ok warp3) fun y60 => M.ok (y60.length : Int)) fun y61 => rangeM 0 y61) fun xs85 => M.bind (forF (r_f_law_fits_l2 picture1 warp3 weft4 j59) () xs85) (Fl.el (fun (s86 : Unit) => M.ok (Fl.nx ())) fun r87 => M.ok (Fl.rt r87))
def f_law_fits_l3 (picture1 : (List Tx)) (warp3 : Tx) (weft4 : Tx) : Unit → Int → M (Fl Unit Bool) := fun s58 j59 => M.bind (rangeM 0 (warp3.length : Int)) fun xs85 => M.bind (forF (f_law_fits_l2 picture1 warp3 weft4 j59) () xs85) (Fl.el (fun (s86 : Unit) => M.ok (Fl.nx ())) fun r87 => M.ok (Fl.rt r87))
theorem eq_f_law_fits_l3 (picture1 : (List Tx)) (warp3 : Tx) (weft4 : Tx) : r_f_law_fits_l3 picture1 warp3 weft4 = f_law_fits_l3 picture1 warp3 weft4 := by funext s58 j59; first | (simp only [r_f_law_fits_l3, f_law_fits_l3, M.bind_assoc, M.bok, eq_f_law_fits_l1, eq_f_law_fits_l2]; done) | (simp only [r_f_law_fits_l3, f_law_fits_l3, M.bind_assoc, M.bok, eq_f_law_fits_l1, eq_f_law_fits_l2]; rfl)
def q__law_fits (picture1 : (List Tx)) (told2 : Tx) (warp3 : Tx) (weft4 : Tx) : M Bool := M.bind (M.ok ((!true) || (!true))) fun c10 => if c10 = true then M.ok false else M.bind (M.bind (M.bind (M.bind (M.ok warp3) fun y12 => M.ok (y12.length : Int)) fun y16 => M.bind (M.bind (M.bind (M.ok picture1) fun y13 => M.bind (M.ok (0 : Int)) fun y14 => getM y13 y14) fun y15 => M.ok (y15.length : Int)) fun y17 => M.ok (!decide (y16 = y17))) fun c22 => if c22 = true then M.ok true else M.bind (M.bind (M.ok weft4) fun y18 => M.ok (y18.length : Int)) fun y20 => M.bind (M.bind (M.ok picture1) fun y19 => M.ok (y19.length : Int)) fun y21 => M.ok (!decide (y20 = y21))) fun c24 => if c24 = true then M.ok false else M.bind (M.bind (M.ok warp3) fun y27 => M.bind (M.ok weft4) fun y28 => catS y27 y28) fun both26 => M.bind (M.bind (M.bind (M.ok both26) fun y29 => M.ok (y29.length : Int)) fun y30 => rangeM 0 y30) fun xs54 => M.bind (forF (r_f_law_fits_l1 told2 both26) () xs54) (Fl.el (fun (s55 : Unit) => M.bind (M.bind (M.bind (M.ok weft4) fun y56 => M.ok (y56.length : Int)) fun y57 => rangeM 0 y57) fun xs88 => M.bind (forF (r_f_law_fits_l3 picture1 warp3 weft4) () xs88) (Fl.el (fun (s89 : Unit) => M.ok true) fun r91 => M.ok r91)) fun r92 => M.ok r92)
def f_law_fits (picture1 : (List Tx)) (told2 : Tx) (warp3 : Tx) (weft4 : Tx) : M Bool := if ((!true) || (!true)) = true then M.ok false else M.bind (M.bind (M.bind (M.bind (getM picture1 (0 : Int)) fun y15 => M.ok (y15.length : Int)) fun y17 => M.ok (!decide ((warp3.length : Int) = y17))) fun c23 => if c23 = true then M.ok true else M.ok (!decide ((weft4.length : Int) = (picture1.length : Int)))) fun c93 => if c93 = true then M.ok false else M.bind (catS warp3 weft4) fun both26 => M.bind (rangeM 0 (both26.length : Int)) fun xs54 => M.bind (forF (f_law_fits_l1 told2 both26) () xs54) (Fl.el (fun (s55 : Unit) => M.bind (rangeM 0 (weft4.length : Int)) fun xs88 => M.bind (forF (f_law_fits_l3 picture1 warp3 weft4) () xs88) (Fl.el (fun (s89 : Unit) => M.ok true) fun r91 => M.ok r91)) fun r92 => M.ok r92)
def r__law_fits (d : ((List Tx) × Tx × Tx × Tx × Unit)) : M Bool := q__law_fits d.1 d.2.1 d.2.2.1 d.2.2.2.1
def c__law_fits (d : ((List Tx) × Tx × Tx × Tx × Unit)) : M Bool := f_law_fits d.1 d.2.1 d.2.2.1 d.2.2.2.1
theorem eq__law_fits : r__law_fits = c__law_fits := by funext d; first | (simp only [r__law_fits, c__law_fits, q__law_fits, f_law_fits, M.bind_assoc, M.bok, eq_f_law_fits_l1, eq_f_law_fits_l2, eq_f_law_fits_l3]; done) | (simp only [r__law_fits, c__law_fits, q__law_fits, f_law_fits, M.bind_assoc, M.bok, eq_f_law_fits_l1, eq_f_law_fits_l2, eq_f_law_fits_l3]; rfl)
theorem bb__law_fits {p : Pr} (X : Facts p) {g : G} (ok : OkS p (defScope s__law_fits) N__law_fits V__law_fits G__law_fits 0 g) (hX : g.LX = List.replicate N__law_fits.length sAny) (picture1 : (List Tx)) (told2 : Tx) (warp3 : Tx) (weft4 : Tx) : EvB g [(sV false (tList tStr) picture1), (sV false tStr told2), (sV false tStr warp3), (sV false tStr weft4), sAny, sAny, sAny] (defBody s__law_fits) (fun r => .rt false tBool r) (q__law_fits picture1 told2 warp3 weft4) := (evb_ifx (wkX hX rfl) (EvW.t (evw_orP (pureT (m := M.bind (M.bind (M.ok warp3) fun y5 => M.ok true) fun y6 => M.ok (!y6)) (evt_not (evt_of (ev_isi (md' := .sh) (r := true) ok.toOk (j := 1) rfl X.g_isinstance i_str (by decide +kernel) (ev_vsh ok.toOk (i := 2) (j := 2) rfl rfl rfl) (ev_ty (n := "str") (md := .sh) ok.toOk (j := 0) rfl X.g_str (by decide +kernel))))) rfl) (pureW (m := M.bind (M.bind (M.ok weft4) fun y7 => M.ok true) fun y8 => M.ok (!y8)) (evw_or1 (evt_not (evt_of (ev_isi (md' := .sh) (r := true) ok.toOk (j := 1) rfl X.g_isinstance i_str (by decide +kernel) (ev_vsh ok.toOk (i := 3) (j := 3) rfl rfl rfl) (ev_ty (n := "str") (md := .sh) ok.toOk (j := 0) rfl X.g_str (by decide +kernel)))))) rfl))) (evb_ret (wkX hX rfl) .sh (by intro _; rfl) (ev_bool (md := .sh))) (evb_ifx (wkX hX rfl) (EvW.t (evw_or (evt_c ok.toOk (c_ne s_int) (ev_lenS (md' := .sh) ok.toOk (j := 2) rfl X.g_len (ev_vsh ok.toOk (i := 2) (j := 2) rfl rfl rfl)) (ev_lenS (md' := .sh) ok.toOk (j := 2) rfl X.g_len (ev_ixQ ok.toOk sq_l (ev_vsh ok.toOk (i := 0) (j := 0) rfl rfl rfl) (ev_int (md := .sh))))) (evw_or1 (evt_c ok.toOk (c_ne s_int) (ev_lenS (md' := .sh) ok.toOk (j := 2) rfl X.g_len (ev_vsh ok.toOk (i := 3) (j := 3) rfl rfl rfl)) (ev_lenQ (md' := .sh) ok.toOk sq_l (j := 2) rfl X.g_len (ev_vsh ok.toOk (i := 0) (j := 0) rfl rfl rfl)))))) (evb_ret (wkX hX rfl) .sh (by intro _; rfl) (ev_bool (md := .sh))) (evb_set ok (i := 4) (j := 4) rfl rfl (wkX hX rfl) .sh (ev_catS (md' := .sh) ok.toOk (ev_vsh ok.toOk (i := 2) (j := 2) rfl rfl rfl) (ev_vsh ok.toOk (i := 3) (j := 3) rfl rfl rfl)) fun both26 => (evb_forF (LF := (fun (s31 : Unit) => [(sV false (tList tStr) picture1), (sV false tStr told2), (sV false tStr warp3), (sV false tStr weft4), (sV false tStr both26), sAny, sAny])) (s0 := ()) (dr := fun r92 => r92) ok (wkX hX rfl) (evi_range1 ok.toOk (j := 3) rfl X.g_range (ev_lenS (md' := .sh) ok.toOk (j := 2) rfl X.g_len (ev_vsh ok.toOk (i := 4) (j := 4) rfl rfl rfl))) (Wk.s (Wk.s (Wk.s (Wk.s (Wk.s (Wk.s (Wk.s Wk.n))))))) (fun _ => evg_name ok (i := 5) (j := 5) rfl rfl) (fun s31 k32 => (evb_ifl (wkX hX rfl) (EvW.t (evw_or (evt_notinS ok.toOk (ev_ixS (md' := .sh) ok.toOk (ev_vsh ok.toOk (i := 4) (j := 4) rfl rfl rfl) (ev_vsh ok.toOk (i := 5) (j := 5) rfl rfl rfl)) (ev_str (md := .sh) (by decide +kernel))) (evw_or1 (EvW.t (evw_and (evt_c ok.toOk (c_ne s_str) (ev_ixS (md' := .sh) ok.toOk (ev_vsh ok.toOk (i := 1) (j := 1) rfl rfl rfl) (ev_vsh ok.toOk (i := 5) (j := 5) rfl rfl rfl)) (ev_str (md := .sh) (by decide +kernel))) (evw_and1 (evt_c ok.toOk (c_ne s_str) (ev_ixS (md' := .sh) ok.toOk (ev_vsh ok.toOk (i := 1) (j := 1) rfl rfl rfl) (ev_vsh ok.toOk (i := 5) (j := 5) rfl rfl rfl)) (ev_ixS (md' := .sh) ok.toOk (ev_vsh ok.toOk (i := 4) (j := 4) rfl rfl rfl) (ev_vsh ok.toOk (i := 5) (j := 5) rfl rfl rfl))))))))) (evb_retF (mk := fun r52 => Fl.rt r52) (wkX hX rfl) .sh (by intro _; rfl) (ev_bool (md := .sh))) (evb_go (by rfl) (Wk.s (Wk.s (Wk.s (Wk.s (Wk.s (Wk.a (Wk.s Wk.n)))))))))) fun s55 => (evb_forF (LF := (fun (s58 : Unit) => [(sV false (tList tStr) picture1), (sV false tStr told2), (sV false tStr warp3), (sV false tStr weft4), (sV false tStr both26), sAny, sAny])) (s0 := ()) (dr := fun r91 => r91) ok (wkX hX rfl) (evi_range1 ok.toOk (j := 3) rfl X.g_range (ev_lenS (md' := .sh) ok.toOk (j := 2) rfl X.g_len (ev_vsh ok.toOk (i := 3) (j := 3) rfl rfl rfl))) (Wk.s (Wk.s (Wk.s (Wk.s (Wk.s (Wk.s (Wk.s Wk.n))))))) (fun _ => evg_name ok (i := 6) (j := 6) rfl rfl) (fun s58 j59 => (evb_forF (LF := (fun (s62 : Unit) => [(sV false (tList tStr) picture1), (sV false tStr told2), (sV false tStr warp3), (sV false tStr weft4), (sV false tStr both26), sAny, (sV false tInt j59)])) (s0 := ()) (dr := fun r87 => Fl.rt r87) ok (wkX hX rfl) (evi_range1 ok.toOk (j := 3) rfl X.g_range (ev_lenS (md' := .sh) ok.toOk (j := 2) rfl X.g_len (ev_vsh ok.toOk (i := 2) (j := 2) rfl rfl rfl))) (Wk.s (Wk.s (Wk.s (Wk.s (Wk.s (Wk.s (Wk.s Wk.n))))))) (fun _ => evg_name ok (i := 5) (j := 5) rfl rfl) (fun s62 k63 => (evb_ifl (wkX hX rfl) (EvW.t (evw_and (evt_c ok.toOk (c_ne s_str) (ev_ixS (md' := .sh) ok.toOk (ev_vsh ok.toOk (i := 2) (j := 2) rfl rfl rfl) (ev_vsh ok.toOk (i := 5) (j := 5) rfl rfl rfl)) (ev_ixS (md' := .sh) ok.toOk (ev_ixQ ok.toOk sq_l (ev_vsh ok.toOk (i := 0) (j := 0) rfl rfl rfl) (ev_vsh ok.toOk (i := 6) (j := 6) rfl rfl rfl)) (ev_vsh ok.toOk (i := 5) (j := 5) rfl rfl rfl))) (evw_and1 (evt_c ok.toOk (c_ne s_str) (ev_ixS (md' := .sh) ok.toOk (ev_vsh ok.toOk (i := 3) (j := 3) rfl rfl rfl) (ev_vsh ok.toOk (i := 6) (j := 6) rfl rfl rfl)) (ev_ixS (md' := .sh) ok.toOk (ev_ixQ ok.toOk sq_l (ev_vsh ok.toOk (i := 0) (j := 0) rfl rfl rfl) (ev_vsh ok.toOk (i := 6) (j := 6) rfl rfl rfl)) (ev_vsh ok.toOk (i := 5) (j := 5) rfl rfl rfl)))))) (evb_retF (mk := fun r83 => Fl.rt r83) (wkX hX rfl) .sh (by intro _; rfl) (ev_bool (md := .sh))) (evb_go (by rfl) (Wk.s (Wk.s (Wk.s (Wk.s (Wk.s (Wk.a (Wk.s Wk.n)))))))))) fun s86 => (evb_go (by rfl) (Wk.s (Wk.s (Wk.s (Wk.s (Wk.s (Wk.s (Wk.a Wk.n)))))))))) fun s89 => (evb_ret (wkX hX rfl) .sh (by intro _; rfl) (ev_bool (md := .sh))))))))
theorem b__law_fits {p : Pr} (X : Facts p) : Body p s__law_fits N__law_fits V__law_fits G__law_fits 0 (fun (d : ((List Tx) × Tx × Tx × Tx × Unit)) => [(sV false (tList tStr) d.1), (sV false tStr d.2.1), (sV false tStr d.2.2.1), (sV false tStr d.2.2.2.1), sAny, sAny, sAny]) (fun r => .rt false tBool r) r__law_fits := fun g ok hX d => bb__law_fits X ok hX d.1 d.2.1 d.2.2.1 d.2.2.2.1
theorem fn__law_fits {p : Pr} (X : Facts p) : Fn p 1 "_law_fits" ["picture", "told", "warp", "weft"] (spM p (aCons (tList tStr) (aCons tStr (aCons tStr (aCons tStr aNil)))) (fun r => .rt false tBool r) c__law_fits) := by
  obtain ⟨f, fd, hF, hm⟩ := X.d__law_fits
  exact ⟨f, fd, eq__law_fits ▸ fn_rt (m := 3) hF sc__law_fits (.cons (.cons (.cons (.cons .nil)))) rfl rfl (b__law_fits X), hm, hF.kp, hF.bindsN fun _ _ _ _ _ _ us hl => match us, hl with | [_, _, _, _], _ => rfl⟩
abbrev s__law_whole_number : Stmt := (topS 22)
abbrev N__law_whole_number : List Str := ["found"]
abbrev V__law_whole_number : List Str := ["found"]
abbrev G__law_whole_number : List Str := ["int", "isinstance", "bool"]
theorem sc__law_whole_number : Sc s__law_whole_number N__law_whole_number V__law_whole_number ["found"] G__law_whole_number := ⟨⟨rfl, rfl, rfl, by decide +kernel, rfl, by decide +kernel, by decide +kernel⟩, by decide +kernel, by decide +kernel, by decide +kernel⟩
def q__law_whole_number (found1 : Int) : M Bool := M.ok (true && (!false))
def f_law_whole_number (found1 : Int) : M Bool := M.ok (true && (!false))
def r__law_whole_number (d : (Int × Unit)) : M Bool := q__law_whole_number d.1
def c__law_whole_number (d : (Int × Unit)) : M Bool := f_law_whole_number d.1
theorem eq__law_whole_number : r__law_whole_number = c__law_whole_number := by funext d; first | (simp only [r__law_whole_number, c__law_whole_number, q__law_whole_number, f_law_whole_number, M.bind_assoc, M.bok]; done) | (simp only [r__law_whole_number, c__law_whole_number, q__law_whole_number, f_law_whole_number, M.bind_assoc, M.bok]; rfl)
theorem bb__law_whole_number {p : Pr} (X : Facts p) {g : G} (ok : OkS p (defScope s__law_whole_number) N__law_whole_number V__law_whole_number G__law_whole_number 0 g) (hX : g.LX = List.replicate N__law_whole_number.length sAny) (found1 : Int) : EvB g [(sV false tInt found1)] (defBody s__law_whole_number) (fun r => .rt false tBool r) (q__law_whole_number found1) := (evb_ret (wkX hX rfl) .sh (by intro _; rfl) (ev_andP (pureE (m := M.bind (M.ok found1) fun y2 => M.ok true) (ev_isi (md' := .sh) (r := true) ok.toOk (j := 1) rfl X.g_isinstance i_int (by decide +kernel) (ev_vsh ok.toOk (i := 0) (j := 0) rfl rfl rfl) (ev_ty (n := "int") (md := .sh) ok.toOk (j := 0) rfl X.g_int (by decide +kernel))) rfl) (pureE (m := M.bind (M.bind (M.ok found1) fun y3 => M.ok false) fun y4 => M.ok (!y4)) (ev_one (ev_not (md' := .sh) (ev_isi (md' := .sh) (r := false) ok.toOk (j := 1) rfl X.g_isinstance i_int (by decide +kernel) (ev_vsh ok.toOk (i := 0) (j := 0) rfl rfl rfl) (ev_ty (n := "bool") (md := .sh) ok.toOk (j := 2) rfl X.g_bool (by decide +kernel))))) rfl)))
theorem b__law_whole_number {p : Pr} (X : Facts p) : Body p s__law_whole_number N__law_whole_number V__law_whole_number G__law_whole_number 0 (fun (d : (Int × Unit)) => [(sV false tInt d.1)]) (fun r => .rt false tBool r) r__law_whole_number := fun g ok hX d => bb__law_whole_number X ok hX d.1
theorem fn__law_whole_number {p : Pr} (X : Facts p) : Fn p 1 "_law_whole_number" ["found"] (spM p (aCons tInt aNil) (fun r => .rt false tBool r) c__law_whole_number) := by
  obtain ⟨f, fd, hF, hm⟩ := X.d__law_whole_number
  exact ⟨f, fd, eq__law_whole_number ▸ fn_rt (m := 0) hF sc__law_whole_number (.cons .nil) rfl rfl (b__law_whole_number X), hm, hF.kp, hF.bindsN fun _ _ _ _ _ _ us hl => match us, hl with | [_], _ => rfl⟩
abbrev s__law_seen : Stmt := (topS 23)
abbrev N__law_seen : List Str := ["picture", "wide", "one", "other"]
abbrev V__law_seen : List Str := ["picture", "wide", "one", "other"]
abbrev G__law_seen : List Str := []
theorem sc__law_seen : Sc s__law_seen N__law_seen V__law_seen ["picture", "wide", "one", "other"] G__law_seen := ⟨⟨rfl, rfl, rfl, by decide +kernel, rfl, by decide +kernel, by decide +kernel⟩, by decide +kernel, by decide +kernel, by decide +kernel⟩
def q__law_seen (picture1 : (List Tx)) (wide2 : Int) (one3 : Int) (other4 : Int) : M Tx := M.bind (M.bind (M.bind (M.ok one3) fun y5 => M.bind (M.ok wide2) fun y6 => M.ok (decide (y5 < y6))) fun y9 => M.bind (M.bind (M.ok other4) fun y7 => M.bind (M.ok wide2) fun y8 => M.ok (decide (y7 < y8))) fun y10 => M.ok (decide (y9 = y10))) fun c11 => if c11 = true then M.ok (tx "") else M.bind (M.bind (M.ok one3) fun y13 => M.bind (M.ok wide2) fun y14 => M.ok (decide (y13 < y14))) fun c15 => if c15 = true then M.bind (M.bind (M.ok picture1) fun y18 => M.bind (M.bind (M.ok other4) fun y16 => M.bind (M.ok wide2) fun y17 => M.ok (y16 - y17)) fun y19 => getM y18 y19) fun y20 => M.bind (M.ok one3) fun y21 => getS y20 y21 else M.bind (M.bind (M.ok picture1) fun y25 => M.bind (M.bind (M.ok one3) fun y23 => M.bind (M.ok wide2) fun y24 => M.ok (y23 - y24)) fun y26 => getM y25 y26) fun y27 => M.bind (M.ok other4) fun y28 => getS y27 y28
def f_law_seen (picture1 : (List Tx)) (wide2 : Int) (one3 : Int) (other4 : Int) : M Tx := if (decide ((decide (one3 < wide2)) = (decide (other4 < wide2)))) = true then M.ok (tx "") else if (decide (one3 < wide2)) = true then M.bind (getM picture1 (other4 - wide2)) fun y20 => getS y20 one3 else M.bind (getM picture1 (one3 - wide2)) fun y27 => getS y27 other4
def r__law_seen (d : ((List Tx) × Int × Int × Int × Unit)) : M Tx := q__law_seen d.1 d.2.1 d.2.2.1 d.2.2.2.1
def c__law_seen (d : ((List Tx) × Int × Int × Int × Unit)) : M Tx := f_law_seen d.1 d.2.1 d.2.2.1 d.2.2.2.1
theorem eq__law_seen : r__law_seen = c__law_seen := by funext d; first | (simp only [r__law_seen, c__law_seen, q__law_seen, f_law_seen, M.bind_assoc, M.bok]; done) | (simp only [r__law_seen, c__law_seen, q__law_seen, f_law_seen, M.bind_assoc, M.bok]; rfl)
theorem bb__law_seen {p : Pr} (X : Facts p) {g : G} (ok : OkS p (defScope s__law_seen) N__law_seen V__law_seen G__law_seen 0 g) (hX : g.LX = List.replicate N__law_seen.length sAny) (picture1 : (List Tx)) (wide2 : Int) (one3 : Int) (other4 : Int) : EvB g [(sV false (tList tStr) picture1), (sV false tInt wide2), (sV false tInt one3), (sV false tInt other4)] (defBody s__law_seen) (fun r => .rt false tStr r) (q__law_seen picture1 wide2 one3 other4) := (evb_ifx (wkX hX rfl) (evt_c ok.toOk (c_eq s_bool) (ev_c (md' := .sh) ok.toOk c_lt (ev_vsh ok.toOk (i := 2) (j := 2) rfl rfl rfl) (ev_vsh ok.toOk (i := 1) (j := 1) rfl rfl rfl)) (ev_c (md' := .sh) ok.toOk c_lt (ev_vsh ok.toOk (i := 3) (j := 3) rfl rfl rfl) (ev_vsh ok.toOk (i := 1) (j := 1) rfl rfl rfl))) (evb_ret (wkX hX rfl) .sh (by intro _; rfl) (ev_str (md := .sh) (by decide +kernel))) (evb_ifx (wkX hX rfl) (evt_c ok.toOk c_lt (ev_vsh ok.toOk (i := 2) (j := 2) rfl rfl rfl) (ev_vsh ok.toOk (i := 1) (j := 1) rfl rfl rfl)) (evb_ret (wkX hX rfl) .sh (by intro _; rfl) (ev_ixS (md' := .sh) ok.toOk (ev_ixQ ok.toOk sq_l (ev_vsh ok.toOk (i := 0) (j := 0) rfl rfl rfl) (ev_subt (md' := .sh) ok.toOk (ev_vsh ok.toOk (i := 3) (j := 3) rfl rfl rfl) (ev_vsh ok.toOk (i := 1) (j := 1) rfl rfl rfl))) (ev_vsh ok.toOk (i := 2) (j := 2) rfl rfl rfl))) (evb_ret (wkX hX rfl) .sh (by intro _; rfl) (ev_ixS (md' := .sh) ok.toOk (ev_ixQ ok.toOk sq_l (ev_vsh ok.toOk (i := 0) (j := 0) rfl rfl rfl) (ev_subt (md' := .sh) ok.toOk (ev_vsh ok.toOk (i := 2) (j := 2) rfl rfl rfl) (ev_vsh ok.toOk (i := 1) (j := 1) rfl rfl rfl))) (ev_vsh ok.toOk (i := 3) (j := 3) rfl rfl rfl)))))
theorem b__law_seen {p : Pr} (X : Facts p) : Body p s__law_seen N__law_seen V__law_seen G__law_seen 0 (fun (d : ((List Tx) × Int × Int × Int × Unit)) => [(sV false (tList tStr) d.1), (sV false tInt d.2.1), (sV false tInt d.2.2.1), (sV false tInt d.2.2.2.1)]) (fun r => .rt false tStr r) r__law_seen := fun g ok hX d => bb__law_seen X ok hX d.1 d.2.1 d.2.2.1 d.2.2.2.1
theorem fn__law_seen {p : Pr} (X : Facts p) : Fn p 1 "_law_seen" ["picture", "wide", "one", "other"] (spM p (aCons (tList tStr) (aCons tInt (aCons tInt (aCons tInt aNil)))) (fun r => .rt false tStr r) c__law_seen) := by
  obtain ⟨f, fd, hF, hm⟩ := X.d__law_seen
  exact ⟨f, fd, eq__law_seen ▸ fn_rt (m := 0) hF sc__law_seen (.cons (.cons (.cons (.cons .nil)))) rfl rfl (b__law_seen X), hm, hF.kp, hF.bindsN fun _ _ _ _ _ _ us hl => match us, hl with | [_, _, _, _], _ => rfl⟩
abbrev s__law_chain_right : Stmt := (topS 24)
abbrev N__law_chain_right : List Str := ["picture", "told", "strand", "colour", "chain", "wide", "one", "bears", "k", "seen", "last"]
abbrev V__law_chain_right : List Str := ["picture", "told", "strand", "colour", "chain", "wide", "one", "bears", "k", "seen", "last"]
abbrev G__law_chain_right : List Str := ["len", "list", "isinstance", "_law_whole_number", "range", "_law_seen"]
theorem sc__law_chain_right : Sc s__law_chain_right N__law_chain_right V__law_chain_right ["picture", "told", "strand", "colour", "chain"] G__law_chain_right := ⟨⟨rfl, rfl, rfl, by decide +kernel, rfl, by decide +kernel, by decide +kernel⟩, by decide +kernel, by decide +kernel, by decide +kernel⟩
def r_f_law_chain_right_l1 (told2 : Tx) : Unit → Int → M (Fl Unit Bool) := fun s21 one22 => M.bind (M.bind (M.bind (M.bind (M.bind (M.ok one22) fun y23 => M.bind (M.ok ()) fun y24 => M.ok (y23, y24)) c__law_whole_number) fun y26 => M.ok (!y26)) fun c29 => if c29 = true then M.ok true else M.bind (M.ok ((decide ((0 : Int) ≤ one22)) && (decide (one22 < (told2.length : Int))))) fun y28 => M.ok (!y28)) fun c31 => if c31 = true then M.bind (M.ok false) fun r32 => M.ok (Fl.rt r32) else M.ok (Fl.nx ())
def f_law_chain_right_l1 (told2 : Tx) : Unit → Int → M (Fl Unit Bool) := fun s21 one22 => M.bind (M.bind (M.bind (f_law_whole_number one22) fun y26 => M.ok (!y26)) fun c30 => if c30 = true then M.ok true else M.ok (!((decide ((0 : Int) ≤ one22)) && (decide (one22 < (told2.length : Int)))))) fun c33 => if c33 = true then M.ok (Fl.rt false) else M.ok (Fl.nx ())
theorem eq_f_law_chain_right_l1 (told2 : Tx) : r_f_law_chain_right_l1 told2 = f_law_chain_right_l1 told2 := by funext s21 one22; first | (simp only [r_f_law_chain_right_l1, f_law_chain_right_l1, M.bind_assoc, M.bok, c__law_seen, c__law_whole_number]; done) | (simp only [r_f_law_chain_right_l1, f_law_chain_right_l1, M.bind_assoc, M.bok, c__law_seen, c__law_whole_number]; rfl)
def r_f_law_chain_right_l2 (picture1 : (List Tx)) (chain5 : (List Int)) (wide6 : Int) : (Tx) → Int → M (Fl (Tx) Bool) := fun s47 k48 => M.bind (M.bind (M.bind (M.ok picture1) fun y62 => M.bind (M.bind (M.ok wide6) fun y60 => M.bind (M.bind (M.bind (M.ok chain5) fun y50 => M.bind (M.ok k48) fun y51 => getM y50 y51) fun y58 => M.bind (M.bind (M.bind (M.ok chain5) fun y54 => M.bind (M.bind (M.ok k48) fun y52 => M.bind (M.ok (1 : Int)) fun y53 => M.ok (y52 + y53)) fun y55 => getM y54 y55) fun y56 => M.bind (M.ok ()) fun y57 => M.ok (y56, y57)) fun y59 => M.ok (y58, y59)) fun y61 => M.ok (y60, y61)) fun y63 => M.ok (y62, y63)) c__law_seen) fun seen49 => M.bind (M.ok ((decide (seen49 = (tx ""))) || (decide (seen49 = s47)))) fun c73 => if c73 = true then M.bind (M.ok false) fun r74 => M.ok (Fl.rt r74) else M.bind (M.ok seen49) fun bears75 => M.ok (Fl.nx bears75)
def f_law_chain_right_l2 (picture1 : (List Tx)) (chain5 : (List Int)) (wide6 : Int) : (Tx) → Int → M (Fl (Tx) Bool) := fun s47 k48 => M.bind (M.bind (getM chain5 k48) fun y66 => M.bind (getM chain5 (k48 + (1 : Int))) fun y67 => f_law_seen picture1 wide6 y66 y67) fun seen49 => if ((decide (seen49 = (tx ""))) || (decide (seen49 = s47))) = true then M.ok (Fl.rt false) else let bears75 : Tx := seen49; M.ok (Fl.nx bears75)
theorem eq_f_law_chain_right_l2 (picture1 : (List Tx)) (chain5 : (List Int)) (wide6 : Int) : r_f_law_chain_right_l2 picture1 chain5 wide6 = f_law_chain_right_l2 picture1 chain5 wide6 := by funext s47 k48; first | (simp only [r_f_law_chain_right_l2, f_law_chain_right_l2, M.bind_assoc, M.bok, eq_f_law_chain_right_l1, c__law_seen, c__law_whole_number]; done) | (simp only [r_f_law_chain_right_l2, f_law_chain_right_l2, M.bind_assoc, M.bok, eq_f_law_chain_right_l1, c__law_seen, c__law_whole_number]; rfl)
def q__law_chain_right (picture1 : (List Tx)) (told2 : Tx) (strand3 : Int) (colour4 : Tx) (chain5 : (List Int)) : M Bool := M.bind (M.bind (M.bind (M.ok picture1) fun y7 => M.bind (M.ok (0 : Int)) fun y8 => getM y7 y8) fun y9 => M.ok (y9.length : Int)) fun wide6 => M.bind (M.ok ((!true) || (!((decide ((2 : Int) ≤ (chain5.length : Int))) && (decide ((chain5.length : Int) ≤ (((6 : Int) * (told2.length : Int)) + (1 : Int)))))))) fun c19 => if c19 = true then M.ok false else M.bind (M.ok chain5) fun xs34 => M.bind (forF (r_f_law_chain_right_l1 told2) () xs34) (Fl.el (fun (s35 : Unit) => M.bind (M.bind (M.bind (M.ok chain5) fun y36 => M.bind (M.ok (0 : Int)) fun y37 => getM y36 y37) fun y38 => M.bind (M.ok strand3) fun y39 => M.ok (!decide (y38 = y39))) fun c40 => if c40 = true then M.ok false else M.bind (M.ok colour4) fun bears42 => M.bind (M.bind (M.bind (M.bind (M.ok chain5) fun y43 => M.ok (y43.length : Int)) fun y44 => M.bind (M.ok (1 : Int)) fun y45 => M.ok (y44 - y45)) fun y46 => rangeM 0 y46) fun xs77 => M.bind (forF (r_f_law_chain_right_l2 picture1 chain5 wide6) bears42 xs77) (Fl.el (fun (s78 : (Tx)) => M.bind (M.bind (M.ok chain5) fun y81 => M.bind (M.bind (M.ok (1 : Int)) fun y80 => M.ok (-y80)) fun y82 => getM y81 y82) fun last79 => M.bind (M.ok ((decide (last79 = strand3)) && (!decide (s78 = colour4)))) fun c88 => if c88 = true then M.ok true else M.bind (M.bind (M.bind (M.ok told2) fun y90 => M.bind (M.ok last79) fun y91 => getS y90 y91) fun y92 => M.bind (M.ok (tx "?")) fun y93 => M.ok (!decide (y92 = y93))) fun c98 => if c98 = true then M.bind (M.bind (M.ok told2) fun y94 => M.bind (M.ok last79) fun y95 => getS y94 y95) fun y96 => M.bind (M.ok s78) fun y97 => M.ok (!decide (y96 = y97)) else M.ok false) fun r102 => M.ok r102)) fun r104 => M.ok r104)
def f_law_chain_right (picture1 : (List Tx)) (told2 : Tx) (strand3 : Int) (colour4 : Tx) (chain5 : (List Int)) : M Bool := M.bind (M.bind (getM picture1 (0 : Int)) fun y9 => M.ok (y9.length : Int)) fun wide6 => if ((!true) || (!((decide ((2 : Int) ≤ (chain5.length : Int))) && (decide ((chain5.length : Int) ≤ (((6 : Int) * (told2.length : Int)) + (1 : Int))))))) = true then M.ok false else M.bind (forF (f_law_chain_right_l1 told2) () chain5) (Fl.el (fun (s35 : Unit) => M.bind (M.bind (getM chain5 (0 : Int)) fun y38 => M.ok (!decide (y38 = strand3))) fun c103 => if c103 = true then M.ok false else let bears42 : Tx := colour4; M.bind (rangeM 0 ((chain5.length : Int) - (1 : Int))) fun xs77 => M.bind (forF (f_law_chain_right_l2 picture1 chain5 wide6) bears42 xs77) (Fl.el (fun (s78 : (Tx)) => M.bind (getM chain5 (-(1 : Int))) fun last79 => if ((decide (last79 = strand3)) && (!decide (s78 = colour4))) = true then M.ok true else M.bind (M.bind (getS told2 last79) fun y92 => M.ok (!decide (y92 = (tx "?")))) fun c99 => if c99 = true then M.bind (getS told2 last79) fun y96 => M.ok (!decide (y96 = s78)) else M.ok false) fun r102 => M.ok r102)) fun r104 => M.ok r104)
def r__law_chain_right (d : ((List Tx) × Tx × Int × Tx × (List Int) × Unit)) : M Bool := q__law_chain_right d.1 d.2.1 d.2.2.1 d.2.2.2.1 d.2.2.2.2.1
def c__law_chain_right (d : ((List Tx) × Tx × Int × Tx × (List Int) × Unit)) : M Bool := f_law_chain_right d.1 d.2.1 d.2.2.1 d.2.2.2.1 d.2.2.2.2.1
theorem eq__law_chain_right : r__law_chain_right = c__law_chain_right := by funext d; first | (simp only [r__law_chain_right, c__law_chain_right, q__law_chain_right, f_law_chain_right, M.bind_assoc, M.bok, eq_f_law_chain_right_l1, eq_f_law_chain_right_l2, c__law_seen, c__law_whole_number]; done) | (simp only [r__law_chain_right, c__law_chain_right, q__law_chain_right, f_law_chain_right, M.bind_assoc, M.bok, eq_f_law_chain_right_l1, eq_f_law_chain_right_l2, c__law_seen, c__law_whole_number]; rfl)
theorem bb__law_chain_right {p : Pr} (X : Facts p) {g : G} (ok : OkS p (defScope s__law_chain_right) N__law_chain_right V__law_chain_right G__law_chain_right 1 g) (hX : g.LX = List.replicate N__law_chain_right.length sAny) (picture1 : (List Tx)) (told2 : Tx) (strand3 : Int) (colour4 : Tx) (chain5 : (List Int)) : EvB g [(sV false (tList tStr) picture1), (sV false tStr told2), (sV false tInt strand3), (sV false tStr colour4), (sV false (tList tInt) chain5), sAny, sAny, sAny, sAny, sAny, sAny] (defBody s__law_chain_right) (fun r => .rt false tBool r) (q__law_chain_right picture1 told2 strand3 colour4 chain5) := (evb_set ok (i := 5) (j := 5) rfl rfl (wkX hX rfl) .sh (ev_lenS (md' := .sh) ok.toOk (j := 0) rfl X.g_len (ev_ixQ ok.toOk sq_l (ev_vsh ok.toOk (i := 0) (j := 0) rfl rfl rfl) (ev_int (md := .sh)))) fun wide6 => (evb_ifx (wkX hX rfl) (EvW.t (evw_orP (pureT (m := M.bind (M.bind (M.ok chain5) fun y10 => M.ok true) fun y11 => M.ok (!y11)) (evt_not (evt_of (ev_isi (md' := .sh) (r := true) ok.toOk (j := 2) rfl X.g_isinstance i_list (by decide +kernel) (ev_vsh ok.toOk (i := 4) (j := 4) rfl rfl rfl) (ev_ty (n := "list") (md := .sh) ok.toOk (j := 1) rfl X.g_list (by decide +kernel))))) rfl) (pureW (m := M.bind (M.ok ((decide ((2 : Int) ≤ (chain5.length : Int))) && (decide ((chain5.length : Int) ≤ (((6 : Int) * (told2.length : Int)) + (1 : Int)))))) fun y17 => M.ok (!y17)) (evw_or1 (evt_not (evt_chainI ok.toOk ch_le ch_le (ev_int (md := .sh)) (ev_lenQ (md' := .sh) ok.toOk sq_l (j := 0) rfl X.g_len (ev_vsh ok.toOk (i := 4) (j := 4) rfl rfl rfl)) (ev_add (md' := .sh) ok.toOk (ev_mulL (md' := .sh) ok.toOk (by decide) (ev_int (md := .sh)) (ev_lenS (md' := .sh) ok.toOk (j := 0) rfl X.g_len (ev_vsh ok.toOk (i := 1) (j := 1) rfl rfl rfl))) (ev_int (md := .sh))) rfl rfl rfl))) rfl))) (evb_ret (wkX hX rfl) .sh (by intro _; rfl) (ev_bool (md := .sh))) (evb_forF (LF := (fun (s21 : Unit) => [(sV false (tList tStr) picture1), (sV false tStr told2), (sV false tInt strand3), (sV false tStr colour4), (sV false (tList tInt) chain5), (sV false tInt wide6), sAny, sAny, sAny, sAny, sAny])) (s0 := ()) (dr := fun r104 => r104) ok (wkX hX rfl) (evi_seq ok.toOk sq_l (ev_vsh ok.toOk (i := 4) (j := 4) rfl rfl rfl)) (Wk.s (Wk.s (Wk.s (Wk.s (Wk.s (Wk.s (Wk.s (Wk.s (Wk.s (Wk.s (Wk.s Wk.n))))))))))) (fun _ => evg_name ok (i := 6) (j := 6) rfl rfl) (fun s21 one22 => (evb_ifl (wkX hX rfl) (EvW.t (evw_or (evt_not (evt_of (ev_call (md' := .sh) ok.toOk (fn__law_whole_number X) (by decide) (j := 3) rfl .sh (eva_cons (md := .sh) (ev_vsh ok.toOk (i := 6) (j := 6) rfl rfl rfl) eva_nil)))) (evw_or1 (evt_not (evt_chainI ok.toOk ch_le ch_lt (ev_int (md := .sh)) (ev_vsh ok.toOk (i := 6) (j := 6) rfl rfl rfl) (ev_lenS (md' := .sh) ok.toOk (j := 0) rfl X.g_len (ev_vsh ok.toOk (i := 1) (j := 1) rfl rfl rfl)) rfl rfl rfl))))) (evb_retF (mk := fun r32 => Fl.rt r32) (wkX hX rfl) .sh (by intro _; rfl) (ev_bool (md := .sh))) (evb_go (by rfl) (Wk.s (Wk.s (Wk.s (Wk.s (Wk.s (Wk.s (Wk.a (Wk.s (Wk.s (Wk.s (Wk.s Wk.n)))))))))))))) fun s35 => (evb_ifx (wkX hX rfl) (evt_c ok.toOk (c_ne s_int) (ev_ixQ ok.toOk sq_l (ev_vsh ok.toOk (i := 4) (j := 4) rfl rfl rfl) (ev_int (md := .sh))) (ev_vsh ok.toOk (i := 2) (j := 2) rfl rfl rfl)) (evb_ret (wkX hX rfl) .sh (by intro _; rfl) (ev_bool (md := .sh))) (evb_set ok (i := 7) (j := 7) rfl rfl (wkX hX rfl) .sh (ev_vsh ok.toOk (i := 3) (j := 3) rfl rfl rfl) fun bears42 => (evb_forF (LF := (fun (s47 : (Tx)) => [(sV false (tList tStr) picture1), (sV false tStr told2), (sV false tInt strand3), (sV false tStr colour4), (sV false (tList tInt) chain5), (sV false tInt wide6), sAny, (sV false tStr s47), sAny, sAny, sAny])) (s0 := bears42) (dr := fun r102 => r102) ok (wkX hX rfl) (evi_range1 ok.toOk (j := 4) rfl X.g_range (ev_subt (md' := .sh) ok.toOk (ev_lenQ (md' := .sh) ok.toOk sq_l (j := 0) rfl X.g_len (ev_vsh ok.toOk (i := 4) (j := 4) rfl rfl rfl)) (ev_int (md := .sh)))) (Wk.s (Wk.s (Wk.s (Wk.s (Wk.s (Wk.s (Wk.s (Wk.s (Wk.s (Wk.s (Wk.s Wk.n))))))))))) (fun _ => evg_name ok (i := 8) (j := 8) rfl rfl) (fun s47 k48 => (evb_set ok (i := 9) (j := 9) rfl rfl (wkX hX rfl) .sh (ev_call (md' := .sh) ok.toOk (fn__law_seen X) (by decide) (j := 5) rfl .sh (eva_cons (md := .sh) (ev_vsh ok.toOk (i := 0) (j := 0) rfl rfl rfl) (eva_cons (md := .sh) (ev_vsh ok.toOk (i := 5) (j := 5) rfl rfl rfl) (eva_cons (md := .sh) (ev_ixQ ok.toOk sq_l (ev_vsh ok.toOk (i := 4) (j := 4) rfl rfl rfl) (ev_vsh ok.toOk (i := 8) (j := 8) rfl rfl rfl)) (eva_cons (md := .sh) (ev_ixQ ok.toOk sq_l (ev_vsh ok.toOk (i := 4) (j := 4) rfl rfl rfl) (ev_add (md' := .sh) ok.toOk (ev_vsh ok.toOk (i := 8) (j := 8) rfl rfl rfl) (ev_int (md := .sh)))) eva_nil))))) fun seen49 => (evb_ifx (wkX hX rfl) (EvW.t (evw_orP (pureT (m := M.bind (M.ok seen49) fun y68 => M.bind (M.ok (tx "")) fun y69 => M.ok (decide (y68 = y69))) (evt_c ok.toOk (c_eq s_str) (ev_vsh ok.toOk (i := 9) (j := 9) rfl rfl rfl) (ev_str (md := .sh) (by decide +kernel))) rfl) (pureW (m := M.bind (M.ok seen49) fun y70 => M.bind (M.ok s47) fun y71 => M.ok (decide (y70 = y71))) (evw_or1 (evt_c ok.toOk (c_eq s_str) (ev_vsh ok.toOk (i := 9) (j := 9) rfl rfl rfl) (ev_vsh ok.toOk (i := 7) (j := 7) rfl rfl rfl))) rfl))) (evb_retF (mk := fun r74 => Fl.rt r74) (wkX hX rfl) .sh (by intro _; rfl) (ev_bool (md := .sh))) (evb_set ok (i := 7) (j := 7) rfl rfl (wkX hX rfl) .sh (ev_vsh ok.toOk (i := 9) (j := 9) rfl rfl rfl) fun bears75 => (evb_go (by rfl) (Wk.s (Wk.s (Wk.s (Wk.s (Wk.s (Wk.s (Wk.s (Wk.s (Wk.a (Wk.a (Wk.s Wk.n)))))))))))))))) fun s78 => (evb_set ok (i := 10) (j := 10) rfl rfl (wkX hX rfl) .sh (ev_ixQ ok.toOk sq_l (ev_vsh ok.toOk (i := 4) (j := 4) rfl rfl rfl) (ev_neg (md' := .sh) ok.toOk (ev_int (md := .sh)))) fun last79 => (evb_ifx (wkX hX rfl) (EvW.t (evw_andP (pureT (m := M.bind (M.ok last79) fun y83 => M.bind (M.ok strand3) fun y84 => M.ok (decide (y83 = y84))) (evt_c ok.toOk (c_eq s_int) (ev_vsh ok.toOk (i := 10) (j := 10) rfl rfl rfl) (ev_vsh ok.toOk (i := 2) (j := 2) rfl rfl rfl)) rfl) (pureW (m := M.bind (M.ok s78) fun y85 => M.bind (M.ok colour4) fun y86 => M.ok (!decide (y85 = y86))) (evw_and1 (evt_c ok.toOk (c_ne s_str) (ev_vsh ok.toOk (i := 7) (j := 7) rfl rfl rfl) (ev_vsh ok.toOk (i := 3) (j := 3) rfl rfl rfl))) rfl))) (evb_ret (wkX hX rfl) .sh (by intro _; rfl) (ev_bool (md := .sh))) (evb_ret (wkX hX rfl) .sh (by intro _; rfl) (ev_and (ev_c (md' := .sh) ok.toOk (c_ne s_str) (ev_ixS (md' := .sh) ok.toOk (ev_vsh ok.toOk (i := 1) (j := 1) rfl rfl rfl) (ev_vsh ok.toOk (i := 10) (j := 10) rfl rfl rfl)) (ev_str (md := .sh) (by decide +kernel))) (ev_one (ev_c (md' := .sh) ok.toOk (c_ne s_str) (ev_ixS (md' := .sh) ok.toOk (ev_vsh ok.toOk (i := 1) (j := 1) rfl rfl rfl) (ev_vsh ok.toOk (i := 10) (j := 10) rfl rfl rfl)) (ev_vsh ok.toOk (i := 7) (j := 7) rfl rfl rfl)))))))))))))
theorem b__law_chain_right {p : Pr} (X : Facts p) : Body p s__law_chain_right N__law_chain_right V__law_chain_right G__law_chain_right 1 (fun (d : ((List Tx) × Tx × Int × Tx × (List Int) × Unit)) => [(sV false (tList tStr) d.1), (sV false tStr d.2.1), (sV false tInt d.2.2.1), (sV false tStr d.2.2.2.1), (sV false (tList tInt) d.2.2.2.2.1), sAny, sAny, sAny, sAny, sAny, sAny]) (fun r => .rt false tBool r) r__law_chain_right := fun g ok hX d => bb__law_chain_right X ok hX d.1 d.2.1 d.2.2.1 d.2.2.2.1 d.2.2.2.2.1
theorem fn__law_chain_right {p : Pr} (X : Facts p) : Fn p 2 "_law_chain_right" ["picture", "told", "strand", "colour", "chain"] (spM p (aCons (tList tStr) (aCons tStr (aCons tInt (aCons tStr (aCons (tList tInt) aNil))))) (fun r => .rt false tBool r) c__law_chain_right) := by
  obtain ⟨f, fd, hF, hm⟩ := X.d__law_chain_right
  exact ⟨f, fd, eq__law_chain_right ▸ fn_rt (m := 6) hF sc__law_chain_right (.cons (.cons (.cons (.cons (.cons .nil))))) rfl rfl (b__law_chain_right X), hm, hF.kp, hF.bindsN fun _ _ _ _ _ _ us hl => match us, hl with | [_, _, _, _, _], _ => rfl⟩
abbrev s__law_none_right : Stmt := (topS 25)
abbrev N__law_none_right : List Str := ["picture", "told", "found", "due", "k", "pair"]
abbrev V__law_none_right : List Str := ["picture", "told", "found", "due", "k", "pair"]
abbrev G__law_none_right : List Str := ["tuple", "isinstance", "len", "_law_whole_number", "list", "range", "_law_chain_right"]
theorem sc__law_none_right : Sc s__law_none_right N__law_none_right V__law_none_right ["picture", "told", "found"] G__law_none_right := ⟨⟨rfl, rfl, rfl, by decide +kernel, rfl, by decide +kernel, by decide +kernel⟩, by decide +kernel, by decide +kernel, by decide +kernel⟩
def r_f_law_none_right_l1 (picture1 : (List Tx)) (told2 : Tx) (found3 : (Tx × Int × (List (Tx × (List Int) × Unit)) × Unit)) (s39 : (Tx)) : Unit → Int → M (Fl Unit Bool) := fun s53 k54 => M.bind (M.bind (M.bind (M.ok found3) fun y56 => M.ok y56.2.2.1) fun y57 => M.bind (M.ok k54) fun y58 => getM y57 y58) fun pair55 => M.bind (M.bind (M.bind (M.bind (M.ok pair55) fun y59 => M.ok true) fun y60 => M.ok (!y60)) fun c71 => if c71 = true then M.ok true else M.bind (M.bind (M.bind (M.ok pair55) fun y61 => M.ok (2 : Int)) fun y62 => M.bind (M.ok (2 : Int)) fun y63 => M.ok (!decide (y62 = y63))) fun c69 => if c69 = true then M.ok true else M.bind (M.bind (M.ok pair55) fun y64 => M.ok y64.1) fun y67 => M.bind (M.bind (M.ok s39) fun y65 => M.bind (M.ok k54) fun y66 => getS y65 y66) fun y68 => M.ok (!decide (y67 = y68))) fun c73 => if c73 = true then M.bind (M.ok false) fun r74 => M.ok (Fl.rt r74) else M.bind (M.bind (M.bind (M.bind (M.ok picture1) fun y87 => M.bind (M.bind (M.ok told2) fun y85 => M.bind (M.bind (M.bind (M.ok found3) fun y75 => M.ok y75.2.1) fun y83 => M.bind (M.bind (M.bind (M.ok s39) fun y76 => M.bind (M.ok k54) fun y77 => getS y76 y77) fun y81 => M.bind (M.bind (M.bind (M.ok pair55) fun y78 => M.ok y78.2.1) fun y79 => M.bind (M.ok ()) fun y80 => M.ok (y79, y80)) fun y82 => M.ok (y81, y82)) fun y84 => M.ok (y83, y84)) fun y86 => M.ok (y85, y86)) fun y88 => M.ok (y87, y88)) c__law_chain_right) fun y94 => M.ok (!y94)) fun c95 => if c95 = true then M.bind (M.ok false) fun r96 => M.ok (Fl.rt r96) else M.ok (Fl.nx ())
def f_law_none_right_l1 (picture1 : (List Tx)) (told2 : Tx) (found3 : (Tx × Int × (List (Tx × (List Int) × Unit)) × Unit)) (s39 : (Tx)) : Unit → Int → M (Fl Unit Bool) := fun s53 k54 => M.bind (getM found3.2.2.1 k54) fun pair55 => M.bind (if (!true) = true then M.ok true else if (!decide ((2 : Int) = (2 : Int))) = true then M.ok true else M.bind (getS s39 k54) fun y68 => M.ok (!decide (pair55.1 = y68))) fun c98 => if c98 = true then M.ok (Fl.rt false) else M.bind (M.bind (M.bind (getS s39 k54) fun y92 => f_law_chain_right picture1 told2 found3.2.1 y92 pair55.2.1) fun y94 => M.ok (!y94)) fun c97 => if c97 = true then M.ok (Fl.rt false) else M.ok (Fl.nx ())
theorem eq_f_law_none_right_l1 (picture1 : (List Tx)) (told2 : Tx) (found3 : (Tx × Int × (List (Tx × (List Int) × Unit)) × Unit)) (s39 : (Tx)) : r_f_law_none_right_l1 picture1 told2 found3 s39 = f_law_none_right_l1 picture1 told2 found3 s39 := by funext s53 k54; first | (simp only [r_f_law_none_right_l1, f_law_none_right_l1, M.bind_assoc, M.bok, c__law_chain_right, c__law_whole_number]; done) | (simp only [r_f_law_none_right_l1, f_law_none_right_l1, M.bind_assoc, M.bok, c__law_chain_right, c__law_whole_number]; rfl)
def q__law_none_right (picture1 : (List Tx)) (told2 : Tx) (found3 : (Tx × Int × (List (Tx × (List Int) × Unit)) × Unit)) : M Bool := M.bind (M.ok ((!true) || ((!decide ((3 : Int) = (3 : Int))) || (!decide (found3.1 = (tx "none")))))) fun c14 => if c14 = true then M.ok false else M.bind (M.bind (M.bind (M.bind (M.bind (M.bind (M.ok found3) fun y16 => M.ok y16.2.1) fun y17 => M.bind (M.ok ()) fun y18 => M.ok (y17, y18)) c__law_whole_number) fun y20 => M.ok (!y20)) fun c24 => if c24 = true then M.ok true else M.bind (M.ok ((decide ((0 : Int) ≤ found3.2.1)) && (decide (found3.2.1 < (told2.length : Int))))) fun y23 => M.ok (!y23)) fun c26 => if c26 = true then M.ok false else M.bind (M.ok (tx "abcdef")) fun due28 => M.bind (M.bind (M.bind (M.ok told2) fun y30 => M.bind (M.bind (M.ok found3) fun y29 => M.ok y29.2.1) fun y31 => getS y30 y31) fun y32 => M.bind (M.ok (tx "?")) fun y33 => M.ok (!decide (y32 = y33))) fun c34 => M.bind (if c34 = true then M.bind (M.bind (M.ok told2) fun y37 => M.bind (M.bind (M.ok found3) fun y36 => M.ok y36.2.1) fun y38 => getS y37 y38) fun due35 => M.ok due35 else M.ok due28) fun (s39 : (Tx)) => M.bind (M.ok ((!true) || (!decide ((found3.2.2.1.length : Int) = (s39.length : Int))))) fun c49 => if c49 = true then M.ok false else M.bind (M.bind (M.bind (M.ok s39) fun y51 => M.ok (y51.length : Int)) fun y52 => rangeM 0 y52) fun xs99 => M.bind (forF (r_f_law_none_right_l1 picture1 told2 found3 s39) () xs99) (Fl.el (fun (s100 : Unit) => M.ok true) fun r102 => M.ok r102)
def f_law_none_right (picture1 : (List Tx)) (told2 : Tx) (found3 : (Tx × Int × (List (Tx × (List Int) × Unit)) × Unit)) : M Bool := if ((!true) || ((!decide ((3 : Int) = (3 : Int))) || (!decide (found3.1 = (tx "none"))))) = true then M.ok false else M.bind (M.bind (M.bind (f_law_whole_number found3.2.1) fun y20 => M.ok (!y20)) fun c25 => if c25 = true then M.ok true else M.ok (!((decide ((0 : Int) ≤ found3.2.1)) && (decide (found3.2.1 < (told2.length : Int)))))) fun c104 => if c104 = true then M.ok false else let due28 : Tx := (tx "abcdef"); M.bind (M.bind (getS told2 found3.2.1) fun y32 => M.ok (!decide (y32 = (tx "?")))) fun c34 => M.bind (if c34 = true then M.bind (getS told2 found3.2.1) fun due35 => M.ok due35 else M.ok due28) fun (s39 : (Tx)) => if ((!true) || (!decide ((found3.2.2.1.length : Int) = (s39.length : Int)))) = true then M.ok false else M.bind (rangeM 0 (s39.length : Int)) fun xs99 => M.bind (forF (f_law_none_right_l1 picture1 told2 found3 s39) () xs99) (Fl.el (fun (s100 : Unit) => M.ok true) fun r102 => M.ok r102)
def r__law_none_right (d : ((List Tx) × Tx × (Tx × Int × (List (Tx × (List Int) × Unit)) × Unit) × Unit)) : M Bool := q__law_none_right d.1 d.2.1 d.2.2.1
def c__law_none_right (d : ((List Tx) × Tx × (Tx × Int × (List (Tx × (List Int) × Unit)) × Unit) × Unit)) : M Bool := f_law_none_right d.1 d.2.1 d.2.2.1
theorem eq__law_none_right : r__law_none_right = c__law_none_right := by funext d; first | (simp only [r__law_none_right, c__law_none_right, q__law_none_right, f_law_none_right, M.bind_assoc, M.bok, eq_f_law_none_right_l1, c__law_chain_right, c__law_whole_number]; done) | (simp only [r__law_none_right, c__law_none_right, q__law_none_right, f_law_none_right, M.bind_assoc, M.bok, eq_f_law_none_right_l1, c__law_chain_right, c__law_whole_number]; rfl)
theorem bb__law_none_right {p : Pr} (X : Facts p) {g : G} (ok : OkS p (defScope s__law_none_right) N__law_none_right V__law_none_right G__law_none_right 2 g) (hX : g.LX = List.replicate N__law_none_right.length sAny) (picture1 : (List Tx)) (told2 : Tx) (found3 : (Tx × Int × (List (Tx × (List Int) × Unit)) × Unit)) : EvB g [(sV false (tList tStr) picture1), (sV false tStr told2), (sV false (tTup (aCons tStr (aCons tInt (aCons (tList (tTup (aCons tStr (aCons (tList tInt) aNil)))) aNil)))) found3), sAny, sAny, sAny] (defBody s__law_none_right) (fun r => .rt false tBool r) (q__law_none_right picture1 told2 found3) := (evb_ifx (wkX hX rfl) (EvW.t (evw_orP (pureT (m := M.bind (M.bind (M.ok found3) fun y4 => M.ok true) fun y5 => M.ok (!y5)) (evt_not (evt_of (ev_isi (md' := .sh) (r := true) ok.toOk (j := 1) rfl X.g_isinstance i_tup (by decide +kernel) (ev_vsh ok.toOk (i := 2) (j := 2) rfl rfl rfl) (ev_ty (n := "tuple") (md := .sh) ok.toOk (j := 0) rfl X.g_tuple (by decide +kernel))))) rfl) (pureW (m := M.ok ((!decide ((3 : Int) = (3 : Int))) || (!decide (found3.1 = (tx "none"))))) (evw_orP (pureT (m := M.bind (M.bind (M.ok found3) fun y6 => M.ok (3 : Int)) fun y7 => M.bind (M.ok (3 : Int)) fun y8 => M.ok (!decide (y7 = y8))) (evt_c ok.toOk (c_ne s_int) (ev_lenT (md' := .sh) (n := 3) ok.toOk (lenS (lenS (lenS len0))) (j := 2) rfl X.g_len (ev_vsh ok.toOk (i := 2) (j := 2) rfl rfl rfl)) (ev_int (md := .sh))) rfl) (pureW (m := M.bind (M.bind (M.ok found3) fun y9 => M.ok y9.1) fun y10 => M.bind (M.ok (tx "none")) fun y11 => M.ok (!decide (y10 = y11))) (evw_or1 (evt_c ok.toOk (c_ne s_str) (ev_ixA (n := 0) ok.toOk .z (ev_vsh ok.toOk (i := 2) (j := 2) rfl rfl rfl) (ev_int (md := .sh))) (ev_str (md := .sh) (by decide +kernel)))) rfl)) rfl))) (evb_ret (wkX hX rfl) .sh (by intro _; rfl) (ev_bool (md := .sh))) (evb_ifx (wkX hX rfl) (EvW.t (evw_or (evt_not (evt_of (ev_call (md' := .sh) ok.toOk (fn__law_whole_number X) (by decide) (j := 3) rfl .sh (eva_cons (md := .sh) (ev_ixA (n := 1) ok.toOk (.s .z) (ev_vsh ok.toOk (i := 2) (j := 2) rfl rfl rfl) (ev_int (md := .sh))) eva_nil)))) (evw_or1 (evt_not (evt_chainI ok.toOk ch_le ch_lt (ev_int (md := .sh)) (ev_ixA (n := 1) ok.toOk (.s .z) (ev_vsh ok.toOk (i := 2) (j := 2) rfl rfl rfl) (ev_int (md := .sh))) (ev_lenS (md' := .sh) ok.toOk (j := 2) rfl X.g_len (ev_vsh ok.toOk (i := 1) (j := 1) rfl rfl rfl)) rfl rfl rfl))))) (evb_ret (wkX hX rfl) .sh (by intro _; rfl) (ev_bool (md := .sh))) (evb_set ok (i := 3) (j := 3) rfl rfl (wkX hX rfl) .sh (ev_str (md := .sh) (by decide +kernel)) fun due28 => (evb_if (LJ := (fun (s39 : (Tx)) => [(sV false (tList tStr) picture1), (sV false tStr told2), (sV false (tTup (aCons tStr (aCons tInt (aCons (tList (tTup (aCons tStr (aCons (tList tInt) aNil)))) aNil)))) found3), (sV false tStr s39), sAny, sAny])) (wkX hX rfl) (evt_c ok.toOk (c_ne s_str) (ev_ixS (md' := .sh) ok.toOk (ev_vsh ok.toOk (i := 1) (j := 1) rfl rfl rfl) (ev_ixA (n := 1) ok.toOk (.s .z) (ev_vsh ok.toOk (i := 2) (j := 2) rfl rfl rfl) (ev_int (md := .sh)))) (ev_str (md := .sh) (by decide +kernel))) (evb_set ok (i := 3) (j := 3) rfl rfl (wkX hX rfl) .sh (ev_ixS (md' := .sh) ok.toOk (ev_vsh ok.toOk (i := 1) (j := 1) rfl rfl rfl) (ev_ixA (n := 1) ok.toOk (.s .z) (ev_vsh ok.toOk (i := 2) (j := 2) rfl rfl rfl) (ev_int (md := .sh)))) fun due35 => (evb_nx (by rfl) (Wk.s (Wk.s (Wk.s (Wk.s (Wk.s (Wk.s Wk.n)))))))) (evb_nx (by rfl) (Wk.s (Wk.s (Wk.s (Wk.s (Wk.s (Wk.s Wk.n))))))) fun s39 => (evb_ifx (wkX hX rfl) (EvW.t (evw_orP (pureT (m := M.bind (M.bind (M.bind (M.ok found3) fun y40 => M.ok y40.2.2.1) fun y41 => M.ok true) fun y42 => M.ok (!y42)) (evt_not (evt_of (ev_isi (md' := .sh) (r := true) ok.toOk (j := 1) rfl X.g_isinstance i_list (by decide +kernel) (ev_ixA (n := 2) ok.toOk (.s (.s .z)) (ev_vsh ok.toOk (i := 2) (j := 2) rfl rfl rfl) (ev_int (md := .sh))) (ev_ty (n := "list") (md := .sh) ok.toOk (j := 4) rfl X.g_list (by decide +kernel))))) rfl) (pureW (m := M.bind (M.bind (M.bind (M.ok found3) fun y43 => M.ok y43.2.2.1) fun y44 => M.ok (y44.length : Int)) fun y46 => M.bind (M.bind (M.ok s39) fun y45 => M.ok (y45.length : Int)) fun y47 => M.ok (!decide (y46 = y47))) (evw_or1 (evt_c ok.toOk (c_ne s_int) (ev_lenQ (md' := .sh) ok.toOk sq_l (j := 2) rfl X.g_len (ev_ixA (n := 2) ok.toOk (.s (.s .z)) (ev_vsh ok.toOk (i := 2) (j := 2) rfl rfl rfl) (ev_int (md := .sh)))) (ev_lenS (md' := .sh) ok.toOk (j := 2) rfl X.g_len (ev_vsh ok.toOk (i := 3) (j := 3) rfl rfl rfl)))) rfl))) (evb_ret (wkX hX rfl) .sh (by intro _; rfl) (ev_bool (md := .sh))) (evb_forF (LF := (fun (s53 : Unit) => [(sV false (tList tStr) picture1), (sV false tStr told2), (sV false (tTup (aCons tStr (aCons tInt (aCons (tList (tTup (aCons tStr (aCons (tList tInt) aNil)))) aNil)))) found3), (sV false tStr s39), sAny, sAny])) (s0 := ()) (dr := fun r102 => r102) ok (wkX hX rfl) (evi_range1 ok.toOk (j := 5) rfl X.g_range (ev_lenS (md' := .sh) ok.toOk (j := 2) rfl X.g_len (ev_vsh ok.toOk (i := 3) (j := 3) rfl rfl rfl))) (Wk.s (Wk.s (Wk.s (Wk.s (Wk.s (Wk.s Wk.n)))))) (fun _ => evg_name ok (i := 4) (j := 4) rfl rfl) (fun s53 k54 => (evb_set ok (i := 5) (j := 5) rfl rfl (wkX hX rfl) .sh (ev_ixQ ok.toOk sq_l (ev_ixA (n := 2) ok.toOk (.s (.s .z)) (ev_vsh ok.toOk (i := 2) (j := 2) rfl rfl rfl) (ev_int (md := .sh))) (ev_vsh ok.toOk (i := 4) (j := 4) rfl rfl rfl)) fun pair55 => (evb_ifx (wkX hX rfl) (EvW.t (evw_or (evt_not (evt_of (ev_isi (md' := .sh) (r := true) ok.toOk (j := 1) rfl X.g_isinstance i_tup (by decide +kernel) (ev_vsh ok.toOk (i := 5) (j := 5) rfl rfl rfl) (ev_ty (n := "tuple") (md := .sh) ok.toOk (j := 0) rfl X.g_tuple (by decide +kernel))))) (evw_or (evt_c ok.toOk (c_ne s_int) (ev_lenT (md' := .sh) (n := 2) ok.toOk (lenS (lenS len0)) (j := 2) rfl X.g_len (ev_vsh ok.toOk (i := 5) (j := 5) rfl rfl rfl)) (ev_int (md := .sh))) (evw_or1 (evt_c ok.toOk (c_ne s_str) (ev_ixA (n := 0) ok.toOk .z (ev_vsh ok.toOk (i := 5) (j := 5) rfl rfl rfl) (ev_int (md := .sh))) (ev_ixS (md' := .sh) ok.toOk (ev_vsh ok.toOk (i := 3) (j := 3) rfl rfl rfl) (ev_vsh ok.toOk (i := 4) (j := 4) rfl rfl rfl))))))) (evb_retF (mk := fun r74 => Fl.rt r74) (wkX hX rfl) .sh (by intro _; rfl) (ev_bool (md := .sh))) (evb_ifl (wkX hX rfl) (evt_not (evt_of (ev_call (md' := .sh) ok.toOk (fn__law_chain_right X) (by decide) (j := 6) rfl .sh (eva_cons (md := .sh) (ev_vsh ok.toOk (i := 0) (j := 0) rfl rfl rfl) (eva_cons (md := .sh) (ev_vsh ok.toOk (i := 1) (j := 1) rfl rfl rfl) (eva_cons (md := .sh) (ev_ixA (n := 1) ok.toOk (.s .z) (ev_vsh ok.toOk (i := 2) (j := 2) rfl rfl rfl) (ev_int (md := .sh))) (eva_cons (md := .sh) (ev_ixS (md' := .sh) ok.toOk (ev_vsh ok.toOk (i := 3) (j := 3) rfl rfl rfl) (ev_vsh ok.toOk (i := 4) (j := 4) rfl rfl rfl)) (eva_cons (md := .sh) (ev_ixA (n := 1) ok.toOk (.s .z) (ev_vsh ok.toOk (i := 5) (j := 5) rfl rfl rfl) (ev_int (md := .sh))) eva_nil)))))))) (evb_retF (mk := fun r96 => Fl.rt r96) (wkX hX rfl) .sh (by intro _; rfl) (ev_bool (md := .sh))) (evb_go (by rfl) (Wk.s (Wk.s (Wk.s (Wk.s (Wk.a (Wk.a Wk.n))))))))))) fun s100 => (evb_ret (wkX hX rfl) .sh (by intro _; rfl) (ev_bool (md := .sh)))))))))
theorem b__law_none_right {p : Pr} (X : Facts p) : Body p s__law_none_right N__law_none_right V__law_none_right G__law_none_right 2 (fun (d : ((List Tx) × Tx × (Tx × Int × (List (Tx × (List Int) × Unit)) × Unit) × Unit)) => [(sV false (tList tStr) d.1), (sV false tStr d.2.1), (sV false (tTup (aCons tStr (aCons tInt (aCons (tList (tTup (aCons tStr (aCons (tList tInt) aNil)))) aNil)))) d.2.2.1), sAny, sAny, sAny]) (fun r => .rt false tBool r) r__law_none_right := fun g ok hX d => bb__law_none_right X ok hX d.1 d.2.1 d.2.2.1
theorem fn__law_none_right {p : Pr} (X : Facts p) : Fn p 3 "_law_none_right" ["picture", "told", "found"] (spM p (aCons (tList tStr) (aCons tStr (aCons (tTup (aCons tStr (aCons tInt (aCons (tList (tTup (aCons tStr (aCons (tList tInt) aNil)))) aNil)))) aNil))) (fun r => .rt false tBool r) c__law_none_right) := by
  obtain ⟨f, fd, hF, hm⟩ := X.d__law_none_right
  exact ⟨f, fd, eq__law_none_right ▸ fn_rt (m := 3) hF sc__law_none_right (.cons (.cons (.cons .nil))) rfl rfl (b__law_none_right X), hm, hF.kp, hF.bindsN fun _ _ _ _ _ _ us hl => match us, hl with | [_, _, _], _ => rfl⟩
abbrev s_law : Stmt := (topS 27)
abbrev N_law : List Str := ["script", "numbers", "most", "wide", "high", "span", "warp", "weft", "picture", "handed", "found", "kept", "pair"]
abbrev V_law : List Str := ["script", "numbers", "most", "wide", "high", "span", "warp", "weft", "picture", "handed", "found", "kept", "pair"]
abbrev G_law : List Str := ["_law_numbers", "_law_threads", "_law_picture", "_law_told", "list", "first_colouring", "tuple", "isinstance", "len", "_law_fits", "_law_none_right"]
theorem sc_law : Sc s_law N_law V_law ["script"] G_law := ⟨⟨rfl, rfl, rfl, by decide +kernel, rfl, by decide +kernel, by decide +kernel⟩, by decide +kernel, by decide +kernel, by decide +kernel⟩
def q_law (script1 : (List Int)) : M Bool := M.bind (M.bind (M.bind (M.ok script1) fun y5 => M.bind (M.bind (M.ok (63 : Int)) fun y3 => M.bind (M.ok ()) fun y4 => M.ok (y3, y4)) fun y6 => M.ok (y5, y6)) c__law_numbers) fun numbers2 => M.bind (M.ok (5 : Int)) fun most9 => M.bind (M.bind (M.bind (M.bind (M.bind (M.ok numbers2) fun y10 => M.bind (M.ok (4 : Int)) fun y11 => getM y10 y11) fun y12 => M.ok (y12 / (4 : Int))) fun y13 => M.ok (y13 % (8 : Int))) fun y14 => M.bind (M.ok (1 : Int)) fun y15 => M.ok (decide (y14 = y15))) fun c16 => M.bind (if c16 = true then M.bind (M.ok (10 : Int)) fun most17 => M.ok most17 else M.ok most9) fun (s18 : (Int)) => M.bind (M.bind (M.ok (1 : Int)) fun y24 => M.bind (M.bind (M.bind (M.ok numbers2) fun y20 => M.bind (M.ok (1 : Int)) fun y21 => getM y20 y21) fun y22 => M.bind (M.ok s18) fun y23 => modM y22 y23) fun y25 => M.ok (y24 + y25)) fun wide19 => M.bind (M.bind (M.ok (1 : Int)) fun y31 => M.bind (M.bind (M.bind (M.ok numbers2) fun y27 => M.bind (M.ok (2 : Int)) fun y28 => getM y27 y28) fun y29 => M.bind (M.ok s18) fun y30 => modM y29 y30) fun y32 => M.ok (y31 + y32)) fun high26 => M.bind (M.bind (M.ok (1 : Int)) fun y37 => M.bind (M.bind (M.bind (M.ok numbers2) fun y34 => M.bind (M.ok (0 : Int)) fun y35 => getM y34 y35) fun y36 => M.ok (y36 % (6 : Int))) fun y38 => M.ok (y37 + y38)) fun span33 => M.bind (M.bind (M.bind (M.ok numbers2) fun y46 => M.bind (M.bind (M.ok (0 : Int)) fun y44 => M.bind (M.bind (M.ok wide19) fun y42 => M.bind (M.bind (M.ok span33) fun y40 => M.bind (M.ok ()) fun y41 => M.ok (y40, y41)) fun y43 => M.ok (y42, y43)) fun y45 => M.ok (y44, y45)) fun y47 => M.ok (y46, y47)) c__law_threads) fun warp39 => M.bind (M.bind (M.bind (M.ok numbers2) fun y59 => M.bind (M.bind (M.ok (1 : Int)) fun y57 => M.bind (M.bind (M.ok high26) fun y55 => M.bind (M.bind (M.ok span33) fun y53 => M.bind (M.ok ()) fun y54 => M.ok (y53, y54)) fun y56 => M.ok (y55, y56)) fun y58 => M.ok (y57, y58)) fun y60 => M.ok (y59, y60)) c__law_threads) fun weft52 => M.bind (M.bind (M.bind (M.ok numbers2) fun y76 => M.bind (M.bind (M.ok wide19) fun y74 => M.bind (M.bind (M.ok high26) fun y72 => M.bind (M.bind (M.ok span33) fun y70 => M.bind (M.bind (M.ok warp39) fun y68 => M.bind (M.bind (M.ok weft52) fun y66 => M.bind (M.ok ()) fun y67 => M.ok (y66, y67)) fun y69 => M.ok (y68, y69)) fun y71 => M.ok (y70, y71)) fun y73 => M.ok (y72, y73)) fun y75 => M.ok (y74, y75)) fun y77 => M.ok (y76, y77)) c__law_picture) fun picture65 => M.bind (M.bind (M.bind (M.ok warp39) fun y96 => M.bind (M.bind (M.ok numbers2) fun y94 => M.bind (M.bind (M.ok (2 : Int)) fun y92 => M.bind (M.bind (M.bind (M.bind (M.ok numbers2) fun y85 => M.bind (M.ok (4 : Int)) fun y86 => getM y85 y86) fun y87 => M.ok (y87 % (4 : Int))) fun y90 => M.bind (M.bind (M.ok span33) fun y88 => M.bind (M.ok ()) fun y89 => M.ok (y88, y89)) fun y91 => M.ok (y90, y91)) fun y93 => M.ok (y92, y93)) fun y95 => M.ok (y94, y95)) fun y97 => M.ok (y96, y97)) c__law_told) fun warp84 => M.bind (M.bind (M.bind (M.ok weft52) fun y115 => M.bind (M.bind (M.ok numbers2) fun y113 => M.bind (M.bind (M.ok (4 : Int)) fun y111 => M.bind (M.bind (M.bind (M.bind (M.ok numbers2) fun y104 => M.bind (M.ok (4 : Int)) fun y105 => getM y104 y105) fun y106 => M.ok (y106 % (4 : Int))) fun y109 => M.bind (M.bind (M.ok span33) fun y107 => M.bind (M.ok ()) fun y108 => M.ok (y107, y108)) fun y110 => M.ok (y109, y110)) fun y112 => M.ok (y111, y112)) fun y114 => M.ok (y113, y114)) fun y116 => M.ok (y115, y116)) c__law_told) fun weft103 => M.bind (M.ok picture65) fun handed122 => M.bind (M.bind (M.bind (M.ok handed122) fun y128 => M.bind (M.bind (M.ok warp84) fun y126 => M.bind (M.bind (M.ok weft103) fun y124 => M.bind (M.ok ()) fun y125 => M.ok (y124, y125)) fun y127 => M.ok (y126, y127)) fun y129 => M.ok (y128, y129)) c_first_colouring) fun found123 => M.bind (M.ok ((!decide (handed122 = picture65)) || ((!true) || (!decide (((selm (fun _ : (Tx × Int × (List (Tx × (List Int) × Unit)) × Unit) => (3 : Int)) (fun _ : (Tx × Tx × Tx × Unit) => (3 : Int))) found123) = (3 : Int)))))) fun c142 => if c142 = true then M.ok false else M.bind (M.bind (M.bind (M.ok found123) fun y144 => M.ok ((selm (fun d : (Tx × Int × (List (Tx × (List Int) × Unit)) × Unit) => d.1) (fun d : (Tx × Tx × Tx × Unit) => d.1)) y144)) fun y145 => M.bind (M.ok (tx "threads")) fun y146 => M.ok (decide (y145 = y146))) fun c147 => if c147 = true then M.bind (M.bind (M.ok picture65) fun y160 => M.bind (M.bind (M.bind (M.ok warp84) fun y148 => M.bind (M.ok weft103) fun y149 => catS y148 y149) fun y158 => M.bind (M.bind (M.bind (M.bind (M.ok found123) fun y150 => unr y150) fun y151 => M.ok y151.2.1) fun y156 => M.bind (M.bind (M.bind (M.bind (M.ok found123) fun y152 => unr y152) fun y153 => M.ok y153.2.2.1) fun y154 => M.bind (M.ok ()) fun y155 => M.ok (y154, y155)) fun y157 => M.ok (y156, y157)) fun y159 => M.ok (y158, y159)) fun y161 => M.ok (y160, y161)) c__law_fits else M.bind (M.bind (M.bind (M.bind (M.ok picture65) fun y174 => M.bind (M.bind (M.bind (M.ok warp84) fun y167 => M.bind (M.ok weft103) fun y168 => catS y167 y168) fun y172 => M.bind (M.bind (M.bind (M.ok found123) fun y169 => unl y169) fun y170 => M.bind (M.ok ()) fun y171 => M.ok (y170, y171)) fun y173 => M.ok (y172, y173)) fun y175 => M.ok (y174, y175)) c__law_none_right) fun y179 => M.ok (!y179)) fun c180 => if c180 = true then M.ok false else M.bind (M.bind (M.ok (tx "none")) fun y204 => M.bind (M.bind (M.bind (M.bind (M.ok found123) fun y184 => unl y184) fun y185 => M.ok y185.2.1) fun y202 => M.bind (M.bind (M.bind (M.bind (M.bind (M.ok found123) fun y186 => unl y186) fun y187 => M.ok y187.2.2.1) fun xs199 => compM (fun pair188 => M.bind (M.ok true) fun c197 => if c197 = true then M.bind (M.bind (M.bind (M.ok pair188) fun y189 => M.ok y189.1) fun y193 => M.bind (M.bind (M.bind (M.ok pair188) fun y190 => M.ok y190.2.1) fun y191 => M.bind (M.ok ()) fun y192 => M.ok (y191, y192)) fun y194 => M.ok (y193, y194)) fun y198 => M.ok (some y198) else M.ok none) xs199) fun y200 => M.bind (M.ok ()) fun y201 => M.ok (y200, y201)) fun y203 => M.ok (y202, y203)) fun y205 => M.ok (y204, y205)) fun kept183 => M.bind (M.bind (M.bind (M.ok (found123, fun (y : ((Tx × Int × (List (Tx × (List Int) × Unit)) × Unit) ⊕ (Tx × Tx × Tx × Unit))) => y)) fun y211 => unlP y211) fun y212 => M.ok (y212.1.2.2.1, fun (y : (List (Tx × (List Int) × Unit))) => y212.2 (y212.1.1, (y212.1.2.1, (y, y212.1.2.2.2))))) fun q213 => M.bind (walkF (fun (z : (Tx × (List Int) × Unit)) => M.bind (pushM z.2.1 (0 : Int)) fun l => M.ok (z.1, (l, z.2.2))) q213.1) fun l214 => M.bind (M.ok (q213.2 l214)) fun found215 => M.bind (M.bind (M.bind (M.ok (found215, fun (y : ((Tx × Int × (List (Tx × (List Int) × Unit)) × Unit) ⊕ (Tx × Tx × Tx × Unit))) => y)) fun y224 => unlP y224) fun y225 => M.ok (y225.1.2.2.1, fun (y : (List (Tx × (List Int) × Unit))) => y225.2 (y225.1.1, (y225.1.2.1, (y, y225.1.2.2.2))))) fun q226 => M.bind (M.bind (M.ok (tx "a")) fun y220 => M.bind (M.bind (M.ok []) fun y218 => M.bind (M.ok ()) fun y219 => M.ok (y218, y219)) fun y221 => M.ok (y220, y221)) fun y246 => M.bind (pushM q226.1 y246) fun l227 => M.bind (M.ok (q226.2 l227)) fun found228 => M.bind (M.bind (M.bind (M.bind (M.ok handed122) fun y233 => M.bind (M.bind (M.ok warp84) fun y231 => M.bind (M.bind (M.ok weft103) fun y229 => M.bind (M.ok ()) fun y230 => M.ok (y229, y230)) fun y232 => M.ok (y231, y232)) fun y234 => M.ok (y233, y234)) c_first_colouring) fun y239 => M.bind (M.bind (M.ok kept183) fun y238 => M.ok (Sum.inl y238)) fun y240 => M.ok (decide (y239 = y240))) fun c243 => if c243 = true then M.bind (M.ok handed122) fun y241 => M.bind (M.ok picture65) fun y242 => M.ok (decide (y241 = y242)) else M.ok false
def f_law (script1 : (List Int)) : M Bool := M.bind (f_law_numbers script1 (63 : Int)) fun numbers2 => let most9 : Int := (5 : Int); M.bind (M.bind (M.bind (M.bind (getM numbers2 (4 : Int)) fun y12 => M.ok (y12 / (4 : Int))) fun y13 => M.ok (y13 % (8 : Int))) fun y14 => M.ok (decide (y14 = (1 : Int)))) fun c16 => M.bind (if c16 = true then let most17 : Int := (10 : Int); M.ok most17 else M.ok most9) fun (s18 : (Int)) => M.bind (M.bind (M.bind (getM numbers2 (1 : Int)) fun y22 => modM y22 s18) fun y25 => M.ok ((1 : Int) + y25)) fun wide19 => M.bind (M.bind (M.bind (getM numbers2 (2 : Int)) fun y29 => modM y29 s18) fun y32 => M.ok ((1 : Int) + y32)) fun high26 => M.bind (M.bind (M.bind (getM numbers2 (0 : Int)) fun y36 => M.ok (y36 % (6 : Int))) fun y38 => M.ok ((1 : Int) + y38)) fun span33 => M.bind (f_law_threads numbers2 (0 : Int) wide19 span33) fun warp39 => M.bind (f_law_threads numbers2 (1 : Int) high26 span33) fun weft52 => M.bind (f_law_picture numbers2 wide19 high26 span33 warp39 weft52) fun picture65 => M.bind (M.bind (M.bind (getM numbers2 (4 : Int)) fun y87 => M.ok (y87 % (4 : Int))) fun y101 => f_law_told warp39 numbers2 (2 : Int) y101 span33) fun warp84 => M.bind (M.bind (M.bind (getM numbers2 (4 : Int)) fun y106 => M.ok (y106 % (4 : Int))) fun y120 => f_law_told weft52 numbers2 (4 : Int) y120 span33) fun weft103 => let handed122 : (List Tx) := picture65; M.bind (f_first_colouring handed122 warp84 weft103) fun found123 => if ((!decide (handed122 = picture65)) || ((!true) || (!decide (((selm (fun _ : (Tx × Int × (List (Tx × (List Int) × Unit)) × Unit) => (3 : Int)) (fun _ : (Tx × Tx × Tx × Unit) => (3 : Int))) found123) = (3 : Int))))) = true then M.ok false else if (decide (((selm (fun d : (Tx × Int × (List (Tx × (List Int) × Unit)) × Unit) => d.1) (fun d : (Tx × Tx × Tx × Unit) => d.1)) found123) = (tx "threads"))) = true then M.bind (catS warp84 weft103) fun y163 => M.bind (M.bind (unr found123) fun y151 => M.ok y151.2.1) fun y164 => M.bind (M.bind (unr found123) fun y153 => M.ok y153.2.2.1) fun y165 => f_law_fits picture65 y163 y164 y165 else M.bind (M.bind (M.bind (catS warp84 weft103) fun y177 => M.bind (unl found123) fun y178 => f_law_none_right picture65 y177 y178) fun y179 => M.ok (!y179)) fun c247 => if c247 = true then M.ok false else M.bind (M.bind (M.bind (unl found123) fun y185 => M.ok y185.2.1) fun y207 => M.bind (M.bind (M.bind (unl found123) fun y187 => M.ok y187.2.2.1) fun xs199 => compM (fun pair188 => M.ok (some (pair188.1, pair188.2.1, ()))) xs199) fun y208 => M.ok ((tx "none"), y207, y208, ())) fun kept183 => M.bind (M.bind (unlP (found123, fun (y : ((Tx × Int × (List (Tx × (List Int) × Unit)) × Unit) ⊕ (Tx × Tx × Tx × Unit))) => y)) fun y212 => M.ok (y212.1.2.2.1, fun (y : (List (Tx × (List Int) × Unit))) => y212.2 (y212.1.1, (y212.1.2.1, (y, y212.1.2.2.2))))) fun q213 => M.bind (walkF (fun (z : (Tx × (List Int) × Unit)) => M.bind (pushM z.2.1 (0 : Int)) fun l => M.ok (z.1, (l, z.2.2))) q213.1) fun l214 => let found215 : ((Tx × Int × (List (Tx × (List Int) × Unit)) × Unit) ⊕ (Tx × Tx × Tx × Unit)) := q213.2 l214; M.bind (M.bind (unlP (found215, fun (y : ((Tx × Int × (List (Tx × (List Int) × Unit)) × Unit) ⊕ (Tx × Tx × Tx × Unit))) => y)) fun y225 => M.ok (y225.1.2.2.1, fun (y : (List (Tx × (List Int) × Unit))) => y225.2 (y225.1.1, (y225.1.2.1, (y, y225.1.2.2.2))))) fun q226 => M.bind (pushM q226.1 ((tx "a"), ([]), ())) fun l227 => let found228 : ((Tx × Int × (List (Tx × (List Int) × Unit)) × Unit) ⊕ (Tx × Tx × Tx × Unit)) := q226.2 l227; M.bind (M.bind (f_first_colouring handed122 warp84 weft103) fun y239 => M.ok (decide (y239 = (Sum.inl kept183)))) fun c244 => if c244 = true then M.ok (decide (handed122 = picture65)) else M.ok false
def r_law (d : ((List Int) × Unit)) : M Bool := q_law d.1
def c_law (d : ((List Int) × Unit)) : M Bool := f_law d.1
theorem eq_law : r_law = c_law := by funext d; first | (simp only [r_law, c_law, q_law, f_law, M.bind_assoc, M.bok, c__law_fits, c__law_none_right, c__law_numbers, c__law_picture, c__law_threads, c__law_told, c_first_colouring]; done) | (simp only [r_law, c_law, q_law, f_law, M.bind_assoc, M.bok, c__law_fits, c__law_none_right, c__law_numbers, c__law_picture, c__law_threads, c__law_told, c_first_colouring]; rfl)
theorem bb_law {p : Pr} (X : Facts p) {g : G} (ok : OkS p (defScope s_law) N_law V_law G_law 3 g) (hX : g.LX = List.replicate N_law.length sAny) (script1 : (List Int)) : EvB g [(sV false (tListK p.K tInt) script1), sAny, sAny, sAny, sAny, sAny, sAny, sAny, sAny, sAny, sAny, sAny, sAny] (defBody s_law) (fun r => .rt false tBool r) (q_law script1) := (evb_set ok (i := 1) (j := 1) rfl rfl (wkX hX rfl) .sh (ev_ofL (evl_call (md' := .sh) ok.toOk (fn__law_numbers X) (by decide) (j := 0) rfl .sh (eva_cons (md := .sh) (ev_vsh ok.toOk (i := 0) (j := 0) rfl rfl rfl) (eva_cons (md := .sh) (ev_int (md := .sh)) eva_nil)))) fun numbers2 => (evb_set ok (i := 2) (j := 2) rfl rfl (wkX hX rfl) .sh (ev_int (md := .sh)) fun most9 => (evb_if (LJ := (fun (s18 : (Int)) => [(sV false (tListK p.K tInt) script1), (sV false (tList tInt) numbers2), (sV false tInt s18), sAny, sAny, sAny, sAny, sAny, sAny, sAny, sAny, sAny, sAny])) (wkX hX rfl) (evt_c ok.toOk (c_eq s_int) (ev_modC (md' := .sh) ok.toOk (by decide) (ev_divC (md' := .sh) ok.toOk (by decide) (by decide) (ev_ixQ ok.toOk sq_l (ev_vsh ok.toOk (i := 1) (j := 1) rfl rfl rfl) (ev_int (md := .sh))) (ev_int (md := .sh))) (ev_int (md := .sh))) (ev_int (md := .sh))) (evb_set ok (i := 2) (j := 2) rfl rfl (wkX hX rfl) .sh (ev_int (md := .sh)) fun most17 => (evb_nx (by rfl) (Wk.s (Wk.s (Wk.s (Wk.s (Wk.s (Wk.s (Wk.s (Wk.s (Wk.s (Wk.s (Wk.s (Wk.s (Wk.s Wk.n))))))))))))))) (evb_nx (by rfl) (Wk.s (Wk.s (Wk.s (Wk.s (Wk.s (Wk.s (Wk.s (Wk.s (Wk.s (Wk.s (Wk.s (Wk.s (Wk.s Wk.n)))))))))))))) fun s18 => (evb_set ok (i := 3) (j := 3) rfl rfl (wkX hX rfl) .sh (ev_add (md' := .sh) ok.toOk (ev_int (md := .sh)) (ev_mod (md' := .sh) ok.toOk (ev_ixQ ok.toOk sq_l (ev_vsh ok.toOk (i := 1) (j := 1) rfl rfl rfl) (ev_int (md := .sh))) (ev_vsh ok.toOk (i := 2) (j := 2) rfl rfl rfl))) fun wide19 => (evb_set ok (i := 4) (j := 4) rfl rfl (wkX hX rfl) .sh (ev_add (md' := .sh) ok.toOk (ev_int (md := .sh)) (ev_mod (md' := .sh) ok.toOk (ev_ixQ ok.toOk sq_l (ev_vsh ok.toOk (i := 1) (j := 1) rfl rfl rfl) (ev_int (md := .sh))) (ev_vsh ok.toOk (i := 2) (j := 2) rfl rfl rfl))) fun high26 => (evb_set ok (i := 5) (j := 5) rfl rfl (wkX hX rfl) .sh (ev_add (md' := .sh) ok.toOk (ev_int (md := .sh)) (ev_modC (md' := .sh) ok.toOk (by decide) (ev_ixQ ok.toOk sq_l (ev_vsh ok.toOk (i := 1) (j := 1) rfl rfl rfl) (ev_int (md := .sh))) (ev_int (md := .sh)))) fun span33 => (evb_set ok (i := 6) (j := 6) rfl rfl (wkX hX rfl) .sh (ev_call (md' := .sh) ok.toOk (fn__law_threads X) (by decide) (j := 1) rfl .sh (eva_cons (md := .sh) (ev_vsh ok.toOk (i := 1) (j := 1) rfl rfl rfl) (eva_cons (md := .sh) (ev_int (md := .sh)) (eva_cons (md := .sh) (ev_vsh ok.toOk (i := 3) (j := 3) rfl rfl rfl) (eva_cons (md := .sh) (ev_vsh ok.toOk (i := 5) (j := 5) rfl rfl rfl) eva_nil))))) fun warp39 => (evb_set ok (i := 7) (j := 7) rfl rfl (wkX hX rfl) .sh (ev_call (md' := .sh) ok.toOk (fn__law_threads X) (by decide) (j := 1) rfl .sh (eva_cons (md := .sh) (ev_vsh ok.toOk (i := 1) (j := 1) rfl rfl rfl) (eva_cons (md := .sh) (ev_int (md := .sh)) (eva_cons (md := .sh) (ev_vsh ok.toOk (i := 4) (j := 4) rfl rfl rfl) (eva_cons (md := .sh) (ev_vsh ok.toOk (i := 5) (j := 5) rfl rfl rfl) eva_nil))))) fun weft52 => (evb_set ok (i := 8) (j := 8) rfl rfl (wkX hX rfl) .sh (ev_ofL (evl_call (md' := .sh) ok.toOk (fn__law_picture X) (by decide) (j := 2) rfl .sh (eva_cons (md := .sh) (ev_vsh ok.toOk (i := 1) (j := 1) rfl rfl rfl) (eva_cons (md := .sh) (ev_vsh ok.toOk (i := 3) (j := 3) rfl rfl rfl) (eva_cons (md := .sh) (ev_vsh ok.toOk (i := 4) (j := 4) rfl rfl rfl) (eva_cons (md := .sh) (ev_vsh ok.toOk (i := 5) (j := 5) rfl rfl rfl) (eva_cons (md := .sh) (ev_vsh ok.toOk (i := 6) (j := 6) rfl rfl rfl) (eva_cons (md := .sh) (ev_vsh ok.toOk (i := 7) (j := 7) rfl rfl rfl) eva_nil)))))))) fun picture65 => (evb_lit (L' := [(sV false (tListK p.K tInt) script1), (sV false (tList tInt) numbers2), (sV false tInt s18), (sV false tInt wide19), (sV false tInt high26), (sV false tInt span33), (sV false tStr warp39), (sV false tStr weft52), (sV false (tList tStr) picture65), sAny, sAny, sAny, sAny]) rfl (evb_set ok (i := 6) (j := 6) rfl rfl (wkX hX rfl) .sh (ev_call (md' := .sh) ok.toOk (fn__law_told X) (by decide) (j := 3) rfl .sh (eva_cons (md := .sh) (ev_vsh ok.toOk (i := 6) (j := 6) rfl rfl rfl) (eva_cons (md := .sh) (ev_vsh ok.toOk (i := 1) (j := 1) rfl rfl rfl) (eva_cons (md := .sh) (ev_int (md := .sh)) (eva_cons (md := .sh) (ev_modC (md' := .sh) ok.toOk (by decide) (ev_ixQ ok.toOk sq_l (ev_vsh ok.toOk (i := 1) (j := 1) rfl rfl rfl) (ev_int (md := .sh))) (ev_int (md := .sh))) (eva_cons (md := .sh) (ev_vsh ok.toOk (i := 5) (j := 5) rfl rfl rfl) eva_nil)))))) fun warp84 => (evb_set ok (i := 7) (j := 7) rfl rfl (wkX hX rfl) .sh (ev_call (md' := .sh) ok.toOk (fn__law_told X) (by decide) (j := 3) rfl .sh (eva_cons (md := .sh) (ev_vsh ok.toOk (i := 7) (j := 7) rfl rfl rfl) (eva_cons (md := .sh) (ev_vsh ok.toOk (i := 1) (j := 1) rfl rfl rfl) (eva_cons (md := .sh) (ev_int (md := .sh)) (eva_cons (md := .sh) (ev_modC (md' := .sh) ok.toOk (by decide) (ev_ixQ ok.toOk sq_l (ev_vsh ok.toOk (i := 1) (j := 1) rfl rfl rfl) (ev_int (md := .sh))) (ev_int (md := .sh))) (eva_cons (md := .sh) (ev_vsh ok.toOk (i := 5) (j := 5) rfl rfl rfl) eva_nil)))))) fun weft103 => (evb_set ok (i := 9) (j := 9) rfl rfl (wkX hX rfl) .sh (ev_ofL (evl_copyQ (md := .sh) ok.toOk sq_l (j := 4) rfl X.g_list (ev_vsh ok.toOk (i := 8) (j := 8) rfl rfl rfl))) fun handed122 => (evb_setN ok (i := 10) (j := 10) rfl rfl (.inl (wkX hX rfl)) (evn_call ok.toOk (fn_first_colouring X) (by decide) (j := 5) rfl (eva_cons (md := .sh) (ev_vsh ok.toOk (i := 9) (j := 9) rfl rfl rfl) (eva_cons (md := .sh) (ev_vsh ok.toOk (i := 6) (j := 6) rfl rfl rfl) (eva_cons (md := .sh) (ev_vsh ok.toOk (i := 7) (j := 7) rfl rfl rfl) eva_nil)))) fun found123 => (evb_ifx (wkX hX rfl) (evt_borrowP (i := 10) rfl (EvW.t (evw_orP (pureT (m := M.bind (M.ok handed122) fun y133 => M.bind (M.ok picture65) fun y134 => M.ok (!decide (y133 = y134))) (evt_c ok.toOk (c_neD ok.toOk (dList dStr) (by decide)) (ev_vsh ok.toOk (i := 9) (j := 9) rfl rfl rfl) (ev_vsh ok.toOk (i := 8) (j := 8) rfl rfl rfl)) rfl) (pureW (m := M.ok ((!true) || (!decide (((selm (fun _ : (Tx × Int × (List (Tx × (List Int) × Unit)) × Unit) => (3 : Int)) (fun _ : (Tx × Tx × Tx × Unit) => (3 : Int))) found123) = (3 : Int))))) (evw_orP (pureT (m := M.bind (M.bind (M.ok found123) fun y135 => M.ok true) fun y136 => M.ok (!y136)) (evt_not (evt_of (ev_isi (md' := .sh) (r := true) ok.toOk (j := 7) rfl X.g_isinstance (i_sum i_tup i_tup) (by decide +kernel) (ev_vsh ok.toOk (i := 10) (j := 10) rfl rfl rfl) (ev_ty (n := "tuple") (md := .sh) ok.toOk (j := 6) rfl X.g_tuple (by decide +kernel))))) rfl) (pureW (m := M.bind (M.bind (M.ok found123) fun y137 => M.ok ((selm (fun _ : (Tx × Int × (List (Tx × (List Int) × Unit)) × Unit) => (3 : Int)) (fun _ : (Tx × Tx × Tx × Unit) => (3 : Int))) y137)) fun y138 => M.bind (M.ok (3 : Int)) fun y139 => M.ok (!decide (y138 = y139))) (evw_or1 (evt_c ok.toOk (c_ne s_int) (ev_lenG (md' := .sh) ok.toOk (tl_sumE (tl_tup (n := 3) (lenS (lenS (lenS len0)))) (tl_tup (n := 3) (lenS (lenS (lenS len0))))) (j := 8) rfl X.g_len (ev_vsh ok.toOk (i := 10) (j := 10) rfl rfl rfl)) (ev_int (md := .sh)))) rfl)) rfl)))) (evb_ret (wkX hX rfl) .sh (by intro _; rfl) (ev_bool (md := .sh))) (evb_ifx (wkX hX rfl) (evt_borrowP (i := 10) rfl (evt_c ok.toOk (c_eq s_str) (ev_ixG (n := 0) ok.toOk (ta_sumE (ta_tup (n := 0) .z) (ta_tup (n := 0) .z)) (ev_vsh ok.toOk (i := 10) (j := 10) rfl rfl rfl) (ev_int (md := .sh))) (ev_str (md := .sh) (by decide +kernel)))) (evb_ret (wkX hX rfl) .sh (by intro _; rfl) (ev_borrowP (i := 10) (.inl flBool) rfl (ev_call (md' := .sh) ok.toOk (fn__law_fits X) (by decide) (j := 9) rfl .sh (eva_cons (md := .sh) (ev_vsh ok.toOk (i := 8) (j := 8) rfl rfl rfl) (eva_cons (md := .sh) (ev_catS (md' := .sh) ok.toOk (ev_vsh ok.toOk (i := 6) (j := 6) rfl rfl rfl) (ev_vsh ok.toOk (i := 7) (j := 7) rfl rfl rfl)) (eva_cons (md := .sh) (ev_ixA (n := 1) ok.toOk (.s .z) (ev_unr (ev_vsh ok.toOk (i := 10) (j := 10) rfl rfl rfl)) (ev_int (md := .sh))) (eva_cons (md := .sh) (ev_ixA (n := 2) ok.toOk (.s (.s .z)) (ev_unr (ev_vsh ok.toOk (i := 10) (j := 10) rfl rfl rfl)) (ev_int (md := .sh))) eva_nil))))))) (evb_ifx (wkX hX rfl) (evt_borrowP (i := 10) rfl (evt_not (evt_of (ev_call (md' := .sh) ok.toOk (fn__law_none_right X) (by decide) (j := 10) rfl .sh (eva_cons (md := .sh) (ev_vsh ok.toOk (i := 8) (j := 8) rfl rfl rfl) (eva_cons (md := .sh) (ev_catS (md' := .sh) ok.toOk (ev_vsh ok.toOk (i := 6) (j := 6) rfl rfl rfl) (ev_vsh ok.toOk (i := 7) (j := 7) rfl rfl rfl)) (eva_cons (md := .sh) (ev_unl (ev_vsh ok.toOk (i := 10) (j := 10) rfl rfl rfl)) eva_nil))))))) (evb_ret (wkX hX rfl) .sh (by intro _; rfl) (ev_bool (md := .sh))) (evb_setN ok (i := 11) (j := 11) rfl rfl (.inl (wkX hX rfl)) (evn_borrowP (i := 10) (fw_tup (fwa_cons (fw_v flStr) (fwa_cons (fw_v flInt) (fwa_cons (fw_l (fw_tup (fwa_cons (fw_v flStr) (fwa_cons (fw_l (fw_v flInt)) fwa_nil)))) fwa_nil)))) rfl (evn_r (evr_tup (lenWl (n := 3) (by decide) (lenWS (lenWS (lenWS @lenW0)))) (evra_cons ok.toOk (evr_n (evn_v (ev_str (md := .sh) (by decide +kernel)))) (fun g okr => (evra_cons okr (evr_n (evn_v (ev_ixA (n := 1) okr (.s .z) (ev_unl (ev_vsh okr (i := 10) (j := 10) rfl rfl rfl)) (ev_int (md := .sh))))) (fun g okr => (evra_cons okr (evr_n (evn_lc (VV' := ["pair"]) (GG' := ["list"]) (i := 12) okr (evi_seq okr sq_l (ev_ixA (n := 2) okr (.s (.s .z)) (ev_unl (ev_vsh okr (i := 10) (j := 10) rfl rfl rfl)) (ev_int (md := .sh)))) rfl rfl no_any (by decide +kernel) (by decide +kernel) (by decide +kernel) (by decide +kernel) (fun g' okc pair188 => evpts_nil) (fw_tup (fwa_cons (fw_v flStr) (fwa_cons (fw_l (fw_v flInt)) fwa_nil))) (fun g' okc pair188 => (evn_r (evr_tup (lenWl (n := 2) (by decide) (lenWS (lenWS @lenW0))) (evra_cons okc (evr_n (evn_v (ev_ixA (n := 0) okc .z (ev_vsh okc (i := 12) (j := 0) rfl rfl rfl) (ev_int (md := .sh))))) (fun g okr => (evra_cons okr (evr_n (evn_l (evl_copyQ (md := .sh) okr sq_l (j := 0) rfl X.g_list (ev_ixA (n := 1) okr (.s .z) (ev_vsh okr (i := 12) (j := 0) rfl rfl rfl) (ev_int (md := .sh)))))) (fun g okr => evra_nil) (by decide))) (by decide))))))) (fun g okr => evra_nil) (by decide))) (by decide))) (by decide))))) fun kept183 => (evb_freezeP (i := 11) rfl (evb_forB ok hX (i := 10) (evp_tup ok.toOk (.s (.s .z)) (evp_inl (evp_name ok.toOk (i := 10) (j := 10) rfl rfl rfl)) (ev_int (md := .sh))) (.s .z) (i2 := 12) (j2 := 12) rfl rfl (by decide) rfl rfl (fun _ => (ev_int (md := .sh))) (fun _ => evn_v (ev_int (md := .sh))) fun found215 => (evb_qAppend ok (wkX hX rfl) (evp_tup ok.toOk (.s (.s .z)) (evp_inl (evp_name ok.toOk (i := 10) (j := 10) rfl rfl rfl)) (ev_int (md := .sh))) (evn_r (evr_tup (lenWl (n := 2) (by decide) (lenWS (lenWS @lenW0))) (evra_cons ok.toOk (evr_n (evn_v (ev_str (md := .sh) (by decide +kernel)))) (fun g okr => (evra_cons okr (evr_n (evn_l (evl_nil (md := .sh) (S := tInt)))) (fun g okr => evra_nil) (by decide))) (by decide)))) fun found228 => (evb_ret (wkX hX rfl) .sh (by intro _; rfl) (ev_and (ev_c (md' := .sh) ok.toOk (c_eqD ok.toOk (dSIS (dList (dTup (dCons dStr (dCons (dList dInt) dNil))))) (by decide)) (ev_ofN (evn_call ok.toOk (fn_first_colouring X) (by decide) (j := 5) rfl (eva_cons (md := .sh) (ev_vsh ok.toOk (i := 9) (j := 9) rfl rfl rfl) (eva_cons (md := .sh) (ev_vsh ok.toOk (i := 6) (j := 6) rfl rfl rfl) (eva_cons (md := .sh) (ev_vsh ok.toOk (i := 7) (j := 7) rfl rfl rfl) eva_nil))))) (ev_inl (ev_vsh ok.toOk (i := 11) (j := 11) rfl rfl rfl))) (ev_one (ev_c (md' := .sh) ok.toOk (c_eqD ok.toOk (dList dStr) (by decide)) (ev_vsh ok.toOk (i := 9) (j := 9) rfl rfl rfl) (ev_vsh ok.toOk (i := 8) (j := 8) rfl rfl rfl))))))))))))))))))))))))))
theorem b_law {p : Pr} (X : Facts p) : Body p s_law N_law V_law G_law 3 (fun (d : ((List Int) × Unit)) => [(sV false (tListK p.K tInt) d.1), sAny, sAny, sAny, sAny, sAny, sAny, sAny, sAny, sAny, sAny, sAny, sAny]) (fun r => .rt false tBool r) r_law := fun g ok hX d => bb_law X ok hX d.1
theorem fnok_law {p : Pr} (X : Facts p) {f : Addr} {fd : FuncData} (hF : FunD p.K "law" "law" (defArgs s_law) (defBody s_law) (defScope s_law) [] [] f fd) : FnOk p.P p.w p.K p.mg p.base (L2.CX p.P p.w) 4 f fd ["script"] (spM p (aCons (tListK p.K tInt) aNil) (fun r => .rt false tBool r) c_law) := eq_law ▸ fn_rt (m := 12) hF sc_law (.cons .nil) rfl rfl (b_law X)
theorem singles_flat : ∀ l : List Tx, (∀ x ∈ l, x.length = 1) → (l.map List.length).sum = l.length ∧ l.flatten.length = l.length ∧ ∀ (k : Nat) (c : Nat), l[k]? = some [c] → l.flatten[k]? = some c := by
  intro l
  induction l with
  | nil => intro _; exact ⟨rfl, rfl, fun k c h => by simp at h⟩
  | cons x r ih =>
    intro hx
    obtain ⟨d, rfl⟩ := List.length_eq_one_iff.mp (hx x List.mem_cons_self)
    obtain ⟨i1, i2, i3⟩ := ih fun y hy => hx y (List.mem_cons_of_mem _ hy)
    refine ⟨by rw [List.map_cons, List.sum_cons, i1]; simp; omega, by rw [List.flatten_cons, List.length_append, i2]; simp; omega, fun k c hk => ?_⟩
    cases k with
    | zero => simpa using hk
    | succ k => exact i3 k c (by simpa using hk)
theorem join_singles {s : List Tx} (h : ∀ x ∈ s, x.length = 1) (hl : s.length ≤ 1000) : Okm (joinM [] s) (fun t => t.length = s.length ∧ ∀ (k : Nat) (c : Nat), s[k]? = some [c] → t[k]? = some c) := by
  obtain ⟨q1, q2, q3⟩ := singles_flat s h
  exact okmono (ok_join (by omega)) fun t e => by rw [e]; exact ⟨q2, q3⟩
theorem numbers_ok {script : List Int} {many : Int} (hl : script.length ≤ 63) (h1 : 63 ≤ many) (h2 : many ≤ 1000) : Okm (f_law_numbers script many) (fun ns => ns.length = many.toNat ∧ ∀ x ∈ ns, 0 ≤ x ∧ x < 1000000) := by
  unfold f_law_numbers
  show Okm (M.bind (if (decide ((0 : Int) < (script.length : Int))) = true then M.bind (M.bind (M.bind (getM script (0 : Int)) fun y12 => M.ok (y12 % (2147483646 : Int))) fun y14 => M.ok ((1 : Int) + y14)) fun step9 => M.ok step9 else M.ok 1) _) _
  refine okb (P := fun _ => True) (okif (fun c => ?_) fun _ => okv trivial) fun st _ => ?_
  · rw [decide_eq_true_eq] at c
    exact okb (P := fun _ => True) (okb (P := fun _ => True) (okb (ok_get (by omega) (by omega)) fun _ _ => okv trivial) fun _ _ => okv trivial) fun _ _ => okv trivial
  refine okb ok_range fun xs e => ?_
  subst e
  refine okb (ok_forR (fun i (s : List Int × Int) => s.1.length = i ∧ ∀ x ∈ s.1, 0 ≤ x ∧ x < 1000000) ⟨rfl, fun x hx => nomatch hx⟩ fun i s hi ⟨a1, a2⟩ => ?_) fun s ⟨a1, a2⟩ => ?_
  · unfold f_law_numbers_l1
    refine okb (ok_push (by omega)) fun s' e => okv ?_
    subst e
    refine ⟨by simp [a1], fun x hx => (List.mem_append.mp hx).elim (a2 x) fun h => ?_⟩
    rw [List.mem_singleton.mp h]
    omega
  refine okb ok_range fun xs e => ?_
  subst e
  refine okb (ok_forR (fun i (s : List Int) => s.length = many.toNat ∧ ∀ x ∈ s, 0 ≤ x ∧ x < 1000000) ⟨by rw [a1]; omega, a2⟩ fun i s hi ⟨b1, b2⟩ => ?_) fun s hs => okv hs
  unfold f_law_numbers_l2
  have m0 := Int.emod_nonneg (0 + (i : Int)) (show many ≠ 0 by omega)
  have m1 := Int.emod_lt_of_pos (0 + (i : Int)) (show 0 < many by omega)
  rw [oke (ok_mod (by omega : 0 < many)), M.bind_ok]
  refine okb (P := fun v => 0 ≤ v ∧ v < (1000000 : Int)) ?_ fun v hv => ?_
  · refine okb (P := fun _ => True) (okb (ok_get m0 (by omega)) fun a _ => okb (ok_get (by omega) (by omega)) fun b _ => okv trivial) fun a _ => okv ⟨by omega, by omega⟩
  rw [M.bind_ok]
  refine okb (ok_set m0 (by omega)) fun s' e => okv ?_
  subst e
  refine ⟨by rw [List.length_set]; exact b1, fun x hx => ?_⟩
  rcases List.mem_or_eq_of_mem_set hx with hx | hx
  · exact b2 x hx
  · subst hx; exact hv
theorem tx_dh2 : tx ".#" = [46, 35] := by decide +kernel
theorem bits_ok {ns : List Int} {w h : Int} (hl : ns.length = 63) (w1 : 1 ≤ w) (w2 : w ≤ 40) (h1 : 1 ≤ h) (h2 : h ≤ 40) : Okm (f_law_bits ns w h) (fun rows => Cloth rows w.toNat h.toNat) := by
  unfold f_law_bits
  show Okm (M.bind (rangeM 0 h) _) _
  refine okb ok_range fun xs e => ?_
  subst e
  refine okb (ok_forR (fun i (rows : List Tx) => rows.length = i ∧ ∀ r ∈ rows, r.length = w.toNat ∧ ∀ c ∈ r, c = 35 ∨ c = 46) ⟨rfl, fun r h => nomatch h⟩ fun i rows hi ⟨a1, a2⟩ => ?_) fun rows ⟨a1, a2⟩ => okv ⟨by rw [a1]; omega, fun r hr => (a2 r hr).1, fun r hr => (a2 r hr).2, by omega, by omega, by omega, by omega⟩
  unfold f_law_bits_l2
  show Okm (M.bind (rangeM 0 w) _) _
  refine okb ok_range fun xs e => ?_
  subst e
  refine okb (ok_forR (fun j (t : Tx) => t.length = j ∧ ∀ c ∈ t, c = 35 ∨ c = 46) ⟨by rw [tx_nil]; rfl, by rw [tx_nil]; exact fun c h => nomatch h⟩ fun j t hj ⟨b1, b2⟩ => ?_) fun t ⟨b1, b2⟩ => ?_
  · unfold f_law_bits_l1
    refine okb (P := fun t => t.length = j + 1 ∧ ∀ c ∈ t, c = 35 ∨ c = 46) ?_ fun t ht => okv ht
    refine okb (P := fun q => q = [35] ∨ q = [46]) ?_ fun q hq => okmono (ok_cat (by rcases hq with e | e <;> rw [e] <;> simp <;> omega)) fun y e => ?_
    · refine okb (P := fun v => v = 0 ∨ v = 1) (okb (P := fun _ => True) (okb (ok_get (by omega) (by omega)) fun a _ => okmono (ok_div (by omega) (by omega)) fun _ _ => trivial) fun a _ => okv (by omega)) fun v hv => ?_
      rw [tx_dh2]
      rcases hv with e | e <;> subst e
      · exact ⟨[46], getS_at (by decide) rfl, .inr rfl⟩
      · exact ⟨[35], getS_at (by decide) rfl, .inl rfl⟩
    · subst e
      rcases hq with e | e <;> subst e
      · exact ⟨by simp [b1], fun c hc => (List.mem_append.mp hc).elim (b2 c) fun h => .inl (List.mem_singleton.mp h)⟩
      · exact ⟨by simp [b1], fun c hc => (List.mem_append.mp hc).elim (b2 c) fun h => .inr (List.mem_singleton.mp h)⟩
  · refine okb (ok_push (by omega)) fun rows' e => okv ?_
    subst e
    refine ⟨by simp [a1], fun r hr => ?_⟩
    rcases List.mem_append.mp hr with h | h
    · exact a2 r h
    · rw [List.mem_singleton.mp h]
      exact ⟨by omega, b2⟩
theorem tx_af : tx "abcdef" = [97, 98, 99, 100, 101, 102] := by decide +kernel
theorem threads_ok {ns : List Int} {first count span : Int} (hl : ns.length = 63) (hn : ∀ x ∈ ns, 0 ≤ x ∧ x < 1000000) (c1 : 0 ≤ count) (c2 : count ≤ 40) (s1 : 1 ≤ span) (s2 : span ≤ 6) : Okm (f_law_threads ns first count span) (fun t => t.length = count.toNat ∧ ∀ c ∈ t, 97 ≤ c ∧ c ≤ 102) := by
  unfold f_law_threads
  refine okb (P := fun (l : List Tx) => l.length = count.toNat ∧ ∀ (i : Nat) (x : Tx), l[i]? = some x → ∃ c, x = [c] ∧ 97 ≤ c ∧ c ≤ 102) ?_ fun l ⟨l1, l2⟩ => ?_
  · refine okb ok_range fun xs e => ?_
    subst e
    refine okmono (ok_comp (fun _ (x : Tx) => ∃ c, x = [c] ∧ 97 ≤ c ∧ c ≤ 102) (by rw [upFrom_len]; omega) fun k hk => ?_) fun ys ⟨r1, r2⟩ => ⟨by rw [r1, upFrom_len]; omega, fun i x hx => ?_⟩
    · refine okb (P := fun x => ∃ c, x = [c] ∧ 97 ≤ c ∧ c ≤ 102) ?_ fun x hx => okv ⟨x, rfl, hx⟩
      refine okb (P := fun v => 0 ≤ v ∧ v < 6) (okb (P := fun v => 0 ≤ v) (okb (ok_get (by omega) (by omega)) fun a ha => okv (by have := (hn a (List.mem_of_getElem? ha)).1; omega)) fun a ha => ?_) fun v hv => ?_
      · have q0 := Int.emod_nonneg a (show span ≠ 0 by omega)
        have q1 := Int.emod_lt_of_pos a (show 0 < span by omega)
        exact okmono (ok_mod (by omega)) fun y e => by omega
      · rw [tx_af]
        refine okmono (ok_getS hv.1 (by show _ < (6 : Int); omega)) fun x ⟨c, hc, e⟩ => ⟨c, e, ?_⟩
        have := List.mem_of_getElem? hc
        simp at this
        omega
    · have hlt := (List.getElem?_eq_some_iff.mp hx).1
      rw [r1, upFrom_len] at hlt
      exact r2 i ((0 : Int) + i) x (by rw [upFrom_get, if_pos (by omega)]) hx
  · rw [tx_nil]
    refine okmono (join_singles (s := l) (fun x hx => ?_) (by omega)) fun t ⟨t1, t2⟩ => ⟨by omega, fun c hc => ?_⟩
    · obtain ⟨i, hi⟩ := List.mem_iff_getElem?.mp hx
      obtain ⟨c, e, _⟩ := l2 i x hi
      rw [e]; rfl
    · obtain ⟨i, hi⟩ := List.mem_iff_getElem?.mp hc
      have hlt := (List.getElem?_eq_some_iff.mp hi).1
      have hx : l[i]? = some (l[i]'(by omega)) := by simp
      obtain ⟨d, e, h1, h2⟩ := l2 i _ hx
      have := t2 i d (by rw [hx, e])
      rw [hi] at this
      cases this
      exact ⟨h1, h2⟩
theorem forM_app {α β : Type} {f : List β → α → M (List β)} {h : α → List β} {N : Nat} : ∀ (xs : List α) (s : List β), (s ++ xs.flatMap h).length ≤ N → (∀ x ∈ xs, ∀ s, (s ++ h x).length ≤ N → f s x = .ok (s ++ h x)) → forM f s xs = .ok (s ++ xs.flatMap h)
  | [], s, _, _ => by show M.ok s = _; rw [List.flatMap_nil, List.append_nil]
  | x :: xs, s, hl, hs => by
    rw [List.flatMap_cons, ← List.append_assoc] at hl
    show (f s x).bind (fun s' => forM f s' xs) = _
    rw [hs x List.mem_cons_self s (by rw [List.length_append] at hl; omega), M.bind_ok, forM_app xs _ hl (fun y hy => hs y (List.mem_cons_of_mem _ hy)), List.flatMap_cons, List.append_assoc]
theorem range_map_up {β : Type} {n : Nat} {f : Int → β} {g : Nat → β} (h : ∀ i, i < n → f (i : Int) = g i) : (upFrom 0 n).map f = (List.range n).map g := by
  refine List.ext_getElem? fun i => ?_
  rw [List.getElem?_map, List.getElem?_map, upFrom_get]
  by_cases q : i < n
  · rw [if_pos q, List.getElem?_range q]
    show some _ = some _
    rw [← h i q, Int.zero_add]
  · rw [if_neg q, List.getElem?_eq_none (by simp; omega)]; rfl
theorem upFrom_range {n : Nat} : upFrom 0 n = (List.range n).map fun i : Nat => (i : Int) := by
  have := range_map_up (n := n) (f := fun i => i) (g := fun i : Nat => (i : Int)) fun i _ => rfl
  rwa [List.map_id'] at this
theorem flatMap_map' {α β γ : Type} (f : α → β) (g : β → List γ) (l : List α) : (l.map f).flatMap g = l.flatMap fun x => g (f x) := by
  induction l with
  | nil => rfl
  | cons a l ih => rw [List.map_cons, List.flatMap_cons, List.flatMap_cons, ih]
/-- a loop over a range that appends -/
theorem forR_app {β : Type} {f : List β → Int → M (List β)} {h : Nat → List β} {N n : Nat} {s : List β} (hl : (s ++ (List.range n).flatMap h).length ≤ N) (hs : ∀ i, i < n → ∀ s, (s ++ h i).length ≤ N → f s (i : Int) = .ok (s ++ h i)) : forM f s (upFrom 0 n) = .ok (s ++ (List.range n).flatMap h) := by
  rw [upFrom_range]
  have e : ((List.range n).map fun i : Nat => (i : Int)).flatMap (fun i : Int => h i.toNat) = (List.range n).flatMap h := by rw [flatMap_map']; simp only [Int.toNat_natCast]
  rw [← e] at hl ⊢
  refine forM_app (N := N) _ s hl fun x hx t ht => ?_
  obtain ⟨k, hk, rfl⟩ := List.mem_map.mp hx
  rw [List.mem_range] at hk
  rw [Int.toNat_natCast] at ht ⊢
  exact hs k hk t ht
theorem flat_one'' {α β : Type} (f : α → β) (l : List α) : (l.flatMap fun x => [f x]) = l.map f := by
  induction l with
  | nil => rfl
  | cons a r ih => rw [List.flatMap_cons, ih]; rfl
def gAt (rows : List Tx) (j k : Nat) : Nat := (rows.getD j []).getD k 0
def tAt (t : Tx) (k : Nat) : Nat := t.getD k 0
def mkR (F : Nat → Nat) (w : Nat) : Tx := (List.range w).map F
def mkG (F : Nat → Nat → Nat) (w h : Nat) : List Tx := (List.range h).map fun j => mkR (F j) w
theorem mkR_len {F : Nat → Nat} {w : Nat} : (mkR F w).length = w := by simp [mkR]
theorem mkR_get {F : Nat → Nat} {w k : Nat} (h : k < w) : (mkR F w)[k]? = some (F k) := by simp [mkR, h]
theorem mkG_len {F : Nat → Nat → Nat} {w h : Nat} : (mkG F w h).length = h := by simp [mkG]
theorem mkG_get {F : Nat → Nat → Nat} {w h j : Nat} (hj : j < h) : (mkG F w h)[j]? = some (mkR (F j) w) := by simp [mkG, hj]
theorem mkG_mem {F : Nat → Nat → Nat} {w h : Nat} {r : Tx} (q : r ∈ mkG F w h) : ∃ j, j < h ∧ mkR (F j) w = r := by simpa [mkG] using q
theorem gAt_mk {F : Nat → Nat → Nat} {w h j k : Nat} (hj : j < h) (hk : k < w) : gAt (mkG F w h) j k = F j k := by
  unfold gAt
  rw [List.getD_eq_getElem?_getD, List.getD_eq_getElem?_getD, mkG_get hj]
  show ((mkR (F j) w)[k]?).getD 0 = _
  rw [mkR_get hk]; rfl
theorem tAt_get {t : Tx} {k : Nat} (h : k < t.length) : t[k]? = some (tAt t k) := by
  unfold tAt
  rw [List.getD_eq_getElem?_getD]
  simp [h]
theorem gAt_get {rows : List Tx} {j k : Nat} {r : Tx} (hr : rows[j]? = some r) (hk : k < r.length) : r[k]? = some (gAt rows j k) := by
  have e : rows.getD j [] = r := by rw [List.getD_eq_getElem?_getD, hr]; rfl
  unfold gAt
  rw [e]
  exact tAt_get hk
/-- rows all of one length -/
structure Gr (rows : List Tx) (w h : Nat) : Prop where
  hh : rows.length = h
  ww : ∀ r ∈ rows, r.length = w
theorem Gr.mk' {F : Nat → Nat → Nat} {w h : Nat} : Gr (mkG F w h) w h := ⟨mkG_len, fun r q => by obtain ⟨j, _, rfl⟩ := mkG_mem q; exact mkR_len⟩
theorem Gr.row {rows : List Tx} {w h j : Nat} (G : Gr rows w h) (hj : j < h) : ∃ r, rows[j]? = some r ∧ r.length = w ∧ ∀ k, k < w → r[k]? = some (gAt rows j k) := by
  have hh := G.hh
  have e : rows[j]? = some (rows[j]'(by omega)) := by simp
  have hl := G.ww _ (List.mem_of_getElem? e)
  exact ⟨_, e, hl, fun k hk => gAt_get e (by omega)⟩
theorem Gr.eq {rows : List Tx} {w h : Nat} (G : Gr rows w h) {F : Nat → Nat → Nat} (q : ∀ j k, j < h → k < w → gAt rows j k = F j k) : rows = mkG F w h := by
  have hh := G.hh
  refine List.ext_getElem? fun j => ?_
  by_cases hj : j < h
  · obtain ⟨r, e, hl, hk⟩ := G.row hj
    rw [e, mkG_get hj]
    congr 1
    refine List.ext_getElem? fun k => ?_
    by_cases hk' : k < w
    · rw [hk k hk', mkR_get hk', q j k hj hk']
    · rw [List.getElem?_eq_none (by omega), List.getElem?_eq_none (by rw [mkR_len]; omega)]
  · rw [List.getElem?_eq_none (by omega), List.getElem?_eq_none (by rw [mkG_len]; omega)]
theorem tAt_sg {t : Tx} {k : Nat} {P : Nat → Prop} (q : ∀ c ∈ t, P c) (hk : k < t.length) : P (tAt t k) := q _ (List.mem_of_getElem? (tAt_get hk))
/-- a loop that builds a row sign by sign -/
theorem row_loop {f : Tx → Int → M Tx} {F : Nat → Nat} {w : Nat} (hw : w ≤ 1000) (hs : ∀ k, k < w → ∀ s : Tx, s.length ≤ 1000 → f s (k : Int) = .ok (s ++ [F k])) : forM f [] (upFrom 0 w) = .ok (mkR F w) := by
  rw [forR_app (h := fun k => [F k]) (N := 1000) (by rw [flat_one'']; simp; exact hw) fun k hk s hl => hs k hk s (by simp at hl; omega), flat_one'']
  rfl
/-- .. and one that builds a grid row by row -/
theorem grid_loop {f : List Tx → Int → M (List Tx)} {F : Nat → Nat → Nat} {w h : Nat} (hh : h ≤ 1000) (hs : ∀ j, j < h → ∀ s : List Tx, s.length ≤ 1000 → f s (j : Int) = .ok (s ++ [mkR (F j) w])) : forM f [] (upFrom 0 h) = .ok (mkG F w h) := by
  rw [forR_app (h := fun j => [mkR (F j) w]) (N := 1000) (by rw [flat_one'']; simp; exact hh) fun k hk s hl => hs k hk s (by simp at hl; omega), flat_one'']
  rfl
theorem push_eq {α : Type} {xs : List α} {d : α} (h : xs.length < 1000000) : pushM xs d = .ok (xs ++ [d]) := oke (ok_push h)
theorem cat_eq {x y : Tx} (h : x.length + y.length ≤ 1000000) : catS x y = .ok (x ++ y) := oke (ok_cat h)
theorem tx_qm : tx "?" = [63] := by decide +kernel
theorem sing_eq {a b : Nat} : (decide (([a] : Tx) = [b])) = decide (a = b) := by simp
structure Pic (rows : List Tx) (w h : Nat) : Prop extends Gr rows w h where
  sg : ∀ r ∈ rows, ∀ c ∈ r, 97 ≤ c ∧ c ≤ 102
  w1 : 1 ≤ w
  w2 : w ≤ 40
  h1 : 1 ≤ h
  h2 : h ≤ 40
theorem dget_map {α : Type} (k k' : Key) (d : α) : ∀ ds : List (Key × α), dgetL (ds.map fun kv => if kv.1 = k then (kv.1, d) else kv) k' = (dgetL ds k').map fun x => if k' = k then d else x
  | [] => rfl
  | (q, x) :: ds => by
    have ih := dget_map k k' d ds
    unfold dgetL at ih ⊢
    rw [List.map_cons]
    by_cases a : q = k'
    · subst a
      by_cases b : q = k
      · subst b; simp [List.find?_cons]
      · simp [List.find?_cons, b]
    · by_cases b : q = k
      · subst b; simpa [List.find?_cons, a] using ih
      · simpa [List.find?_cons, a, b] using ih
theorem dget_snoc {α : Type} (k k' : Key) (d : α) : ∀ ds : List (Key × α), dgetL (ds ++ [(k, d)]) k' = match dgetL ds k' with | some x => some x | none => if k' = k then some d else none
  | [] => by
    unfold dgetL
    by_cases a : k = k'
    · subst a; simp [List.find?_cons]
    · have : ¬ k' = k := fun e => a e.symm
      simp [List.find?_cons, a, this]
  | (q, x) :: ds => by
    have ih := dget_snoc k k' d ds
    unfold dgetL at ih ⊢
    by_cases a : q = k'
    · subst a; simp [List.find?_cons]
    · simpa [List.find?_cons, a] using ih
theorem dget_any {α : Type} (k : Key) : ∀ ds : List (Key × α), (ds.any fun kv => decide (kv.1 = k)) = (dgetL ds k).isSome
  | [] => rfl
  | (q, x) :: ds => by
    have ih := dget_any k ds
    unfold dgetL at ih ⊢
    by_cases a : q = k
    · subst a; simp [List.find?_cons]
    · simpa [List.find?_cons, a] using ih
theorem dget_put {α : Type} (ds : List (Key × α)) (k k' : Key) (d : α) : dgetL (dputL ds k d) k' = if k' = k then some d else dgetL ds k' := by
  unfold dputL
  split
  · rename_i h
    rw [dget_map]
    by_cases a : k' = k
    · subst a
      rw [dget_any] at h
      obtain ⟨x, hx⟩ := Option.isSome_iff_exists.mp h
      rw [hx]; simp
    · simp [a]
  · rename_i h
    rw [dget_snoc]
    by_cases a : k' = k
    · subst a
      rw [dget_any] at h
      cases hx : dgetL ds k' with
      | none => rfl
      | some x => rw [hx] at h; exact absurd rfl h
    · simp only [a, if_false]
      cases dgetL ds k' <;> rfl
theorem dput_len {α : Type} (ds : List (Key × α)) (k : Key) (d : α) : (dputL ds k d).length ≤ ds.length + 1 := by
  unfold dputL
  split <;> simp
abbrev Bg := Int × Tx × Unit
abbrev Cm := List (Bg × Option Bg)
structure PicS (P : List Tx) (w h : Nat) : Prop where
  len : P.length = h
  row : ∀ r ∈ P, r.length = w
  sg : ∀ r ∈ P, ∀ c ∈ r, 97 ≤ c ∧ c ≤ 102
  w1 : 1 ≤ w
  w2 : w ≤ 40
  h1 : 1 ≤ h
  h2 : h ≤ 40
/-- two strands cross -/
def crs (w h : Nat) (s t : Int) : Prop := (0 ≤ s ∧ s < w ∧ (w : Int) ≤ t ∧ t < (w : Int) + h) ∨ (0 ≤ t ∧ t < w ∧ (w : Int) ≤ s ∧ s < (w : Int) + h)
theorem crs.symm {w h : Nat} {s t : Int} (c : crs w h s t) : crs w h t s := Or.symm c
theorem crs.lo {w h : Nat} {s t : Int} (c : crs w h s t) : 0 ≤ s ∧ s < (w : Int) + h := by unfold crs at c; omega
def gP (P : List Tx) (j k : Int) : Nat := (P.getD j.toNat []).getD k.toNat 0
def sn (P : List Tx) (w : Nat) (s t : Int) : Tx := if s < (w : Int) then [gP P (t - w) s] else [gP P (s - w) t]
section
variable {P : List Tx} {w h : Nat} {told : Tx}
theorem sn_symm {s t : Int} (c : crs w h s t) : sn P w s t = sn P w t s := by
  unfold sn
  rcases c with c | c
  · rw [if_pos c.2.1, if_neg (by omega)]
  · rw [if_neg (by omega), if_pos c.2.1]
theorem pic_at (hP : PicS P w h) {j k : Int} (h0 : 0 ≤ j) (h1 : j < h) (h2 : 0 ≤ k) (h3 : k < w) : ∃ r, P[j.toNat]? = some r ∧ r[k.toNat]? = some (gP P j k) ∧ 97 ≤ gP P j k ∧ gP P j k ≤ 102 := by
  have hj : j.toNat < P.length := by rw [hP.len]; omega
  have hr := hP.row _ (List.getElem_mem hj)
  have hk : k.toNat < (P[j.toNat]).length := by rw [hr]; omega
  have e : gP P j k = P[j.toNat][k.toNat] := by
    unfold gP
    simp only [List.getD_eq_getElem?_getD, List.getElem?_eq_getElem hj, Option.getD_some, List.getElem?_eq_getElem hk]
  have := hP.sg _ (List.getElem_mem hj) _ (List.getElem_mem hk)
  exact ⟨P[j.toNat], List.getElem?_eq_getElem hj, by rw [List.getElem?_eq_getElem hk, e], by rw [e]; exact this.1, by rw [e]; exact this.2⟩
theorem sn_sign (hP : PicS P w h) {s t : Int} (c : crs w h s t) : ∃ d, sn P w s t = [d] ∧ 97 ≤ d ∧ d ≤ 102 := by
  unfold sn
  rcases c with c | c
  · rw [if_pos c.2.1]
    obtain ⟨_, _, _, e⟩ := pic_at hP (j := t - w) (k := s) (by omega) (by omega) (by omega) (by omega)
    exact ⟨_, rfl, e⟩
  · rw [if_neg (by omega)]
    obtain ⟨_, _, _, e⟩ := pic_at hP (j := s - w) (k := t) (by omega) (by omega) (by omega) (by omega)
    exact ⟨_, rfl, e⟩
theorem seen_at_ok (hP : PicS P w h) {s t : Int} (c : crs w h s t) : f_seen_at P w s t = .ok (sn P w s t) := by
  unfold f_seen_at sn
  rcases c with c | c
  · rw [if_pos (decide_eq_true c.2.1), if_pos c.2.1]
    obtain ⟨r, e1, e2, _⟩ := pic_at hP (j := t - w) (k := s) (by omega) (by omega) (by omega) (by omega)
    rw [getM_at (by omega) e1]
    exact getS_at (by omega) e2
  · rw [if_neg (by rw [decide_eq_false (by omega)]; exact Bool.false_ne_true), if_neg (by omega)]
    obtain ⟨r, e1, e2, _⟩ := pic_at hP (j := s - w) (k := t) (by omega) (by omega) (by omega) (by omega)
    rw [getM_at (by omega) e1]
    exact getS_at (by omega) e2
/-- the strands that a strand crosses -/
def crL (w h : Nat) (s : Int) : List Int := if s < (w : Int) then upFrom w h else upFrom 0 w
theorem rangeL_eq {lo : Int} {n : Nat} (h0 : 0 ≤ lo) (h1 : lo ≤ 1000) (h2 : n ≤ 1000) : rangeL lo (lo + n) = .ok (upFrom lo n) := by
  unfold rangeL
  rw [if_pos ⟨by omega, by omega, by omega, by omega, by omega⟩]
  congr 2
  omega
theorem crossed_ok (hP : PicS P w h) {s : Int} : f_crossed_by P w s = .ok (crL w h s) := by
  have hw := hP.w2
  have hh := hP.h2
  unfold f_crossed_by crL
  by_cases c : s < (w : Int)
  · rw [if_pos (decide_eq_true c), if_pos c, hP.len]; exact rangeL_eq (by omega) (by omega) (by omega)
  · rw [if_neg (by rw [decide_eq_false c]; exact Bool.false_ne_true), if_neg c]
    have := rangeL_eq (lo := 0) (n := w) (by omega) (by omega) (by omega)
    rwa [Int.zero_add] at this
theorem crL_mem {s t : Int} (h0 : 0 ≤ s) (h1 : s < (w : Int) + h) : t ∈ crL w h s ↔ crs w h s t := by
  unfold crL crs
  by_cases c : s < (w : Int)
  · rw [if_pos c, upFrom_mem]; omega
  · rw [if_neg c, upFrom_mem]; omega
/-- what is told of a strand -/
def tg (told : Tx) (s : Int) : Tx := [told.getD s.toNat 0]
theorem told_at {s : Int} (h0 : 0 ≤ s) (h1 : s < told.length) : getS told s = .ok (tg told s) := by
  have hs : s.toNat < told.length := by omega
  refine getS_at h0 ?_
  rw [List.getD_eq_getElem?_getD, List.getElem?_eq_getElem hs, Option.getD_some]
def amB (told : Tx) (st b : Bg) : Bool := if b.1 = st.1 then !decide (b.2.1 = st.2.1) else (!decide (tg told b.1 = tx "?")) && (!decide (tg told b.1 = b.2.1))
theorem amiss_ok {st b : Bg} (h0 : 0 ≤ b.1) (h1 : b.1 < told.length) : f_runs_amiss told st b = .ok (amB told st b) := by
  unfold f_runs_amiss amB
  by_cases e : b.1 = st.1
  · rw [if_pos (decide_eq_true e), if_pos e]
  · rw [if_neg (by rw [decide_eq_false e]; exact Bool.false_ne_true), if_neg e, told_at h0 h1]
    show (if (!decide (tg told b.1 = tx "?")) = true then _ else _) = _
    cases (!decide (tg told b.1 = tx "?")) with
    | true => rfl
    | false => rfl
/-- one follows from the other -/
def stp (P : List Tx) (w h : Nat) (p b : Bg) : Prop := crs w h p.1 b.1 ∧ b.2.1 = sn P w p.1 b.1 ∧ b.2.1 ≠ p.2.1
/-- a strand and a colour -/
def Gd (w h : Nat) (b : Bg) : Prop := 0 ≤ b.1 ∧ b.1 < (w : Int) + h ∧ ∃ d, b.2.1 = [d] ∧ 97 ≤ d ∧ d ≤ 102
theorem stp_gd (hP : PicS P w h) {p b : Bg} (s : stp P w h p b) : Gd w h b := by
  obtain ⟨c, e, _⟩ := s
  have := c.symm.lo
  exact ⟨this.1, this.2, by rw [e]; exact sn_sign hP c⟩
def codeB (b : Bg) : Nat := b.1.toNat * 6 + (b.2.1.headD 0 - 97)
theorem codeB_lt {b : Bg} (g : Gd w h b) : codeB b < (w + h) * 6 := by
  obtain ⟨h0, h1, d, e, h2, h3⟩ := g
  unfold codeB
  rw [e]
  simp only [List.headD_cons]
  omega
theorem codeB_inj {a b : Bg} (ga : Gd w h a) (gb : Gd w h b) (e : codeB a = codeB b) : a = b := by
  obtain ⟨a1, a2, u⟩ := a
  obtain ⟨b1, b2, v⟩ := b
  obtain ⟨h0, h1, d, e1, h2, h3⟩ := ga
  obtain ⟨k0, k1, d', e2, k2, k3⟩ := gb
  simp only at e1 e2 h0 h1 k0 k1
  subst e1 e2
  unfold codeB at e
  simp only [List.headD_cons] at e
  have x1 : a1 = b1 := by omega
  have x2 : d = d' := by omega
  rw [x1, x2]
theorem nodup_nat : ∀ (n : Nat) (l : List Nat), l.Nodup → (∀ x ∈ l, x < n) → l.length ≤ n := by
  intro n
  induction n with
  | zero =>
    intro l _ hl
    cases l with
    | nil => exact Nat.le_refl _
    | cons x r => exact absurd (hl x List.mem_cons_self) (by omega)
  | succ n ih =>
    intro l hn hl
    have h1 := ih (l.filter (· ≠ n)) (hn.filter _) fun x hx => by
      obtain ⟨a, b⟩ := List.mem_filter.mp hx
      have := hl x a
      have : x ≠ n := of_decide_eq_true b
      omega
    have h2 : l.length ≤ (l.filter (· ≠ n)).length + 1 := by
      clear ih hl h1
      induction l with
      | nil => simp
      | cons y r ihr =>
        rw [List.nodup_cons] at hn
        have h3 := ihr hn.2
        by_cases e : y = n
        · have h4 : (r.filter (· ≠ n)) = r := List.filter_eq_self.mpr fun x hx => decide_eq_true fun z => hn.1 (by rw [e, ← z]; exact hx)
          rw [List.filter_cons_of_neg (by simp [e]), h4, List.length_cons]
          omega
        · rw [List.filter_cons_of_pos (by simp [e]), List.length_cons, List.length_cons]
          omega
    omega
theorem line_len {l : List Bg} (hn : l.Nodup) (hg : ∀ b ∈ l, Gd w h b) : l.length ≤ (w + h) * 6 := by
  have h1 : (l.map codeB).Nodup := by
    rw [List.nodup_iff_pairwise_ne, List.pairwise_map]
    refine List.Pairwise.imp_of_mem (fun {a b} ha hb hab e => hab (codeB_inj (hg a ha) (hg b hb) e)) (List.nodup_iff_pairwise_ne.mp hn)
  have h2 := nodup_nat ((w + h) * 6) _ h1 fun x hx => by
    obtain ⟨b, hb, e⟩ := List.mem_map.mp hx
    rw [← e]; exact codeB_lt (hg b hb)
  rwa [List.length_map] at h2
/-- a dict that tells where each came from -/
structure Tree (P : List Tx) (w h : Nat) (st : Bg) (cm : Cm) : Prop where
  nd : (cm.map (·.1)).Nodup
  fst : cm[0]? = some (st, none)
  gd : ∀ b ∈ cm.map (·.1), Gd w h b
  par : ∀ (i : Nat) b o, 0 < i → cm[i]? = some (b, o) → ∃ (j : Nat) (p : Bg) (o' : Option Bg), j < i ∧ cm[j]? = some (p, o') ∧ o = some p ∧ stp P w h p b
theorem Tree.len {st : Bg} {cm : Cm} (T : Tree P w h st cm) : cm.length ≤ (w + h) * 6 := by
  have := line_len T.nd T.gd
  rwa [List.length_map] at this
theorem dgetT_none {cm : Cm} {b : Bg} (h : b ∉ cm.map (·.1)) : dgetT cm b = none := by
  unfold dgetT
  rw [List.find?_eq_none.mpr fun x hx => ?_]
  · rfl
  · intro e
    exact h (List.mem_map.mpr ⟨x, hx, of_decide_eq_true e⟩)
theorem dgetT_some {cm : Cm} : (cm.map (·.1)).Nodup → ∀ {i : Nat} {b : Bg} {o : Option Bg}, cm[i]? = some (b, o) → dgetT cm b = some o := by
  induction cm with
  | nil => intro _ i b o e; simp at e
  | cons x r ih =>
    intro hn i b o e
    rw [List.map_cons, List.nodup_cons] at hn
    cases i with
    | zero =>
      simp at e
      subst e
      simp [dgetT, List.find?_cons]
    | succ i =>
      have e' : r[i]? = some (b, o) := by simpa using e
      have hx : x.1 ≠ b := fun z => hn.1 (by rw [z]; exact List.mem_map.mpr ⟨_, List.mem_of_getElem? e', rfl⟩)
      have := ih hn.2 e'
      unfold dgetT at this ⊢
      rw [List.find?_cons_of_neg (by simp [hx])]
      exact this
theorem dgetT_isSome {cm : Cm} {b : Bg} : (dgetT cm b).isSome = true ↔ b ∈ cm.map (·.1) := by
  refine ⟨fun h => ?_, fun h => ?_⟩
  · exact Decidable.byContradiction fun z => by rw [dgetT_none z] at h; cases h
  · obtain ⟨x, hx, e⟩ := List.mem_map.mp h
    unfold dgetT
    cases q : cm.find? (fun kv => decide (kv.1 = b)) with
    | none => exact absurd (List.find?_eq_none.mp q x hx) (by simp [e])
    | some y => rfl
theorem dputT_new {cm : Cm} {b : Bg} {o : Option Bg} (h : b ∉ cm.map (·.1)) (hl : cm.length < 1000000) : dputTM cm b o = .ok (cm ++ [(b, o)]) := by
  unfold dputTM
  rw [if_pos (Nat.lt_trans hl (by decide))]
  unfold dputT
  rw [if_neg ?_]
  intro z
  obtain ⟨x, hx, e⟩ := List.any_eq_true.mp z
  exact h (List.mem_map.mpr ⟨x, hx, of_decide_eq_true e⟩)
theorem Tree.snoc {st b p : Bg} {o : Option Bg} {cm : Cm} (hP : PicS P w h) (T : Tree P w h st cm) {j : Nat} (hj : cm[j]? = some (p, o)) (s : stp P w h p b) (hb : b ∉ cm.map (·.1)) : Tree P w h st (cm ++ [(b, some p)]) where
  nd := by
    rw [List.map_append, List.nodup_append]
    refine ⟨T.nd, by simp, fun x hx y hy e => ?_⟩
    simp at hy
    exact hb (by rw [← hy, ← e]; exact hx)
  fst := by
    have := T.fst
    have hl : 0 < cm.length := (List.getElem?_eq_some_iff.mp this).1
    rw [List.getElem?_append_left hl]; exact this
  gd := fun x hx => by
    rw [List.map_append] at hx
    rcases List.mem_append.mp hx with hx | hx
    · exact T.gd x hx
    · simp at hx; rw [hx]; exact stp_gd hP s
  par := fun i x o' h0 e => by
    have hjl : j < cm.length := (List.getElem?_eq_some_iff.mp hj).1
    by_cases hi : i < cm.length
    · rw [List.getElem?_append_left hi] at e
      obtain ⟨j', p', o2, q1, q2, q3, q4⟩ := T.par i x o' h0 e
      exact ⟨j', p', o2, q1, by rw [List.getElem?_append_left (by omega)]; exact q2, q3, q4⟩
    · have hi2 : i = cm.length := by
        have := (List.getElem?_eq_some_iff.mp e).1
        simp at this; omega
      subst hi2
      rw [List.getElem?_append_right (Nat.le_refl _), Nat.sub_self] at e
      simp at e
      obtain ⟨e1, e2⟩ := e
      subst e1 e2
      exact ⟨j, p, o, hjl, by rw [List.getElem?_append_left hjl]; exact hj, rfl, s⟩
/-- closed, and nothing amiss -/
structure Clo (P : List Tx) (w h : Nat) (told : Tx) (st : Bg) (cm : Cm) : Prop where
  tr : Tree P w h st cm
  ok : ∀ b ∈ cm.map (·.1), b ≠ st → amB told st b = false
  cl : ∀ b ∈ cm.map (·.1), ∀ t, crs w h b.1 t → sn P w b.1 t ≠ b.2.1 → (t, sn P w b.1 t, ()) ∈ cm.map (·.1)
/-- the last one cannot be -/
structure Amiss (P : List Tx) (w h : Nat) (told : Tx) (st : Bg) (cm : Cm) (b : Bg) : Prop where
  tr : Tree P w h st cm
  am : amB told st b = true
  at_ : ∃ (i : Nat) (o : Option Bg), 0 < i ∧ cm[i]? = some (b, o)
theorem spread_ok (hP : PicS P w h) (ht : told.length = w + h) {st : Bg} (hs : Gd w h st) :
    Okm (f_spread_from P told st) (fun r => (r.2.1 = none ∧ Clo P w h told st r.1) ∨ ∃ b, r.2.1 = some b ∧ Amiss P w h told st r.1 b) := by
  have hw2 := hP.w2
  have hh2 := hP.h2
  have hw1 := hP.w1
  have hh1 := hP.h1
  unfold f_spread_from
  have hr0 : 0 < P.length := by rw [hP.len]; omega
  have e0 : getM P (0 : Int) = .ok P[0] := getM_nat (i := 0) (List.getElem?_eq_getElem hr0)
  have e1 : (P[0]).length = w := hP.row _ (List.getElem_mem hr0)
  rw [e0]
  show Okm (M.bind (M.ok ((P[0]).length : Int)) _) _
  rw [e1]
  show Okm (M.bind (whileF f_spread_from_t2 (f_spread_from_w3 P told st w) fuel ([(st, none)], [st], (0 : Int))) _) _
  -- the loop's facts
  let I : Cm × List Bg × Int → Prop := fun s => Tree P w h st s.1 ∧ s.1.map (·.1) = s.2.1 ∧ 0 ≤ s.2.2 ∧ s.2.2 ≤ s.2.1.length ∧ (∀ b ∈ s.2.1, b ≠ st → amB told st b = false) ∧
    ∀ (i : Nat) b, (i : Int) < s.2.2 → s.2.1[i]? = some b → ∀ t, crs w h b.1 t → sn P w b.1 t ≠ b.2.1 → (t, sn P w b.1 t, ()) ∈ s.2.1
  have hI0 : I ([(st, none)], [st], 0) := by
    refine ⟨⟨by simp, rfl, fun b hb => by simp at hb; rw [hb]; exact hs, fun i b o h0 e => ?_⟩, rfl, by simp, by simp, fun b hb n => by simp at hb; exact absurd hb n, fun i b hi => by simp at hi; omega⟩
    cases i with
    | zero => omega
    | succ i => simp at e
  refine okel (N := fun s => I s ∧ f_spread_from_t2 s = .ok false) (R := fun (r : Cm × Option Bg × Unit) => ∃ b, r.2.1 = some b ∧ Amiss P w h told st r.1 b) (ok_whileF I _ (fun s => ((w + h) * 6 + 1) - s.2.2.toNat) hI0 (by simp; omega) ?_) (fun s hs' => ?_) fun r hr => okv (.inr hr)
  · rintro ⟨cm, line, at_⟩ ⟨T, hk, ha0, ha1, hok, hcl⟩
    simp only at hk ha0 ha1 hok hcl T
    refine okv fun hc => ?_
    have hlt : at_ < (line.length : Int) := of_decide_eq_true hc
    have hai : at_.toNat < line.length := by omega
    obtain ⟨p, hp⟩ : ∃ p, line[at_.toNat]? = some p := ⟨_, List.getElem?_eq_getElem hai⟩
    have hll : line.length ≤ (w + h) * 6 := by rw [← hk, List.length_map]; exact T.len
    have hpm : p ∈ line := List.mem_of_getElem? hp
    have hpg : Gd w h p := T.gd p (by rw [hk]; exact hpm)
    unfold f_spread_from_w3
    rw [getM_at ha0 hp]
    show Okm (M.bind (f_crossed_by P w p.1) _) _
    rw [crossed_ok hP]
    show Okm (M.bind (forF (f_spread_from_l1 P told st w (cm, line, at_) p) (cm, line) (crL w h p.1)) _) _
    let J : Nat → Cm × List Bg → Prop := fun k s => Tree P w h st s.1 ∧ s.1.map (·.1) = s.2 ∧ (∀ b ∈ s.2, b ≠ st → amB told st b = false) ∧ (∃ l2, s.2 = line ++ l2) ∧
      ∀ t ∈ (crL w h p.1).take k, sn P w p.1 t ≠ p.2.1 → (t, sn P w p.1 t, ()) ∈ s.2
    refine okel (N := J (crL w h p.1).length) (R := fun (r : Cm × Option Bg × Unit) => ∃ b, r.2.1 = some b ∧ Amiss P w h told st r.1 b) (ok_forF J _ ⟨T, hk, hok, ⟨[], by simp⟩, fun t ht => by simp at ht⟩ ?_) (fun s hs' => ?_) fun r hr => okv hr
    · rintro k t ⟨c2, l2⟩ hkt ⟨T2, hk2, hok2, ⟨l3, hl3⟩, hcl2⟩
      simp only at hk2 hok2 hl3 hcl2 T2
      have hct : crs w h p.1 t := (crL_mem hpg.1 hpg.2.1).mp (List.mem_of_getElem? hkt)
      have htk : ∀ x, x ∈ (crL w h p.1).take (k + 1) ↔ x ∈ (crL w h p.1).take k ∨ x = t := fun x => by
        rw [List.take_add_one, hkt]; simp
      unfold f_spread_from_l1
      rw [seen_at_ok hP hct]
      show Okm (if ((decide (sn P w p.1 t = p.2.1)) || (dgetT c2 (t, sn P w p.1 t, ())).isSome) = true then _ else _) _
      refine okif (fun hb => okv ?_) fun hb => ?_
      · refine ⟨T2, hk2, hok2, ⟨l3, hl3⟩, fun x hx n => ?_⟩
        rcases (htk x).mp hx with hx | rfl
        · exact hcl2 x hx n
        · rcases Bool.or_eq_true _ _ ▸ hb with e | e
          · exact absurd (of_decide_eq_true e) n
          · rw [← hk2]; exact dgetT_isSome.mp e
      · have hb1 : sn P w p.1 t ≠ p.2.1 := fun z => by rw [decide_eq_true z] at hb; cases hb
        have hb2 : (t, sn P w p.1 t, ()) ∉ c2.map (·.1) := fun z => by rw [dgetT_isSome.mpr z, Bool.or_true] at hb; cases hb
        have hp2 : l2[at_.toNat]? = some p := by rw [hl3, List.getElem?_append_left hai]; exact hp
        have hpc : ∃ o, c2[at_.toNat]? = some (p, o) := by
          have : (c2.map (·.1))[at_.toNat]? = some p := by rw [hk2]; exact hp2
          rw [List.getElem?_map] at this
          cases q : c2[at_.toNat]? with
          | none => rw [q] at this; cases this
          | some x =>
            rw [q] at this
            have e : x.1 = p := Option.some.inj this
            exact ⟨x.2, by rw [← e]⟩
        obtain ⟨o, hpc⟩ := hpc
        have hst : stp P w h p (t, sn P w p.1 t, ()) := ⟨hct, rfl, hb1⟩
        have T3 := T2.snoc hP hpc hst hb2
        have h0t := hct.symm.lo
        show Okm (M.bind (M.bind (getM l2 at_) fun y58 => M.ok (some y58)) _) _
        rw [getM_at ha0 hp2]
        show Okm (M.bind (dputTM c2 (t, sn P w p.1 t, ()) (some p)) _) _
        rw [dputT_new hb2 (by have := T2.len; omega)]
        show Okm (M.bind (f_runs_amiss told st (t, sn P w p.1 t, ())) _) _
        rw [amiss_ok (b := (t, sn P w p.1 t, ())) h0t.1 (by rw [ht]; push_cast; exact h0t.2)]
        refine okif (fun ham => okv ?_) fun ham => ?_
        · exact ⟨_, rfl, T3, ham, c2.length, some p, (by have := (List.getElem?_eq_some_iff.mp T2.fst).1; omega), (by simp)⟩
        · refine okb (ok_push (by rw [← hk2, List.length_map]; have := T2.len; omega)) fun l4 e4 => okv ?_
          subst e4
          refine ⟨T3, by rw [List.map_append, hk2]; rfl, fun x hx n => ?_, ⟨l3 ++ [(t, sn P w p.1 t, ())], by rw [hl3, List.append_assoc]⟩, fun x hx n => ?_⟩
          · rcases List.mem_append.mp hx with hx | hx
            · exact hok2 x hx n
            · simp at hx; rw [hx]; exact ham
          · rcases (htk x).mp hx with hx | rfl
            · exact List.mem_append_left _ (hcl2 x hx n)
            · exact List.mem_append_right _ (by simp)
    · obtain ⟨c2, l2⟩ := s
      obtain ⟨T2, hk2, hok2, ⟨l3, hl3⟩, hcl2⟩ := hs'
      simp only at hk2 hok2 hl3 hcl2 T2
      refine okv ⟨⟨T2, hk2, by show (0 : Int) ≤ at_ + 1; omega, ?_, hok2, fun i b hi hb t hc n => ?_⟩, ?_⟩
      · show at_ + 1 ≤ (l2.length : Int)
        rw [hl3, List.length_append]; push_cast; omega
      · have hi : (i : Int) < at_ + 1 := hi
        have hil : i < line.length := by omega
        have hb' : line[i]? = some b := by
          have : l2[i]? = some b := hb
          rw [hl3, List.getElem?_append_left hil] at this; exact this
        by_cases hi2 : (i : Int) < at_
        · show _ ∈ l2
          rw [hl3]
          exact List.mem_append_left _ (hcl i b hi2 hb' t hc n)
        · have e : i = at_.toNat := by omega
          subst e
          rw [hp] at hb'
          cases hb'
          refine hcl2 t ?_ n
          rw [List.take_length]
          exact (crL_mem hpg.1 hpg.2.1).mpr hc
      · show (w + h) * 6 + 1 - (at_ + 1).toNat < (w + h) * 6 + 1 - at_.toNat
        omega
  · obtain ⟨cm, line, at_⟩ := s
    obtain ⟨⟨T, hk, ha0, ha1, hok, hcl⟩, hf⟩ := hs'
    simp only at hk ha0 ha1 hok hcl T
    have hge : ¬ at_ < (line.length : Int) := fun z => by
      have e : f_spread_from_t2 (cm, line, at_) = .ok (decide (at_ < (line.length : Int))) := rfl
      rw [e, decide_eq_true z] at hf
      cases hf
    refine okv (.inl ⟨rfl, T, fun b hb n => hok b (by rw [← hk]; exact hb) n, fun b hb t hc n => ?_⟩)
    have hb' : b ∈ line := by rw [← hk]; exact hb
    obtain ⟨i, hi, e⟩ := List.getElem_of_mem hb'
    show _ ∈ cm.map (·.1)
    rw [hk]
    exact hcl i b (by omega) (by rw [List.getElem?_eq_getElem hi, e]) t hc n
end
inductive Rcb (P : List Tx) (w h : Nat) (st : Bg) : Bg → Prop where
  | base : Rcb P w h st st
  | next {p b : Bg} : Rcb P w h st p → stp P w h p b → Rcb P w h st b
section
variable {P : List Tx} {w h : Nat} {told : Tx}
theorem Tree.rcb {st : Bg} {cm : Cm} (T : Tree P w h st cm) : ∀ (i : Nat) b o, cm[i]? = some (b, o) → Rcb P w h st b := by
  intro i
  induction i using Nat.strongRecOn with
  | _ i ih =>
    intro b o e
    by_cases h0 : i = 0
    · subst h0
      have := T.fst
      rw [e] at this
      cases this
      exact .base
    · obtain ⟨j, p, o', hj, e1, _, s⟩ := T.par i b o (by omega) e
      exact (ih j hj p o' e1).next s
theorem Tree.rcbM {st : Bg} {cm : Cm} (T : Tree P w h st cm) {b : Bg} (hb : b ∈ cm.map (·.1)) : Rcb P w h st b := by
  obtain ⟨x, hx, e⟩ := List.mem_map.mp hb
  obtain ⟨i, hi, e2⟩ := List.getElem_of_mem hx
  exact T.rcb i b x.2 (by rw [List.getElem?_eq_getElem hi, e2, ← e])
theorem Rcb.sub {st b : Bg} {S : Bg → Prop} (r : Rcb P w h st b) (h0 : S st) (hs : ∀ p b, S p → stp P w h p b → S b) : S b := by
  induction r with
  | base => exact h0
  | next _ s ih => exact hs _ _ ih s
/-- where a closed set gives a reached strand another colour, it gives the first strand another colour -/
theorem Rcb.back {st b : Bg} {S : Bg → Prop} (hs : ∀ p b, S p → stp P w h p b → S b) (r : Rcb P w h st b) : ∀ {c : Tx}, S (b.1, c, ()) → c ≠ b.2.1 → ∃ c', S (st.1, c', ()) ∧ c' ≠ st.2.1 := by
  induction r with
  | base => intro c h1 h2; exact ⟨c, h1, h2⟩
  | @next p b _ s ih =>
    intro c h1 h2
    obtain ⟨s1, s2, s3⟩ := s
    refine ih (c := b.2.1) (hs (b.1, c, ()) (p.1, b.2.1, ()) h1 ⟨s1.symm, ?_, fun z => h2 z.symm⟩) s3
    rw [s2]; exact sn_symm s1
/-- a colouring fits a picture -/
structure Fits (P : List Tx) (w h : Nat) (told : Tx) (τ : Int → Tx) : Prop where
  gd : ∀ s, 0 ≤ s → s < (w : Int) + h → Gd w h (s, τ s, ())
  fit : ∀ s t, crs w h s t → τ s = sn P w s t ∨ τ t = sn P w s t
  told : ∀ s, 0 ≤ s → s < (w : Int) + h → tg told s = tx "?" ∨ tg told s = τ s
theorem Fits.stp {τ : Int → Tx} (F : Fits P w h told τ) {p b : Bg} (hp : p.2.1 = τ p.1) (s : stp P w h p b) : b.2.1 = τ b.1 := by
  obtain ⟨c, e, n⟩ := s
  rcases F.fit _ _ c with h1 | h1
  · exact absurd (by rw [e, hp, h1]) n
  · rw [e, h1]
theorem Fits.rcb {τ : Int → Tx} (F : Fits P w h told τ) {st b : Bg} (h0 : st.2.1 = τ st.1) (r : Rcb P w h st b) : b.2.1 = τ b.1 := r.sub (S := fun b => b.2.1 = τ b.1) h0 fun _ _ hp s => F.stp hp s
theorem Fits.nam {τ : Int → Tx} (F : Fits P w h told τ) {st b : Bg} (h0 : st.2.1 = τ st.1) (hb : b.2.1 = τ b.1) (hg : Gd w h b) : amB told st b = false := by
  unfold amB
  by_cases e : b.1 = st.1
  · rw [if_pos e, hb, h0, e, decide_eq_true rfl]; rfl
  · rw [if_neg e]
    rcases F.told b.1 hg.1 hg.2.1 with q | q
    · rw [decide_eq_true q]; rfl
    · rw [decide_eq_true (q.trans hb.symm), Bool.not_true, Bool.and_false]
theorem Amiss.no {τ : Int → Tx} (F : Fits P w h told τ) {st b : Bg} {cm : Cm} (A : Amiss P w h told st cm b) : st.2.1 ≠ τ st.1 := fun h0 => by
  obtain ⟨i, o, _, e⟩ := A.at_
  have r := A.tr.rcb i b o e
  have := F.nam h0 (F.rcb h0 r) (A.tr.gd b (List.mem_map.mpr ⟨_, List.mem_of_getElem? e, rfl⟩))
  rw [A.am] at this
  cases this
/-- a closed set that is not amiss is a function -/
theorem Clo.fn {st : Bg} {cm : Cm} (C : Clo P w h told st cm) {s : Int} {c c' : Tx} (h1 : (s, c, ()) ∈ cm.map (·.1)) (h2 : (s, c', ()) ∈ cm.map (·.1)) : c = c' := by
  refine Decidable.byContradiction fun n => ?_
  obtain ⟨c'', h3, h4⟩ := (C.tr.rcbM h1).back (S := fun b => b ∈ cm.map (·.1)) (fun p b hp ⟨q1, q2, q3⟩ => by
    have := C.cl p hp b.1 q1 (by rw [← q2]; exact q3)
    rw [← q2] at this
    exact this) (c := c') h2 (fun z => n z.symm)
  have := C.ok _ h3 (fun z => h4 (by rw [← z]))
  unfold amB at this
  rw [if_pos rfl, decide_eq_false h4] at this
  cases this
/-- a way from the first to b -/
inductive Way (P : List Tx) (w h : Nat) : Bg → Bg → List Bg → Prop where
  | one {b : Bg} : Way P w h b b [b]
  | cons {st p b : Bg} {l : List Bg} : Way P w h st p l → stp P w h p b → Way P w h st b (l ++ [b])
theorem chain_ok {st : Bg} {cm : Cm} (T : Tree P w h st cm) (hl : cm.length ≤ 100000) {i : Nat} {b : Bg} {o : Option Bg} (e : cm[i]? = some (b, o)) :
    Okm (f_chain_back cm (some b)) (fun l => ∃ y, l = y.map (·.1) ∧ Way P w h st b y ∧ y.length ≤ i + 1) := by
  unfold f_chain_back
  let I : Option Bg × List Int → Prop := fun s => ∃ z, s.2 = z.reverse.map (·.1) ∧ z.length ≤ cm.length ∧ match s.1 with
    | none => Way P w h st b z ∧ z.length ≤ i + 1
    | some q => ∃ (k : Nat) (o' : Option Bg), cm[k]? = some (q, o') ∧ k + z.length ≤ i ∧ ∀ y, Way P w h st q y → y.length ≤ k + 1 → Way P w h st b (y ++ z) ∧ (y ++ z).length ≤ i + 1
  let μ : Option Bg × List Int → Nat := fun s => cm.length + 1 - s.2.length
  have hi : i < cm.length := (List.getElem?_eq_some_iff.mp e).1
  show Okm (M.bind (whileM f_chain_back_t1 (f_chain_back_w2 cm) fuel (some b, [])) _) _
  refine okb (ok_while I μ ⟨[], rfl, by simp, i, o, e, by simp, fun y hy hyl => ⟨by simpa using hy, by simpa using hyl⟩⟩ (by show cm.length + 1 - 0 < 1000000; omega) ?_) fun s hs => ?_
  · rintro ⟨q, ch⟩ ⟨z, hz, hzl, hq⟩
    simp only at hz hq
    refine okv fun hc => ?_
    cases q with
    | none => cases hc
    | some q =>
      obtain ⟨k, o', ek, hk, hw⟩ := hq
      have hkl : k < cm.length := (List.getElem?_eq_some_iff.mp ek).1
      have hchl : ch.length = z.length := by rw [hz, List.length_map, List.length_reverse]
      show Okm (M.bind (pushM ch q.1) fun chain6 => M.bind (getTM cm q) fun last10 => M.ok (last10, chain6)) _
      refine okb (ok_push (by omega)) fun ch2 e2 => ?_
      subst e2
      have eg : getTM cm q = .ok o' := by unfold getTM; rw [dgetT_some T.nd ek]
      rw [eg]
      refine okv ⟨⟨q :: z, by rw [hz, List.reverse_cons, List.map_append]; rfl, by simp only [List.length_cons]; omega, ?_⟩, ?_⟩
      · cases o' with
        | none =>
          by_cases hk0 : k = 0
          · subst hk0
            have := T.fst
            rw [ek] at this
            have eq : q = st := (Prod.mk.inj (Option.some.inj this)).1
            subst eq
            have := hw [q] .one (by simp)
            exact ⟨by simpa using this.1, by simpa using this.2⟩
          · obtain ⟨_, p, _, _, _, z1, _⟩ := T.par k q none (by omega) ek
            cases z1
        | some p =>
          have hk0 : 0 < k := by
            refine Nat.pos_of_ne_zero fun z0 => ?_
            subst z0
            have := T.fst
            rw [ek] at this
            cases this
          obtain ⟨j, p', o2, hj, e1, z1, s⟩ := T.par k q (some p) hk0 ek
          cases z1
          refine ⟨j, o2, e1, by simp only [List.length_cons]; omega, fun y hy hyl => ?_⟩
          have := hw (y ++ [q]) (hy.cons s) (by simp; omega)
          simpa using this
      · show cm.length + 1 - (ch ++ [q.1]).length < cm.length + 1 - ch.length
        rw [List.length_append, List.length_singleton]
        omega
  · obtain ⟨q, ch⟩ := s
    obtain ⟨⟨z, hz, hzl, hq⟩, hf⟩ := hs
    cases q with
    | some q => exact absurd hf (by show ¬ (M.ok true = M.ok false); exact fun z => nomatch z)
    | none =>
      have hz : ch = z.reverse.map (·.1) := hz
      refine okv ⟨z, ?_, hq.1, hq.2⟩
      show ch.reverse = _
      rw [hz, ← List.map_reverse, List.reverse_reverse]
end
abbrev Bs := List (Key × Tx)
abbrev bg (B : Bs) (s : Int) : Option Tx := dgetL B (.inl s)
theorem keyed_ok {B : Bs} {cm : Cm} (hf : ∀ s c c', (s, c, ()) ∈ cm.map (·.1) → (s, c', ()) ∈ cm.map (·.1) → c = c') (hl : B.length + cm.length ≤ 1000000) :
    Okm (keyed B cm) (fun B' => (∀ s c, (s, c, ()) ∈ cm.map (·.1) → bg B' s = some c) ∧ (∀ s, (∀ c, (s, c, ()) ∉ cm.map (·.1)) → bg B' s = bg B s) ∧ B'.length ≤ B.length + cm.length) := by
  unfold keyed
  have mem : ∀ {j : Nat} {kv : Bg × Option Bg}, cm[j]? = some kv → (kv.1.1, kv.1.2.1, ()) ∈ cm.map (·.1) := fun {j kv} e => List.mem_map.mpr ⟨kv, List.mem_of_getElem? e, rfl⟩
  refine okmono (ok_for (fun i B' => (∀ j kv, j < i → cm[j]? = some kv → bg B' kv.1.1 = some kv.1.2.1) ∧ (∀ s, (∀ j kv, j < i → cm[j]? = some kv → kv.1.1 ≠ s) → bg B' s = bg B s) ∧ B'.length ≤ B.length + i) ⟨fun j kv h => by omega, fun s _ => rfl, by omega⟩ ?_) fun B' ⟨h1, h2, h3⟩ => ⟨fun s c hm => ?_, fun s hs => h2 s fun j kv _ e z => hs kv.1.2.1 (by rw [← z]; exact mem e), h3⟩
  · intro i kv B1 e ⟨h1, h2, h3⟩
    have hi : i < cm.length := (List.getElem?_eq_some_iff.mp e).1
    unfold dputM
    rw [if_pos (Nat.lt_of_lt_of_le (show B1.length < 1000001 by omega) (by decide))]
    refine okv ⟨fun j kv' hj e' => ?_, fun s hs => ?_, Nat.le_trans (dput_len _ _ _) (by omega)⟩
    · show dgetL _ (.inl _) = _
      rw [dget_put]
      by_cases a : kv'.1.1 = kv.1.1
      · rw [if_pos (by rw [a])]
        have := mem e'
        rw [a] at this
        rw [hf _ _ _ this (mem e)]
      · rw [if_neg (fun z => a (Sum.inl.inj z))]
        refine h1 j kv' ?_ e'
        rcases Nat.lt_or_ge j i with q | q
        · exact q
        · have : j = i := by omega
          subst this
          rw [e] at e'
          cases e'
          exact absurd rfl a
    · show dgetL _ (.inl _) = _
      rw [dget_put, if_neg (fun z => hs i kv (by omega) e (Sum.inl.inj z).symm)]
      exact h2 s fun j kv' hj => hs j kv' (by omega)
  · obtain ⟨x, hx, ex⟩ := List.mem_map.mp hm
    obtain ⟨j, hj, ej⟩ := List.getElem_of_mem hx
    have := h1 j x hj (by rw [List.getElem?_eq_getElem hj, ej])
    rw [ex] at this
    exact this
def hdB (c : Tx) : Nat := c.headD 0
section
variable {P : List Tx} {w h : Nat} {told : Tx}
/-- the colours found so far; pre = the strands gone through -/
structure BInv (P : List Tx) (w h : Nat) (told : Tx) (pre : List Int) (B : Bs) : Prop where
  gd : ∀ s c, bg B s = some c → Gd w h (s, c, ())
  cl : ∀ s c, bg B s = some c → ∀ t, crs w h s t → sn P w s t ≠ c → bg B t = some (sn P w s t)
  tld : ∀ s c, bg B s = some c → tg told s = tx "?" ∨ tg told s = c
  org : ∀ s c, bg B s = some c → ∃ r cr, r ∈ pre ∧ bg B r = some cr ∧ Rcb P w h (r, cr, ()) (s, c, ()) ∧ (tg told r = tx "?" → ∀ τ, Fits P w h told τ → ¬ hdB (τ r) < hdB cr) ∧ (tg told r = tx "?" → tg told s = tx "?" → r ≤ s)
  done : ∀ r ∈ pre, (bg B r).isSome = true
  len : B.length ≤ pre.length * 480
theorem BInv.more {pre : List Int} {B : Bs} (I : BInv P w h told pre B) {s : Int} (hs : (bg B s).isSome = true) : BInv P w h told (pre ++ [s]) B where
  gd := I.gd
  cl := I.cl
  tld := I.tld
  org := fun t c e => let ⟨r, cr, h1, h2⟩ := I.org t c e; ⟨r, cr, List.mem_append_left _ h1, h2⟩
  done := fun r hr => by
    rcases List.mem_append.mp hr with hr | hr
    · exact I.done r hr
    · rw [List.mem_singleton.mp hr]; exact hs
  len := by have := I.len; rw [List.length_append]; simp; omega
theorem BInv.put {pre : List Int} {B B' : Bs} (I : BInv P w h told pre B) {s : Int} {c : Tx} {cm : Cm} (hn : bg B s = none) (C : Clo P w h told (s, c, ()) cm) (hw : w + h ≤ 80)
    (h1 : ∀ s c, (s, c, ()) ∈ cm.map (·.1) → bg B' s = some c) (h2 : ∀ s, (∀ c, (s, c, ()) ∉ cm.map (·.1)) → bg B' s = bg B s) (h3 : B'.length ≤ B.length + cm.length)
    (ht : tg told s = tx "?" ∨ tg told s = c) (hm : tg told s = tx "?" → ∀ τ, Fits P w h told τ → ¬ hdB (τ s) < hdB c) (ho : ∀ t, 0 ≤ t → t < s → tg told t = tx "?" → tg told s = tx "?" → t ∈ pre) : BInv P w h told (pre ++ [s]) B' := by
  have hst : (s, c, ()) ∈ cm.map (·.1) := List.mem_map.mpr ⟨_, List.mem_of_getElem? C.tr.fst, rfl⟩
  have stay : ∀ t c1, bg B t = some c1 → bg B' t = some c1 := fun t c1 e => by
    by_cases a : ∃ c', (t, c', ()) ∈ cm.map (·.1)
    · obtain ⟨c', hc'⟩ := a
      rw [h1 t c' hc']
      refine congrArg some (Decidable.byContradiction fun n => ?_)
      obtain ⟨c'', q1, _⟩ := (C.tr.rcbM hc').back (S := fun b => bg B b.1 = some b.2.1) (fun p b hp ⟨z1, z2, z3⟩ => by
        have := I.cl p.1 p.2.1 hp b.1 z1 (by rw [← z2]; exact z3)
        rw [this, z2]) (c := c1) e (fun z => n z.symm)
      have q1 : bg B s = some c'' := q1
      rw [hn] at q1
      cases q1
    · rw [h2 t fun c' hc' => a ⟨c', hc'⟩]; exact e
  have cases_ : ∀ t c', bg B' t = some c' → (t, c', ()) ∈ cm.map (·.1) ∨ bg B t = some c' := fun t c' e => by
    by_cases a : ∃ c2, (t, c2, ()) ∈ cm.map (·.1)
    · obtain ⟨c2, hc2⟩ := a
      rw [h1 t c2 hc2] at e
      cases e
      exact .inl hc2
    · rw [h2 t fun c' hc' => a ⟨c', hc'⟩] at e; exact .inr e
  refine ⟨fun t c' e => ?_, fun t c' e u hc n => ?_, fun t c' e => ?_, fun t c' e => ?_, fun r hr => ?_, ?_⟩
  · rcases cases_ t c' e with q | q
    · exact C.tr.gd _ q
    · exact I.gd t c' q
  · rcases cases_ t c' e with q | q
    · exact h1 _ _ (C.cl _ q u hc n)
    · exact stay _ _ (I.cl t c' q u hc n)
  · rcases cases_ t c' e with q | q
    · by_cases a : (t, c', ()) = ((s, c, ()) : Bg)
      · cases a; exact ht
      · have := C.ok _ q a
        unfold amB at this
        by_cases b : t = s
        · rw [if_pos b] at this
          have e2 : c' = c := by simpa using this
          exact absurd (by rw [b, e2]) a
        · rw [if_neg b] at this
          by_cases z : tg told t = tx "?"
          · exact .inl z
          · rw [decide_eq_false z] at this
            exact .inr (by simpa using this)
    · exact I.tld t c' q
  · have old : bg B t = some c' → _ := fun q => I.org t c' q
    cases hb : bg B t with
    | some c1 =>
      have e2 := stay t c1 hb
      rw [e] at e2
      cases e2
      obtain ⟨r, cr, z1, z2, z3⟩ := old hb
      exact ⟨r, cr, List.mem_append_left _ z1, stay r cr z2, z3⟩
    | none =>
      rcases cases_ t c' e with q | q
      · refine ⟨s, c, by simp, h1 s c hst, C.tr.rcbM q, hm, fun f1 f2 => ?_⟩
        refine Int.not_lt.mp fun lt => ?_
        have := I.done t (ho t (C.tr.gd _ q).1 lt f2 f1)
        rw [hb] at this
        cases this
      · rw [hb] at q; cases q
  · rcases List.mem_append.mp hr with hr | hr
    · obtain ⟨c1, e⟩ := Option.isSome_iff_exists.mp (I.done r hr)
      rw [stay r c1 e]; rfl
    · rw [List.mem_singleton.mp hr, h1 s c hst]; rfl
  · have q1 := I.len
    have q2 := C.tr.len
    rw [List.length_append, List.length_singleton]
    omega
/-- a chain that shows that a strand cannot bear a colour -/
def ChR (P : List Tx) (w h : Nat) (told : Tx) (s : Int) (c : Tx) (l : List Int) : Prop := ∃ b y, l = y.map (·.1) ∧ Way P w h (s, c, ()) b y ∧ amB told (s, c, ()) b = true ∧ y.length ≤ (w + h) * 6
def dueB (told : Tx) (s : Int) (c : Tx) : Bool := decide (tg told s = tx "?") || decide (tg told s = c)
def lets : List Tx := (tx "abcdef").map fun c => [c]
theorem lets_get {i : Nat} {c : Tx} (e : lets[i]? = some c) : i < 6 ∧ c = [97 + i] := by
  have hl : lets = [[97], [98], [99], [100], [101], [102]] := by decide +kernel
  rw [hl] at e
  have hi : i < 6 := by simpa using (List.getElem?_eq_some_iff.mp e).1
  refine ⟨hi, ?_⟩
  match i, hi with
  | 0, _ => simp at e; exact e.symm
  | 1, _ => simp at e; exact e.symm
  | 2, _ => simp at e; exact e.symm
  | 3, _ => simp at e; exact e.symm
  | 4, _ => simp at e; exact e.symm
  | 5, _ => simp at e; exact e.symm
theorem lets_len : lets.length = 6 := by decide +kernel
/-- one strand, its colours in order -/
theorem strand_ok (hP : PicS P w h) (ht : told.length = w + h) {pre : List Int} {B : Bs} (I : BInv P w h told pre B) (hpl : pre.length ≤ 160) {s : Int} (h0 : 0 ≤ s) (h1 : s < (w : Int) + h) (ho : ∀ t, 0 ≤ t → t < s → tg told t = tx "?" → tg told s = tx "?" → t ∈ pre) :
    Okm (forM (f_first_colouring_l1 P told s) (B, []) lets) (fun r => ((bg r.1 s).isSome = true ∧ BInv P w h told (pre ++ [s]) r.1) ∨
      (bg r.1 s = none ∧ r.2.map (·.1) = lets.filter (dueB told s) ∧ (∀ x ∈ r.2, ChR P w h told s x.1 x.2.1) ∧ ∀ c ∈ lets, dueB told s c = true → ∀ τ, Fits P w h told τ → τ s ≠ c)) := by
  have hw : w + h ≤ 80 := by have := hP.w2; have := hP.h2; omega
  have hlen := I.len
  refine okmono (ok_for (fun i r => ((bg r.1 s).isSome = true ∧ BInv P w h told (pre ++ [s]) r.1) ∨
      (bg r.1 s = none ∧ r.1 = B ∧ r.2.map (·.1) = (lets.take i).filter (dueB told s) ∧ (∀ x ∈ r.2, ChR P w h told s x.1 x.2.1) ∧ ∀ c ∈ lets.take i, dueB told s c = true → ∀ τ, Fits P w h told τ → τ s ≠ c)) ?_ ?_) fun r hr => ?_
  · cases e : bg B s with
    | some c => exact .inl ⟨rfl, I.more (by rw [e]; rfl)⟩
    | none => exact .inr ⟨rfl, rfl, by simp, fun x hx => by simp at hx, fun c hc => by simp at hc⟩
  · rintro i c ⟨B1, ch⟩ ec hJ
    obtain ⟨hi, hc⟩ := lets_get ec
    have htake : lets.take (i + 1) = lets.take i ++ [c] := by rw [List.take_add_one, ec]; rfl
    have hg : Gd w h (s, c, ()) := ⟨h0, h1, _, hc, by omega, by omega⟩
    unfold f_first_colouring_l1
    rw [told_at h0 (by rw [ht]; push_cast; exact h1)]
    rcases hJ with ⟨j1, j2⟩ | ⟨j1, j2, j3, j4, j5⟩
    · show Okm (M.bind (if (bg B1 s).isSome = true then M.ok true else _) _) _
      rw [if_pos j1]
      exact okv (.inl ⟨j1, j2⟩)
    · simp only at j1 j2 j3 j4 j5
      subst j2
      show Okm (M.bind (if (bg B1 s).isSome = true then M.ok true else M.ok (!memD (tg told s) [tx "?", c])) _) _
      rw [if_neg (by rw [j1]; exact Bool.false_ne_true)]
      have hd : memD (tg told s) [tx "?", c] = dueB told s c := by
        unfold memD dueB
        by_cases z1 : tg told s = tx "?"
        · simp [z1]
        · by_cases z2 : tg told s = c
          · simp [z2]
          · simp [z1, z2]
      rw [hd]
      show Okm (if (!dueB told s c) = true then _ else _) _
      refine okif (fun hdu => okv (.inr ⟨j1, rfl, ?_, j4, fun c' hc' hd' => ?_⟩)) fun hdu => ?_
      · have hdu : dueB told s c = false := by simpa using hdu
        rw [htake, List.filter_append, j3]
        simp [hdu]
      · have hdu : dueB told s c = false := by simpa using hdu
        rw [htake] at hc'
        rcases List.mem_append.mp hc' with q | q
        · exact j5 c' q hd'
        · rw [List.mem_singleton.mp q, hdu] at hd'; cases hd'
      · have hdu : dueB told s c = true := by simpa using hdu
        have htc : tg told s = tx "?" ∨ tg told s = c := by
          unfold dueB at hdu
          rcases Bool.or_eq_true _ _ ▸ hdu with z | z
          · exact .inl (of_decide_eq_true z)
          · exact .inr (of_decide_eq_true z)
        refine okb (spread_ok hP ht hg) fun t ht' => ?_
        rcases ht' with ⟨t1, C⟩ | ⟨b, t1, A⟩
        · rw [t1]
          refine okif (fun _ => ?_) fun z => by cases z
          have cl := C.tr.len
          refine okb (keyed_ok (B := B1) (cm := t.1) (fun s c c' q1 q2 => C.fn q1 q2) (by omega)) fun B2 ⟨k1, k2, k3⟩ => okv (.inl ?_)
          have hst : (s, c, ()) ∈ t.1.map (·.1) := List.mem_map.mpr ⟨_, List.mem_of_getElem? C.tr.fst, rfl⟩
          refine ⟨by show (bg B2 s).isSome = true; rw [k1 s c hst]; rfl, I.put j1 C hw k1 k2 k3 htc (fun hq τ F hlt => ?_) ho⟩
          obtain ⟨_, _, d, e1, e2, e3⟩ := F.gd s h0 h1
          have e1 : τ s = [d] := e1
          have hdc : hdB c = 97 + i := by rw [hc]; rfl
          have hdd : hdB (τ s) = d := by rw [e1]; rfl
          have hdi : d - 97 < i := by omega
          have hil : d - 97 < lets.length := by rw [lets_len]; omega
          have e4 : lets[d - 97]? = some [d] := by
            have e5 := List.getElem?_eq_getElem hil
            have := (lets_get e5).2
            rw [e5, this]
            congr 2
            omega
          refine j5 [d] ?_ ?_ τ F e1
          · refine List.mem_of_getElem? (i := d - 97) ?_
            rw [List.getElem?_take_of_lt hdi]; exact e4
          · unfold dueB; rw [decide_eq_true hq]; rfl
        · rw [t1]
          refine okif (fun z => by cases z) fun _ => ?_
          obtain ⟨ib, ob, hib, eb⟩ := A.at_
          have al := A.tr.len
          have hibl : ib < t.1.length := (List.getElem?_eq_some_iff.mp eb).1
          show Okm (M.bind (M.bind (f_chain_back t.1 (some b)) fun y112 => M.ok (c, y112, ())) fun y113 => M.bind (pushM ch y113) fun chains100 => M.ok (B1, chains100)) _
          refine okb (P := fun (x : Tx × List Int × Unit) => ∃ l y, x = (c, l, ()) ∧ l = y.map (·.1) ∧ Way P w h (s, c, ()) b y ∧ y.length ≤ ib + 1) (okb (chain_ok A.tr (by omega) eb) fun l ⟨y, hl⟩ => okv ⟨l, y, rfl, hl⟩) fun x ⟨l, y, ex, y1, y2, y3⟩ => ?_
          subst ex
          have hchl : ch.length ≤ 6 := by
            have e1 : (ch.map (·.1)).length ≤ (lets.take i).length := by rw [j3]; exact List.length_filter_le _ _
            rw [List.length_map, List.length_take, lets_len] at e1
            omega
          refine okb (ok_push (by omega)) fun ch2 e2 => okv (.inr ⟨j1, rfl, ?_, fun x hx => ?_, fun c' hc' hd' τ F => ?_⟩)
          · subst e2
            rw [htake, List.filter_append, List.map_append, j3]
            simp [hdu]
          · subst e2
            rcases List.mem_append.mp hx with hx | hx
            · exact j4 x hx
            · rw [List.mem_singleton.mp hx]
              exact ⟨b, y, y1, y2, A.am, by omega⟩
          · rw [htake] at hc'
            rcases List.mem_append.mp hc' with q | q
            · exact j5 c' q hd' τ F
            · rw [List.mem_singleton.mp q]
              exact fun z => A.no F z.symm
  · rcases hr with hr | ⟨j1, j2, j3, j4, j5⟩
    · exact .inl hr
    · rw [List.take_length] at j3 j5
      exact .inr ⟨j1, j3, j4, j5⟩
end
section
variable {P : List Tx} {w h : Nat} {told : Tx}
theorem notin_of {c : Nat} {S : Tx} (h : c ∈ S) : notinSM [c] S = .ok false := by
  show M.ok (!decide (c ∈ S)) = _
  rw [decide_eq_true h]; rfl
theorem af_mem {c : Nat} (h : 97 ≤ c ∧ c ≤ 102) : c ∈ tx "abcdef" := by
  have e : tx "abcdef" = [97, 98, 99, 100, 101, 102] := by decide +kernel
  rw [e]; simp; omega
theorem seen_pict (hP : PicS P w h) : f_seen_picture P = .ok ((w : Int), (h : Int), ()) := by
  have hh := hP.len
  have w1 := hP.w1
  have w2 := hP.w2
  have h1 := hP.h1
  have h2 := hP.h2
  have e0 : P[0]? = some (P[0]'(by omega)) := by simp
  have hl := hP.row _ (List.mem_of_getElem? e0)
  refine oke ?_
  unfold f_seen_picture
  refine okif (fun c => ?_) fun _ => ?_
  · simp at c; omega
  rw [getM_at (by omega) e0]
  simp only [M.bok]
  refine okif (fun c => ?_) fun _ => ?_
  · simp at c; omega
  refine okb (P := fun _ => True) (ok_forI (fun _ => True) trivial fun row hr s _ => ?_) fun _ _ => okv (by rw [hl, show ((P.length : Nat) : Int) = (h : Int) by omega])
  unfold f_seen_picture_l2
  refine okif (fun c => ?_) fun _ => ?_
  · rw [hP.row row hr, hl] at c; simp at c
  refine okb (P := fun _ => True) (ok_forI (fun _ => True) trivial fun sg hs s _ => ?_) fun _ _ => okv trivial
  obtain ⟨c, hc, rfl⟩ := List.mem_map.mp hs
  unfold f_seen_picture_l1
  rw [notin_of (af_mem (hP.sg row hr c hc))]
  exact okv trivial
theorem seen_thr {t S : Tx} {n : Int} (hl : (t.length : Int) = n) (hs : ∀ c ∈ t, c ∈ S) : f_seen_threads t n S = .ok () := by
  refine oke ?_
  unfold f_seen_threads
  refine okif (fun c => ?_) fun _ => ?_
  · simp [hl] at c
  refine okb (P := fun _ => True) (ok_forI (fun _ => True) trivial fun sign h s _ => ?_) fun _ _ => okv rfl
  unfold f_seen_threads_l1
  obtain ⟨c, hc, rfl⟩ := List.mem_map.mp h
  rw [notin_of (hs c hc)]
  exact okv trivial
/-- the colours as a text -/
def txtV (v : Int → Tx) (n : Nat) : Tx := ((upFrom 0 n).map v).flatten
/-- the first colouring of all -/
def Lex (P : List Tx) (w h : Nat) (told : Tx) (v : Int → Tx) : Prop := ∀ τ, Fits P w h told τ → ∀ k, 0 ≤ k → k < (w : Int) + h → (∀ j, 0 ≤ j → j < k → τ j = v j) → ¬ hdB (τ k) < hdB (v k)
def Sg7 (c : Nat) : Prop := 97 ≤ c ∧ c ≤ 102 ∨ c = 63
def Out1 (P : List Tx) (w h : Nat) (told : Tx) : ((Tx × Int × (List (Tx × (List Int) × Unit)) × Unit) ⊕ (Tx × Tx × Tx × Unit)) → Prop
  | .inl x => ∃ (s : Int) (ch : List (Tx × List Int × Unit)), x = (tx "none", s, ch, ()) ∧ 0 ≤ s ∧ s < (w : Int) + h ∧ ch.map (·.1) = lets.filter (dueB told s) ∧ (∀ y ∈ ch, ChR P w h told s y.1 y.2.1) ∧ ∀ τ, ¬ Fits P w h told τ
  | .inr x => ∃ v, x = (tx "threads", (txtV v (w + h)).take w, (txtV v (w + h)).drop w, ()) ∧ Fits P w h told v ∧ Lex P w h told v
theorem lets_mem {d : Nat} (h0 : 97 ≤ d) (h1 : d ≤ 102) : [d] ∈ lets := by
  have hl : lets = [[97], [98], [99], [100], [101], [102]] := by decide +kernel
  rw [hl]
  have : d = 97 ∨ d = 98 ∨ d = 99 ∨ d = 100 ∨ d = 101 ∨ d = 102 := by omega
  rcases this with e | e | e | e | e | e <;> subst e <;> simp
theorem txtV_len {v : Int → Tx} : ∀ {n : Nat}, (∀ s, 0 ≤ s → s < (n : Int) → ∃ d, v s = [d]) → (txtV v n).length = n ∧ ∀ (k : Nat), k < n → ∃ d, v k = [d] ∧ (txtV v n)[k]? = some d := by
  intro n
  induction n with
  | zero => intro _; exact ⟨by simp [txtV, upFrom], fun k hk => by omega⟩
  | succ n ih =>
    intro hv
    obtain ⟨i1, i2⟩ := ih fun s h0 h1 => hv s h0 (by push_cast; omega)
    obtain ⟨d, hd⟩ := hv n (by omega) (by push_cast; omega)
    have e : txtV v (n + 1) = txtV v n ++ [d] := by
      unfold txtV
      rw [upFrom_succ', List.map_append, List.flatten_append]
      simp [hd]
    rw [e]
    refine ⟨by simp [i1], fun k hk => ?_⟩
    by_cases q : k < n
    · obtain ⟨d', e1, e2⟩ := i2 k q
      exact ⟨d', e1, by rw [List.getElem?_append_left (by omega)]; exact e2⟩
    · have : k = n := by omega
      subst this
      exact ⟨d, hd, by rw [List.getElem?_append_right (by omega), i1, Nat.sub_self]; rfl⟩
theorem first_ok (hP : PicS P w h) {warp weft : Tx} (hw : warp.length = w) (hf : weft.length = h) (sw : ∀ c ∈ warp, Sg7 c) (sf : ∀ c ∈ weft, Sg7 c) :
    Okm (f_first_colouring P warp weft) (Out1 P w h (warp ++ weft)) := by
  have w1 := hP.w1
  have w2 := hP.w2
  have h1 := hP.h1
  have h2 := hP.h2
  have ht : (warp ++ weft).length = w + h := by rw [List.length_append]; omega
  have s7 : ∀ c, Sg7 c → c ∈ tx "abcdef" ++ tx "?" := fun c hc => by
    rcases hc with z | z
    · exact List.mem_append_left _ (af_mem z)
    · rw [z]; exact List.mem_append_right _ (by decide +kernel)
  have ec : catS (tx "abcdef") (tx "?") = .ok (tx "abcdef" ++ tx "?") := oke (ok_cat (by decide +kernel))
  unfold f_first_colouring
  rw [seen_pict hP]
  show Okm (M.bind (M.bind (catS (tx "abcdef") (tx "?")) fun y18 => f_seen_threads warp (w : Int) y18) fun u19 => M.bind (M.bind (catS (tx "abcdef") (tx "?")) fun y30 => f_seen_threads weft (h : Int) y30) fun u31 => _) _
  rw [ec]
  simp only [M.bok]
  rw [seen_thr (by omega) fun c hc => s7 c (sw c hc)]
  simp only [M.bok]
  rw [seen_thr (by omega) fun c hc => s7 c (sf c hc)]
  simp only [M.bok]
  refine okb (ok_cat (by omega)) fun told et => ?_
  subst et
  generalize htd : warp ++ weft = told at *
  have hn : ((w : Int) + (h : Int)) = ((w + h : Nat) : Int) := by push_cast; rfl
  have er : rangeM 0 ((w : Int) + (h : Int)) = .ok (upFrom 0 (w + h)) := by
    rw [range_eq]
    congr 2
  rw [er]
  simp only [M.bok]
  have hxl : (upFrom 0 (w + h)).length ≤ 1000000 := by rw [upFrom_len]; omega
  have hgs : ∀ x ∈ upFrom 0 (w + h), getS told x = .ok (tg told x) := fun x hx => by
    have := upFrom_bd hx
    exact told_at this.1 (by rw [ht]; omega)
  rw [comp_eq (g := fun s => if (!decide (tg told s = tx "?")) = true then some s else none) hxl fun x hx => by
    rw [hgs x hx]
    show (if (!decide (tg told x = tx "?")) = true then M.ok (some x) else M.ok none) = _
    cases (!decide (tg told x = tx "?")) <;> rfl]
  simp only [M.bok]
  rw [comp_eq (g := fun s => if (decide (tg told s = tx "?")) = true then some s else none) hxl fun x hx => by
    rw [hgs x hx]
    show (if (decide (tg told x = tx "?")) = true then M.ok (some x) else M.ok none) = _
    cases (decide (tg told x = tx "?")) <;> rfl]
  simp only [M.bok]
  -- the strands in order
  generalize hL1 : (upFrom 0 (w + h)).filterMap (fun s => if (!decide (tg told s = tx "?")) = true then some s else none) = L1
  generalize hL2 : (upFrom 0 (w + h)).filterMap (fun s => if (decide (tg told s = tx "?")) = true then some s else none) = L2
  have l1 : L1.length ≤ w + h := by rw [← hL1]; exact Nat.le_trans (List.length_filterMap_le _ _) (by rw [upFrom_len]; exact Nat.le_refl _)
  have l2 : L2.length ≤ w + h := by rw [← hL2]; exact Nat.le_trans (List.length_filterMap_le _ _) (by rw [upFrom_len]; exact Nat.le_refl _)
  have m1 : ∀ s, s ∈ L1 ↔ (0 ≤ s ∧ s < (w : Int) + h) ∧ tg told s ≠ tx "?" := fun s => by
    rw [← hL1, List.mem_filterMap]
    constructor
    · rintro ⟨a, ha, e⟩
      by_cases q : tg told a = tx "?"
      · rw [decide_eq_true q] at e; simp at e
      · rw [decide_eq_false q] at e
        simp at e
        subst e
        have := upFrom_bd ha
        exact ⟨⟨this.1, by omega⟩, q⟩
    · rintro ⟨⟨a, b⟩, q⟩
      exact ⟨s, upFrom_mem.mpr ⟨a, by omega⟩, by rw [decide_eq_false q]; rfl⟩
  have m2 : ∀ s, s ∈ L2 ↔ (0 ≤ s ∧ s < (w : Int) + h) ∧ tg told s = tx "?" := fun s => by
    rw [← hL2, List.mem_filterMap]
    constructor
    · rintro ⟨a, ha, e⟩
      by_cases q : tg told a = tx "?"
      · rw [decide_eq_true q] at e
        simp at e
        subst e
        have := upFrom_bd ha
        exact ⟨⟨this.1, by omega⟩, q⟩
      · rw [decide_eq_false q] at e; simp at e
    · rintro ⟨⟨a, b⟩, q⟩
      exact ⟨s, upFrom_mem.mpr ⟨a, by omega⟩, by rw [decide_eq_true q]; rfl⟩
  have up2 : L2.Pairwise (· < ·) := by
    rw [← hL2]
    have hu : (upFrom 0 (w + h)).Pairwise (· < ·) := by
      rw [List.pairwise_iff_getElem]
      intro i j hi hj hij
      have e1 := List.getElem?_eq_getElem hi
      have e2 := List.getElem?_eq_getElem hj
      rw [upFrom_get] at e1 e2
      rw [upFrom_len] at hi hj
      rw [if_pos hi] at e1
      rw [if_pos hj] at e2
      rw [← Option.some.inj e1, ← Option.some.inj e2]
      omega
    refine List.Pairwise.filterMap _ (fun a b hab a' ha b' hb => ?_) hu
    simp only [Option.ite_none_right_eq_some] at ha hb
    have ha2 := ha.2
    have hb2 := hb.2
    simp at ha2 hb2
    omega
  refine okb (ok_catL (by omega)) fun L eL => ?_
  subst eL
  have mem : ∀ s, 0 ≤ s → s < (w : Int) + h → s ∈ L1 ++ L2 := fun s a b => by
    rw [List.mem_append]
    by_cases q : tg told s = tx "?"
    · exact .inr ((m2 s).mpr ⟨⟨a, b⟩, q⟩)
    · exact .inl ((m1 s).mpr ⟨⟨a, b⟩, q⟩)
  have bd : ∀ s ∈ L1 ++ L2, 0 ≤ s ∧ s < (w : Int) + h := fun s hs => by
    rcases List.mem_append.mp hs with q | q
    · exact ((m1 s).mp q).1
    · exact ((m2 s).mp q).1
  have hLl : (L1 ++ L2).length ≤ 160 := by rw [List.length_append]; omega
  have st : Okm (forF (f_first_colouring_l2 P told) ([] : Bs) (L1 ++ L2)) (FlP (fun B => BInv P w h told (L1 ++ L2) B) (Out1 P w h told)) := by
    have key := ok_forF (f := f_first_colouring_l2 P told) (s0 := ([] : Bs)) (xs := L1 ++ L2) (fun k B => BInv P w h told ((L1 ++ L2).take k) B) (Out1 P w h told) ⟨fun s c e => by simp [bg, dgetL] at e, fun s c e => by simp [bg, dgetL] at e, fun s c e => by simp [bg, dgetL] at e, fun s c e => by simp [bg, dgetL] at e, fun r hr => by simp at hr, by simp⟩ ?_
    · rwa [List.take_length] at key
    intro k s B e I
    have hs := bd s (List.mem_of_getElem? e)
    have htk : (L1 ++ L2).take (k + 1) = (L1 ++ L2).take k ++ [s] := by rw [List.take_add_one, e]; rfl
    have ho : ∀ t, 0 ≤ t → t < s → tg told t = tx "?" → tg told s = tx "?" → t ∈ (L1 ++ L2).take k := fun t t0 t1 f1 f2 => by
      have hk1 : L1.length ≤ k := Nat.not_lt.mp fun lt => by
        rw [List.getElem?_append_left lt] at e
        exact ((m1 s).mp (List.mem_of_getElem? e)).2 f2
      rw [List.getElem?_append_right hk1] at e
      obtain ⟨m, hm, em⟩ := List.getElem_of_mem ((m2 t).mpr ⟨⟨t0, by omega⟩, f1⟩)
      have hkl := (List.getElem?_eq_some_iff.mp e).1
      have ek := (List.getElem?_eq_some_iff.mp e).2
      have hlt : m < k - L1.length := Nat.not_le.mp fun le => by
        rcases Nat.lt_or_eq_of_le le with q | q
        · have := (List.pairwise_iff_getElem.mp up2) _ _ hkl hm q
          omega
        · subst q; omega
      rw [List.take_append]
      refine List.mem_append_right _ ?_
      refine List.mem_of_getElem? (i := m) ?_
      rw [List.getElem?_take_of_lt hlt, List.getElem?_eq_getElem hm, em]
    have hpl : ((L1 ++ L2).take k).length ≤ 160 := Nat.le_trans (by rw [List.length_take]; exact Nat.min_le_right _ _) hLl
    unfold f_first_colouring_l2
    show Okm (M.bind (forM (f_first_colouring_l1 P told s) (B, []) lets) _) _
    refine okb (strand_ok hP ht I hpl hs.1 hs.2 ho) fun r hr => ?_
    rcases hr with ⟨a1, a2⟩ | ⟨a1, a2, a3, a4⟩
    · refine okif (fun z => by rw [show (dgetL r.1 (.inl s)).isSome = true from a1] at z; cases z) fun _ => okv ?_
      show BInv P w h told _ _
      rw [htk]; exact a2
    · refine okif (fun _ => okv ?_) fun z => by rw [show dgetL r.1 (.inl s) = none from a1] at z; cases z
      refine ⟨s, r.2, rfl, hs.1, hs.2, a2, a3, fun τ F => ?_⟩
      obtain ⟨_, _, d, e1, e2, e3⟩ := F.gd s hs.1 hs.2
      have e1 : τ s = [d] := e1
      refine a4 [d] (lets_mem e2 e3) ?_ τ F e1
      unfold dueB
      rcases F.told s hs.1 hs.2 with q | q
      · rw [decide_eq_true q]; rfl
      · rw [decide_eq_true (q.trans e1), Bool.or_true]
  refine okel st (fun B I => ?_) fun r hr => okv hr
  have hv : ∀ s, 0 ≤ s → s < (w : Int) + h → ∃ c, bg B s = some c := fun s a b => Option.isSome_iff_exists.mp (I.done s (mem s a b))
  let v : Int → Tx := fun s => (bg B s).getD []
  have vs : ∀ s, 0 ≤ s → s < (w : Int) + h → bg B s = some (v s) := fun s a b => by
    obtain ⟨c, e⟩ := hv s a b
    show bg B s = some ((bg B s).getD [])
    rw [e]; rfl
  have vd : ∀ s, 0 ≤ s → s < ((w + h : Nat) : Int) → ∃ d, v s = [d] := fun s a b => by
    obtain ⟨_, _, d, e, _⟩ := I.gd s _ (vs s a (by omega))
    exact ⟨d, e⟩
  have hx := txtV_len vd
  rw [comp_map (g := v) hxl fun x hx => by
    have := upFrom_bd hx
    show M.bind (getDM B (.inl x)) _ = _
    unfold getDM
    rw [show dgetL B (.inl x) = some (v x) from vs x this.1 (by omega)]
    rfl]
  simp only [M.bok]
  rw [tx_nil]
  refine okb (ok_join (by rw [← List.length_flatten]; have := hx.1; unfold txtV at this; omega)) fun fd efd => okv ?_
  have efd : fd = txtV v (w + h) := efd
  subst efd
  refine ⟨v, by rw [cut_to (by omega) (by rw [hx.1]; omega), cut_from (by omega) (by rw [hx.1]; omega), Int.toNat_natCast], ⟨fun s a b => I.gd s _ (vs s a b), fun s t c => ?_, fun s a b => I.tld s _ (vs s a b)⟩, fun τ F k k0 k1 hag hlt => ?_⟩
  · have a := c.lo
    have b := c.symm.lo
    by_cases q : sn P w s t = v s
    · exact .inl q.symm
    · have := I.cl s _ (vs s a.1 a.2) t c q
      rw [vs t b.1 b.2] at this
      exact .inr (Option.some.inj this)
  · obtain ⟨r, cr, _, o2, o3, o4, o5⟩ := I.org k _ (vs k k0 k1)
    have gr := I.gd r cr o2
    have er : cr = v r := by
      have := vs r gr.1 gr.2.1
      rw [o2] at this
      exact Option.some.inj this
    have same : τ r = v r → False := fun z => by
      have := F.rcb (st := (r, cr, ())) (by show cr = τ r; rw [er, z]) o3
      have this : v k = τ k := this
      rw [this] at hlt
      exact absurd hlt (Nat.lt_irrefl _)
    by_cases q : tg told r = tx "?"
    · by_cases q2 : tg told k = tx "?"
      · have le := o5 q q2
        rcases Int.lt_or_eq_of_le le with lt | eq
        · exact same (hag r gr.1 lt)
        · subst eq
          exact o4 q τ F (by rw [er]; exact hlt)
      · rcases F.told k k0 k1 with z | z
        · exact q2 z
        · rcases I.tld k _ (vs k k0 k1) with z2 | z2
          · exact q2 z2
          · rw [← z, ← z2] at hlt
            exact absurd hlt (Nat.lt_irrefl _)
    · rcases F.told r gr.1 gr.2.1 with z | z
      · exact q z
      · rcases I.tld r cr o2 with z2 | z2
        · exact q z2
        · exact same (by rw [← z, z2, er])
end
/-- what a law tells of threads -/
theorem told_law {threads : Tx} {ns : List Int} {first way span : Int} (hl : ns.length = 63) (ht : threads.length ≤ 40) (hs : ∀ c ∈ threads, 97 ≤ c ∧ c ≤ 102) (s1 : 1 ≤ span) (s2 : span ≤ 6) :
    Okm (f_law_told threads ns first way span) (fun t => t.length = threads.length ∧ ∀ j, j < threads.length → ∃ c, t[j]? = some c ∧ (c = 63 ∨ threads[j]? = some c ∨ (way = 2 ∧ 97 ≤ c ∧ c ≤ 102))) := by
  unfold f_law_told
  show Okm (M.bind (rangeM 0 (threads.length : Int)) fun xs => M.bind (forM (f_law_told_l1 threads ns first way span) (tx "") xs) fun s => M.ok s) _
  refine okb ok_range fun xs e => ?_
  subst e
  rw [Int.sub_zero, Int.toNat_natCast, tx_nil]
  refine okb (ok_forR (fun i (s : Tx) => s.length = i ∧ ∀ j, j < i → ∃ c, s[j]? = some c ∧ (c = 63 ∨ threads[j]? = some c ∨ (way = 2 ∧ 97 ≤ c ∧ c ≤ 102))) ⟨rfl, fun j h => absurd h (Nat.not_lt_zero _)⟩ fun i s hi ⟨a1, a2⟩ => ?_) fun s h => okv h
  rw [Int.zero_add]
  unfold f_law_told_l1
  have m0 := Int.emod_nonneg (first + 3 * (i : Int)) (show (55 : Int) ≠ 0 by omega)
  have m1 := Int.emod_lt_of_pos (first + 3 * (i : Int)) (show (0 : Int) < 55 by omega)
  obtain ⟨v, ev, _⟩ := ok_get (xs := ns) (i := 8 + (first + 3 * (i : Int)) % 55) (by omega) (by omega)
  rw [ev]
  simp only [M.bok]
  have ei : threads[i]? = some threads[i] := by simp [hi]
  have hc := hs _ (List.getElem_mem hi)
  rw [getS_nat ei]
  simp only [M.bok]
  refine okb (P := fun x : Tx => x = [63] ∨ x = [threads[i]]) (okif (fun _ => okv (.inl (by decide +kernel))) fun _ => okv (.inr rfl)) fun x hx => ?_
  refine okb (P := fun x : Tx => ∃ c, x = [c] ∧ (c = 63 ∨ c = threads[i] ∨ (way = 2 ∧ 97 ≤ c ∧ c ≤ 102))) (okif (fun q => ?_) fun _ => okv ?_) fun x ⟨c, ex, hx2⟩ => ?_
  · have hw : way = 2 := of_decide_eq_true (Bool.and_eq_true _ _ ▸ q).1
    rw [oke (ok_mod (by omega : (0 : Int) < span))]
    have n0 := Int.emod_nonneg (v / 7 / 24) (show span ≠ 0 by omega)
    have n1 := Int.emod_lt_of_pos (v / 7 / 24) (show (0 : Int) < span by omega)
    simp only [M.bok]
    rw [tx_af]
    refine okb (ok_getS (by omega) (by show _ < (6 : Int); omega)) fun y ⟨c, e1, e2⟩ => okv ⟨c, e2, .inr (.inr ⟨hw, ?_⟩)⟩
    have cm := List.mem_of_getElem? e1
    simp at cm
    omega
  · rcases hx with e | e
    · exact ⟨63, e, .inl rfl⟩
    · exact ⟨_, e, .inr (.inl rfl)⟩
  · subst ex
    refine okb (ok_cat (by simp; omega)) fun r er => okv ?_
    subst er
    refine ⟨by simp [a1], fun j hj => ?_⟩
    by_cases q : j < i
    · obtain ⟨c', z1, z2⟩ := a2 j q
      exact ⟨c', by rw [List.getElem?_append_left (by omega)]; exact z1, z2⟩
    · have : j = i := by omega
      subst this
      refine ⟨c, by rw [List.getElem?_append_right (by omega), a1, Nat.sub_self]; rfl, ?_⟩
      rcases hx2 with z | z | z
      · exact .inl z
      · exact .inr (.inl (by rw [ei, z]))
      · exact .inr (.inr z)
theorem picS_of {P : List Tx} {w h : Nat} (p : Pic P w h) : PicS P w h := ⟨p.hh, p.ww, p.sg, p.w1, p.w2, p.h1, p.h2⟩
theorem gP_at {P : List Tx} {j k : Nat} : gP P (j : Int) (k : Int) = gAt P j k := by
  unfold gP gAt; rw [Int.toNat_natCast, Int.toNat_natCast]
theorem sn_wf {P : List Tx} {w j k : Nat} (hk : k < w) : sn P w (k : Int) ((w : Int) + j) = [gAt P j k] := by
  unfold sn
  rw [if_pos (by omega), show (w : Int) + (j : Int) - (w : Int) = (j : Int) by omega, gP_at]
theorem tg_w {a b : Tx} {k : Nat} {c : Nat} (h : a[k]? = some c) : tg (a ++ b) (k : Int) = [c] := by
  have hk := (List.getElem?_eq_some_iff.mp h).1
  unfold tg
  rw [List.getD_eq_getElem?_getD, Int.toNat_natCast, List.getElem?_append_left hk, h]
  rfl
theorem tg_f {a b : Tx} {w j : Nat} {c : Nat} (ha : a.length = w) (h : b[j]? = some c) : tg (a ++ b) ((w : Int) + (j : Int)) = [c] := by
  unfold tg
  rw [List.getD_eq_getElem?_getD, show ((w : Int) + (j : Int)).toNat = w + j by omega, List.getElem?_append_right (by omega), show w + j - a.length = j by omega, h]
  rfl
/-- the two texts of a colouring -/
theorem texts_of {P : List Tx} {w h : Nat} {aT bT : Tx} {v : Int → Tx} (t1 : aT.length = w) (t2 : bT.length = h) (F : Fits P w h (aT ++ bT) v) :
    ((txtV v (w + h)).take w).length = w ∧ ((txtV v (w + h)).drop w).length = h ∧
    (∀ k, k < w → v (k : Int) = [tAt ((txtV v (w + h)).take w) k]) ∧ (∀ j, j < h → v ((w : Int) + j) = [tAt ((txtV v (w + h)).drop w) j]) ∧
    (∀ c ∈ (txtV v (w + h)).take w, 97 ≤ c ∧ c ≤ 102) ∧ (∀ c ∈ (txtV v (w + h)).drop w, 97 ≤ c ∧ c ≤ 102) ∧
    (∀ k c, aT[k]? = some c → c = 63 ∨ c = tAt ((txtV v (w + h)).take w) k) ∧ (∀ j c, bT[j]? = some c → c = 63 ∨ c = tAt ((txtV v (w + h)).drop w) j) ∧
    ∀ j k, j < h → k < w → tAt ((txtV v (w + h)).take w) k = gAt P j k ∨ tAt ((txtV v (w + h)).drop w) j = gAt P j k := by
  have vd : ∀ s, 0 ≤ s → s < ((w + h : Nat) : Int) → ∃ d, v s = [d] := fun s a b => by
    obtain ⟨_, _, d, e, _⟩ := F.gd s a (by omega)
    exact ⟨d, e⟩
  obtain ⟨x1, x2⟩ := txtV_len vd
  generalize txtV v (w + h) = T at x1 x2
  have g1 : ∀ k, k < w → v (k : Int) = [tAt (T.take w) k] := fun k hk => by
    obtain ⟨d, e1, e2⟩ := x2 k (by omega)
    rw [e1]
    have : (T.take w)[k]? = some d := by rw [List.getElem?_take_of_lt hk]; exact e2
    unfold tAt
    rw [List.getD_eq_getElem?_getD, this]; rfl
  have g2 : ∀ j, j < h → v ((w : Int) + j) = [tAt (T.drop w) j] := fun j hj => by
    obtain ⟨d, e1, e2⟩ := x2 (w + j) (by omega)
    have e1 : v ((w : Int) + j) = [d] := by rw [← e1]; congr 1
    rw [e1]
    have : (T.drop w)[j]? = some d := by rw [List.getElem?_drop]; exact e2
    unfold tAt
    rw [List.getD_eq_getElem?_getD, this]; rfl
  have l1 : (T.take w).length = w := by rw [List.length_take]; omega
  have l2 : (T.drop w).length = h := by rw [List.length_drop]; omega
  have eq : tx "?" = [63] := by decide +kernel
  refine ⟨l1, l2, g1, g2, fun c hc => ?_, fun c hc => ?_, fun k c e => ?_, fun j c e => ?_, fun j k hj hk => ?_⟩
  · obtain ⟨k, hk, e⟩ := List.getElem_of_mem hc
    obtain ⟨_, _, d, e1, e2⟩ := F.gd (k : Int) (by omega) (by omega)
    have e1 : v (k : Int) = [d] := e1
    rw [g1 k (by omega)] at e1
    have e3 : tAt (T.take w) k = c := by unfold tAt; rw [List.getD_eq_getElem?_getD, List.getElem?_eq_getElem hk, e]; rfl
    have : d = c := by rw [← e3]; exact (List.cons.inj e1).1.symm
    omega
  · obtain ⟨j, hj, e⟩ := List.getElem_of_mem hc
    obtain ⟨_, _, d, e1, e2⟩ := F.gd ((w : Int) + j) (by omega) (by omega)
    have e1 : v ((w : Int) + j) = [d] := e1
    rw [g2 j (by omega)] at e1
    have e3 : tAt (T.drop w) j = c := by unfold tAt; rw [List.getD_eq_getElem?_getD, List.getElem?_eq_getElem hj, e]; rfl
    have : d = c := by rw [← e3]; exact (List.cons.inj e1).1.symm
    omega
  · have hk := (List.getElem?_eq_some_iff.mp e).1
    rcases F.told (k : Int) (by omega) (by omega) with z | z
    · rw [tg_w e, eq] at z; exact .inl (List.cons.inj z).1
    · rw [tg_w e, g1 k (by omega)] at z; exact .inr (List.cons.inj z).1
  · have hj := (List.getElem?_eq_some_iff.mp e).1
    rcases F.told ((w : Int) + j) (by omega) (by omega) with z | z
    · rw [tg_f t1 e, eq] at z; exact .inl (List.cons.inj z).1
    · rw [tg_f t1 e, g2 j (by omega)] at z; exact .inr (List.cons.inj z).1
  · have c : crs w h (k : Int) ((w : Int) + j) := .inl ⟨by omega, by omega, by omega, by omega⟩
    have := F.fit _ _ c
    rw [sn_wf hk, g1 k hk, g2 j hj] at this
    rcases this with z | z
    · exact .inl (List.cons.inj z).1
    · exact .inr (List.cons.inj z).1
theorem shows_ok {given : List Tx} {warp weft : Tx} {w h : Nat} (G : Gr given w h) (w2 : w ≤ 40) (h2 : h ≤ 40) (l1 : warp.length = w) (l2 : weft.length = h) :
    f_law_shows given warp weft = .ok (mkG (fun j k => if gAt given j k = 35 then tAt warp k else tAt weft j) w h) := by
  have hh := G.hh
  unfold f_law_shows
  rw [range_eq, Int.sub_zero, Int.toNat_natCast, hh]
  simp only [M.bok]
  rw [grid_loop (w := w) (F := fun j k => if gAt given j k = 35 then tAt warp k else tAt weft j) (by omega) fun j hj s hs => ?_]
  · rfl
  unfold f_law_shows_l2
  rw [range_eq, Int.sub_zero, Int.toNat_natCast, l1, tx_nil]
  simp only [M.bok]
  obtain ⟨r, e, hl, g⟩ := G.row hj
  rw [row_loop (F := fun k => if gAt given j k = 35 then tAt warp k else tAt weft j) (by omega) fun k hk t ht => ?_]
  · rw [M.bok, push_eq (by omega), M.bok]
  unfold f_law_shows_l1
  rw [getM_nat e, tx_hash]
  simp only [M.bok]
  rw [getS_nat (g k hk), getS_nat (tAt_get (by omega)), getS_nat (tAt_get (by omega))]
  simp only [M.bok]
  rw [sing_eq]
  by_cases c : gAt given j k = 35
  · rw [decide_eq_true c, if_pos rfl, if_pos c, cat_eq (by simp; omega)]
    rfl
  · rw [decide_eq_false c, if_neg Bool.false_ne_true, if_neg c, cat_eq (by simp; omega)]
    rfl
theorem law_pic {ns : List Int} {w h : Nat} {span : Int} {warp weft : Tx} (n1 : ns.length = 63) (n2 : ∀ x ∈ ns, 0 ≤ x ∧ x < 1000000) (w1 : 1 ≤ w) (w2 : w ≤ 40) (h1 : 1 ≤ h) (h2 : h ≤ 40) (s1 : 1 ≤ span) (s2 : span ≤ 6)
    (l1 : warp.length = w) (l2 : weft.length = h) (p1 : ∀ c ∈ warp, 97 ≤ c ∧ c ≤ 102) (p2 : ∀ c ∈ weft, 97 ≤ c ∧ c ≤ 102) : Okm (f_law_picture ns w h span warp weft) (fun P => Pic P w h) := by
  unfold f_law_picture
  refine okb (P := fun R => Gr R w h ∧ ∀ j k, j < h → k < w → 97 ≤ gAt R j k ∧ gAt R j k ≤ 102) (okb (bits_ok n1 (by omega) (by omega) (by omega) (by omega)) fun rows hc => ?_) fun R ⟨GR, sR⟩ => ?_
  · rw [Int.toNat_natCast, Int.toNat_natCast] at hc
    rw [shows_ok ⟨hc.hh, hc.ww⟩ w2 h2 l1 l2]
    refine okv ⟨Gr.mk', fun j k hj hk => ?_⟩
    rw [gAt_mk hj hk]
    split
    · exact tAt_sg p1 (by omega)
    · exact tAt_sg p2 (by omega)
  · show Okm (M.bind (rangeM 0 (h : Int)) fun xs89 => M.bind (forM (f_law_picture_l2 ns w h span R) [] xs89) fun s => M.ok s) _
    refine okb ok_range fun xs e => ?_
    subst e
    rw [Int.sub_zero, Int.toNat_natCast]
    refine okb (ok_forR (fun i (s : List Tx) => s.length = i ∧ ∀ r ∈ s, r.length = w ∧ ∀ c ∈ r, 97 ≤ c ∧ c ≤ 102) ⟨rfl, fun r hr => by simp at hr⟩ fun j s hj ⟨a1, a2⟩ => ?_) fun s ⟨a1, a2⟩ => okv ⟨⟨a1, fun r hr => (a2 r hr).1⟩, fun r hr => (a2 r hr).2, w1, w2, h1, h2⟩
    unfold f_law_picture_l2
    rw [Int.zero_add, tx_nil]
    show Okm (M.bind (rangeM 0 (w : Int)) fun xs85 => M.bind (forM (f_law_picture_l1 ns w h span R j) [] xs85) _) _
    refine okb ok_range fun xs e => ?_
    subst e
    rw [Int.sub_zero, Int.toNat_natCast]
    refine okb (ok_forR (fun i (s : Tx) => s.length = i ∧ ∀ c ∈ s, 97 ≤ c ∧ c ≤ 102) ⟨rfl, fun r hr => by simp at hr⟩ fun k t hk ⟨b1, b2⟩ => ?_) fun t ⟨b1, b2⟩ => okb (ok_push (by omega)) fun q eq => okv ?_
    · unfold f_law_picture_l1
      rw [Int.zero_add, oke (ok_mul (x := (j : Int)) (y := (k : Int)) 6 6 (by omega) (by omega))]
      simp only [M.bok]
      have m0 := Int.emod_nonneg (5 * (k : Int) + 11 * (j : Int) + (j : Int) * k) (show (55 : Int) ≠ 0 by omega)
      have m1 := Int.emod_lt_of_pos (5 * (k : Int) + 11 * (j : Int) + (j : Int) * k) (show (0 : Int) < 55 by omega)
      obtain ⟨v, ev, _⟩ := ok_get (xs := ns) (i := 8 + (5 * (k : Int) + 11 * (j : Int) + (j : Int) * k) % 55) (by omega) (by omega)
      obtain ⟨v3, ev3, _⟩ := ok_get (xs := ns) (i := 3) (by omega) (by omega)
      rw [ev, ev3]
      simp only [M.bok]
      obtain ⟨r, er, hl, g⟩ := GR.row hj
      rw [getM_nat er]
      simp only [M.bok]
      rw [getS_nat (g k hk)]
      simp only [M.bok]
      have hwh : (0 : Int) < (w : Int) * h := Int.mul_pos (by omega) (by omega)
      rw [oke (ok_mul (x := (w : Int)) (y := (h : Int)) 6 6 (by omega) (by omega))]
      simp only [M.bok]
      rw [oke (ok_mod (x := v / 7) hwh)]
      simp only [M.bok]
      refine okb (P := fun _ => True) (okif (fun _ => okv trivial) fun _ => okif (fun _ => okv trivial) fun _ => okv trivial) fun c _ => ?_
      refine okb (P := fun x : Tx => ∃ c, x = [c] ∧ 97 ≤ c ∧ c ≤ 102) (okif (fun _ => ?_) fun _ => okv ⟨_, rfl, sR j k hj hk⟩) fun x ⟨c, ex, hc⟩ => ?_
      · rw [oke (ok_mod (x := v / 5) (by omega : (0 : Int) < span))]
        have n0 := Int.emod_nonneg (v / 5) (show span ≠ 0 by omega)
        have n1 := Int.emod_lt_of_pos (v / 5) (show (0 : Int) < span by omega)
        simp only [M.bok]
        rw [tx_af]
        refine okb (ok_getS (by omega) (by show _ < (6 : Int); omega)) fun y ⟨c, e1, e2⟩ => okv ⟨c, e2, ?_⟩
        have cm := List.mem_of_getElem? e1
        simp at cm
        omega
      · subst ex
        refine okb (ok_cat (by simp; omega)) fun r er => okv ?_
        subst er
        refine ⟨by simp [b1], fun d hd => ?_⟩
        rcases List.mem_append.mp hd with q | q
        · exact b2 d q
        · rw [List.mem_singleton.mp q]; exact hc
    · subst eq
      refine ⟨by simp [a1], fun r hr => ?_⟩
      rcases List.mem_append.mp hr with q | q
      · exact a2 r q
      · rw [List.mem_singleton.mp q]; exact ⟨b1, b2⟩
section
variable {P : List Tx} {w h : Nat} {told : Tx}
theorem law_seen_ok (hP : PicS P w h) {s t : Int} (c : crs w h s t) : f_law_seen P w s t = .ok (sn P w s t) := by
  have key := seen_at_ok hP c
  unfold f_seen_at at key
  unfold f_law_seen
  have e : decide ((decide (s < (w : Int))) = (decide (t < (w : Int)))) = false := by
    rcases c with c | c
    · rw [decide_eq_true c.2.1, decide_eq_false (show ¬ t < (w : Int) by omega)]; rfl
    · rw [decide_eq_false (show ¬ s < (w : Int) by omega), decide_eq_true c.2.1]; rfl
  rw [if_neg (by rw [e]; exact Bool.false_ne_true)]
  exact key
theorem Way.facts {st b : Bg} {y : List Bg} (W : Way P w h st b y) : y[0]? = some st ∧ y.getLast? = some b ∧ ∀ (i : Nat) p q, y[i]? = some p → y[i + 1]? = some q → stp P w h p q := by
  induction W with
  | one => exact ⟨rfl, rfl, fun i p q _ e => by simp at e⟩
  | @cons p b l W s ih =>
    obtain ⟨i1, i2, i3⟩ := ih
    have hl : 0 < l.length := (List.getElem?_eq_some_iff.mp i1).1
    refine ⟨by rw [List.getElem?_append_left hl]; exact i1, by simp, fun i p' q e1 e2 => ?_⟩
    by_cases c : i + 1 < l.length
    · rw [List.getElem?_append_left (by omega)] at e1
      rw [List.getElem?_append_left c] at e2
      exact i3 i p' q e1 e2
    · have hi := (List.getElem?_eq_some_iff.mp e2).1
      rw [List.length_append, List.length_singleton] at hi
      have : i = l.length - 1 := by omega
      subst this
      rw [List.getElem?_append_left (by omega)] at e1
      rw [List.getElem?_append_right (by omega), show l.length - 1 + 1 - l.length = 0 by omega] at e2
      rw [List.getLast?_eq_getElem?] at i2
      rw [i2] at e1
      cases e1
      cases e2
      exact s
theorem Way.gd {st b : Bg} {y : List Bg} (hP : PicS P w h) (W : Way P w h st b y) (hs : Gd w h st) : ∀ p ∈ y, Gd w h p := by
  induction W with
  | one => intro p hp; rw [List.mem_singleton.mp hp]; exact hs
  | cons W s ih =>
    intro p hp
    rcases List.mem_append.mp hp with q | q
    · exact ih p q
    · rw [List.mem_singleton.mp q]; exact stp_gd hP s
theorem chain_right (hP : PicS P w h) (ht : told.length = w + h) {s : Int} {c : Tx} {l : List Int} (hg : Gd w h (s, c, ())) (C : ChR P w h told s c l) : f_law_chain_right P told s c l = .ok true := by
  obtain ⟨b, y, rfl, W, am, hl⟩ := C
  have w2 := hP.w2
  have h2 := hP.h2
  have h1 := hP.h1
  obtain ⟨y0, yl, ys⟩ := W.facts
  have yg := W.gd hP hg
  have hy1 : 0 < y.length := (List.getElem?_eq_some_iff.mp y0).1
  have hy2 : 2 ≤ y.length := by
    refine Nat.not_lt.mp fun lt => ?_
    have : y.length = 1 := by omega
    rw [List.getLast?_eq_getElem?, this] at yl
    rw [y0] at yl
    cases yl
    unfold amB at am
    simp at am
  have e0 : P[0]? = some (P[0]'(by have := hP.len; omega)) := by simp
  have el := hP.row _ (List.mem_of_getElem? e0)
  refine oke ?_
  unfold f_law_chain_right
  rw [getM_at (by omega) e0]
  simp only [M.bok]
  rw [el, List.length_map]
  refine okif (fun q => ?_) fun _ => ?_
  · simp at q; omega
  refine okel (N := fun _ => True) (R := fun _ => False) (ok_forF (fun _ _ => True) (fun _ => False) trivial fun i x s' e _ => ?_) (fun _ _ => ?_) fun r h => h.elim
  · rw [List.getElem?_map] at e
    cases q : y[i]? with
    | none => rw [q] at e; cases e
    | some p =>
      rw [q] at e
      cases e
      have g := yg p (List.mem_of_getElem? q)
      have hb : ((decide ((0 : Int) ≤ p.1)) && (decide (p.1 < (told.length : Int)))) = true := by
        rw [decide_eq_true g.1, decide_eq_true (by rw [ht]; have := g.2.1; omega)]; rfl
      unfold f_law_chain_right_l1
      show Okm (M.bind (M.ok (!((decide ((0 : Int) ≤ p.1)) && (decide (p.1 < (told.length : Int)))))) _) _
      rw [hb]
      exact okv trivial
  · have f0 : (y.map (·.1))[0]? = some s := by rw [List.getElem?_map, y0]; rfl
    rw [getM_at (by omega) f0]
    simp only [M.bok]
    refine okif (fun q => by simp at q) fun _ => ?_
    refine okb ok_range fun xs e => ?_
    subst e
    refine okel (N := fun bs => bs = b.2.1) (R := fun _ => False) (okmono (ok_forFR (fun i (bs : Tx) => ∃ p, y[i]? = some p ∧ bs = p.2.1) (fun _ => False) ⟨_, y0, rfl⟩ fun i bs hi ⟨p, ep, eb⟩ => ?_) fun a ha => ?_) (fun bs ebs => ?_) fun r h => h.elim
    · have hi2 : i + 1 < y.length := by omega
      obtain ⟨q, eq⟩ : ∃ q, y[i + 1]? = some q := ⟨_, List.getElem?_eq_getElem hi2⟩
      obtain ⟨z1, z2, z3⟩ := ys i p q ep eq
      unfold f_law_chain_right_l2
      have g1 : (y.map (·.1))[i]? = some p.1 := by rw [List.getElem?_map, ep]; rfl
      have g2 : (y.map (·.1))[i + 1]? = some q.1 := by rw [List.getElem?_map, eq]; rfl
      rw [Int.zero_add, getM_nat g1, show ((i : Int) + 1) = ((i + 1 : Nat) : Int) by push_cast; rfl, getM_nat g2]
      simp only [M.bok]
      rw [law_seen_ok hP z1]
      simp only [M.bok]
      obtain ⟨d, ed, _⟩ := sn_sign hP z1
      refine okif (fun qq => ?_) fun _ => okv ⟨q, eq, z2.symm⟩
      rw [eb, ← z2] at qq
      rw [z2, ed, tx_nil] at qq
      rw [z2, ed] at z3
      simp [z3] at qq
    · cases a with
      | rt r => exact ha
      | nx bs =>
        obtain ⟨p, ep, eb⟩ := ha
        rw [List.getLast?_eq_getElem?] at yl
        have : ((y.length : Int) - 1 - 0).toNat = y.length - 1 := by omega
        rw [this, yl] at ep
        cases ep
        exact eb
    · subst ebs
      have gl : (y.map (·.1)).getLast? = some b.1 := by rw [List.getLast?_map, yl]; rfl
      have gb := yg b (List.mem_of_getLast? yl)
      rw [getM_last gl]
      simp only [M.bok]
      rw [told_at gb.1 (by rw [ht]; push_cast; exact gb.2.1)]
      simp only [M.bok]
      unfold amB at am
      by_cases q : b.1 = s
      · rw [if_pos q] at am
        refine okif (fun _ => okv rfl) fun z => ?_
        rw [decide_eq_true q] at z
        have am : (!decide (b.2.1 = c)) = true := am
        rw [am] at z
        cases z
      · rw [if_neg q] at am
        have am2 := Bool.and_eq_true _ _ ▸ am
        refine okif (fun _ => okv rfl) fun _ => ?_
        rw [am2.1, if_pos rfl]
        exact okv am2.2
theorem due_eq {s : Int} (hs : Sg7 (told.getD s.toNat 0)) : lets.filter (dueB told s) = (if tg told s = tx "?" then tx "abcdef" else tg told s).map fun c => [c] := by
  have hl : lets = [[97], [98], [99], [100], [101], [102]] := by decide +kernel
  have e : dueB told s = fun c => decide (tg told s = tx "?") || decide (tg told s = c) := rfl
  rw [e]
  have eg : tg told s = [told.getD s.toNat 0] := rfl
  rw [eg]
  generalize told.getD s.toNat 0 = d at hs
  have eq : tx "?" = [63] := by decide +kernel
  rw [eq]
  rcases hs with z | z
  · rw [if_neg (by simp; omega), hl]
    have : d = 97 ∨ d = 98 ∨ d = 99 ∨ d = 100 ∨ d = 101 ∨ d = 102 := by omega
    rcases this with e | e | e | e | e | e <;> subst e <;> decide
  · subst z
    rw [if_pos rfl, hl]
    decide +kernel
theorem none_right (hP : PicS P w h) (ht : told.length = w + h) (hsg : ∀ c ∈ told, Sg7 c) {s : Int} {ch : List (Tx × List Int × Unit)} (h0 : 0 ≤ s) (h1 : s < (w : Int) + h) (hm : ch.map (·.1) = lets.filter (dueB told s)) (hc : ∀ y ∈ ch, ChR P w h told s y.1 y.2.1) :
    f_law_none_right P told (tx "none", s, ch, ()) = .ok true := by
  have hsn : s.toNat < told.length := by omega
  have hs7 : Sg7 (told.getD s.toNat 0) := by
    rw [List.getD_eq_getElem?_getD, List.getElem?_eq_getElem hsn]
    exact hsg _ (List.getElem_mem hsn)
  rw [due_eq hs7] at hm
  refine oke ?_
  unfold f_law_none_right
  refine okif (fun q => by simp at q) fun _ => ?_
  have hb : ((decide ((0 : Int) ≤ s)) && (decide (s < (told.length : Int)))) = true := by rw [decide_eq_true h0, decide_eq_true (by omega)]; rfl
  show Okm (M.bind (M.ok (!((decide ((0 : Int) ≤ s)) && (decide (s < (told.length : Int)))))) _) _
  rw [hb]
  simp only [M.bok, Bool.not_true]
  rw [if_neg Bool.false_ne_true, told_at h0 (by omega)]
  simp only [M.bok]
  refine okb (P := fun D => D = if tg told s = tx "?" then tx "abcdef" else tg told s) (okif (fun q => okv ?_) fun q => okv ?_) fun D eD => ?_
  · rw [if_neg (by simpa using q)]
  · rw [if_pos (by simpa using q)]
  have hD6 : D.length ≤ 6 := by
    rw [eD]
    split
    · decide +kernel
    · show 1 ≤ 6; omega
  rw [← eD] at hm
  have hl : ch.length = D.length := by
    have := congrArg List.length hm
    rwa [List.length_map, List.length_map] at this
  refine okif (fun q => by simp [hl] at q) fun _ => ?_
  refine okb ok_range fun xs e => ?_
  subst e
  refine okel (N := fun _ => True) (R := fun _ => False) (ok_forFR (fun _ _ => True) (fun _ => False) trivial fun i s' hi _ => ?_) (fun _ _ => okv rfl) fun r h => h.elim
  have hi2 : i < ch.length := by omega
  have ex : ch[i]? = some ch[i] := List.getElem?_eq_getElem hi2
  have ed : D[i]? = some (D[i]'(by omega)) := List.getElem?_eq_getElem (by omega)
  have e1 : ch[i].1 = [D[i]'(by omega)] := by
    have := congrArg (fun l => l[i]?) hm
    simp only [List.getElem?_map] at this
    rw [ex, ed] at this
    exact Option.some.inj this
  unfold f_law_none_right_l1
  rw [Int.zero_add, getM_nat ex, getS_nat ed]
  simp only [M.bok]
  rw [if_neg (by decide), if_neg (by decide), e1, decide_eq_true rfl]
  simp only [M.bok, Bool.not_true]
  rw [if_neg Bool.false_ne_true, ← e1]
  have gd : Gd w h (s, ch[i].1, ()) := by
    refine ⟨h0, h1, _, e1, ?_⟩
    have hm2 : [D[i]'(by omega)] ∈ lets := by
      rw [← e1]
      have : ch[i].1 ∈ lets.filter (dueB told s) := by rw [due_eq hs7, ← eD, ← hm]; exact List.mem_map.mpr ⟨_, List.getElem_mem hi2, rfl⟩
      exact (List.mem_filter.mp this).1
    obtain ⟨k, hk, ek⟩ := List.getElem_of_mem hm2
    have := lets_get (i := k) (c := [D[i]'(by omega)]) (by rw [List.getElem?_eq_getElem hk, ek])
    have := (List.cons.inj this.2).1
    omega
  rw [chain_right hP ht gd (hc _ (List.getElem_mem hi2))]
  exact okv trivial
end
theorem law_fits_ok {P : List Tx} {w h : Nat} {aT bT a b : Tx} (p : Pic P w h) (t1 : aT.length = w) (u1 : bT.length = h) (x1 : a.length = w) (x2 : b.length = h) (x5 : ∀ c ∈ a, 97 ≤ c ∧ c ≤ 102) (x6 : ∀ c ∈ b, 97 ≤ c ∧ c ≤ 102)
    (x7 : ∀ k c, aT[k]? = some c → c = 63 ∨ c = tAt a k) (x8 : ∀ j c, bT[j]? = some c → c = 63 ∨ c = tAt b j) (x9 : ∀ j k, j < h → k < w → tAt a k = gAt P j k ∨ tAt b j = gAt P j k) : f_law_fits P (aT ++ bT) a b = .ok true := by
  have w2 := p.w2
  have h2 := p.h2
  have h1 := p.h1
  have hh := p.hh
  obtain ⟨r0, e0, l0, _⟩ := p.toGr.row (j := 0) (by omega)
  refine oke ?_
  unfold f_law_fits
  refine okif (fun q => by simp at q) fun _ => ?_
  rw [getM_at (by omega) e0]
  simp only [M.bok]
  rw [l0, x1, decide_eq_true rfl]
  simp only [Bool.not_true]
  rw [if_neg Bool.false_ne_true, x2, hh, decide_eq_true rfl]
  simp only [M.bok, Bool.not_true]
  rw [if_neg Bool.false_ne_true]
  refine okb (ok_cat (by omega)) fun both eb => ?_
  subst eb
  have hab : (a ++ b).length ≤ 80 := by rw [List.length_append]; omega
  refine okb ok_range fun xs e => ?_
  subst e
  refine okel (N := fun _ => True) (R := fun _ => False) (ok_forFR (fun _ _ => True) (fun _ => False) trivial fun i s' hi _ => ?_) (fun _ _ => ?_) fun r h => h.elim
  · have hi : i < w + h := by rw [List.length_append] at hi; omega
    have key : ∃ c d, (a ++ b)[i]? = some c ∧ (aT ++ bT)[i]? = some d ∧ (97 ≤ c ∧ c ≤ 102) ∧ (d = 63 ∨ d = c) := by
      by_cases q : i < w
      · have ea : a[i]? = some (tAt a i) := tAt_get (by omega)
        have et : aT[i]? = some (tAt aT i) := tAt_get (by omega)
        exact ⟨_, _, by rw [List.getElem?_append_left (by omega)]; exact ea, by rw [List.getElem?_append_left (by omega)]; exact et, x5 _ (List.mem_of_getElem? ea), x7 i _ et⟩
      · have ea : b[i - w]? = some (tAt b (i - w)) := tAt_get (by omega)
        have et : bT[i - w]? = some (tAt bT (i - w)) := tAt_get (by omega)
        exact ⟨_, _, by rw [List.getElem?_append_right (by omega), x1]; exact ea, by rw [List.getElem?_append_right (by omega), t1]; exact et, x6 _ (List.mem_of_getElem? ea), x8 _ _ et⟩
    obtain ⟨c, d, e1, e2, hc, hd⟩ := key
    unfold f_law_fits_l1
    rw [Int.zero_add, getS_nat e1, getS_nat e2]
    simp only [M.bok]
    rw [notin_of (af_mem hc)]
    simp only [M.bok]
    rw [if_neg Bool.false_ne_true]
    rcases hd with z | z
    · rw [z, tx_qm]
      simp [Okm, FlP]
    · rw [z]
      by_cases y : ([c] : Tx) = tx "?"
      · rw [y]; simp [Okm, FlP]
      · simp [Okm, FlP, y]
  · refine okb ok_range fun xs e => ?_
    subst e
    refine okel (N := fun _ => True) (R := fun _ => False) (ok_forFR (fun _ _ => True) (fun _ => False) trivial fun j s' hj _ => ?_) (fun _ _ => okv rfl) fun r h => h.elim
    have hj : j < h := by omega
    unfold f_law_fits_l3
    refine okb ok_range fun xs e => ?_
    subst e
    refine okel (N := fun _ => True) (R := fun _ => False) (ok_forFR (fun _ _ => True) (fun _ => False) trivial fun k s' hk _ => ?_) (fun _ _ => okv trivial) fun r h => h.elim
    have hk : k < w := by omega
    obtain ⟨r, er, hl, g⟩ := p.toGr.row hj
    have ea : a[k]? = some (tAt a k) := tAt_get (by omega)
    have eb : b[j]? = some (tAt b j) := tAt_get (by omega)
    unfold f_law_fits_l2
    rw [Int.zero_add, Int.zero_add, getS_nat ea, getM_nat er]
    simp only [M.bok]
    rw [getS_nat (g k hk), getS_nat eb]
    simp only [M.bok]
    rcases x9 j k hj hk with z | z
    · rw [z]; simp [Okm, FlP]
    · rw [z]; by_cases y : tAt a k = gAt P j k <;> simp [Okm, FlP, y]
theorem walk_push {c : Int} : ∀ ch : List (Tx × List Int × Unit), (∀ y ∈ ch, y.2.1.length < 1000000) → ∃ l, walkF (fun (z : (Tx × (List Int) × Unit)) => M.bind (pushM z.2.1 c) fun l => M.ok (z.1, (l, z.2.2))) ch = .ok l ∧ l.length = ch.length
  | [], _ => ⟨[], rfl, rfl⟩
  | y :: ch, h => by
    obtain ⟨l, e, hl⟩ := walk_push (c := c) ch fun z hz => h z (List.mem_cons_of_mem _ hz)
    refine ⟨(y.1, (y.2.1 ++ [c], y.2.2)) :: l, ?_, by rw [List.length_cons, List.length_cons, hl]⟩
    show ((M.bind (pushM y.2.1 c) fun l => M.ok (y.1, (l, y.2.2))).bind fun y => (walkF _ ch).bind fun l => .ok (y :: l)) = _
    rw [oke (ok_push (h y (by simp))), M.bok, M.bok, e, M.bok]
theorem law_math : ∀ ns : List Int, ns.length ≤ 63 → c_law (ns, ()) = .ok true := by
  intro script hl
  refine oke ?_
  show Okm (f_law script) _
  unfold f_law
  refine okb (numbers_ok hl (by omega) (by omega)) fun ns ⟨n1, n2⟩ => ?_
  have gg : ∀ k : Int, 0 ≤ k → k < 63 → Okm (getM ns k) (fun v => 0 ≤ v) := fun k h0 h1 => okmono (ok_get h0 (by omega)) fun v hv => (n2 v (List.mem_of_getElem? hv)).1
  obtain ⟨v0, ev0, hv0⟩ := gg 0 (by omega) (by omega)
  obtain ⟨v1, ev1, hv1⟩ := gg 1 (by omega) (by omega)
  obtain ⟨v2, ev2, hv2⟩ := gg 2 (by omega) (by omega)
  obtain ⟨v4, ev4, hv4⟩ := gg 4 (by omega) (by omega)
  rw [ev0, ev1, ev2, ev4]
  simp only [M.bok]
  refine okb (P := fun m => 1 ≤ m ∧ m ≤ 10) (okif (fun _ => okv ⟨by omega, by omega⟩) fun _ => okv ⟨by omega, by omega⟩) fun m ⟨m1, m2⟩ => ?_
  rw [oke (ok_mod (x := v1) (by omega : (0 : Int) < m)), oke (ok_mod (x := v2) (by omega : (0 : Int) < m))]
  simp only [M.bok]
  have a0 := Int.emod_nonneg v1 (show m ≠ 0 by omega)
  have a1 := Int.emod_lt_of_pos v1 (show (0 : Int) < m by omega)
  have b0 := Int.emod_nonneg v2 (show m ≠ 0 by omega)
  have b1 := Int.emod_lt_of_pos v2 (show (0 : Int) < m by omega)
  obtain ⟨w, hw⟩ : ∃ w : Nat, 1 + v1 % m = w := ⟨(1 + v1 % m).toNat, by omega⟩
  obtain ⟨h, hh⟩ : ∃ h : Nat, 1 + v2 % m = h := ⟨(1 + v2 % m).toNat, by omega⟩
  rw [hw, hh]
  refine okb (threads_ok n1 n2 (by omega) (by omega) (by omega) (by omega)) fun warp ⟨p1, p2⟩ => ?_
  refine okb (threads_ok n1 n2 (by omega) (by omega) (by omega) (by omega)) fun weft ⟨q1, q2⟩ => ?_
  rw [Int.toNat_natCast] at p1 q1
  refine okb (law_pic n1 n2 (by omega) (by omega) (by omega) (by omega) (by omega) (by omega) p1 q1 p2 q2) fun P pic => ?_
  have hP := picS_of pic
  have sgs : ∀ (t y : Tx) (way : Int), t.length = y.length → (∀ c ∈ y, 97 ≤ c ∧ c ≤ 102) → (∀ j, j < y.length → ∃ c, t[j]? = some c ∧ (c = 63 ∨ y[j]? = some c ∨ (way = 2 ∧ 97 ≤ c ∧ c ≤ 102))) → ∀ c ∈ t, Sg7 c := fun t y way lt sy hy c hc => by
    obtain ⟨k, hk⟩ := List.mem_iff_getElem?.mp hc
    have hkl := (List.getElem?_eq_some_iff.mp hk).1
    obtain ⟨d, e, z⟩ := hy k (by omega)
    rw [hk] at e
    cases e
    rcases z with z | z | z
    · exact .inr z
    · exact .inl (sy _ (List.mem_of_getElem? z))
    · exact .inl z.2
  refine okb (told_law n1 (by omega) p2 (by omega) (by omega)) fun aT ⟨t1, t2⟩ => okb (told_law n1 (by omega) q2 (by omega) (by omega)) fun bT ⟨u1, u2⟩ => ?_
  have sa := sgs aT warp _ t1 p2 t2
  have sb := sgs bT weft _ u1 q2 u2
  have la : aT.length = w := by omega
  have lb : bT.length = h := by omega
  obtain ⟨found, ef, hf⟩ := first_ok hP la lb sa sb
  have hc : catS aT bT = .ok (aT ++ bT) := oke (ok_cat (by omega))
  rw [ef]
  simp only [M.bok]
  cases found with
  | inl x =>
    obtain ⟨s, ch, ex, s0, s1, hm, hch, _⟩ := hf
    subst ex
    have hlen : ch.length ≤ 6 := by
      have e := congrArg List.length hm
      rw [List.length_map] at e
      have := List.length_filter_le (dueB (aT ++ bT) s) lets
      rw [lets_len] at this
      omega
    have hsm : ∀ y ∈ ch, y.2.1.length < 1000000 := fun y hy => by
      obtain ⟨b, z, e1, _, _, e4⟩ := hch y hy
      rw [e1, List.length_map]
      have := hP.w2
      have := hP.h2
      omega
    have hnr := none_right hP (told := aT ++ bT) (by rw [List.length_append]; omega) (fun c hc => (List.mem_append.mp hc).elim (sa c) (sb c)) s0 s1 hm hch
    refine okif (fun c => by simp [selm] at c) fun _ => ?_
    refine okif (fun c => ?_) fun _ => ?_
    · have : (tx "none") = tx "threads" := of_decide_eq_true c
      exact absurd this (by decide +kernel)
    rw [hc]
    simp only [M.bok]
    show Okm (M.bind (M.bind (f_law_none_right P (aT ++ bT) (tx "none", s, ch, ())) fun y179 => M.ok (!y179)) _) _
    rw [hnr]
    simp only [M.bok]
    rw [if_neg (by decide)]
    obtain ⟨l, el, ll⟩ := walk_push (c := 0) ch hsm
    have hcm : compM (fun pair188 : Tx × List Int × Unit => M.ok (some (pair188.1, pair188.2.1, ()))) ch = .ok ch := by
      rw [comp_map (g := fun x => x) (by omega) fun x _ => rfl, List.map_id'']
      exact fun _ => rfl
    show Okm (M.bind (M.bind (M.ok s) fun y207 => M.bind (compM (fun pair188 : Tx × List Int × Unit => M.ok (some (pair188.1, pair188.2.1, ()))) ch) fun y208 => M.ok ((tx "none"), y207, y208, ())) _) _
    rw [hcm]
    simp only [M.bok]
    show Okm (M.bind (walkF (fun (z : (Tx × (List Int) × Unit)) => M.bind (pushM z.2.1 (0 : Int)) fun l => M.ok (z.1, (l, z.2.2))) ch) _) _
    rw [el, M.bok]
    show Okm (M.bind (pushM l ((tx "a"), ([]), ())) _) _
    rw [oke (ok_push (by omega)), M.bok]
    rw [if_pos (by simp)]
    exact okv (by simp)
  | inr x =>
    obtain ⟨v, ex, F, Lx⟩ := hf
    subst ex
    obtain ⟨x1, x2, x3, x4, x5, x6, x7, x8, x9⟩ := texts_of la lb F
    have hfit := law_fits_ok pic la lb x1 x2 x5 x6 x7 x8 x9
    refine okif (fun c => by simp [selm] at c) fun _ => ?_
    refine okif (fun _ => ?_) fun c => by simp [selm] at c
    rw [hc]
    simp only [unr, M.bok]
    rw [hfit]
    exact okv rfl
theorem facts_of {K : PySem.W.Frag} {h : Heap} {mg : Str → Option Value} {P : Program} {w : World} {base : Heap} (X : K.In h) (G : h.Ns mainGlobals mg) (c : He.SaysD fas dds K) : Facts ⟨P, w, K, mg, base, fun c => He.ga K (ecName c), none⟩ where
  g_bool := He.free_ok X G (c.fact 20 (f := .free "bool") rfl)
  g_int := He.free_ok X G (c.fact 21 (f := .free "int") rfl)
  g_isinstance := He.free_ok X G (c.fact 22 (f := .free "isinstance") rfl)
  g_len := He.free_ok X G (c.fact 23 (f := .free "len") rfl)
  g_list := He.free_ok X G (c.fact 24 (f := .free "list") rfl)
  g_range := He.free_ok X G (c.fact 25 (f := .free "range") rfl)
  g_reversed := He.free_ok X G (c.fact 26 (f := .free "reversed") rfl)
  g_str := He.free_ok X G (c.fact 27 (f := .free "str") rfl)
  g_tuple := He.free_ok X G (c.fact 28 (f := .free "tuple") rfl)
  c_COLOURS := He.str_ok X G (c.fact 29 (f := .str "COLOURS" (Str.ofString "abcdef")) rfl)
  x_NoColour := exF X G rfl (c.fact 30 (f := .glo "NoColour") rfl) (c.fact 31 (f := .exc "NoColour") rfl)
  d__law_numbers := by
    obtain ⟨fd, F⟩ := c.def_ 0 (d := ⟨("_law_numbers", none), "_law_numbers", "_law_numbers", defArgs (topS 16), defBody (topS 16), defScope (topS 16), [], []⟩) rfl
    exact ⟨_, fd, F, He.glo_ok X G (c.fact 0 (f := .glo "_law_numbers") rfl)⟩
  d__law_threads := by
    obtain ⟨fd, F⟩ := c.def_ 1 (d := ⟨("_law_threads", none), "_law_threads", "_law_threads", defArgs (topS 18), defBody (topS 18), defScope (topS 18), [], []⟩) rfl
    exact ⟨_, fd, F, He.glo_ok X G (c.fact 1 (f := .glo "_law_threads") rfl)⟩
  d__law_bits := by
    obtain ⟨fd, F⟩ := c.def_ 2 (d := ⟨("_law_bits", none), "_law_bits", "_law_bits", defArgs (topS 17), defBody (topS 17), defScope (topS 17), [], []⟩) rfl
    exact ⟨_, fd, F, He.glo_ok X G (c.fact 2 (f := .glo "_law_bits") rfl)⟩
  d__law_shows := by
    obtain ⟨fd, F⟩ := c.def_ 3 (d := ⟨("_law_shows", none), "_law_shows", "_law_shows", defArgs (topS 19), defBody (topS 19), defScope (topS 19), [], []⟩) rfl
    exact ⟨_, fd, F, He.glo_ok X G (c.fact 3 (f := .glo "_law_shows") rfl)⟩
  d__law_picture := by
    obtain ⟨fd, F⟩ := c.def_ 4 (d := ⟨("_law_picture", none), "_law_picture", "_law_picture", defArgs (topS 20), defBody (topS 20), defScope (topS 20), [], []⟩) rfl
    exact ⟨_, fd, F, He.glo_ok X G (c.fact 4 (f := .glo "_law_picture") rfl)⟩
  d__law_told := by
    obtain ⟨fd, F⟩ := c.def_ 5 (d := ⟨("_law_told", none), "_law_told", "_law_told", defArgs (topS 21), defBody (topS 21), defScope (topS 21), [], []⟩) rfl
    exact ⟨_, fd, F, He.glo_ok X G (c.fact 5 (f := .glo "_law_told") rfl)⟩
  d_seen_picture := by
    obtain ⟨fd, F⟩ := c.def_ 6 (d := ⟨("seen_picture", none), "seen_picture", "seen_picture", defArgs (topS 6), defBody (topS 6), defScope (topS 6), [], []⟩) rfl
    exact ⟨_, fd, F, He.glo_ok X G (c.fact 6 (f := .glo "seen_picture") rfl)⟩
  d_seen_threads := by
    obtain ⟨fd, F⟩ := c.def_ 7 (d := ⟨("seen_threads", none), "seen_threads", "seen_threads", defArgs (topS 7), defBody (topS 7), defScope (topS 7), [], []⟩) rfl
    exact ⟨_, fd, F, He.glo_ok X G (c.fact 7 (f := .glo "seen_threads") rfl)⟩
  d_crossed_by := by
    obtain ⟨fd, F⟩ := c.def_ 8 (d := ⟨("crossed_by", none), "crossed_by", "crossed_by", defArgs (topS 10), defBody (topS 10), defScope (topS 10), [], []⟩) rfl
    exact ⟨_, fd, F, He.glo_ok X G (c.fact 8 (f := .glo "crossed_by") rfl)⟩
  d_seen_at := by
    obtain ⟨fd, F⟩ := c.def_ 9 (d := ⟨("seen_at", none), "seen_at", "seen_at", defArgs (topS 9), defBody (topS 9), defScope (topS 9), [], []⟩) rfl
    exact ⟨_, fd, F, He.glo_ok X G (c.fact 9 (f := .glo "seen_at") rfl)⟩
  d_runs_amiss := by
    obtain ⟨fd, F⟩ := c.def_ 10 (d := ⟨("runs_amiss", none), "runs_amiss", "runs_amiss", defArgs (topS 11), defBody (topS 11), defScope (topS 11), [], []⟩) rfl
    exact ⟨_, fd, F, He.glo_ok X G (c.fact 10 (f := .glo "runs_amiss") rfl)⟩
  d_spread_from := by
    obtain ⟨fd, F⟩ := c.def_ 11 (d := ⟨("spread_from", none), "spread_from", "spread_from", defArgs (topS 12), defBody (topS 12), defScope (topS 12), [], []⟩) rfl
    exact ⟨_, fd, F, He.glo_ok X G (c.fact 11 (f := .glo "spread_from") rfl)⟩
  d_chain_back := by
    obtain ⟨fd, F⟩ := c.def_ 12 (d := ⟨("chain_back", none), "chain_back", "chain_back", defArgs (topS 13), defBody (topS 13), defScope (topS 13), [], []⟩) rfl
    exact ⟨_, fd, F, He.glo_ok X G (c.fact 12 (f := .glo "chain_back") rfl)⟩
  d_first_colouring := by
    obtain ⟨fd, F⟩ := c.def_ 13 (d := ⟨("first_colouring", none), "first_colouring", "first_colouring", defArgs (topS 14), defBody (topS 14), defScope (topS 14), [], []⟩) rfl
    exact ⟨_, fd, F, He.glo_ok X G (c.fact 13 (f := .glo "first_colouring") rfl)⟩
  d__law_fits := by
    obtain ⟨fd, F⟩ := c.def_ 14 (d := ⟨("_law_fits", none), "_law_fits", "_law_fits", defArgs (topS 26), defBody (topS 26), defScope (topS 26), [], []⟩) rfl
    exact ⟨_, fd, F, He.glo_ok X G (c.fact 14 (f := .glo "_law_fits") rfl)⟩
  d__law_whole_number := by
    obtain ⟨fd, F⟩ := c.def_ 15 (d := ⟨("_law_whole_number", none), "_law_whole_number", "_law_whole_number", defArgs (topS 22), defBody (topS 22), defScope (topS 22), [], []⟩) rfl
    exact ⟨_, fd, F, He.glo_ok X G (c.fact 15 (f := .glo "_law_whole_number") rfl)⟩
  d__law_seen := by
    obtain ⟨fd, F⟩ := c.def_ 16 (d := ⟨("_law_seen", none), "_law_seen", "_law_seen", defArgs (topS 23), defBody (topS 23), defScope (topS 23), [], []⟩) rfl
    exact ⟨_, fd, F, He.glo_ok X G (c.fact 16 (f := .glo "_law_seen") rfl)⟩
  d__law_chain_right := by
    obtain ⟨fd, F⟩ := c.def_ 17 (d := ⟨("_law_chain_right", none), "_law_chain_right", "_law_chain_right", defArgs (topS 24), defBody (topS 24), defScope (topS 24), [], []⟩) rfl
    exact ⟨_, fd, F, He.glo_ok X G (c.fact 17 (f := .glo "_law_chain_right") rfl)⟩
  d__law_none_right := by
    obtain ⟨fd, F⟩ := c.def_ 18 (d := ⟨("_law_none_right", none), "_law_none_right", "_law_none_right", defArgs (topS 25), defBody (topS 25), defScope (topS 25), [], []⟩) rfl
    exact ⟨_, fd, F, He.glo_ok X G (c.fact 18 (f := .glo "_law_none_right") rfl)⟩
  d_law := by
    obtain ⟨fd, F⟩ := c.def_ 19 (d := ⟨("law", none), "law", "law", defArgs (topS 27), defBody (topS 27), defScope (topS 27), [], []⟩) rfl
    exact ⟨_, fd, F, He.glo_ok X G (c.fact 19 (f := .glo "law") rfl)⟩
end Hd
open PySem PySem.W PySem.Calls PyProof.Rows
set_option maxHeartbeats 0
theorem PySem.Challenge.cw_heddle_k48_whole_colours_or_chains_holds : PySem.Challenge.rw_heddle_k48_whole_colours_or_chains.Holds := by
  w_on; o_law
  refine HandSHeadRun.head_any (r := OpenLaw.row PySem.Challenge.rw_heddle_k48_whole_colours_or_chains) (q := view (OpenLaw.row PySem.Challenge.rw_heddle_k48_whole_colours_or_chains).prog [27]) (H := Hd.hk) (ob := Hd.ob) (M := 3000) (loose := Hd.loose) (d := HandSHeadRun.topDef (OpenLaw.row PySem.Challenge.rw_heddle_k48_whole_colours_or_chains).prog 27) (kwd := []) Hd.ob_eq
    (by kernel_rfl) (fun s => by kernel_rfl) Hd.run (by kernel_rfl) (by kernel_rfl) (by kernel_rfl) (by rfl) (by first | assumption | decide +kernel) (by decide +kernel) ⟨rfl, rfl, rfl, rfl, rfl, by decide +kernel⟩ ?hw ?hc
  case hw => w_witness2
  case hc =>
    refine Hd.law_end (l := PySem.Challenge.rw_heddle_k48_whole_colours_or_chains) (k := 4) (cl := Hd.c_law) rfl (by kernel_rfl) ⟨rfl, by decide, by decide⟩ ?F Hd.law_math
    intro w mg fa h Y G hmg0
    obtain ⟨K, KX, c⟩ := Y
    have hmg : mg ("law" : PySem.Str) = some (.ref fa) := by
      have e : (HandSHeadRun.topDef (OpenLaw.row PySem.Challenge.rw_heddle_k48_whole_colours_or_chains).prog 27).name = ("law" : PySem.Str) := by kernel_rfl
      rw [← e]
      exact hmg0
    obtain ⟨f, fd, hF, hm⟩ := (Hd.facts_of (P := (PySem.Challenge.rw_heddle_k48_whole_colours_or_chains).prog) (w := w) (base := h) KX G c ).d_law
    have e := hm.symm.trans hmg
    cases e
    exact ⟨K, fd, fun c => He.ga K (Hd.ecName c), KX, fun s v => Hd.L2_bindsA hF s v, fun base => Hd.fnok_law (Hd.facts_of KX G c ) hF⟩
